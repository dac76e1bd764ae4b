import PyProof.Rows.All
import Wide.All
import OpenK.AllK
import Wide.FinOn
import HandS.ForExc
import HandS.Comp
import HandS.Wide
import HandS.Gcd
import HandS.IsInst
import HandS.CallSlots
import HandS.Iter
import HandS.Flow
import HandS.ExcInit
import HandS.Text
import HandS.Dict
import KE.KeyNested
import KE.KStateDown
import HandS.Exc
import HandS.ExcField
import HandS.Ends
import HandS.Head0
import HandS.Head1
import HandS.Head2
import HandS.Head3
import HandS.HeadEnd
import HandS.HeadHook1
import HandS.HeadHook2
import HandS.HeadHook3
import HandS.HeadHook4
import HandS.TupAny
import HandS.WideBits
import HandS.Zip
import HandS.Style
import HandS.Deep
import PyProof.Rows.StrMul
import HandS.Defaults
import HandS.More
import HandS.ExcIs
import HandS.HotCalls
import HandS.TryMany
import HandS.Zip0
import HandS.ExcValue
import KE.KExcIs
import HandS.FStr
import KE.SortData
import KE.KDictKeyed
import KE.KDictZip
import HandS.TupSets
import HandS.Property
import PySem.Challenge.RW_fetchedwork_k69_whole_errors_side_by_sid
open List renaming getElem?_cons_zero → Qw, getElem?_cons_succ → Qx, length_map → Qy, length_cons → Qz, length_nil → Ra, length_append → Rb, replicate_succ → Rc, replicate_zero → Re, map_cons → Rg, set_cons_zero → Rh, set_cons_succ → Ri, contains_cons → Rj, contains_nil → Rk, isEmpty_cons → Rl, isEmpty_nil → Rm, length_set → Rn, append_nil → Ro, cons_append → Rp, nil_append → Rq, map_nil → Rr
open Bool renaming and_false → Rt, false_and → Ru, not_false → Rv, true_and → Rw, false_or → Rx, not_true → Ry, and_true → Rz, or_false → Sa, or_true → Sb, not_not → Sc, true_or → Sd
open Option renaming getD_some → Se, getD_none → Sf
set_option Elab.async false
set_option linter.all false
set_option maxRecDepth 100000
set_option maxHeartbeats 2000000
namespace Py
open PySem L2

/-! ## 1. Data -/
inductive D where
  | non | bl (b : Bool) | int (i : Int) | str (s : Str)
  | tup (l : List D) | lst (l : List D) | scr (l : List Int)
  | ins (c : Nat) (ns : List Str) (l : List D)
  /-- a dict whose keys are tuples: its keys, its values -/
  | dic (ks vs : List D)
  /-- in an own slot: a value that is shared -/
  | shd (d : D)
  /-- an error as a value -/
  | exv (c : Nat) (ns : List Str) (l : List D)
def D.isShd : D → Bool
  | .shd _ => true
  | _ => false

structure Gm where
  K : PySem.W.Frag
  cl : Nat → Addr
  w : World
abbrev NKey : Type := PySem.NestedKey
/-- the raw dict at a: its entries' keys, where the keys stand, the values -/
def DicRaw (w : World) (h : Heap) (a : Addr) (xs : List (NKey × Addr × Value)) : Prop :=
  ∃ o es ep, h.get? a = some o ∧ o.ExactDict ∧ o.data = .dict es ep ∧ es.toList = xs.map (fun x => (⟨PySem.NestedKey.hash w x.1, .ref x.2.1, x.2.2⟩ : DictEntry)) ∧ (xs.map (·.1)).Nodup
abbrev NRel : List (NKey × Addr × V) → List (NKey × Addr × Value) → Prop := Paired fun p q => p.1 = q.1 ∧ p.2.1 = q.2.1 ∧ RelV p.2.2 q.2.2
def DicO (w : World) (a : Addr) (es : List (NKey × Addr × V)) : HO := .ext fun h => (a == sysModules) = false ∧ es.length ≤ sizeLine ∧ (∀ e ∈ es, e.1.depth ≤ 8) ∧ ∃ xs, NRel es xs ∧ DicRaw w h a xs
mutual
def keyOf : D → Option NKey
  | .non => some .none
  | .bl b => some (.num (if b = true then 1 else 0))
  | .int i => some (.num i)
  | .str s => some (.text s)
  | .tup l => (keysOf l).map .tup
  | .lst _ => none
  | .scr _ => none
  | .ins _ _ _ => none
  | .dic _ _ => none
  | .shd _ => none
  | .exv _ _ _ => none
def keysOf : List D → Option (List NKey)
  | [] => some []
  | d :: l => match keyOf d, keysOf l with
    | some k, some ks => some (k :: ks)
    | _, _ => none
end

/-- an error's dict: none as yet, or its fields -/
def ExD (H : Hp) (dx : Option Addr) (ns : List Str) (xs : List V) : Prop := ns.length = xs.length ∧ ((ns = [] ∧ dx = none) ∨ ∃ x, dx = some x ∧ H x = some (exd x (ns.zip xs)))
theorem ExD.mono {H H' : Hp} {dx : Option Addr} {ns : List Str} {xs : List V} (e : Same H H') (h : ExD H dx ns xs) : ExD H' dx ns xs := by
  obtain ⟨h1, h⟩ := h
  refine ⟨h1, ?_⟩
  rcases h with h | ⟨x, h2, h3⟩
  · exact .inl h
  · exact .inr ⟨x, h2, e _ _ h3⟩
mutual
inductive IsD (Γ : Gm) (H : Hp) : V → D → Prop
  | non : IsD Γ H .non .non
  | bl (b : Bool) : IsD Γ H (.bl b) (.bl b)
  | int (i : Int) : IsD Γ H (.int i) (.int i)
  | str (s : Str) : IsD Γ H (.str s) (.str s)
  | tup {a : Addr} {xs : List V} {l : List D} : SqT Γ.K H a xs → IsDs Γ H xs l → IsD Γ H (.ref a) (.tup l)
  | lst {a : Addr} {xs : List V} {l : List D} : H a = some (.lst xs) → IsDs Γ H xs l → IsD Γ H (.ref a) (.lst l)
  | scr {a : Addr} {l : List Int} : SqL Γ.K H a (l.map V.int) → IsD Γ H (.ref a) (.scr l)
  | ins {a dx : Addr} {c : Nat} {ns : List Str} {xs : List V} {l : List D} : H a = some (.ins (Γ.cl c) dx (ns.zip xs)) → ns.length = xs.length → IsDs Γ H xs l → IsD Γ H (.ref a) (.ins c ns l)
  | dic {a : Addr} {es : List (NKey × Addr × V)} {ks vs : List D} : H a = some (DicO Γ.w a es) → ks.map keyOf = es.map (fun e => some e.1) → IsDs Γ H (es.map fun e => V.ref e.2.1) ks → IsDs Γ H (es.map fun e => e.2.2) vs → IsD Γ H (.ref a) (.dic ks vs)
  | exv {a : Addr} {dx : Option Addr} {c : Nat} {ns : List Str} {xs : List V} {l : List D} : H a = some (exo a (Γ.cl c) dx) → ExD H dx ns xs → IsDs Γ H xs l → IsD Γ H (.ref a) (.exv c ns l)
inductive IsDs (Γ : Gm) (H : Hp) : List V → List D → Prop
  | nil : IsDs Γ H [] []
  | cons {v : V} {vs : List V} {d : D} {ds : List D} : IsD Γ H v d → IsDs Γ H vs ds → IsDs Γ H (v :: vs) (d :: ds)
end

theorem sqT_mono {K : PySem.W.Frag} {H H' : Hp} {a : Addr} {xs : List V} (e : Same H H') (h : SqT K H a xs) : SqT K H' a xs := by
  rcases h with (h | ⟨o, h⟩) | h
  · exact .inl (.inl (e _ _ h))
  · exact .inl (.inr ⟨o, e _ _ h⟩)
  · exact .inr h

mutual
theorem IsD.mono {Γ : Gm} {H H' : Hp} (e : Same H H') : ∀ (d : D) (v : V), IsD Γ H v d → IsD Γ H' v d
  | .non, _, h => by cases h; exact .non
  | .bl b, _, h => by cases h; exact .bl b
  | .int i, _, h => by cases h; exact .int i
  | .str s, _, h => by cases h; exact .str s
  | .tup l, _, h => by
    cases h with
    | tup h1 h2 => exact .tup (sqT_mono e h1) (IsDs.mono e l _ h2)
  | .lst l, _, h => by
    cases h with
    | lst h1 h2 => exact .lst (e _ _ h1) (IsDs.mono e l _ h2)
  | .scr l, _, h => by
    cases h with
    | scr h1 => exact .scr (e.seq h1)
  | .ins c ns l, _, h => by
    cases h with
    | ins h1 h0 h2 => exact .ins (e _ _ h1) h0 (IsDs.mono e l _ h2)
  | .dic ks vs, _, h => by
    cases h with
    | dic h1 h2 h3 h4 => exact .dic (e _ _ h1) h2 (IsDs.mono e ks _ h3) (IsDs.mono e vs _ h4)
  | .shd d, _, h => by cases h
  | .exv c ns l, _, h => by
    cases h with
    | exv h1 h0 h2 => exact .exv (e _ _ h1) (h0.mono e) (IsDs.mono e l _ h2)
theorem IsDs.mono {Γ : Gm} {H H' : Hp} (e : Same H H') : ∀ (ds : List D) (vs : List V), IsDs Γ H vs ds → IsDs Γ H' vs ds
  | [], _, h => by cases h; exact .nil
  | d :: ds, _, h => by
    cases h with
    | cons h1 h2 => exact .cons (IsD.mono e d _ h1) (IsDs.mono e ds _ h2)
end
section
variable {Γ : Gm} {H H' : Hp}
theorem IsD.le (e : Same H H') {d : D} {v : V} (h : IsD Γ H v d) : IsD Γ H' v d := IsD.mono e d v h
theorem IsDs.le (e : Same H H') {d : List D} {v : List V} (h : IsDs Γ H v d) : IsDs Γ H' v d := IsDs.mono e d v h
theorem IsDs.length : ∀ {vs : List V} {ds : List D}, IsDs Γ H vs ds → vs.length = ds.length
  | _, _, .nil => rfl
  | _, _, .cons _ t => congrArg (· + 1) (IsDs.length t)
theorem IsDs.get : ∀ {vs : List V} {ds : List D} {i : Nat} {d : D}, IsDs Γ H vs ds → ds[i]? = some d → ∃ v, vs[i]? = some v ∧ IsD Γ H v d
  | _, _, _, _, .nil, e => by simp at e
  | _, _, 0, _, .cons r _, e => by simp at e; subst e; exact ⟨_, rfl, r⟩
  | _, _, i + 1, _, .cons _ t, e => by
    obtain ⟨u, h1, h2⟩ := IsDs.get (i := i) t (by simpa using e)
    exact ⟨u, by simpa using h1, h2⟩
theorem IsDs.getV : ∀ {vs : List V} {ds : List D} {i : Nat} {v : V}, IsDs Γ H vs ds → vs[i]? = some v → ∃ d, ds[i]? = some d ∧ IsD Γ H v d
  | _, _, _, _, .nil, e => by simp at e
  | _, _, 0, _, .cons r _, e => by simp at e; subst e; exact ⟨_, rfl, r⟩
  | _, _, i + 1, _, .cons _ t, e => by
    obtain ⟨u, h1, h2⟩ := IsDs.getV (i := i) t (by simpa using e)
    exact ⟨u, by simpa using h1, h2⟩
theorem IsDs.append : ∀ {vs us : List V} {ds es : List D}, IsDs Γ H vs ds → IsDs Γ H us es → IsDs Γ H (vs ++ us) (ds ++ es)
  | _, _, _, _, .nil, s => s
  | _, _, _, _, .cons r t, s => .cons r (IsDs.append t s)
theorem IsDs.set {v : V} {d : D} (r : IsD Γ H v d) : ∀ {vs : List V} {ds : List D} (i : Nat), IsDs Γ H vs ds → IsDs Γ H (vs.set i v) (ds.set i d)
  | _, _, _, .nil => .nil
  | _, _, 0, .cons _ t => .cons r t
  | _, _, i + 1, .cons q t => .cons q (IsDs.set r i t)
theorem IsDs.take : ∀ {vs : List V} {ds : List D} (n : Nat), IsDs Γ H vs ds → IsDs Γ H (vs.take n) (ds.take n)
  | _, _, 0, _ => .nil
  | _, _, _ + 1, .nil => .nil
  | _, _, n + 1, .cons r t => .cons r (IsDs.take n t)
theorem IsDs.drop : ∀ {vs : List V} {ds : List D} (n : Nat), IsDs Γ H vs ds → IsDs Γ H (vs.drop n) (ds.drop n)
  | _, _, 0, h => h
  | _, _, _ + 1, .nil => .nil
  | _, _, n + 1, .cons _ t => IsDs.drop n t
theorem IsDs.ints : ∀ {ns : List Int} {vs : List V}, IsDs Γ H vs (ns.map D.int) → vs = ns.map V.int
  | [], _, h => by cases h; rfl
  | n :: ns, _, h => by
    cases h with
    | cons h1 h2 =>
      cases h1
      rw [IsDs.ints h2]; rfl
theorem isDs_ints : ∀ (ns : List Int), IsDs Γ H (ns.map V.int) (ns.map D.int)
  | [] => .nil
  | n :: ns => .cons (.int n) (isDs_ints ns)
end

/-! ## 2. Hidden addresses, the environment, the frame -/
open Classical in
noncomputable def hide (S : Addr → Prop) (G : Hp) : Hp := fun a => if S a then none else G a
theorem hide_some {S : Addr → Prop} {G : Hp} {a : Addr} {o : HO} : hide S G a = some o ↔ ¬ S a ∧ G a = some o := by
  unfold hide
  by_cases h : S a
  · simp [h]
  · simp [h]
theorem hide_of {S : Addr → Prop} {G : Hp} {a : Addr} {o : HO} (h : ¬ S a) (e : G a = some o) : hide S G a = some o := hide_some.mpr ⟨h, e⟩
theorem hide_le {S : Addr → Prop} {G : Hp} : Same (hide S G) G := fun _ _ h => (hide_some.mp h).2
theorem hide_ext {S : Addr → Prop} {G G' : Hp} (e : Same G G') : Same (hide S G) (hide S G') := fun a o h => by
  obtain ⟨h1, h2⟩ := hide_some.mp h
  exact hide_of h1 (e _ _ h2)
theorem hide_less {S S' : Addr → Prop} {G : Hp} (k : ∀ a, S' a → S a) : Same (hide S G) (hide S' G) := fun a o h => by
  obtain ⟨h1, h2⟩ := hide_some.mp h
  exact hide_of (fun z => h1 (k a z)) h2
theorem same_upd {H : Hp} {p : Addr} {o : HO} (h : H p = none) : Same H (upd H p o) := fun a u e => by
  rw [upd_ne (ne_of_none e h)]
  exact e

abbrev Env := List (Option D)
inductive Rs (α : Type) where
  | ok (a : α) (ρ : Env)
  | exc (e : D) (ρ : Env)
  | stuck
def Rs.bind {α β : Type} (r : Rs α) (f : α → Env → Rs β) : Rs β := match r with
  | .ok a ρ => f a ρ
  | .exc e ρ => .exc e ρ
  | .stuck => .stuck
def Rs.ofOpt {α : Type} (o : Option α) (ρ : Env) : Rs α := match o with
  | some a => .ok a ρ
  | none => .stuck

/-- the error that an except suite holds: its slot, the object, its class and dict, what it is -/
structure XS where
  i : Nat
  a : Addr
  cls : Value
  dx : Option Addr
  e : D
structure Frm where
  ow : List Nat
  hd : Bool
  hp : Addr
  B : Hp
  S0 : Addr → Prop
  W : WX
  xs : Option XS := none
def Frm.notOwn (fr : Frm) (i : Nat) : Bool := !fr.ow.contains i
def Frm.isOwn (fr : Frm) (i : Nat) : Bool := fr.ow.contains i
theorem nown {fr : Frm} {i : Nat} (h : fr.notOwn i = true) : i ∉ fr.ow := fun z => by
  unfold Frm.notOwn at h
  have e : fr.ow.contains i = true := by simpa using z
  rw [e] at h; cases h
theorem isown {fr : Frm} {i : Nat} (h : fr.isOwn i = true) : i ∈ fr.ow := by
  unfold Frm.isOwn at h
  simpa using h
theorem allown {fr : Frm} {vs : List Nat} (h : (fr.ow.all fun k => !vs.contains k) = true) : ∀ k ∈ fr.ow, k ∉ vs := fun k hk hv => by
  have h1 := List.all_eq_true.mp h k hk
  have e : vs.contains k = true := by simpa using hv
  rw [e] at h1; cases h1
def Frm.xok (fr : Frm) (i : Nat) : Bool := match fr.xs with
  | none => true
  | some q => decide (q.i ≠ i)
theorem Frm.xok_ne {fr : Frm} {i : Nat} (h : fr.xok i = true) {q : XS} (e : fr.xs = some q) : q.i ≠ i := by
  unfold Frm.xok at h
  rw [e] at h
  exact of_decide_eq_true h
def IsX (Γ : Gm) (H : Hp) (cls : Value) (dx : Option Addr) (e : D) : Prop :=
  ∃ c ns l, e = .ins c ns l ∧ cls = .ref (Γ.cl c) ∧ ((ns = [] ∧ l = [] ∧ dx = none) ∨ ∃ x xs, dx = some x ∧ H x = some (.xd (ns.zip xs)) ∧ ns.length = xs.length ∧ IsDs Γ H xs l)
theorem IsX.le {Γ : Gm} {H H' : Hp} {cls : Value} {dx : Option Addr} {e : D} (s : Same H H') (h : IsX Γ H cls dx e) : IsX Γ H' cls dx e := by
  obtain ⟨c, ns, l, rfl, rfl, h⟩ := h
  refine ⟨c, ns, l, rfl, rfl, ?_⟩
  rcases h with h | ⟨x, xs, h1, h2, h3, h4⟩
  · exact .inl h
  · exact .inr ⟨x, xs, h1, s _ _ h2, h3, h4.le s⟩

/-- an object of one's own and what it is -/
inductive OwnO (Γ : Gm) (H : Hp) (p : Addr) : HO → D → Prop
  | lst {xs : List V} {l : List D} : IsDs Γ H xs l → OwnO Γ H p (.lst xs) (.lst l)
  | ins {dx : Addr} {c : Nat} {ns : List Str} {xs : List V} {l : List D} : ns.length = xs.length → IsDs Γ H xs l → OwnO Γ H p (.ins (Γ.cl c) dx (ns.zip xs)) (.ins c ns l)
  | dic {es : List (NKey × Addr × V)} {ks vs : List D} : ks.map keyOf = es.map (fun e => some e.1) → IsDs Γ H (es.map fun e => V.ref e.2.1) ks → IsDs Γ H (es.map fun e => e.2.2) vs → OwnO Γ H p (DicO Γ.w p es) (.dic ks vs)
theorem OwnO.le {Γ : Gm} {H H' : Hp} {p : Addr} (e : Same H H') {o : HO} {d : D} (h : OwnO Γ H p o d) : OwnO Γ H' p o d := by
  cases h with
  | lst h => exact .lst (h.le e)
  | ins h0 h => exact .ins h0 (h.le e)
  | dic h0 h h' => exact .dic h0 (h.le e) (h'.le e)
theorem OwnO.isLst {Γ : Gm} {H : Hp} {p : Addr} {o : HO} {l : List D} (h : OwnO Γ H p o (.lst l)) : ∃ xs, o = .lst xs ∧ IsDs Γ H xs l := by
  cases h with
  | lst h => exact ⟨_, rfl, h⟩
theorem OwnO.isIns {Γ : Gm} {H : Hp} {p : Addr} {o : HO} {c : Nat} {ns : List Str} {l : List D} (h : OwnO Γ H p o (.ins c ns l)) : ∃ dx xs, o = .ins (Γ.cl c) dx (ns.zip xs) ∧ ns.length = xs.length ∧ IsDs Γ H xs l := by
  cases h with
  | ins h0 h => exact ⟨_, _, rfl, h0, h⟩
theorem OwnO.isDic {Γ : Gm} {H : Hp} {p : Addr} {o : HO} {ks vs : List D} (h : OwnO Γ H p o (.dic ks vs)) : ∃ es, o = DicO Γ.w p es ∧ ks.map keyOf = es.map (fun e => some e.1) ∧ IsDs Γ H (es.map fun e => V.ref e.2.1) ks ∧ IsDs Γ H (es.map fun e => e.2.2) vs := by
  cases h with
  | dic h0 h h' => exact ⟨_, rfl, h0, h, h'⟩

structure Co (Γ : Gm) (fr : Frm) (σ : L2.St) (ρ : Env) (G : Hp) (S : Addr → Prop) : Prop where
  len : σ.length = ρ.length
  dom : ∀ a, S a → ∃ o, G a = some o
  sub : ∀ a, fr.S0 a → S a
  keep : ∀ a o, (fr.hd = true → a ≠ fr.hp) → fr.B a = some o → G a = some o
  pin : fr.hd = true → σ[0]? = some (some (.ref fr.hp))
  hs0 : fr.hd = true → fr.S0 fr.hp
  xsl : ∀ q, fr.xs = some q → σ[q.i]? = some (some (.ref q.a)) ∧ IsX Γ (hide S G) q.cls q.dx q.e
  sh : ∀ i d, i ∉ fr.ow → ρ[i]? = some (some d) → ∃ v, σ[i]? = some (some v) ∧ IsD Γ (hide S G) v d
  own : ∀ i d, i ∈ fr.ow → ρ[i]? = some (some d) → (∃ d' v, d = .shd d' ∧ σ[i]? = some (some v) ∧ IsD Γ (hide S G) v d') ∨ ∃ p o, σ[i]? = some (some (.ref p)) ∧ S p ∧ G p = some o ∧ OwnO Γ (hide S G) p o d ∧ ((fr.hd = true ∧ i = 0 ∧ p = fr.hp) ∨ (fr.B p = none ∧ ¬ fr.S0 p))
  inj : ∀ i j d e p, i ∈ fr.ow → j ∈ fr.ow → i ≠ j → ρ[i]? = some (some d) → ρ[j]? = some (some e) → σ[i]? = some (some (.ref p)) → σ[j]? = some (some (.ref p)) → d.isShd = true ∨ e.isShd = true

section
variable {Γ : Gm} {fr : Frm} {σ : L2.St} {ρ : Env} {G G' : Hp} {S S' : Addr → Prop}
theorem Co.ext (c : Co Γ fr σ ρ G S) (e : Same G G') : Co Γ fr σ ρ G' S where
  len := c.len
  dom := fun a h => by
    obtain ⟨o, h'⟩ := c.dom a h
    exact ⟨o, e _ _ h'⟩
  sub := c.sub
  keep := fun a o h1 h2 => e _ _ (c.keep a o h1 h2)
  pin := c.pin
  hs0 := c.hs0
  xsl := fun q h => ⟨(c.xsl q h).1, (c.xsl q h).2.le (hide_ext e)⟩
  sh := fun i d h1 h2 => by
    obtain ⟨v, h3, h4⟩ := c.sh i d h1 h2
    exact ⟨v, h3, h4.le (hide_ext e)⟩
  own := fun i d h1 h2 => by
    rcases c.own i d h1 h2 with ⟨d', v, z, h4, h7⟩ | ⟨p, xs, h4, h5, h6, h7, h8⟩
    · exact .inl ⟨d', v, z, h4, h7.le (hide_ext e)⟩
    · exact .inr ⟨p, xs, h4, h5, e _ _ h6, h7.le (hide_ext e), h8⟩
  inj := c.inj
theorem Co.fresh (c : Co Γ fr σ ρ G S) {p : Addr} (h : G p = none) : ¬ S p := fun z => by
  obtain ⟨o, e⟩ := c.dom p z
  rw [h] at e; cases e
/-- a new shared object -/
theorem Co.hideNew (c : Co Γ fr σ ρ G S) {p : Addr} {o : HO} (h : G p = none) : hide S (upd G p o) p = some o := hide_of (c.fresh h) upd_same

def PostG {α β : Type} (R : Hp → β → α → Prop) (Γ : Gm) (fr : Frm) (σ : L2.St) (G : Hp) (S : Addr → Prop) (Q : β → Hp → Prop) (r : Rs α) : Prop := match r with
  | .ok d ρ' => ∀ v G' S', Same (hide S G) (hide S' G') → Co Γ fr σ ρ' G' S' → R (hide S' G') v d → Q v G'
  | .exc e ρ' => ∀ cls dx G' S', Same (hide S G) (hide S' G') → Co Γ fr σ ρ' G' S' → IsX Γ (hide S' G') cls dx e → fr.W cls dx σ G'
  | .stuck => False
theorem PostG.mono {α β : Type} {R : Hp → β → α → Prop} {Q : β → Hp → Prop} {r : Rs α} (e : Same (hide S G) (hide S' G')) (h : PostG R Γ fr σ G S Q r) : PostG R Γ fr σ G' S' Q r := by
  cases r with
  | ok d ρ' => exact fun v G2 S2 e2 c r => h v G2 S2 (e.trans e2) c r
  | exc x ρ' => exact fun cls dx G2 S2 e2 c r => h cls dx G2 S2 (e.trans e2) c r
  | stuck => exact h

def EVG {α β : Type} (R : Hp → β → α → Prop) (Γ : Gm) (fr : Frm) (te : L2.St → Hp → (β → Hp → Prop) → Prop) (m : Env → Rs α) : Prop :=
  ∀ σ ρ G S, Co Γ fr σ ρ G S → ∀ Q, PostG R Γ fr σ G S Q (m ρ) → te σ G Q
abbrev EV (Γ : Gm) (fr : Frm) (te : TE) (m : Env → Rs D) : Prop := EVG (fun H v d => IsD Γ H v d) Γ fr te m
abbrev EA (Γ : Gm) (fr : Frm) (te : TA) (m : Env → Rs (List D)) : Prop := EVG (fun H v d => IsDs Γ H v d) Γ fr te m
abbrev ET (Γ : Gm) (fr : Frm) (te : TT) (m : Env → Rs Bool) : Prop := EVG (fun _ v d => v = d) Γ fr te m

theorem EVG.step {α β α' β' : Type} {R : Hp → β → α → Prop} {R' : Hp → β' → α' → Prop} {te : L2.St → Hp → (β → Hp → Prop) → Prop} {m : Env → Rs α} {f : α → Env → Rs α'} {Q : β' → Hp → Prop} {Q1 : β → Hp → Prop}
    (h : EVG R Γ fr te m) (c : Co Γ fr σ ρ G S) (p : PostG R' Γ fr σ G S Q ((m ρ).bind f))
    (k : ∀ d ρ' v G' S', Same (hide S G) (hide S' G') → Co Γ fr σ ρ' G' S' → R (hide S' G') v d → PostG R' Γ fr σ G' S' Q (f d ρ') → Q1 v G') : te σ G Q1 := by
  refine h σ ρ G S c Q1 ?_
  generalize m ρ = r at p ⊢
  cases r with
  | ok d ρ' => exact fun v G' S' e c' r => k d ρ' v G' S' e c' r (PostG.mono e p)
  | exc x ρ' => exact p
  | stuck => exact p
theorem PostG.give {α β : Type} {R : Hp → β → α → Prop} {Q : β → Hp → Prop} {d : α} {v : β} {ρ' : Env} (h : PostG R Γ fr σ G S Q (.ok d ρ')) (e : Same (hide S G) (hide S' G')) (c : Co Γ fr σ ρ' G' S') (r : R (hide S' G') v d) : Q v G' := h v G' S' e c r
theorem PostG.giveO {α β : Type} {R : Hp → β → α → Prop} {Q : β → Hp → Prop} {o : Option α} {ρ' : Env} (h : PostG R Γ fr σ G S Q (Rs.ofOpt o ρ')) : ∃ d, o = some d ∧ PostG R Γ fr σ G S Q (.ok d ρ') := by
  cases o with
  | none => exact h.elim
  | some d => exact ⟨d, rfl, h⟩
end
end Py

set_option Elab.async false
set_option linter.all false
set_option maxRecDepth 100000
set_option maxHeartbeats 2000000
namespace Py
open PySem L2 He
open PyProof.Rows (envOfC)
/-! ## 15. What the top has laid: facts by names -/
abbrev Fb : Type := PySem.W.Frag → Bool
def fGlo (x : Str) : Fb := fun K => eqO (PySem.W.nsIn K mainGlobals x) (some (some (.ref (ga K x))))
def fFree (x : Str) : Fb := fun K => eqO (PySem.W.nsIn K mainGlobals x) (some none)
def fBlt (x : Str) (id : String) : Fb := fun K => eqO (PySem.W.nsIn K mainGlobals x) (some (some (.builtin id)))
def fInt (x : Str) (i : Int) : Fb := fun K => (Fa.int x i).ok K
def fStr (x z : Str) : Fb := fun K => (Fa.str x z).ok K
def fNo (x f : Str) : Fb := fun K => eqO (PySem.W.findIn K (.ref (ga K x)) f) (some none)
def fXf (x : Str) : Fb := fun K => xfB K (ga K x)
def fExm (x : Str) (y : PySem.W.Frag → Value) (b : Bool) : Fb := fun K => decide (PySem.W.exmOne K (.ref (ga K x)) (y K) = some b)
def fKit (x : Str) (y : PySem.W.Frag → Value) : Fb := fun K => decide (PySem.W.kitOne K (.ref (ga K x)) (y K) = some true)
def fIni (x : Str) : Fb := fun K => eqO (PySem.W.findIn K (.ref (ga K x)) "__init__") (some (some (.ref (ma K (ga K x) "__init__")))) && decide (PySem.W.typeIn K (.ref (ma K (ga K x) "__init__")) = some (.type "function"))
def fExc (x : Str) : Fb := fun K => (match K.lookup (ga K x) with
  | some ⟨.type "type", _, .cls cd, sl⟩ => (match cd.mro, sl.toList with
    | .ref c :: bm, [_, _, _, _, some (.builtin n), _] => c == ga K x && (n == "ValueError.__new__" && (!cd.hasDel && (cd.hasDict && PySem.HandSPX.refsVE bm)))
    | _, _ => false)
  | _ => false) && (eqO (PySem.W.findIn K (.ref (ga K x)) "__setattr__") (some (some (.builtin "object.__setattr__"))) && (decide (PySem.W.subIn K (.ref (ga K x)) (.type "BaseException") = some true) && (decide (PySem.W.typeIn K (.ref (ga K x)) = some (.type "type")) && PySem.W.keepIn K (.ref (ga K x)))))
theorem fExc_ok {K : PySem.W.Frag} {x : Str} (h : fExc x K = true) : OexC K (ga K x) := by
  obtain ⟨q, h⟩ := ba h
  obtain ⟨h2, h⟩ := ba h
  obtain ⟨h3, h⟩ := ba h
  obtain ⟨h4, h5⟩ := ba h
  refine ⟨?_, eqO_ok h2, of_decide_eq_true h3, of_decide_eq_true h4, h5⟩
  split at q
  · rename_i dd cd sl ho
    split at q
    · rename_i c bm z0 z1 z2 z3 n z5 hm hs
      simp only [Bool.and_eq_true, beq_iff_eq, Bool.not_eq_true'] at q
      obtain ⟨ec, en, ed, eh, er⟩ := q
      obtain ⟨nm, bs, mro, ns, qn, hd, sn, sub, ab, col, del⟩ := cd
      dsimp only at hm ed eh
      subst hm ed en eh
      have es : sl = #[z0, z1, z2, z3, some (.builtin "ValueError.__new__"), z5] := by
        obtain ⟨l⟩ := sl
        simp only at hs
        rw [hs]
      subst es
      rw [ec] at ho
      exact ⟨nm, qn, ns, bs, bm, sn, sub, ab, col, dd, z0, z1, z2, z3, z5, ho, er⟩
    · cases q
  · cases q
mutual
def datB (K : PySem.W.Frag) : D → Value → Bool
  | .non, .none => true
  | .bl b, .bool c => b == c
  | .int i, .int j _ => decide (i = j)
  | .str x, .str y _ => decide (x = y)
  | .tup l, .ref a => (match K.lookup a with
    | some ⟨.type c, _, .seq its _, _⟩ => decide (c = "tuple") && (decide (its.size ≤ sizeLine) && datsB K l its.toList)
    | _ => false)
  | _, _ => false
def datsB (K : PySem.W.Frag) : List D → List Value → Bool
  | [], [] => true
  | d :: ds, u :: us => datB K d u && datsB K ds us
  | _, _ => false
end
mutual
theorem datB_ok {Γ : Gm} : ∀ (d : D) (u : Value), datB Γ.K d u = true → ∃ v, RelV v u ∧ (∀ a, u = .ref a → v = .ref a) ∧ ∀ H, IsD Γ H v d
  | .non, u, h => by cases u <;> first | (unfold datB at h; cases h; done) | exact ⟨.non, rfl, (fun a e => by cases e), fun H => .non⟩
  | .bl b, u, h => by
    cases u <;> first | (unfold datB at h; cases h; done) | skip
    rename_i c
    unfold datB at h
    exact ⟨.bl b, by rw [eq_of_beq h]; rfl, (fun a e => by cases e), fun H => .bl b⟩
  | .int i, u, h => by
    cases u <;> first | (unfold datB at h; cases h; done) | skip
    rename_i j t
    unfold datB at h
    exact ⟨.int i, ⟨t, by rw [of_decide_eq_true h]⟩, (fun a e => by cases e), fun H => .int i⟩
  | .str x, u, h => by
    cases u <;> first | (unfold datB at h; cases h; done) | skip
    rename_i j t
    unfold datB at h
    exact ⟨.str x, ⟨t, by rw [of_decide_eq_true h]⟩, (fun a e => by cases e), fun H => .str x⟩
  | .tup l, u, h => by
    cases u <;> first | (unfold datB at h; cases h; done) | skip
    rename_i a
    unfold datB at h
    cases q : Γ.K.lookup a with
    | none => rw [q] at h; cases h
    | some o =>
      obtain ⟨oc, od, dt, osl⟩ := o
      rw [q] at h
      cases oc <;> first | (cases dt <;> cases h; done) | skip
      cases dt <;> first | (cases h; done) | skip
      rename_i c its n
      obtain ⟨h1, h2⟩ := ba h
      obtain ⟨h3, h4⟩ := ba h2
      obtain ⟨vs, h5, h6⟩ := datsB_ok l its.toList h4
      exact ⟨.ref a, rfl, (fun b e => by cases e; rfl), fun H => .tup (.inr ⟨_, its, n, q, congrArg Value.type (of_decide_eq_true h1), rfl, of_decide_eq_true h3, h5⟩) (h6 H)⟩
  | .lst l, u, h => by cases u <;> (unfold datB at h; cases h)
  | .scr l, u, h => by cases u <;> (unfold datB at h; cases h)
  | .ins c n l, u, h => by cases u <;> (unfold datB at h; cases h)
  | .dic k d, u, h => by cases u <;> (unfold datB at h; cases h)
  | .shd d, u, h => by cases u <;> (unfold datB at h; cases h)
  | .exv c n l, u, h => by cases u <;> (unfold datB at h; cases h)
theorem datsB_ok {Γ : Gm} : ∀ (ds : List D) (us : List Value), datsB Γ.K ds us = true → ∃ vs, Vals vs us ∧ ∀ H, IsDs Γ H vs ds
  | [], [], _ => ⟨[], .nil, fun _ => .nil⟩
  | [], _ :: _, h => by unfold datsB at h; cases h
  | _ :: _, [], h => by unfold datsB at h; cases h
  | d :: ds, u :: us, h => by
    unfold datsB at h
    obtain ⟨h1, h2⟩ := ba h
    obtain ⟨v, r1, _, e1⟩ := datB_ok d u h1
    obtain ⟨vs, r2, e2⟩ := datsB_ok ds us h2
    exact ⟨v :: vs, .cons r1 r2, fun H => .cons (e1 H) (e2 H)⟩
end
def fDat (x : Str) (d : D) : Fb := fun K => datB K d (.ref (ga K x))
theorem fDat_ok {Γ : Gm} {x : Str} {d : D} (h : fDat x d Γ.K = true) (H : Hp) : IsD Γ H (.ref (ga Γ.K x)) d := by
  obtain ⟨v, _, h2, h3⟩ := datB_ok (Γ := Γ) d _ h
  have e := h2 _ rfl
  subst e
  exact h3 H
/-! getters of properties, told as the defs are -/
structure DefG where
  ad : PySem.W.Frag → Addr
  name : Str
  qual : Str
  params : Arguments
  body : List Stmt
  scope : Scope
def DefG.val (d : DefG) : FnW := some (d.name, d.qual, d.params, .stmts d.body, d.scope, mainGlobals, [], builtinsNs)
def fnAt (K : PySem.W.Frag) (a : Addr) : FnW := match K.lookup a with
  | some ⟨_, _, .func fd, _⟩ => some (fd.name, fd.qualname, fd.params, fd.body, fd.scope, fd.globals, fd.closure, fd.builtins)
  | _ => none
def DefG.ok (K : PySem.W.Frag) (d : DefG) : Bool := PySem.W.keepIn K (.ref (d.ad K)) && (match K.lookup (d.ad K) with
  | some ⟨_, _, .func fd, _⟩ => PySem.W.codeIn K fd.code d.qual && (dflB K fd.defaults [] && kwdB K fd.kwdefaults [])
  | _ => false)
theorem DefG.funD {K : PySem.W.Frag} {d : DefG} (e : fnAt K (d.ad K) = d.val) (c : d.ok K = true) : ∃ fd, FunD K d.name d.qual d.params d.body d.scope [] [] (d.ad K) fd := by
  obtain ⟨kp, cc⟩ := ba c
  unfold fnAt at e
  cases q : K.lookup (d.ad K) with
  | none => rw [q] at cc; cases cc
  | some o =>
    obtain ⟨oc, od, dt, osl⟩ := o
    rw [q] at cc e
    cases dt with
    | func fd =>
      obtain ⟨m1, m2, m3, m4, m5, m6, m7, m8, m9, m10, m11, m12, m13, m14, m15⟩ := fd
      have ee : (some (m1, m2, m3, m4, m5, m6, m7, m15) : FnW) = some (d.name, d.qual, d.params, .stmts d.body, d.scope, mainGlobals, [], builtinsNs) := e
      simp only [Option.some.injEq, Prod.mk.injEq] at ee
      obtain ⟨g1, g2, g3, g4, g5, g6, g7, g8⟩ := ee
      subst g1 g2 g3 g4 g5 g6 g7 g8
      obtain ⟨k1, kk⟩ := ba (show (PySem.W.codeIn K m13 d.qual && (dflB K m8 [] && kwdB K m9 [])) = true from cc)
      obtain ⟨k3, k4⟩ := ba kk
      exact ⟨_, ⟨oc, od, m8, m9, m10, m11, m12, m13, m14, osl, rfl, q, k1, dflB_ok k3, kwdB_ok k4⟩, kp⟩
    | _ => cases cc
/-- the property f of the class x, its getter -/
def ppa (K : PySem.W.Frag) (x f : Str) : Addr := ma K (ga K x) f
def pga (K : PySem.W.Frag) (x f : Str) : Addr := match PySem.W.recIn K (ppa K x f) "property" with
  | some (.ref g :: _) => g
  | _ => 0
def fProp (x f : Str) : Fb := fun K => eqO (PySem.W.findIn K (.ref (ga K x)) f) (some (some (.ref (ppa K x f)))) && (eqO (PySem.W.specialIn K (.ref (ppa K x f)) "__get__") (some (some (.builtin "property.__get__"))) && (decide (PySem.W.takesIn K (.ref (ppa K x f)) = some true) &&
  (match PySem.W.recIn K (ppa K x f) "property" with
    | some (.ref _ :: _) => true
    | _ => false)))
abbrev AlY : Type := AlX × (Bool × List FnW)
def obsY (n : Nat) (fn : List DefD) (gs : List DefG) (L : List Fb) (g : Addr → Option Obj) : AlY := (obsX n [] fn [] [] (fun K => L.all fun f => f K) g, (gs.all fun d => d.ok (frT g (asD g n)), gs.map fun d => fnAt (frT g (asD g n)) (d.ad (frT g (asD g n)))))
def valY (fn : List DefD) (gs : List DefG) (w : World) : AlY := (valX fn [] w, (true, gs.map DefG.val))
structure SaysY (fn : List DefD) (gs : List DefG) (L : List Fb) (w : World) (h : Heap) (K : PySem.W.Frag) : Prop where
  x : SaysX [] fn [] [] (fun K => L.all fun f => f K) w h K
  ok : (gs.all fun d => d.ok K) = true
  fns : (gs.map fun d => fnAt K (d.ad K)) = gs.map DefG.val
theorem saysY_of {n : Nat} {fn : List DefD} {gs : List DefG} {L : List Fb} {w : World} {h : Heap} (e : obsY n fn gs L h.get? = valY fn gs w) : SaysY fn gs L w h (frT h.get? (asD h.get? n)) :=
  ⟨saysX_of (congrArg (fun z : AlY => z.1) e), congrArg (fun z : AlY => z.2.1) e, congrArg (fun z : AlY => z.2.2) e⟩
def hkF (n : Nat) (fn : List DefD) (gs : List DefG) (L : List Fb) : PySem.W.Hook where
  α := AlY
  obs := fun s => obsY n fn gs L s.heap.get?
  val := fun w => valY fn gs w
  says := fun w h => ∃ K : PySem.W.Frag, K.In h ∧ SaysY fn gs L w h K
  of := fun _ _ e => ⟨_, frT_in, saysY_of e⟩
  keeps := fun _ _ _ ⟨K, hK, c⟩ k => ⟨K, PySem.W.Frag.In.keeps hK k, ⟨⟨c.x.t, c.x.more, c.x.hd, c.x.out, fun p hp => k _ _ (c.x.empty p hp)⟩, c.ok, c.fns⟩⟩
def obF (n : Nat) (fn : List DefD) (gs : List DefG) (L : List Fb) (s : PySem.W.SharedT) : AlY := obsY n fn gs L (HandSHeadRun.getT s)
theorem obF_eq (n : Nat) (fn : List DefD) (gs : List DefG) (L : List Fb) (s : PySem.W.SharedT) : obF n fn gs L s = (hkF n fn gs L).obs s.abs := by
  have e : HandSHeadRun.getT s = s.abs.heap.get? := funext (HandSHeadRun.getT_eq s)
  unfold obF
  rw [e]; rfl
section
variable {fn : List DefD} {gs : List DefG} {L : List Fb} {w : World} {h : Heap} {K : PySem.W.Frag} {mg : Str → Option Value}
theorem fact_at (c : SaysY fn gs L w h K) (i : Nat) {f : Fb} (e : L[i]? = some f := by rfl) : f K = true := List.all_eq_true.mp c.x.more f (List.mem_of_getElem? e)
theorem def_at (c : SaysY fn gs L w h K) (i : Nat) {d : DefD} (e : fn[i]? = some d := by rfl) : ∃ fd, FunD K d.name d.qual d.params d.body d.scope (d.dvs K) (d.kws K) (fAd K d.at_) fd := c.x.t.d.def_ i e
theorem gdef_at (c : SaysY fn gs L w h K) (i : Nat) {d : DefG} (e : gs[i]? = some d := by rfl) : ∃ fd, FunD K d.name d.qual d.params d.body d.scope [] [] (d.ad K) fd := by
  have e2 : (gs.map fun d => fnAt K (d.ad K))[i]? = (gs.map DefG.val)[i]? := by rw [c.fns]
  rw [List.getElem?_map, List.getElem?_map, e] at e2
  exact DefG.funD (Option.some.inj e2) (List.all_eq_true.mp c.ok d (List.mem_of_getElem? e))
theorem glo_at (X : K.In h) (G : h.Ns mainGlobals mg) {x : Str} (c : fGlo x K = true) : mg x = some (.ref (ga K x)) := PySem.W.mg_of X G (eqO_ok c)
theorem free_at (X : K.In h) (G : h.Ns mainGlobals mg) {x : Str} (c : fFree x K = true) : mg x = none := PySem.W.mg_none_of X G (eqO_ok c)
theorem blt_at (X : K.In h) (G : h.Ns mainGlobals mg) {x : Str} {id : String} (c : fBlt x id K = true) : mg x = some (.builtin id) := PySem.W.mg_of X G (eqO_ok c)
theorem exm_at {x : Str} {y : PySem.W.Frag → Value} {b : Bool} (c : fExm x y b K = true) : PySem.W.exmOne K (.ref (ga K x)) (y K) = some b := of_decide_eq_true c
theorem kit_at {x : Str} {y : PySem.W.Frag → Value} (c : fKit x y K = true) : PySem.W.kitOne K (.ref (ga K x)) (y K) = some true := of_decide_eq_true c
end
end Py

set_option Elab.async false
set_option linter.all false
set_option maxRecDepth 100000
set_option maxHeartbeats 2000000
namespace Py
open PySem L2 He
/-! facts by names: own classes -/
def tyNms : List String := ["NoneType", "bool", "int", "str", "tuple", "list"]
def fCls (x : Str) : Fb := fun K => PySem.W.plainGet K (ga K x) Str.empty && (PySem.W.hasDictIn K (ga K x) && (PySem.W.plainOver K (ga K x) && eqO (PySem.W.findIn K (.ref (ga K x)) "__setattr__") (some (some (.builtin "object.__setattr__")))))
def fInsC (x : Str) : Fb := fun K => fCls x K && (eqO (PySem.W.findIn K (.ref (ga K x)) "__class__") (some (some (.builtin "object.__class__"))) && (eqO (PySem.W.specialIn K (.builtin "object.__class__") "__get__") (some (some (.builtin "getset_descriptor.__get__"))) &&
  (decide (PySem.W.takesIn K (.builtin "object.__class__") = some true) && decide (PySem.W.mroIn K (ga K x) (.type "object") = some true))))
def fMk (x : Str) : Fb := fun K => PySem.W.makesIn K (ga K x) && (eqO (PySem.W.findIn K (.ref (ga K x)) "__init__") (some (some (.ref (ma K (ga K x) "__init__")))) && (PySem.W.isFn K (.ref (ma K (ga K x) "__init__")) && PySem.W.keepIn K (.ref (ga K x))))
def fKitT (x : Str) : Fb := fun K => tyNms.all fun a => decide (PySem.W.kitOne K (.type a) (.ref (ga K x)) = some false)
def fKitB (x y : Str) (b : Bool) : Fb := fun K => decide (PySem.W.kitOne K (.ref (ga K x)) (.ref (ga K y)) = some b)
end Py

set_option Elab.async false
set_option linter.all false
set_option maxRecDepth 100000
set_option maxHeartbeats 2000000
noncomputable section
namespace Py
open PySem L2 He
/-! the head's run told part by part: each part by a run of its own, so that no kernel run grows large -/
abbrev wQ (p : Program) (M : Nat) (w : World) : Option (Shared × PySem.W.SharedT) := HandSHeadRun.wholeF (fun q => HandSHeadRun.stepQ (HandSHeadRun.denQ HandSHeadRun.tabQ) q w) HandSHeadRun.fenceQ M p
abbrev kQ (n : Nat) (s : PySem.W.SharedT) : PySem.W.Frag := frT (HandSHeadRun.getT s) (asD (HandSHeadRun.getT s) n)
theorem run_parts {r : PySem.W.OpenRow} {q : Program} {n : Nat} {fn : List DefD} {gs : List DefG} {L L1 L2 : List Fb} {M : Nat} {loose : List PySem.Str} {w : World} (e : L = L1 ++ L2)
    (h1 : (wQ r.prog M w).map (fun x => HandSHeadRun.looksF r.prog x.1.heap x.2.abs) = some true)
    (h2 : (wQ r.prog M w).map (fun x => HandSHeadRun.seenQ q loose (importedModules r.prog.main.body) (fun s => PySem.W.xlAt q [] s && PySem.W.recOk r.toRowW.records s) x.2.abs) = some (PySem.W.openGood q loose))
    (h3 : (wQ r.prog M w).map (fun x => obsT [] fn [] (kQ n x.2)) = some (valT fn [] w))
    (h4 : (wQ r.prog M w).map (fun x => (L1.all (fun f => f (kQ n x.2)), tabsB (HandSHeadRun.getT x.2) [] (kQ n x.2), gs.all (fun d => d.ok (kQ n x.2)), gs.map (fun d => fnAt (kQ n x.2) (d.ad (kQ n x.2))))) = some (true, true, true, gs.map DefG.val))
    (h5 : (wQ r.prog M w).map (fun x => L2.all (fun f => f (kQ n x.2))) = some true) :
    HandSHeadRun.RunEqI r q (hkF n fn gs L) (obF n fn gs L) M loose w := by
  subst e
  unfold HandSHeadRun.RunEqI
  cases hx : wQ r.prog M w with
  | none => rw [hx] at h1; cases h1
  | some x =>
    rw [hx] at h1 h2 h3 h4 h5
    have a1 := Option.some.inj h1
    have a2 := Option.some.inj h2
    have a3 := Option.some.inj h3
    have a4 := Option.some.inj h4
    have a5 : L2.all (fun f => f (kQ n x.2)) = true := Option.some.inj h5
    simp only [Prod.mk.injEq] at a4
    obtain ⟨b1, b2, b3, b4⟩ := a4
    have e1 : HandSHeadRun.wholeF (fun p => HandSHeadRun.stepQ (HandSHeadRun.denQ HandSHeadRun.tabQ) p w) HandSHeadRun.fenceQ M r.prog = some x := hx
    rw [e1]
    refine congrArg some (Prod.ext a1 (Prod.ext a2 ?_))
    show obsY n fn gs (L1 ++ L2) (HandSHeadRun.getT x.2) = valY fn gs w
    refine Prod.ext (Prod.ext a3 ?_) (Prod.ext b3 b4)
    show ((L1 ++ L2).all (fun f => f (kQ n x.2)) && tabsB (HandSHeadRun.getT x.2) [] (kQ n x.2)) = true
    rw [List.all_append, b1, b2, a5]; rfl
def fAdd (x : Str) : Fb := fun K => PySem.W.selfFirst K (ga K x) && (eqO (PySem.W.findIn K (.ref (ga K x)) "__add__") (some (some (.ref (ma K (ga K x) "__add__")))) && PySem.W.isFn K (.ref (ma K (ga K x) "__add__")))
end Py

set_option Elab.async false
set_option linter.all false
set_option maxRecDepth 100000
set_option maxHeartbeats 2000000
namespace Py
open PySem L2 He
/-! facts by names: errors held as data -/
def fExcC (D : Addr) : Fb := fun K => eqO (PySem.W.findIn K (.ref D) "__getattribute__") (some (some (.builtin "BaseException.__getattribute__"))) && (eqO (PySem.W.findIn K (.ref D) "__getattr__") (some none) && (decide (PySem.W.subIn K (.ref D) (.type "BaseException") = some true) && (PySem.W.hasDictIn K D &&
  (eqO (PySem.W.findIn K (.ref D) "__class__") (some (some (.builtin "object.__class__"))) && (eqO (PySem.W.specialIn K (.builtin "object.__class__") "__get__") (some (some (.builtin "getset_descriptor.__get__"))) && (decide (PySem.W.takesIn K (.builtin "object.__class__") = some true) && decide (PySem.W.mroIn K D (.type "object") = some true)))))))
/-- an error class without an __init__ of its own -/
def fPla (x : Str) : Fb := fun K => PySem.W.excIn K (ga K x) veBase "ValueError.__new__" && (PySem.W.keepIn K (.ref (ga K x)) && (decide (PySem.W.subIn K (.ref (ga K x)) (.type "BaseException") = some true) && decide (PySem.W.typeIn K (.ref (ga K x)) = some (.type "type"))))
/-- the c-th class of those named in nm -/
def nmC (nm : List Str) (K : PySem.W.Frag) (c : Nat) : Addr := (nm.map (ga K)).getD c 0
def fExcA (nm : List Str) (cs : List Nat) : Fb := fun K => cs.all fun c => fExcC (nmC nm K c) K
def fIx (nm : List Str) (tb : List (Nat × Bool)) (u : PySem.W.Frag → Value) : Fb := fun K => tb.all fun p => decide (PySem.W.kitOne K (.ref (nmC nm K p.1)) (u K) = some p.2)
def veB : Option PySem.W.CFound → Bool
  | some (.val v) => v == .builtin "ValueError.__init__"
  | _ => false
def fNeI (x : Str) : Fb := fun K => eqO (PySem.W.specialIn K (.ref (ga K x)) "__getattribute__") (some (some (.builtin "type.__getattribute__"))) && (PySem.W.readsIn K (ga K x) (.type "type") && veB (PySem.W.findCls K (.ref (ga K x)) (.type "type") "__init__"))
end Py

set_option Elab.async false
set_option linter.all false
set_option maxRecDepth 100000
set_option maxHeartbeats 2000000
noncomputable section
namespace Py
open PySem L2 He
/-! the head's run told in as many parts as one likes -/
theorem obsD_parts {K : PySem.W.Frag} : ∀ {Fs : List (List DefD)}, (∀ F ∈ Fs, obsD [] F K = valD F) → obsD [] Fs.flatten K = valD Fs.flatten
  | [], _ => rfl
  | F :: Fs, h => by
    have h1 := h F List.mem_cons_self
    have h2 := obsD_parts (Fs := Fs) fun G hG => h G (List.mem_cons_of_mem _ hG)
    have a1 : (F.all fun d => He.DefD.ok K d) = true := congrArg Prod.fst h1
    have a2 : (Fs.flatten.all fun d => He.DefD.ok K d) = true := congrArg Prod.fst h2
    have b1 : F.map (fun d => He.fnW K d.at_) = F.map He.DefD.val := congrArg Prod.snd h1
    have b2 : Fs.flatten.map (fun d => He.fnW K d.at_) = Fs.flatten.map He.DefD.val := congrArg Prod.snd h2
    refine Prod.ext ?_ ?_
    · show (((F ++ Fs.flatten).all fun d => He.DefD.ok K d)) = true
      rw [List.all_append, a1, a2]; rfl
    · show (F ++ Fs.flatten).map (fun d => He.fnW K d.at_) = (F ++ Fs.flatten).map He.DefD.val
      rw [List.map_append, List.map_append, b1, b2]
theorem run_partsN {r : PySem.W.OpenRow} {q : Program} {n : Nat} {fn : List DefD} {gs : List DefG} {L : List Fb} {Ls : List (List Fb)} {Fs : List (List DefD)} {M : Nat} {loose : List PySem.Str} {w : World} (e : L = Ls.flatten) (e2 : fn = Fs.flatten)
    (h1 : (wQ r.prog M w).map (fun x => HandSHeadRun.looksF r.prog x.1.heap x.2.abs) = some true)
    (h2 : (wQ r.prog M w).map (fun x => HandSHeadRun.seenQ q loose (importedModules r.prog.main.body) (fun s => PySem.W.xlAt q [] s && PySem.W.recOk r.toRowW.records s) x.2.abs) = some (PySem.W.openGood q loose))
    (h3 : ∀ F ∈ Fs, (wQ r.prog M w).map (fun x => obsD [] F (kQ n x.2)) = some (valD F))
    (h4 : (wQ r.prog M w).map (fun x => (tabsB (HandSHeadRun.getT x.2) [] (kQ n x.2), gs.all (fun d => d.ok (kQ n x.2)), gs.map (fun d => fnAt (kQ n x.2) (d.ad (kQ n x.2))))) = some (true, true, gs.map DefG.val))
    (h5 : ∀ F ∈ Ls, (wQ r.prog M w).map (fun x => F.all (fun f => f (kQ n x.2))) = some true) :
    HandSHeadRun.RunEqI r q (hkF n fn gs L) (obF n fn gs L) M loose w := by
  subst e
  subst e2
  unfold HandSHeadRun.RunEqI
  cases hx : wQ r.prog M w with
  | none => rw [hx] at h1; cases h1
  | some x =>
    rw [hx] at h1 h2 h4
    have a1 := Option.some.inj h1
    have a2 := Option.some.inj h2
    have a3 : obsD [] Fs.flatten (kQ n x.2) = valD Fs.flatten := obsD_parts fun F hF => by
      have := h3 F hF
      rw [hx] at this
      exact Option.some.inj this
    have a4 := Option.some.inj h4
    have a5 : Ls.flatten.all (fun f => f (kQ n x.2)) = true := by
      rw [List.all_flatten]
      refine List.all_eq_true.mpr fun F hF => ?_
      have := h5 F hF
      rw [hx] at this
      exact Option.some.inj this
    simp only [Prod.mk.injEq] at a4
    obtain ⟨b2, b3, b4⟩ := a4
    have e1 : HandSHeadRun.wholeF (fun p => HandSHeadRun.stepQ (HandSHeadRun.denQ HandSHeadRun.tabQ) p w) HandSHeadRun.fenceQ M r.prog = some x := hx
    rw [e1]
    refine congrArg some (Prod.ext a1 (Prod.ext a2 ?_))
    show obsY n Fs.flatten gs Ls.flatten (HandSHeadRun.getT x.2) = valY Fs.flatten gs w
    refine Prod.ext (Prod.ext (Prod.ext a3 rfl) ?_) (Prod.ext b3 b4)
    show (Ls.flatten.all (fun f => f (kQ n x.2)) && tabsB (HandSHeadRun.getT x.2) [] (kQ n x.2)) = true
    rw [a5, b2]; rfl
end Py
namespace Py
open PySem L2 He
/-! error classes that stand straight under one base: who stands under whom, by one fact a class -/
def errTl : List Value := [.type "ValueError", .type "Exception", .type "BaseException", .type "object"]
def fErr (nm : List Str) (c : Nat) : Fb := fun K => match PySem.W.clsIn K (nmC nm K c) with
  | some cd => decide (cd.name = nm.getD c Str.empty) && (decide (cd.mro = (if c = 0 then [] else [Value.ref (nmC nm K c)]) ++ Value.ref (nmC nm K 0) :: errTl) && decide (PySem.W.typeIn K (.ref (nmC nm K c)) = some (.type "type")))
  | none => false
def fErrs (nm : List Str) (cs : List Nat) : Fb := fun K => cs.all fun c => fErr nm c K
theorem err_of {K : PySem.W.Frag} {nm : List Str} {c : Nat} (h : fErr nm c K = true) : ∃ cd, PySem.W.clsIn K (nmC nm K c) = some cd ∧ cd.name = nm.getD c Str.empty ∧ cd.mro = (if c = 0 then [] else [Value.ref (nmC nm K c)]) ++ Value.ref (nmC nm K 0) :: errTl ∧ PySem.W.typeIn K (.ref (nmC nm K c)) = some (.type "type") := by
  unfold fErr at h
  cases e : PySem.W.clsIn K (nmC nm K c) with
  | none => rw [e] at h; cases h
  | some cd =>
    rw [e] at h
    simp only [Bool.and_eq_true, decide_eq_true_eq] at h
    exact ⟨cd, rfl, h.1, h.2.1, h.2.2⟩
theorem err_sub {K : PySem.W.Frag} {nm : List Str} {c : Nat} {b : Value} (h : fErr nm c K = true) : PySem.W.subIn K (.ref (nmC nm K c)) b = some (((if c = 0 then [] else [Value.ref (nmC nm K c)]) ++ Value.ref (nmC nm K 0) :: errTl).contains b) := by
  obtain ⟨cd, h1, h2, h3, h4⟩ := err_of h
  show (PySem.W.clsIn K (nmC nm K c)).bind _ = _
  rw [h1]
  show (if cd.mro.isEmpty = true then none else some (cd.mro.contains b)) = _
  rw [h3]
  have : ((if c = 0 then [] else [Value.ref (nmC nm K c)]) ++ Value.ref (nmC nm K 0) :: errTl).isEmpty = false := by split <;> rfl
  rw [this]; rfl
theorem ix2_at {K : PySem.W.Frag} {nm : List Str} {cs : List Nat} {tb : List (Nat × Bool)} {d : Nat} (c2 : fErrs nm cs K = true)
    (hn : (cs.all fun c => cs.all fun e => (decide (nm.getD c Str.empty = nm.getD e Str.empty) == (c == e))) = true) (h0 : cs.contains 0 = true) (hd : cs.contains d = true) (ht : (tb.all fun p => cs.contains p.1 && (p.2 == (p.1 == d || d == 0))) = true) :
    ∀ p ∈ tb, PySem.W.kitOne K (.ref (nmC nm K p.1)) (.ref (nmC nm K d)) = some p.2 := fun p hp => by
  have h1 := List.all_eq_true.mp ht p hp
  simp only [Bool.and_eq_true, beq_iff_eq] at h1
  obtain ⟨h1, h2⟩ := h1
  have all : ∀ c, cs.contains c = true → fErr nm c K = true := fun c hc => List.all_eq_true.mp c2 c (by simpa using hc)
  have same : ∀ c e, cs.contains c = true → cs.contains e = true → nmC nm K c = nmC nm K e → c = e := fun c e hc he h => by
    obtain ⟨cd, a1, a2, _⟩ := err_of (all c hc)
    obtain ⟨ce, b1, b2, _⟩ := err_of (all e he)
    rw [h, b1] at a1
    cases a1
    have h3 := List.all_eq_true.mp (List.all_eq_true.mp hn c (by simpa using hc)) e (by simpa using he)
    rw [← a2, ← b2] at h3
    simpa using h3
  unfold PySem.W.kitOne
  by_cases e : nmC nm K p.1 = nmC nm K d
  · have := same _ _ h1 hd e
    rw [if_pos (by rw [e]; exact beq_self_eq_true _), h2, this]; simp
  · have ne : p.1 ≠ d := fun z => e (by rw [z])
    rw [if_neg (by intro z; exact e (Value.ref.inj (eq_of_beq z)))]
    obtain ⟨cd, a1, a2, a3, a4⟩ := err_of (all d hd)
    show (if ((PySem.W.clsIn K (nmC nm K d)).isSome && PySem.W.typeIn K (Value.ref (nmC nm K d)) == some (Value.type "type")) = true then PySem.W.subIn K (.ref (nmC nm K p.1)) (.ref (nmC nm K d)) else none) = some p.2
    rw [a1, a4, if_pos (by show (true && (some (Value.type "type") == some (Value.type "type"))) = true; rw [beq_self_eq_true]; rfl), err_sub (all _ h1), h2]
    have n1 : ((Value.ref (nmC nm K d)) == Value.ref (nmC nm K p.1)) = false := by
      apply beq_false_of_ne; intro z; exact e (Value.ref.inj z).symm
    have n2 : ((Value.ref (nmC nm K d)) == Value.ref (nmC nm K 0)) = decide (d = 0) := by
      by_cases hz : d = 0
      · subst hz; simp
      · rw [decide_eq_false hz]
        apply beq_false_of_ne
        intro z
        have z2 : nmC nm K d = nmC nm K 0 := Value.ref.inj z
        exact hz (same _ _ hd h0 z2)
    have n3 : errTl.contains (Value.ref (nmC nm K d)) = false := by
      unfold errTl
      simp only [Rj, Rk]
      have : ∀ s : String, (Value.ref (nmC nm K d) == Value.type s) = false := fun s => by apply beq_false_of_ne; intro z; cases z
      simp [this]
    congr 1
    rw [List.contains_append, Rj, n2, n3]
    have n4 : (if p.1 = 0 then [] else [Value.ref (nmC nm K p.1)]).contains (Value.ref (nmC nm K d)) = false := by
      split
      · rfl
      · rw [Rj, n1]; rfl
    rw [n4]
    have n5 : (p.1 == d) = false := by simpa using ne
    rw [n5]
    by_cases hz : d = 0 <;> simp [hz]
theorem ix2_ve {K : PySem.W.Frag} {nm : List Str} {cs : List Nat} {tb : List (Nat × Bool)} (c2 : fErrs nm cs K = true) (ht : (tb.all fun p => cs.contains p.1 && (p.2 == true)) = true) :
    ∀ p ∈ tb, PySem.W.kitOne K (.ref (nmC nm K p.1)) (.type "ValueError") = some p.2 := fun p hp => by
  have h1 := List.all_eq_true.mp ht p hp
  simp only [Bool.and_eq_true, beq_iff_eq] at h1
  obtain ⟨h1, h2⟩ := h1
  have he : fErr nm p.1 K = true := List.all_eq_true.mp c2 p.1 (by simpa using h1)
  unfold PySem.W.kitOne
  rw [if_neg (by intro z; have := eq_of_beq z; cases this)]
  show (if PySem.W.kitMeta "ValueError" = true then PySem.W.subIn K (.ref (nmC nm K p.1)) (.type "ValueError") else none) = _
  rw [if_pos (by decide +kernel), err_sub he, h2]
  congr 1
  rw [List.contains_append, Rj]
  have : errTl.contains (Value.type "ValueError") = true := by unfold errTl; rw [Rj, beq_self_eq_true]; rfl
  rw [this]; simp
end Py

set_option Elab.async false
set_option linter.all false
set_option maxRecDepth 100000
set_option maxHeartbeats 2000000
noncomputable section
namespace Py
open PySem L2 He
/-! a head whose written part holds the machine's statics, too (readings of class attributes ask them) -/
abbrev AlZ : Type := AlD × Bool
def kZ (n : Nat) (g : Addr → Option Obj) : PySem.W.Frag := frT g (PySem.cStatics :: asD g n)
def obsZ (n : Nat) (fn : List DefD) (L : List Fb) (g : Addr → Option Obj) : AlZ := (obsD [] fn (kZ n g), L.all fun f => f (kZ n g))
def valZ (fn : List DefD) : AlZ := (valD fn, true)
structure SaysZ (fn : List DefD) (L : List Fb) (K : PySem.W.Frag) : Prop where
  d : SaysD [] fn K
  more : (L.all fun f => f K) = true
def hkZ (n : Nat) (fn : List DefD) (L : List Fb) : PySem.W.Hook where
  α := AlZ
  obs := fun s => obsZ n fn L s.heap.get?
  val := fun _ => valZ fn
  says := fun _ h => ∃ K : PySem.W.Frag, K.In h ∧ SaysZ fn L K
  of := fun _ _ e => ⟨_, frT_in, ⟨congrArg (fun z : AlZ => z.1) e, congrArg (fun z : AlZ => z.2) e⟩⟩
  keeps := fun _ _ _ ⟨K, hK, c⟩ k => ⟨K, PySem.W.Frag.In.keeps hK k, c⟩
def obZ (n : Nat) (fn : List DefD) (L : List Fb) (s : PySem.W.SharedT) : AlZ := obsZ n fn L (HandSHeadRun.getT s)
theorem obZ_eq (n : Nat) (fn : List DefD) (L : List Fb) (s : PySem.W.SharedT) : obZ n fn L s = (hkZ n fn L).obs s.abs := by
  have e : HandSHeadRun.getT s = s.abs.heap.get? := funext (HandSHeadRun.getT_eq s)
  unfold obZ
  rw [e]; rfl
theorem factZ_at {fn : List DefD} {L : List Fb} {K : PySem.W.Frag} (c : SaysZ fn L K) (i : Nat) {f : Fb} (e : L[i]? = some f := by rfl) : f K = true := List.all_eq_true.mp c.more f (List.mem_of_getElem? e)
theorem defZ_at {fn : List DefD} {L : List Fb} {K : PySem.W.Frag} (c : SaysZ fn L K) (i : Nat) {d : DefD} (e : fn[i]? = some d := by rfl) : ∃ fd, FunD K d.name d.qual d.params d.body d.scope (d.dvs K) (d.kws K) (fAd K d.at_) fd := c.d.def_ i e
abbrev zQ (n : Nat) (s : PySem.W.SharedT) : PySem.W.Frag := kZ n (HandSHeadRun.getT s)
theorem run_partsZ {r : PySem.W.OpenRow} {q : Program} {n : Nat} {fn : List DefD} {L : List Fb} {Ls : List (List Fb)} {Fs : List (List DefD)} {M : Nat} {loose : List PySem.Str} {w : World} (e : L = Ls.flatten) (e2 : fn = Fs.flatten)
    (h1 : (wQ r.prog M w).map (fun x => HandSHeadRun.looksF r.prog x.1.heap x.2.abs) = some true)
    (h2 : (wQ r.prog M w).map (fun x => HandSHeadRun.seenQ q loose (importedModules r.prog.main.body) (fun s => PySem.W.xlAt q [] s && PySem.W.recOk r.toRowW.records s) x.2.abs) = some (PySem.W.openGood q loose))
    (h3 : ∀ F ∈ Fs, (wQ r.prog M w).map (fun x => obsD [] F (zQ n x.2)) = some (valD F))
    (h5 : ∀ F ∈ Ls, (wQ r.prog M w).map (fun x => F.all (fun f => f (zQ n x.2))) = some true) :
    HandSHeadRun.RunEqI r q (hkZ n fn L) (obZ n fn L) M loose w := by
  subst e
  subst e2
  unfold HandSHeadRun.RunEqI
  cases hx : wQ r.prog M w with
  | none => rw [hx] at h1; cases h1
  | some x =>
    rw [hx] at h1 h2
    have a1 := Option.some.inj h1
    have a2 := Option.some.inj h2
    have a3 : obsD [] Fs.flatten (zQ n x.2) = valD Fs.flatten := obsD_parts fun F hF => by
      have := h3 F hF
      rw [hx] at this
      exact Option.some.inj this
    have a5 : Ls.flatten.all (fun f => f (zQ n x.2)) = true := by
      rw [List.all_flatten]
      refine List.all_eq_true.mpr fun F hF => ?_
      have := h5 F hF
      rw [hx] at this
      exact Option.some.inj this
    have e1 : HandSHeadRun.wholeF (fun p => HandSHeadRun.stepQ (HandSHeadRun.denQ HandSHeadRun.tabQ) p w) HandSHeadRun.fenceQ M r.prog = some x := hx
    rw [e1]
    refine congrArg some (Prod.ext a1 (Prod.ext a2 ?_))
    show obsZ n Fs.flatten Ls.flatten (HandSHeadRun.getT x.2) = valZ Fs.flatten
    exact Prod.ext a3 a5
end Py

set_option Elab.async false
set_option linter.all false
set_option maxRecDepth 100000
set_option maxHeartbeats 4000000
noncomputable section
namespace Law
open PySem L2 Py He
def top (i : Nat) : Stmt := PySem.Challenge.pw_fetchedwork_k69_whole_errors_side_by_sid.main.body.getD i (.Pass ⟨0, 0, 0, 0⟩)
def tx_AlreadyMissed : List (Nat × Bool) := [(0, false), (1, false), (2, false), (3, false), (4, false), (5, false), (6, false), (7, false), (8, false), (9, false), (10, false), (11, false), (12, false), (13, false), (14, false), (15, false), (16, false), (17, false), (18, false), (19, false), (20, false), (21, false), (22, false), (23, false), (24, false), (25, false), (26, false), (27, false), (28, false), (29, false), (30, false), (31, false), (32, false), (33, false), (34, false), (35, false), (36, false), (37, false), (38, false), (39, false), (40, false), (41, false), (42, false), (43, false), (44, false), (45, false), (46, false), (47, false), (48, false), (49, false), (50, false), (51, true), (52, false)]
def tx_BadArray : List (Nat × Bool) := [(0, false), (1, false), (2, false), (3, false), (4, false), (5, false), (6, true), (7, false), (8, false), (9, false), (10, false), (11, false), (12, false), (13, false), (14, false), (15, false), (16, false), (17, false), (18, false), (19, false), (20, false), (21, false), (22, false), (23, false), (24, false), (25, false), (26, false), (27, false), (28, false), (29, false), (30, false), (31, false), (32, false), (33, false), (34, false), (35, false), (36, false), (37, false), (38, false), (39, false), (40, false), (41, false), (42, false), (43, false), (44, false), (45, false), (46, false), (47, false), (48, false), (49, false), (50, false), (51, false), (52, false)]
def tx_BadBag : List (Nat × Bool) := [(0, false), (1, false), (2, false), (3, false), (4, false), (5, false), (6, false), (7, false), (8, false), (9, false), (10, false), (11, false), (12, false), (13, false), (14, true), (15, false), (16, false), (17, false), (18, false), (19, false), (20, false), (21, false), (22, false), (23, false), (24, false), (25, false), (26, false), (27, false), (28, false), (29, false), (30, false), (31, false), (32, false), (33, false), (34, false), (35, false), (36, false), (37, false), (38, false), (39, false), (40, false), (41, false), (42, false), (43, false), (44, false), (45, false), (46, false), (47, false), (48, false), (49, false), (50, false), (51, false), (52, false)]
def tx_BadBasis : List (Nat × Bool) := [(0, false), (1, false), (2, false), (3, false), (4, false), (5, false), (6, false), (7, false), (8, false), (9, false), (10, false), (11, false), (12, false), (13, false), (14, false), (15, false), (16, false), (17, false), (18, false), (19, false), (20, false), (21, false), (22, false), (23, true), (24, false), (25, false), (26, false), (27, false), (28, false), (29, false), (30, false), (31, false), (32, false), (33, false), (34, false), (35, false), (36, false), (37, false), (38, false), (39, false), (40, false), (41, false), (42, false), (43, false), (44, false), (45, false), (46, false), (47, false), (48, false), (49, false), (50, false), (51, false), (52, false)]
def tx_BadBody : List (Nat × Bool) := [(0, false), (1, false), (2, false), (3, true), (4, false), (5, false), (6, false), (7, false), (8, false), (9, false), (10, false), (11, false), (12, false), (13, false), (14, false), (15, false), (16, false), (17, false), (18, false), (19, false), (20, false), (21, false), (22, false), (23, false), (24, false), (25, false), (26, false), (27, false), (28, false), (29, false), (30, false), (31, false), (32, false), (33, false), (34, false), (35, false), (36, false), (37, false), (38, false), (39, false), (40, false), (41, false), (42, false), (43, false), (44, false), (45, false), (46, false), (47, false), (48, false), (49, false), (50, false), (51, false), (52, false)]
def tx_BadBox : List (Nat × Bool) := [(0, false), (1, false), (2, false), (3, false), (4, false), (5, false), (6, false), (7, false), (8, false), (9, false), (10, false), (11, false), (12, false), (13, false), (14, false), (15, false), (16, false), (17, false), (18, false), (19, false), (20, false), (21, false), (22, false), (23, false), (24, false), (25, false), (26, false), (27, false), (28, false), (29, false), (30, false), (31, false), (32, false), (33, false), (34, false), (35, false), (36, false), (37, false), (38, true), (39, false), (40, false), (41, false), (42, false), (43, false), (44, false), (45, false), (46, false), (47, false), (48, false), (49, false), (50, false), (51, false), (52, false)]
def tx_BadChain : List (Nat × Bool) := [(0, false), (1, false), (2, false), (3, false), (4, false), (5, false), (6, false), (7, false), (8, false), (9, false), (10, false), (11, false), (12, false), (13, false), (14, false), (15, false), (16, false), (17, false), (18, false), (19, false), (20, false), (21, false), (22, true), (23, false), (24, false), (25, false), (26, false), (27, false), (28, false), (29, false), (30, false), (31, false), (32, false), (33, false), (34, false), (35, false), (36, false), (37, false), (38, false), (39, false), (40, false), (41, false), (42, false), (43, false), (44, false), (45, false), (46, false), (47, false), (48, false), (49, false), (50, false), (51, false), (52, false)]
def tx_BadChange : List (Nat × Bool) := [(0, false), (1, false), (2, false), (3, false), (4, false), (5, false), (6, false), (7, false), (8, false), (9, false), (10, false), (11, false), (12, false), (13, false), (14, false), (15, false), (16, false), (17, false), (18, false), (19, false), (20, false), (21, false), (22, false), (23, false), (24, false), (25, false), (26, false), (27, false), (28, false), (29, false), (30, false), (31, false), (32, false), (33, false), (34, false), (35, false), (36, false), (37, false), (38, false), (39, false), (40, false), (41, false), (42, false), (43, false), (44, false), (45, false), (46, false), (47, true), (48, false), (49, false), (50, false), (51, false), (52, false)]
def tx_BadCounts : List (Nat × Bool) := [(0, false), (1, false), (2, false), (3, false), (4, false), (5, false), (6, false), (7, false), (8, false), (9, false), (10, false), (11, false), (12, false), (13, false), (14, false), (15, false), (16, true), (17, false), (18, false), (19, false), (20, false), (21, false), (22, false), (23, false), (24, false), (25, false), (26, false), (27, false), (28, false), (29, false), (30, false), (31, false), (32, false), (33, false), (34, false), (35, false), (36, false), (37, false), (38, false), (39, false), (40, false), (41, false), (42, false), (43, false), (44, false), (45, false), (46, false), (47, false), (48, false), (49, false), (50, false), (51, false), (52, false)]
def tx_BadDemands : List (Nat × Bool) := [(0, false), (1, false), (2, false), (3, false), (4, false), (5, false), (6, false), (7, false), (8, false), (9, false), (10, false), (11, false), (12, false), (13, false), (14, false), (15, false), (16, false), (17, false), (18, false), (19, false), (20, false), (21, true), (22, false), (23, false), (24, false), (25, false), (26, false), (27, false), (28, false), (29, false), (30, false), (31, false), (32, false), (33, false), (34, false), (35, false), (36, false), (37, false), (38, false), (39, false), (40, false), (41, false), (42, false), (43, false), (44, false), (45, false), (46, false), (47, false), (48, false), (49, false), (50, false), (51, false), (52, false)]
def tx_BadEdit : List (Nat × Bool) := [(0, false), (1, false), (2, false), (3, false), (4, false), (5, false), (6, false), (7, false), (8, false), (9, false), (10, false), (11, false), (12, false), (13, false), (14, false), (15, false), (16, false), (17, false), (18, false), (19, false), (20, false), (21, false), (22, false), (23, false), (24, false), (25, false), (26, false), (27, false), (28, false), (29, false), (30, false), (31, false), (32, false), (33, false), (34, false), (35, false), (36, false), (37, false), (38, false), (39, false), (40, false), (41, false), (42, false), (43, false), (44, false), (45, false), (46, false), (47, false), (48, true), (49, false), (50, false), (51, false), (52, false)]
def tx_BadGoal : List (Nat × Bool) := [(0, false), (1, false), (2, false), (3, false), (4, false), (5, false), (6, false), (7, false), (8, false), (9, false), (10, false), (11, false), (12, false), (13, false), (14, false), (15, false), (16, false), (17, false), (18, false), (19, false), (20, false), (21, false), (22, false), (23, false), (24, false), (25, false), (26, false), (27, false), (28, false), (29, false), (30, false), (31, false), (32, false), (33, false), (34, false), (35, false), (36, false), (37, false), (38, false), (39, false), (40, false), (41, false), (42, false), (43, false), (44, false), (45, false), (46, false), (47, false), (48, false), (49, true), (50, false), (51, false), (52, false)]
def tx_BadKeeping : List (Nat × Bool) := [(0, false), (1, false), (2, false), (3, false), (4, false), (5, false), (6, false), (7, false), (8, false), (9, false), (10, false), (11, false), (12, false), (13, false), (14, false), (15, false), (16, false), (17, false), (18, false), (19, false), (20, false), (21, false), (22, false), (23, false), (24, false), (25, false), (26, false), (27, false), (28, false), (29, false), (30, false), (31, false), (32, false), (33, true), (34, false), (35, false), (36, false), (37, false), (38, false), (39, false), (40, false), (41, false), (42, false), (43, false), (44, false), (45, false), (46, false), (47, false), (48, false), (49, false), (50, false), (51, false), (52, false)]
def tx_BadKind : List (Nat × Bool) := [(0, false), (1, false), (2, false), (3, false), (4, false), (5, false), (6, false), (7, false), (8, false), (9, false), (10, false), (11, true), (12, false), (13, false), (14, false), (15, false), (16, false), (17, false), (18, false), (19, false), (20, false), (21, false), (22, false), (23, false), (24, false), (25, false), (26, false), (27, false), (28, false), (29, false), (30, false), (31, false), (32, false), (33, false), (34, false), (35, false), (36, false), (37, false), (38, false), (39, false), (40, false), (41, false), (42, false), (43, false), (44, false), (45, false), (46, false), (47, false), (48, false), (49, false), (50, false), (51, false), (52, false)]
def tx_BadKinds : List (Nat × Bool) := [(0, false), (1, false), (2, false), (3, false), (4, false), (5, false), (6, false), (7, false), (8, false), (9, false), (10, false), (11, false), (12, false), (13, false), (14, false), (15, false), (16, false), (17, false), (18, true), (19, false), (20, false), (21, false), (22, false), (23, false), (24, false), (25, false), (26, false), (27, false), (28, false), (29, false), (30, false), (31, false), (32, false), (33, false), (34, false), (35, false), (36, false), (37, false), (38, false), (39, false), (40, false), (41, false), (42, false), (43, false), (44, false), (45, false), (46, false), (47, false), (48, false), (49, false), (50, false), (51, false), (52, false)]
def tx_BadLength : List (Nat × Bool) := [(0, false), (1, false), (2, false), (3, false), (4, false), (5, false), (6, false), (7, false), (8, false), (9, false), (10, false), (11, false), (12, false), (13, false), (14, false), (15, false), (16, false), (17, false), (18, false), (19, false), (20, false), (21, false), (22, false), (23, false), (24, false), (25, false), (26, false), (27, false), (28, false), (29, false), (30, false), (31, false), (32, false), (33, false), (34, false), (35, false), (36, false), (37, false), (38, false), (39, false), (40, false), (41, false), (42, true), (43, false), (44, false), (45, false), (46, false), (47, false), (48, false), (49, false), (50, false), (51, false), (52, false)]
def tx_BadLengths : List (Nat × Bool) := [(0, false), (1, false), (2, false), (3, false), (4, false), (5, false), (6, false), (7, false), (8, false), (9, false), (10, false), (11, false), (12, false), (13, false), (14, false), (15, false), (16, false), (17, false), (18, false), (19, false), (20, false), (21, false), (22, false), (23, false), (24, false), (25, false), (26, false), (27, false), (28, false), (29, false), (30, false), (31, false), (32, false), (33, false), (34, false), (35, false), (36, false), (37, false), (38, false), (39, false), (40, false), (41, true), (42, false), (43, false), (44, false), (45, false), (46, false), (47, false), (48, false), (49, false), (50, false), (51, false), (52, false)]
def tx_BadLetter : List (Nat × Bool) := [(0, false), (1, false), (2, false), (3, false), (4, false), (5, false), (6, false), (7, false), (8, false), (9, false), (10, false), (11, false), (12, false), (13, false), (14, false), (15, false), (16, false), (17, false), (18, false), (19, false), (20, false), (21, false), (22, false), (23, false), (24, false), (25, false), (26, false), (27, false), (28, false), (29, false), (30, false), (31, false), (32, false), (33, false), (34, false), (35, false), (36, false), (37, false), (38, false), (39, false), (40, false), (41, false), (42, false), (43, true), (44, false), (45, false), (46, false), (47, false), (48, false), (49, false), (50, false), (51, false), (52, false)]
def tx_BadLetters : List (Nat × Bool) := [(0, false), (1, false), (2, true), (3, false), (4, false), (5, false), (6, false), (7, false), (8, false), (9, false), (10, false), (11, false), (12, false), (13, false), (14, false), (15, false), (16, false), (17, false), (18, false), (19, false), (20, false), (21, false), (22, false), (23, false), (24, false), (25, false), (26, false), (27, false), (28, false), (29, false), (30, false), (31, false), (32, false), (33, false), (34, false), (35, false), (36, false), (37, false), (38, false), (39, false), (40, false), (41, false), (42, false), (43, false), (44, false), (45, false), (46, false), (47, false), (48, false), (49, false), (50, false), (51, false), (52, false)]
def tx_BadLimits : List (Nat × Bool) := [(0, false), (1, false), (2, false), (3, false), (4, false), (5, false), (6, false), (7, false), (8, false), (9, false), (10, false), (11, false), (12, false), (13, false), (14, false), (15, false), (16, false), (17, false), (18, false), (19, false), (20, false), (21, false), (22, false), (23, false), (24, false), (25, false), (26, false), (27, false), (28, false), (29, false), (30, false), (31, false), (32, false), (33, false), (34, false), (35, false), (36, false), (37, false), (38, false), (39, false), (40, false), (41, false), (42, false), (43, false), (44, true), (45, false), (46, false), (47, false), (48, false), (49, false), (50, false), (51, false), (52, false)]
def tx_BadNest : List (Nat × Bool) := [(0, false), (1, false), (2, false), (3, false), (4, false), (5, true), (6, false), (7, false), (8, false), (9, false), (10, false), (11, false), (12, false), (13, false), (14, false), (15, false), (16, false), (17, false), (18, false), (19, false), (20, false), (21, false), (22, false), (23, false), (24, false), (25, false), (26, false), (27, false), (28, false), (29, false), (30, false), (31, false), (32, false), (33, false), (34, false), (35, false), (36, false), (37, false), (38, false), (39, false), (40, false), (41, false), (42, false), (43, false), (44, false), (45, false), (46, false), (47, false), (48, false), (49, false), (50, false), (51, false), (52, false)]
def tx_BadNumbers : List (Nat × Bool) := [(0, false), (1, false), (2, false), (3, false), (4, false), (5, false), (6, false), (7, false), (8, false), (9, false), (10, false), (11, false), (12, false), (13, false), (14, false), (15, false), (16, false), (17, false), (18, false), (19, false), (20, false), (21, false), (22, false), (23, false), (24, false), (25, true), (26, false), (27, false), (28, false), (29, false), (30, false), (31, false), (32, false), (33, false), (34, false), (35, false), (36, false), (37, false), (38, false), (39, false), (40, false), (41, false), (42, false), (43, false), (44, false), (45, false), (46, false), (47, false), (48, false), (49, false), (50, false), (51, false), (52, false)]
def tx_BadOrder : List (Nat × Bool) := [(0, false), (1, false), (2, false), (3, false), (4, false), (5, false), (6, false), (7, true), (8, false), (9, false), (10, false), (11, false), (12, false), (13, false), (14, false), (15, false), (16, false), (17, false), (18, false), (19, false), (20, false), (21, false), (22, false), (23, false), (24, false), (25, false), (26, false), (27, false), (28, false), (29, false), (30, false), (31, false), (32, false), (33, false), (34, false), (35, false), (36, false), (37, false), (38, false), (39, false), (40, false), (41, false), (42, false), (43, false), (44, false), (45, false), (46, false), (47, false), (48, false), (49, false), (50, false), (51, false), (52, false)]
def tx_BadPool : List (Nat × Bool) := [(0, false), (1, false), (2, false), (3, false), (4, false), (5, false), (6, false), (7, false), (8, false), (9, false), (10, false), (11, false), (12, false), (13, false), (14, false), (15, false), (16, false), (17, false), (18, false), (19, false), (20, false), (21, false), (22, false), (23, false), (24, false), (25, false), (26, false), (27, false), (28, false), (29, false), (30, false), (31, false), (32, false), (33, false), (34, false), (35, false), (36, false), (37, false), (38, false), (39, false), (40, false), (41, false), (42, false), (43, false), (44, false), (45, false), (46, false), (47, false), (48, false), (49, false), (50, true), (51, false), (52, false)]
def tx_BadPrices : List (Nat × Bool) := [(0, false), (1, false), (2, false), (3, false), (4, false), (5, false), (6, false), (7, false), (8, false), (9, false), (10, false), (11, false), (12, false), (13, false), (14, false), (15, false), (16, false), (17, true), (18, false), (19, false), (20, false), (21, false), (22, false), (23, false), (24, false), (25, false), (26, false), (27, false), (28, false), (29, false), (30, false), (31, false), (32, false), (33, false), (34, false), (35, false), (36, false), (37, false), (38, false), (39, false), (40, false), (41, false), (42, false), (43, false), (44, false), (45, false), (46, false), (47, false), (48, false), (49, false), (50, false), (51, false), (52, false)]
def tx_BadRank : List (Nat × Bool) := [(0, false), (1, false), (2, false), (3, false), (4, false), (5, false), (6, false), (7, false), (8, false), (9, true), (10, false), (11, false), (12, false), (13, false), (14, false), (15, false), (16, false), (17, false), (18, false), (19, false), (20, false), (21, false), (22, false), (23, false), (24, false), (25, false), (26, false), (27, false), (28, false), (29, false), (30, false), (31, false), (32, false), (33, false), (34, false), (35, false), (36, false), (37, false), (38, false), (39, false), (40, false), (41, false), (42, false), (43, false), (44, false), (45, false), (46, false), (47, false), (48, false), (49, false), (50, false), (51, false), (52, false)]
def tx_BadRatio : List (Nat × Bool) := [(0, false), (1, true), (2, false), (3, false), (4, false), (5, false), (6, false), (7, false), (8, false), (9, false), (10, false), (11, false), (12, false), (13, false), (14, false), (15, false), (16, false), (17, false), (18, false), (19, false), (20, false), (21, false), (22, false), (23, false), (24, false), (25, false), (26, false), (27, false), (28, false), (29, false), (30, false), (31, false), (32, false), (33, false), (34, false), (35, false), (36, false), (37, false), (38, false), (39, false), (40, false), (41, false), (42, false), (43, false), (44, false), (45, false), (46, false), (47, false), (48, false), (49, false), (50, false), (51, false), (52, false)]
def tx_BadRoom : List (Nat × Bool) := [(0, false), (1, false), (2, false), (3, false), (4, false), (5, false), (6, false), (7, false), (8, false), (9, false), (10, false), (11, false), (12, false), (13, false), (14, false), (15, false), (16, false), (17, false), (18, false), (19, false), (20, false), (21, false), (22, false), (23, false), (24, false), (25, false), (26, false), (27, false), (28, false), (29, false), (30, true), (31, false), (32, false), (33, false), (34, false), (35, false), (36, false), (37, false), (38, false), (39, false), (40, false), (41, false), (42, false), (43, false), (44, false), (45, false), (46, false), (47, false), (48, false), (49, false), (50, false), (51, false), (52, false)]
def tx_BadRun : List (Nat × Bool) := [(0, false), (1, false), (2, false), (3, false), (4, false), (5, false), (6, false), (7, false), (8, false), (9, false), (10, false), (11, false), (12, false), (13, false), (14, false), (15, false), (16, false), (17, false), (18, false), (19, false), (20, false), (21, false), (22, false), (23, false), (24, false), (25, false), (26, false), (27, false), (28, false), (29, false), (30, false), (31, false), (32, false), (33, false), (34, false), (35, false), (36, false), (37, false), (38, false), (39, false), (40, true), (41, false), (42, false), (43, false), (44, false), (45, false), (46, false), (47, false), (48, false), (49, false), (50, false), (51, false), (52, false)]
def tx_BadScale : List (Nat × Bool) := [(0, false), (1, false), (2, false), (3, false), (4, false), (5, false), (6, false), (7, false), (8, false), (9, false), (10, false), (11, false), (12, false), (13, false), (14, false), (15, false), (16, false), (17, false), (18, false), (19, false), (20, false), (21, false), (22, false), (23, false), (24, false), (25, false), (26, true), (27, false), (28, false), (29, false), (30, false), (31, false), (32, false), (33, false), (34, false), (35, false), (36, false), (37, false), (38, false), (39, false), (40, false), (41, false), (42, false), (43, false), (44, false), (45, false), (46, false), (47, false), (48, false), (49, false), (50, false), (51, false), (52, false)]
def tx_BadSize : List (Nat × Bool) := [(0, false), (1, false), (2, false), (3, false), (4, false), (5, false), (6, false), (7, false), (8, false), (9, false), (10, false), (11, false), (12, false), (13, false), (14, false), (15, false), (16, false), (17, false), (18, false), (19, false), (20, false), (21, false), (22, false), (23, false), (24, false), (25, false), (26, false), (27, false), (28, false), (29, false), (30, false), (31, false), (32, true), (33, false), (34, false), (35, false), (36, false), (37, false), (38, false), (39, false), (40, false), (41, false), (42, false), (43, false), (44, false), (45, false), (46, false), (47, false), (48, false), (49, false), (50, false), (51, false), (52, false)]
def tx_BadSpace : List (Nat × Bool) := [(0, false), (1, false), (2, false), (3, false), (4, true), (5, false), (6, false), (7, false), (8, false), (9, false), (10, false), (11, false), (12, false), (13, false), (14, false), (15, false), (16, false), (17, false), (18, false), (19, false), (20, false), (21, false), (22, false), (23, false), (24, false), (25, false), (26, false), (27, false), (28, false), (29, false), (30, false), (31, false), (32, false), (33, false), (34, false), (35, false), (36, false), (37, false), (38, false), (39, false), (40, false), (41, false), (42, false), (43, false), (44, false), (45, false), (46, false), (47, false), (48, false), (49, false), (50, false), (51, false), (52, false)]
def tx_BadSpots : List (Nat × Bool) := [(0, false), (1, false), (2, false), (3, false), (4, false), (5, false), (6, false), (7, false), (8, false), (9, false), (10, false), (11, false), (12, false), (13, false), (14, false), (15, false), (16, false), (17, false), (18, false), (19, false), (20, false), (21, false), (22, false), (23, false), (24, false), (25, false), (26, false), (27, false), (28, false), (29, false), (30, false), (31, false), (32, false), (33, false), (34, false), (35, true), (36, false), (37, false), (38, false), (39, false), (40, false), (41, false), (42, false), (43, false), (44, false), (45, false), (46, false), (47, false), (48, false), (49, false), (50, false), (51, false), (52, false)]
def tx_BadStops : List (Nat × Bool) := [(0, false), (1, false), (2, false), (3, false), (4, false), (5, false), (6, false), (7, false), (8, false), (9, false), (10, false), (11, false), (12, false), (13, false), (14, false), (15, false), (16, false), (17, false), (18, false), (19, false), (20, false), (21, false), (22, false), (23, false), (24, false), (25, false), (26, false), (27, false), (28, false), (29, false), (30, false), (31, false), (32, false), (33, false), (34, false), (35, false), (36, false), (37, true), (38, false), (39, false), (40, false), (41, false), (42, false), (43, false), (44, false), (45, false), (46, false), (47, false), (48, false), (49, false), (50, false), (51, false), (52, false)]
def tx_BadStretch : List (Nat × Bool) := [(0, false), (1, false), (2, false), (3, false), (4, false), (5, false), (6, false), (7, false), (8, false), (9, false), (10, false), (11, false), (12, false), (13, false), (14, false), (15, false), (16, false), (17, false), (18, false), (19, false), (20, false), (21, false), (22, false), (23, false), (24, false), (25, false), (26, false), (27, false), (28, false), (29, false), (30, false), (31, false), (32, false), (33, false), (34, false), (35, false), (36, true), (37, false), (38, false), (39, false), (40, false), (41, false), (42, false), (43, false), (44, false), (45, false), (46, false), (47, false), (48, false), (49, false), (50, false), (51, false), (52, false)]
def tx_BadText : List (Nat × Bool) := [(0, false), (1, false), (2, false), (3, false), (4, false), (5, false), (6, false), (7, false), (8, true), (9, false), (10, false), (11, false), (12, false), (13, false), (14, false), (15, false), (16, false), (17, false), (18, false), (19, false), (20, false), (21, false), (22, false), (23, false), (24, false), (25, false), (26, false), (27, false), (28, false), (29, false), (30, false), (31, false), (32, false), (33, false), (34, false), (35, false), (36, false), (37, false), (38, false), (39, false), (40, false), (41, false), (42, false), (43, false), (44, false), (45, false), (46, false), (47, false), (48, false), (49, false), (50, false), (51, false), (52, false)]
def tx_BadTile : List (Nat × Bool) := [(0, false), (1, false), (2, false), (3, false), (4, false), (5, false), (6, false), (7, false), (8, false), (9, false), (10, false), (11, false), (12, false), (13, false), (14, false), (15, false), (16, false), (17, false), (18, false), (19, false), (20, false), (21, false), (22, false), (23, false), (24, true), (25, false), (26, false), (27, false), (28, false), (29, false), (30, false), (31, false), (32, false), (33, false), (34, false), (35, false), (36, false), (37, false), (38, false), (39, false), (40, false), (41, false), (42, false), (43, false), (44, false), (45, false), (46, false), (47, false), (48, false), (49, false), (50, false), (51, false), (52, false)]
def tx_BadUses : List (Nat × Bool) := [(0, false), (1, false), (2, false), (3, false), (4, false), (5, false), (6, false), (7, false), (8, false), (9, false), (10, false), (11, false), (12, false), (13, false), (14, false), (15, false), (16, false), (17, false), (18, false), (19, false), (20, false), (21, false), (22, false), (23, false), (24, false), (25, false), (26, false), (27, false), (28, false), (29, false), (30, false), (31, false), (32, false), (33, false), (34, false), (35, false), (36, false), (37, false), (38, false), (39, false), (40, false), (41, false), (42, false), (43, false), (44, false), (45, false), (46, true), (47, false), (48, false), (49, false), (50, false), (51, false), (52, false)]
def tx_BadValues : List (Nat × Bool) := [(0, false), (1, false), (2, false), (3, false), (4, false), (5, false), (6, false), (7, false), (8, false), (9, false), (10, false), (11, false), (12, false), (13, false), (14, false), (15, false), (16, false), (17, false), (18, false), (19, false), (20, false), (21, false), (22, false), (23, false), (24, false), (25, false), (26, false), (27, false), (28, false), (29, false), (30, false), (31, false), (32, false), (33, false), (34, false), (35, false), (36, false), (37, false), (38, false), (39, true), (40, false), (41, false), (42, false), (43, false), (44, false), (45, false), (46, false), (47, false), (48, false), (49, false), (50, false), (51, false), (52, false)]
def tx_BadWeights : List (Nat × Bool) := [(0, false), (1, false), (2, false), (3, false), (4, false), (5, false), (6, false), (7, false), (8, false), (9, false), (10, false), (11, false), (12, true), (13, false), (14, false), (15, false), (16, false), (17, false), (18, false), (19, false), (20, false), (21, false), (22, false), (23, false), (24, false), (25, false), (26, false), (27, false), (28, false), (29, false), (30, false), (31, false), (32, false), (33, false), (34, false), (35, false), (36, false), (37, false), (38, false), (39, false), (40, false), (41, false), (42, false), (43, false), (44, false), (45, false), (46, false), (47, false), (48, false), (49, false), (50, false), (51, false), (52, false)]
def tx_BadWorths : List (Nat × Bool) := [(0, false), (1, false), (2, false), (3, false), (4, false), (5, false), (6, false), (7, false), (8, false), (9, false), (10, false), (11, false), (12, false), (13, false), (14, false), (15, true), (16, false), (17, false), (18, false), (19, false), (20, false), (21, false), (22, false), (23, false), (24, false), (25, false), (26, false), (27, false), (28, false), (29, false), (30, false), (31, false), (32, false), (33, false), (34, false), (35, false), (36, false), (37, false), (38, false), (39, false), (40, false), (41, false), (42, false), (43, false), (44, false), (45, false), (46, false), (47, false), (48, false), (49, false), (50, false), (51, false), (52, false)]
def tx_NestError : List (Nat × Bool) := [(0, true), (1, true), (2, true), (3, true), (4, true), (5, true), (6, true), (7, true), (8, true), (9, true), (10, true), (11, true), (12, true), (13, true), (14, true), (15, true), (16, true), (17, true), (18, true), (19, true), (20, true), (21, true), (22, true), (23, true), (24, true), (25, true), (26, true), (27, true), (28, true), (29, true), (30, true), (31, true), (32, true), (33, true), (34, true), (35, true), (36, true), (37, true), (38, true), (39, true), (40, true), (41, true), (42, true), (43, true), (44, true), (45, true), (46, true), (47, true), (48, true), (49, true), (50, true), (51, true), (52, true)]
def tx_NoPlane : List (Nat × Bool) := [(0, false), (1, false), (2, false), (3, false), (4, false), (5, false), (6, false), (7, false), (8, false), (9, false), (10, true), (11, false), (12, false), (13, false), (14, false), (15, false), (16, false), (17, false), (18, false), (19, false), (20, false), (21, false), (22, false), (23, false), (24, false), (25, false), (26, false), (27, false), (28, false), (29, false), (30, false), (31, false), (32, false), (33, false), (34, false), (35, false), (36, false), (37, false), (38, false), (39, false), (40, false), (41, false), (42, false), (43, false), (44, false), (45, false), (46, false), (47, false), (48, false), (49, false), (50, false), (51, false), (52, false)]
def tx_NoSum : List (Nat × Bool) := [(0, false), (1, false), (2, false), (3, false), (4, false), (5, false), (6, false), (7, false), (8, false), (9, false), (10, false), (11, false), (12, false), (13, false), (14, false), (15, false), (16, false), (17, false), (18, false), (19, false), (20, false), (21, false), (22, false), (23, false), (24, false), (25, false), (26, false), (27, false), (28, false), (29, true), (30, false), (31, false), (32, false), (33, false), (34, false), (35, false), (36, false), (37, false), (38, false), (39, false), (40, false), (41, false), (42, false), (43, false), (44, false), (45, false), (46, false), (47, false), (48, false), (49, false), (50, false), (51, false), (52, false)]
def tx_NotAlong : List (Nat × Bool) := [(0, false), (1, false), (2, false), (3, false), (4, false), (5, false), (6, false), (7, false), (8, false), (9, false), (10, false), (11, false), (12, false), (13, false), (14, false), (15, false), (16, false), (17, false), (18, false), (19, false), (20, false), (21, false), (22, false), (23, false), (24, false), (25, false), (26, false), (27, true), (28, false), (29, false), (30, false), (31, false), (32, false), (33, false), (34, false), (35, false), (36, false), (37, false), (38, false), (39, false), (40, false), (41, false), (42, false), (43, false), (44, false), (45, false), (46, false), (47, false), (48, false), (49, false), (50, false), (51, false), (52, false)]
def tx_NotCover : List (Nat × Bool) := [(0, false), (1, false), (2, false), (3, false), (4, false), (5, false), (6, false), (7, false), (8, false), (9, false), (10, false), (11, false), (12, false), (13, false), (14, false), (15, false), (16, false), (17, false), (18, false), (19, false), (20, false), (21, false), (22, false), (23, false), (24, false), (25, false), (26, false), (27, false), (28, false), (29, false), (30, false), (31, true), (32, false), (33, false), (34, false), (35, false), (36, false), (37, false), (38, false), (39, false), (40, false), (41, false), (42, false), (43, false), (44, false), (45, false), (46, false), (47, false), (48, false), (49, false), (50, false), (51, false), (52, false)]
def tx_NotRight : List (Nat × Bool) := [(0, false), (1, false), (2, false), (3, false), (4, false), (5, false), (6, false), (7, false), (8, false), (9, false), (10, false), (11, false), (12, false), (13, true), (14, false), (15, false), (16, false), (17, false), (18, false), (19, false), (20, false), (21, false), (22, false), (23, false), (24, false), (25, false), (26, false), (27, false), (28, false), (29, false), (30, false), (31, false), (32, false), (33, false), (34, false), (35, false), (36, false), (37, false), (38, false), (39, false), (40, false), (41, false), (42, false), (43, false), (44, false), (45, false), (46, false), (47, false), (48, false), (49, false), (50, false), (51, false), (52, false)]
def tx_NothingPut : List (Nat × Bool) := [(0, false), (1, false), (2, false), (3, false), (4, false), (5, false), (6, false), (7, false), (8, false), (9, false), (10, false), (11, false), (12, false), (13, false), (14, false), (15, false), (16, false), (17, false), (18, false), (19, false), (20, false), (21, false), (22, false), (23, false), (24, false), (25, false), (26, false), (27, false), (28, false), (29, false), (30, false), (31, false), (32, false), (33, false), (34, false), (35, false), (36, false), (37, false), (38, false), (39, false), (40, false), (41, false), (42, false), (43, false), (44, false), (45, false), (46, false), (47, false), (48, false), (49, false), (50, false), (51, false), (52, true)]
def tx_TooGreat : List (Nat × Bool) := [(0, false), (1, false), (2, false), (3, false), (4, false), (5, false), (6, false), (7, false), (8, false), (9, false), (10, false), (11, false), (12, false), (13, false), (14, false), (15, false), (16, false), (17, false), (18, false), (19, false), (20, false), (21, false), (22, false), (23, false), (24, false), (25, false), (26, false), (27, false), (28, true), (29, false), (30, false), (31, false), (32, false), (33, false), (34, false), (35, false), (36, false), (37, false), (38, false), (39, false), (40, false), (41, false), (42, false), (43, false), (44, false), (45, false), (46, false), (47, false), (48, false), (49, false), (50, false), (51, false), (52, false)]
def tx_TooLong : List (Nat × Bool) := [(0, false), (1, false), (2, false), (3, false), (4, false), (5, false), (6, false), (7, false), (8, false), (9, false), (10, false), (11, false), (12, false), (13, false), (14, false), (15, false), (16, false), (17, false), (18, false), (19, false), (20, false), (21, false), (22, false), (23, false), (24, false), (25, false), (26, false), (27, false), (28, false), (29, false), (30, false), (31, false), (32, false), (33, false), (34, false), (35, false), (36, false), (37, false), (38, false), (39, false), (40, false), (41, false), (42, false), (43, false), (44, false), (45, true), (46, false), (47, false), (48, false), (49, false), (50, false), (51, false), (52, false)]
def tx_TooMany : List (Nat × Bool) := [(0, false), (1, false), (2, false), (3, false), (4, false), (5, false), (6, false), (7, false), (8, false), (9, false), (10, false), (11, false), (12, false), (13, false), (14, false), (15, false), (16, false), (17, false), (18, false), (19, true), (20, false), (21, false), (22, false), (23, false), (24, false), (25, false), (26, false), (27, false), (28, false), (29, false), (30, false), (31, false), (32, false), (33, false), (34, false), (35, false), (36, false), (37, false), (38, false), (39, false), (40, false), (41, false), (42, false), (43, false), (44, false), (45, false), (46, false), (47, false), (48, false), (49, false), (50, false), (51, false), (52, false)]
def tx_TooSmall : List (Nat × Bool) := [(0, false), (1, false), (2, false), (3, false), (4, false), (5, false), (6, false), (7, false), (8, false), (9, false), (10, false), (11, false), (12, false), (13, false), (14, false), (15, false), (16, false), (17, false), (18, false), (19, false), (20, false), (21, false), (22, false), (23, false), (24, false), (25, false), (26, false), (27, false), (28, false), (29, false), (30, false), (31, false), (32, false), (33, false), (34, true), (35, false), (36, false), (37, false), (38, false), (39, false), (40, false), (41, false), (42, false), (43, false), (44, false), (45, false), (46, false), (47, false), (48, false), (49, false), (50, false), (51, false), (52, false)]
def tx_Unlike : List (Nat × Bool) := [(0, false), (1, false), (2, false), (3, false), (4, false), (5, false), (6, false), (7, false), (8, false), (9, false), (10, false), (11, false), (12, false), (13, false), (14, false), (15, false), (16, false), (17, false), (18, false), (19, false), (20, true), (21, false), (22, false), (23, false), (24, false), (25, false), (26, false), (27, false), (28, false), (29, false), (30, false), (31, false), (32, false), (33, false), (34, false), (35, false), (36, false), (37, false), (38, false), (39, false), (40, false), (41, false), (42, false), (43, false), (44, false), (45, false), (46, false), (47, false), (48, false), (49, false), (50, false), (51, false), (52, false)]
def tx_ValueError : List (Nat × Bool) := [(0, true), (1, true), (2, true), (3, true), (4, true), (5, true), (6, true), (7, true), (8, true), (9, true), (10, true), (11, true), (12, true), (13, true), (14, true), (15, true), (16, true), (17, true), (18, true), (19, true), (20, true), (21, true), (22, true), (23, true), (24, true), (25, true), (26, true), (27, true), (28, true), (29, true), (30, true), (31, true), (32, true), (33, true), (34, true), (35, true), (36, true), (37, true), (38, true), (39, true), (40, true), (41, true), (42, true), (43, true), (44, true), (45, true), (46, true), (47, true), (48, true), (49, true), (50, true), (51, true), (52, true)]
abbrev st__law_hand : Stmt := (top 55)
abbrev st__law_mixed : Stmt := (top 56)
abbrev st__law_take : Stmt := (top 57)
abbrev st__law_thing : Stmt := (top 58)
abbrev st__law_plain : Stmt := (top 59)
abbrev st__law_single : Stmt := (top 60)
abbrev st__law_double : Stmt := (top 61)
abbrev st__law_plain_kinds : Stmt := (top 62)
abbrev st__law_single_kinds : Stmt := (top 63)
abbrev st__law_double_kinds : Stmt := (top 64)
abbrev st__law_told : Stmt := (top 65)
abbrev st__law_told_both : Stmt := (top 66)
abbrev st__law_exact : Stmt := (top 67)
abbrev st__law_caught : Stmt := (top 68)
abbrev st_law : Stmt := (top 69)
def nmL : List PySem.Str := (["NestError", "BadRatio", "BadLetters", "BadBody", "BadSpace", "BadNest", "BadArray", "BadOrder", "BadText", "BadRank", "NoPlane", "BadKind", "BadWeights", "NotRight", "BadBag", "BadWorths", "BadCounts", "BadPrices", "BadKinds", "TooMany", "Unlike", "BadDemands", "BadChain", "BadBasis", "BadTile", "BadNumbers", "BadScale", "NotAlong", "TooGreat", "NoSum"] : List PySem.Str) ++ (["BadRoom", "NotCover", "BadSize", "BadKeeping", "TooSmall", "BadSpots", "BadStretch", "BadStops", "BadBox", "BadValues", "BadRun", "BadLengths", "BadLength", "BadLetter", "BadLimits", "TooLong", "BadUses", "BadChange", "BadEdit", "BadGoal", "BadPool", "AlreadyMissed", "NothingPut"] : List PySem.Str)
def csL : List Nat := [0, 1, 2, 3, 4, 5, 6, 7, 8, 9, 10, 11, 12, 13, 14, 15, 16, 17, 18, 19, 20, 21, 22, 23, 24, 25, 26, 27, 28, 29, 30, 31, 32, 33, 34, 35, 36, 37, 38, 39, 40, 41, 42, 43, 44, 45, 46, 47, 48, 49, 50, 51, 52]
abbrev si_NoPlane : Stmt := inClass (top 11) 0
abbrev si_BadKind : Stmt := inClass (top 12) 0
abbrev si_Unlike : Stmt := inClass (top 21) 0
abbrev si_BadBasis : Stmt := inClass (top 24) 0
abbrev si_BadRatio : Stmt := inClass (top 2) 0
abbrev si_BadBody : Stmt := inClass (top 4) 0
abbrev si_BadSpace : Stmt := inClass (top 5) 0
abbrev si_BadArray : Stmt := inClass (top 7) 0
abbrev si_BadText : Stmt := inClass (top 9) 0
abbrev si_BadRank : Stmt := inClass (top 10) 0
abbrev si_NotRight : Stmt := inClass (top 14) 0
abbrev si_BadWorths : Stmt := inClass (top 16) 0
abbrev si_BadCounts : Stmt := inClass (top 17) 0
abbrev si_BadPrices : Stmt := inClass (top 18) 0
abbrev si_BadKinds : Stmt := inClass (top 19) 0
abbrev si_TooMany : Stmt := inClass (top 20) 0
abbrev si_BadDemands : Stmt := inClass (top 22) 0
abbrev si_BadChain : Stmt := inClass (top 23) 0
abbrev si_BadTile : Stmt := inClass (top 25) 0
abbrev si_NoSum : Stmt := inClass (top 30) 0
abbrev si_BadSize : Stmt := inClass (top 33) 0
abbrev si_BadSpots : Stmt := inClass (top 36) 0
abbrev si_BadStops : Stmt := inClass (top 38) 0
abbrev si_BadBox : Stmt := inClass (top 39) 0
abbrev si_BadValues : Stmt := inClass (top 40) 0
abbrev si_BadRun : Stmt := inClass (top 41) 0
abbrev si_BadLengths : Stmt := inClass (top 42) 0
abbrev si_BadLetter : Stmt := inClass (top 44) 0
abbrev si_BadLimits : Stmt := inClass (top 45) 0
abbrev si_TooLong : Stmt := inClass (top 46) 0
abbrev si_BadEdit : Stmt := inClass (top 49) 0
abbrev si_BadGoal : Stmt := inClass (top 50) 0
abbrev si_BadPool : Stmt := inClass (top 51) 0
abbrev si_AlreadyMissed : Stmt := inClass (top 52) 0
abbrev si_BadNest : Stmt := inClass (top 6) 0
abbrev si_BadWeights : Stmt := inClass (top 13) 0
abbrev si_BadBag : Stmt := inClass (top 15) 0
abbrev si_BadUses : Stmt := inClass (top 47) 0
def fnL : List He.DefD := [⟨("_law_hand", none), "_law_hand", "_law_hand", defArgs st__law_hand, defBody st__law_hand, defScope st__law_hand, [], []⟩,
  ⟨("_law_mixed", none), "_law_mixed", "_law_mixed", defArgs st__law_mixed, defBody st__law_mixed, defScope st__law_mixed, [], []⟩,
  ⟨("_law_take", none), "_law_take", "_law_take", defArgs st__law_take, defBody st__law_take, defScope st__law_take, [], []⟩,
  ⟨("_law_thing", none), "_law_thing", "_law_thing", defArgs st__law_thing, defBody st__law_thing, defScope st__law_thing, [], []⟩,
  ⟨("_law_plain", none), "_law_plain", "_law_plain", defArgs st__law_plain, defBody st__law_plain, defScope st__law_plain, [], []⟩,
  ⟨("_law_single", none), "_law_single", "_law_single", defArgs st__law_single, defBody st__law_single, defScope st__law_single, [], []⟩,
  ⟨("_law_double", none), "_law_double", "_law_double", defArgs st__law_double, defBody st__law_double, defScope st__law_double, [], []⟩,
  ⟨("_law_plain_kinds", none), "_law_plain_kinds", "_law_plain_kinds", defArgs st__law_plain_kinds, defBody st__law_plain_kinds, defScope st__law_plain_kinds, [], []⟩,
  ⟨("_law_single_kinds", none), "_law_single_kinds", "_law_single_kinds", defArgs st__law_single_kinds, defBody st__law_single_kinds, defScope st__law_single_kinds, [], []⟩,
  ⟨("_law_double_kinds", none), "_law_double_kinds", "_law_double_kinds", defArgs st__law_double_kinds, defBody st__law_double_kinds, defScope st__law_double_kinds, [], []⟩,
  ⟨("_law_told", none), "_law_told", "_law_told", defArgs st__law_told, defBody st__law_told, defScope st__law_told, [], []⟩,
  ⟨("_law_told_both", none), "_law_told_both", "_law_told_both", defArgs st__law_told_both, defBody st__law_told_both, defScope st__law_told_both, [], []⟩,
  ⟨("_law_exact", none), "_law_exact", "_law_exact", defArgs st__law_exact, defBody st__law_exact, defScope st__law_exact, [], []⟩,
  ⟨("_law_caught", none), "_law_caught", "_law_caught", defArgs st__law_caught, defBody st__law_caught, defScope st__law_caught, [], []⟩,
  ⟨("law", none), "law", "law", defArgs st_law, defBody st_law, defScope st_law, [], []⟩,
  ⟨("NoPlane", some "__init__"), "__init__", "NoPlane.__init__", defArgs si_NoPlane, defBody si_NoPlane, defScope si_NoPlane, [], []⟩,
  ⟨("BadKind", some "__init__"), "__init__", "BadKind.__init__", defArgs si_BadKind, defBody si_BadKind, defScope si_BadKind, [], []⟩,
  ⟨("Unlike", some "__init__"), "__init__", "Unlike.__init__", defArgs si_Unlike, defBody si_Unlike, defScope si_Unlike, [], []⟩,
  ⟨("BadBasis", some "__init__"), "__init__", "BadBasis.__init__", defArgs si_BadBasis, defBody si_BadBasis, defScope si_BadBasis, [], []⟩,
  ⟨("BadRatio", some "__init__"), "__init__", "BadRatio.__init__", defArgs si_BadRatio, defBody si_BadRatio, defScope si_BadRatio, [], []⟩,
  ⟨("BadBody", some "__init__"), "__init__", "BadBody.__init__", defArgs si_BadBody, defBody si_BadBody, defScope si_BadBody, [], []⟩,
  ⟨("BadSpace", some "__init__"), "__init__", "BadSpace.__init__", defArgs si_BadSpace, defBody si_BadSpace, defScope si_BadSpace, [], []⟩,
  ⟨("BadArray", some "__init__"), "__init__", "BadArray.__init__", defArgs si_BadArray, defBody si_BadArray, defScope si_BadArray, [], []⟩,
  ⟨("BadText", some "__init__"), "__init__", "BadText.__init__", defArgs si_BadText, defBody si_BadText, defScope si_BadText, [], []⟩,
  ⟨("BadRank", some "__init__"), "__init__", "BadRank.__init__", defArgs si_BadRank, defBody si_BadRank, defScope si_BadRank, [], []⟩,
  ⟨("NotRight", some "__init__"), "__init__", "NotRight.__init__", defArgs si_NotRight, defBody si_NotRight, defScope si_NotRight, [], []⟩,
  ⟨("BadWorths", some "__init__"), "__init__", "BadWorths.__init__", defArgs si_BadWorths, defBody si_BadWorths, defScope si_BadWorths, [], []⟩,
  ⟨("BadCounts", some "__init__"), "__init__", "BadCounts.__init__", defArgs si_BadCounts, defBody si_BadCounts, defScope si_BadCounts, [], []⟩,
  ⟨("BadPrices", some "__init__"), "__init__", "BadPrices.__init__", defArgs si_BadPrices, defBody si_BadPrices, defScope si_BadPrices, [], []⟩,
  ⟨("BadKinds", some "__init__"), "__init__", "BadKinds.__init__", defArgs si_BadKinds, defBody si_BadKinds, defScope si_BadKinds, [], []⟩,
  ⟨("TooMany", some "__init__"), "__init__", "TooMany.__init__", defArgs si_TooMany, defBody si_TooMany, defScope si_TooMany, [], []⟩,
  ⟨("BadDemands", some "__init__"), "__init__", "BadDemands.__init__", defArgs si_BadDemands, defBody si_BadDemands, defScope si_BadDemands, [], []⟩,
  ⟨("BadChain", some "__init__"), "__init__", "BadChain.__init__", defArgs si_BadChain, defBody si_BadChain, defScope si_BadChain, [], []⟩,
  ⟨("BadTile", some "__init__"), "__init__", "BadTile.__init__", defArgs si_BadTile, defBody si_BadTile, defScope si_BadTile, [], []⟩,
  ⟨("NoSum", some "__init__"), "__init__", "NoSum.__init__", defArgs si_NoSum, defBody si_NoSum, defScope si_NoSum, [], []⟩,
  ⟨("BadSize", some "__init__"), "__init__", "BadSize.__init__", defArgs si_BadSize, defBody si_BadSize, defScope si_BadSize, [], []⟩,
  ⟨("BadSpots", some "__init__"), "__init__", "BadSpots.__init__", defArgs si_BadSpots, defBody si_BadSpots, defScope si_BadSpots, [], []⟩,
  ⟨("BadStops", some "__init__"), "__init__", "BadStops.__init__", defArgs si_BadStops, defBody si_BadStops, defScope si_BadStops, [], []⟩,
  ⟨("BadBox", some "__init__"), "__init__", "BadBox.__init__", defArgs si_BadBox, defBody si_BadBox, defScope si_BadBox, [], []⟩,
  ⟨("BadValues", some "__init__"), "__init__", "BadValues.__init__", defArgs si_BadValues, defBody si_BadValues, defScope si_BadValues, [], []⟩,
  ⟨("BadRun", some "__init__"), "__init__", "BadRun.__init__", defArgs si_BadRun, defBody si_BadRun, defScope si_BadRun, [], []⟩,
  ⟨("BadLengths", some "__init__"), "__init__", "BadLengths.__init__", defArgs si_BadLengths, defBody si_BadLengths, defScope si_BadLengths, [], []⟩,
  ⟨("BadLetter", some "__init__"), "__init__", "BadLetter.__init__", defArgs si_BadLetter, defBody si_BadLetter, defScope si_BadLetter, [], []⟩,
  ⟨("BadLimits", some "__init__"), "__init__", "BadLimits.__init__", defArgs si_BadLimits, defBody si_BadLimits, defScope si_BadLimits, [], []⟩,
  ⟨("TooLong", some "__init__"), "__init__", "TooLong.__init__", defArgs si_TooLong, defBody si_TooLong, defScope si_TooLong, [], []⟩,
  ⟨("BadEdit", some "__init__"), "__init__", "BadEdit.__init__", defArgs si_BadEdit, defBody si_BadEdit, defScope si_BadEdit, [], []⟩,
  ⟨("BadGoal", some "__init__"), "__init__", "BadGoal.__init__", defArgs si_BadGoal, defBody si_BadGoal, defScope si_BadGoal, [], []⟩,
  ⟨("BadPool", some "__init__"), "__init__", "BadPool.__init__", defArgs si_BadPool, defBody si_BadPool, defScope si_BadPool, [], []⟩,
  ⟨("AlreadyMissed", some "__init__"), "__init__", "AlreadyMissed.__init__", defArgs si_AlreadyMissed, defBody si_AlreadyMissed, defScope si_AlreadyMissed, [], []⟩,
  ⟨("BadNest", some "__init__"), "__init__", "BadNest.__init__", defArgs si_BadNest, defBody si_BadNest, defScope si_BadNest, [], []⟩,
  ⟨("BadWeights", some "__init__"), "__init__", "BadWeights.__init__", defArgs si_BadWeights, defBody si_BadWeights, defScope si_BadWeights, [], []⟩,
  ⟨("BadBag", some "__init__"), "__init__", "BadBag.__init__", defArgs si_BadBag, defBody si_BadBag, defScope si_BadBag, [], []⟩,
  ⟨("BadUses", some "__init__"), "__init__", "BadUses.__init__", defArgs si_BadUses, defBody si_BadUses, defScope si_BadUses, [], []⟩]
def gsL : List DefG := []
def faL : List Fb := [fGlo "AlreadyMissed",
  fGlo "BadArray",
  fGlo "BadBag",
  fGlo "BadBasis",
  fGlo "BadBody",
  fGlo "BadBox",
  fGlo "BadChain",
  fGlo "BadChange",
  fGlo "BadCounts",
  fGlo "BadDemands",
  fGlo "BadEdit",
  fGlo "BadGoal",
  fGlo "BadKeeping",
  fGlo "BadKind",
  fGlo "BadKinds",
  fGlo "BadLength",
  fGlo "BadLengths",
  fGlo "BadLetter",
  fGlo "BadLetters",
  fGlo "BadLimits",
  fGlo "BadNest",
  fGlo "BadNumbers",
  fGlo "BadOrder",
  fGlo "BadPool",
  fGlo "BadPrices",
  fGlo "BadRank",
  fGlo "BadRatio",
  fGlo "BadRoom",
  fGlo "BadRun",
  fGlo "BadScale",
  fGlo "BadSize",
  fGlo "BadSpace",
  fGlo "BadSpots",
  fGlo "BadStops",
  fGlo "BadStretch",
  fGlo "BadText",
  fGlo "BadTile",
  fGlo "BadUses",
  fGlo "BadValues",
  fGlo "BadWeights",
  fGlo "BadWorths",
  fGlo "NestError",
  fGlo "NoPlane",
  fGlo "NoSum",
  fGlo "NotAlong",
  fGlo "NotCover",
  fGlo "NotRight",
  fGlo "NothingPut",
  fGlo "TooGreat",
  fGlo "TooLong",
  fGlo "TooMany",
  fGlo "TooSmall",
  fGlo "Unlike",
  fExm "NestError" (fun K => .ref (He.ga K "NestError")) true,
  fExm "BadRatio" (fun K => .ref (He.ga K "NestError")) true,
  fExm "BadLetters" (fun K => .ref (He.ga K "NestError")) true,
  fExm "BadBody" (fun K => .ref (He.ga K "NestError")) true,
  fExm "BadSpace" (fun K => .ref (He.ga K "NestError")) true,
  fExm "BadNest" (fun K => .ref (He.ga K "NestError")) true,
  fExm "BadArray" (fun K => .ref (He.ga K "NestError")) true,
  fExm "BadOrder" (fun K => .ref (He.ga K "NestError")) true,
  fExm "BadText" (fun K => .ref (He.ga K "NestError")) true,
  fExm "BadRank" (fun K => .ref (He.ga K "NestError")) true,
  fExm "NoPlane" (fun K => .ref (He.ga K "NestError")) true,
  fExm "BadKind" (fun K => .ref (He.ga K "NestError")) true,
  fExm "BadWeights" (fun K => .ref (He.ga K "NestError")) true,
  fExm "NotRight" (fun K => .ref (He.ga K "NestError")) true,
  fExm "BadBag" (fun K => .ref (He.ga K "NestError")) true,
  fExm "BadWorths" (fun K => .ref (He.ga K "NestError")) true,
  fExm "BadCounts" (fun K => .ref (He.ga K "NestError")) true,
  fExm "BadPrices" (fun K => .ref (He.ga K "NestError")) true,
  fExm "BadKinds" (fun K => .ref (He.ga K "NestError")) true,
  fExm "TooMany" (fun K => .ref (He.ga K "NestError")) true,
  fExm "Unlike" (fun K => .ref (He.ga K "NestError")) true,
  fExm "BadDemands" (fun K => .ref (He.ga K "NestError")) true,
  fExm "BadChain" (fun K => .ref (He.ga K "NestError")) true,
  fExm "BadBasis" (fun K => .ref (He.ga K "NestError")) true,
  fExm "BadTile" (fun K => .ref (He.ga K "NestError")) true,
  fExm "BadNumbers" (fun K => .ref (He.ga K "NestError")) true,
  fExm "BadScale" (fun K => .ref (He.ga K "NestError")) true,
  fExm "NotAlong" (fun K => .ref (He.ga K "NestError")) true,
  fExm "TooGreat" (fun K => .ref (He.ga K "NestError")) true,
  fExm "NoSum" (fun K => .ref (He.ga K "NestError")) true,
  fExm "BadRoom" (fun K => .ref (He.ga K "NestError")) true,
  fExm "NotCover" (fun K => .ref (He.ga K "NestError")) true,
  fExm "BadSize" (fun K => .ref (He.ga K "NestError")) true,
  fExm "BadKeeping" (fun K => .ref (He.ga K "NestError")) true,
  fExm "TooSmall" (fun K => .ref (He.ga K "NestError")) true,
  fExm "BadSpots" (fun K => .ref (He.ga K "NestError")) true,
  fExm "BadStretch" (fun K => .ref (He.ga K "NestError")) true,
  fExm "BadStops" (fun K => .ref (He.ga K "NestError")) true,
  fExm "BadBox" (fun K => .ref (He.ga K "NestError")) true,
  fExm "BadValues" (fun K => .ref (He.ga K "NestError")) true,
  fExm "BadRun" (fun K => .ref (He.ga K "NestError")) true,
  fExm "BadLengths" (fun K => .ref (He.ga K "NestError")) true,
  fExm "BadLength" (fun K => .ref (He.ga K "NestError")) true,
  fExm "BadLetter" (fun K => .ref (He.ga K "NestError")) true,
  fExm "BadLimits" (fun K => .ref (He.ga K "NestError")) true,
  fExm "TooLong" (fun K => .ref (He.ga K "NestError")) true,
  fExm "BadUses" (fun K => .ref (He.ga K "NestError")) true,
  fExm "BadChange" (fun K => .ref (He.ga K "NestError")) true,
  fExm "BadEdit" (fun K => .ref (He.ga K "NestError")) true,
  fExm "BadGoal" (fun K => .ref (He.ga K "NestError")) true,
  fExm "BadPool" (fun K => .ref (He.ga K "NestError")) true,
  fExm "AlreadyMissed" (fun K => .ref (He.ga K "NestError")) true,
  fExm "NothingPut" (fun K => .ref (He.ga K "NestError")) true,
  fKit "BadSpace" (fun K => .ref (He.ga K "BadSpace")),
  fKit "TooSmall" (fun K => .ref (He.ga K "TooSmall")),
  fErrs nmL csL,
  fExcA nmL csL,
  fFree "ValueError",
  fFree "abs",
  fFree "bool",
  fFree "int",
  fFree "isinstance",
  fFree "len",
  fFree "range",
  fNo "AlreadyMissed" "index",
  fNo "BadArray" "array",
  fNo "BadBag" "index",
  fNo "BadBag" "what",
  fNo "BadBody" "index",
  fNo "BadBox" "index",
  fNo "BadChain" "index",
  fNo "BadCounts" "array",
  fNo "BadDemands" "index",
  fNo "BadEdit" "index",
  fNo "BadGoal" "index",
  fNo "BadKinds" "index",
  fNo "BadLengths" "index",
  fNo "BadLetter" "letter",
  fNo "BadLimits" "index",
  fNo "BadNest" "array",
  fNo "BadNest" "what",
  fNo "BadPool" "index",
  fNo "BadPrices" "index",
  fNo "BadRank" "rank",
  fNo "BadRatio" "what",
  fNo "BadRun" "what",
  fNo "BadSize" "size",
  fNo "BadSpace" "index",
  fNo "BadSpots" "index",
  fNo "BadStops" "index",
  fNo "BadText" "index",
  fNo "BadTile" "what",
  fNo "BadUses" "index",
  fNo "BadUses" "what",
  fNo "BadValues" "array",
  fNo "BadWeights" "index",
  fNo "BadWeights" "what",
  fNo "BadWorths" "array",
  fNo "NoSum" "body",
  fNo "NotRight" "space",
  fNo "TooLong" "letter",
  fNo "TooMany" "count",
  fXf "AlreadyMissed",
  fXf "BadArray",
  fXf "BadBag",
  fXf "BadBody",
  fXf "BadBox",
  fXf "BadChain",
  fXf "BadCounts",
  fXf "BadDemands",
  fXf "BadEdit",
  fXf "BadGoal",
  fXf "BadKinds",
  fXf "BadLengths",
  fXf "BadLetter",
  fXf "BadLimits",
  fXf "BadNest",
  fXf "BadPool",
  fXf "BadPrices",
  fXf "BadRank",
  fXf "BadRatio",
  fXf "BadRun",
  fXf "BadSize",
  fXf "BadSpace",
  fXf "BadSpots",
  fXf "BadStops",
  fXf "BadText",
  fXf "BadTile",
  fXf "BadUses",
  fXf "BadValues",
  fXf "BadWeights",
  fXf "BadWorths",
  fXf "NoSum",
  fXf "NotRight",
  fXf "TooLong",
  fXf "TooMany",
  fGlo "_law_hand",
  fGlo "_law_mixed",
  fGlo "_law_take",
  fGlo "_law_thing",
  fGlo "_law_plain",
  fGlo "_law_single",
  fGlo "_law_double",
  fGlo "_law_plain_kinds",
  fGlo "_law_single_kinds",
  fGlo "_law_double_kinds",
  fGlo "_law_told",
  fGlo "_law_told_both",
  fGlo "_law_exact",
  fGlo "_law_caught",
  fGlo "law",
  fNeI "NestError",
  fExc "NoPlane",
  fIni "NoPlane",
  fExc "BadKind",
  fIni "BadKind",
  fExc "Unlike",
  fIni "Unlike",
  fExc "BadBasis",
  fIni "BadBasis",
  fExc "BadRatio",
  fIni "BadRatio",
  fExc "BadBody",
  fIni "BadBody",
  fExc "BadSpace",
  fIni "BadSpace",
  fExc "BadArray",
  fIni "BadArray",
  fExc "BadText",
  fIni "BadText",
  fExc "BadRank",
  fIni "BadRank",
  fExc "NotRight",
  fIni "NotRight",
  fExc "BadWorths",
  fIni "BadWorths",
  fExc "BadCounts",
  fIni "BadCounts",
  fExc "BadPrices",
  fIni "BadPrices",
  fExc "BadKinds",
  fIni "BadKinds",
  fExc "TooMany",
  fIni "TooMany",
  fExc "BadDemands",
  fIni "BadDemands",
  fExc "BadChain",
  fIni "BadChain",
  fExc "BadTile",
  fIni "BadTile",
  fExc "NoSum",
  fIni "NoSum",
  fExc "BadSize",
  fIni "BadSize",
  fExc "BadSpots",
  fIni "BadSpots",
  fExc "BadStops",
  fIni "BadStops",
  fExc "BadBox",
  fIni "BadBox",
  fExc "BadValues",
  fIni "BadValues",
  fExc "BadRun",
  fIni "BadRun",
  fExc "BadLengths",
  fIni "BadLengths",
  fExc "BadLetter",
  fIni "BadLetter",
  fExc "BadLimits",
  fIni "BadLimits",
  fExc "TooLong",
  fIni "TooLong",
  fExc "BadEdit",
  fIni "BadEdit",
  fExc "BadGoal",
  fIni "BadGoal",
  fExc "BadPool",
  fIni "BadPool",
  fExc "AlreadyMissed",
  fIni "AlreadyMissed",
  fExc "BadNest",
  fIni "BadNest",
  fExc "BadWeights",
  fIni "BadWeights",
  fExc "BadBag",
  fIni "BadBag",
  fExc "BadUses",
  fIni "BadUses",
  fPla "BadLetters",
  fPla "BadOrder",
  fPla "BadNumbers",
  fPla "BadScale",
  fPla "NotAlong",
  fPla "TooGreat",
  fPla "BadRoom",
  fPla "NotCover",
  fPla "BadKeeping",
  fPla "TooSmall",
  fPla "BadStretch",
  fPla "BadLength",
  fPla "BadChange",
  fPla "NothingPut"]
def looseL : List PySem.Str := (["NestError", "BadRatio", "BadLetters", "BadBody", "BadSpace", "BadNest", "BadArray", "BadOrder", "BadText", "BadRank", "NoPlane", "BadKind", "BadWeights", "NotRight", "BadBag", "BadWorths", "BadCounts", "BadPrices", "BadKinds", "TooMany", "Unlike", "BadDemands", "BadChain", "BadBasis", "BadTile", "BadNumbers", "BadScale", "NotAlong", "TooGreat", "NoSum"] : List PySem.Str) ++ (["BadRoom", "NotCover", "BadSize", "BadKeeping", "TooSmall", "BadSpots", "BadStretch", "BadStops", "BadBox", "BadValues", "BadRun", "BadLengths", "BadLength", "BadLetter", "BadLimits", "TooLong", "BadUses", "BadChange", "BadEdit", "BadGoal", "BadPool", "AlreadyMissed", "NothingPut", "_law_hand", "_law_mixed", "_law_take", "_law_thing", "_law_plain", "_law_single", "_law_double"] : List PySem.Str) ++ (["_law_plain_kinds", "_law_single_kinds", "_law_double_kinds", "_law_told", "_law_told_both", "_law_exact", "_law_caught"] : List PySem.Str)
abbrev hR : PySem.W.OpenRow := PySem.W.OpenLaw.row PySem.Challenge.rw_fetchedwork_k69_whole_errors_side_by_sid
end Law

set_option Elab.async false
set_option linter.all false
set_option maxRecDepth 100000
set_option maxHeartbeats 4000000
noncomputable section
namespace Law
open PySem L2 Py He
abbrev rW (w : World) := wQ hR.prog 60000 w
theorem run1 (w : World) : (rW w).map (fun x => HandSHeadRun.looksF hR.prog x.1.heap x.2.abs) = some true := by kernel_rfl
theorem run2 (w : World) : (rW w).map (fun x => HandSHeadRun.seenQ (PySem.W.view hR.prog [69]) looseL (importedModules hR.prog.main.body) (fun s => PySem.W.xlAt (PySem.W.view hR.prog [69]) [] s && PySem.W.recOk hR.toRowW.records s) x.2.abs) = some (PySem.W.openGood (PySem.W.view hR.prog [69]) looseL) := by kernel_rfl
abbrev fnC0 : List DefD := (fnL.drop 0).take 18
theorem run3_0 (w : World) : (rW w).map (fun x => obsD [] fnC0 (zQ 4 x.2)) = some (valD fnC0) := by kernel_rfl
abbrev fnC1 : List DefD := (fnL.drop 18).take 18
theorem run3_1 (w : World) : (rW w).map (fun x => obsD [] fnC1 (zQ 4 x.2)) = some (valD fnC1) := by kernel_rfl
abbrev fnC2 : List DefD := (fnL.drop 36).take 17
theorem run3_2 (w : World) : (rW w).map (fun x => obsD [] fnC2 (zQ 4 x.2)) = some (valD fnC2) := by kernel_rfl
abbrev faC0 : List Fb := (faL.drop 0).take 100
theorem run5_0 (w : World) : (rW w).map (fun x => faC0.all (fun f => f (zQ 4 x.2))) = some true := by kernel_rfl
abbrev faC1 : List Fb := (faL.drop 100).take 100
theorem run5_1 (w : World) : (rW w).map (fun x => faC1.all (fun f => f (zQ 4 x.2))) = some true := by kernel_rfl
abbrev faC2 : List Fb := (faL.drop 200).take 95
theorem run5_2 (w : World) : (rW w).map (fun x => faC2.all (fun f => f (zQ 4 x.2))) = some true := by kernel_rfl
theorem run (w : World) : HandSHeadRun.RunEqI hR (PySem.W.view hR.prog [69]) (hkZ 4 fnL faL) (obZ 4 fnL faL) 60000 looseL w :=
  run_partsZ (Ls := [faC0, faC1, faC2]) (Fs := [fnC0, fnC1, fnC2]) rfl rfl (run1 w) (run2 w) (List.forall_mem_cons.mpr ⟨run3_0 w, List.forall_mem_cons.mpr ⟨run3_1 w, List.forall_mem_cons.mpr ⟨run3_2 w, List.forall_mem_nil _⟩⟩⟩) (List.forall_mem_cons.mpr ⟨run5_0 w, List.forall_mem_cons.mpr ⟨run5_1 w, List.forall_mem_cons.mpr ⟨run5_2 w, List.forall_mem_nil _⟩⟩⟩)
set_option maxHeartbeats 0 in
theorem holds_of (hc : PySem.W.WalkO (PySem.W.view hR.prog [69]) looseL (PySem.W.XL (PySem.W.view hR.prog [69]) []) (hkZ 4 fnL faL).says hR.toRowW (HandSHeadRun.topDef hR.prog 69) [] fun f vs => PySem.call f vs) : PySem.Challenge.rw_fetchedwork_k69_whole_errors_side_by_sid.Holds := by
  w_on; o_law
  refine HandSHeadRun.head_imp (r := PySem.W.OpenLaw.row PySem.Challenge.rw_fetchedwork_k69_whole_errors_side_by_sid) (q := PySem.W.view (PySem.W.OpenLaw.row PySem.Challenge.rw_fetchedwork_k69_whole_errors_side_by_sid).prog [69]) (H := hkZ 4 fnL faL) (ob := obZ 4 fnL faL) (M := 60000) (loose := looseL) (d := HandSHeadRun.topDef (PySem.W.OpenLaw.row PySem.Challenge.rw_fetchedwork_k69_whole_errors_side_by_sid).prog 69) (kwd := []) (obZ_eq 4 fnL faL)
    run (by kernel_rfl) (by kernel_rfl) (by kernel_rfl) (by rfl) (by first | assumption | decide +kernel) (by decide +kernel) ⟨rfl, rfl, rfl, rfl, rfl, by decide +kernel⟩ ?hw hc
  case hw => w_witness2
end Law

set_option Elab.async false
set_option linter.all false
set_option maxRecDepth 100000
set_option maxHeartbeats 2000000
namespace Py
open PySem L2

/-! ## 3. Expressions -/
def eC (d : D) : Env → Rs D := fun ρ => .ok d ρ
def eVar (i : Nat) : Env → Rs D := fun ρ => match ρ[i]? with
  | some (some d) => .ok d ρ
  | _ => .stuck
def eBin (f : D → D → Option D) (ma mb : Env → Rs D) : Env → Rs D := fun ρ => (ma ρ).bind fun a ρ1 => (mb ρ1).bind fun b ρ2 => Rs.ofOpt (f a b) ρ2
def eUn (f : D → Option D) (ma : Env → Rs D) : Env → Rs D := fun ρ => (ma ρ).bind fun a ρ1 => Rs.ofOpt (f a) ρ1
def aNil : Env → Rs (List D) := fun ρ => .ok [] ρ
def aCons (m : Env → Rs D) (r : Env → Rs (List D)) : Env → Rs (List D) := fun ρ => (m ρ).bind fun a ρ1 => (r ρ1).bind fun as ρ2 => .ok (a :: as) ρ2
def aF (f : List D → Option D) (r : Env → Rs (List D)) : Env → Rs D := fun ρ => (r ρ).bind fun as ρ1 => Rs.ofOpt (f as) ρ1

section
variable {Γ : Gm} {fr : Frm} {σ : L2.St} {ρ : Env} {G G' : Hp} {S S' : Addr → Prop} {ta tb te : TE} {ma mb m : Env → Rs D} {i : Nat}

theorem ev_c {v : V} {d : D} (h : ∀ H, IsD Γ H v d) : EV Γ fr (tC v) (eC d) := fun σ ρ G S c Q p => PostG.give p (Same.refl _) c (h _)
theorem ev_int (i : Int) : EV Γ fr (tC (.int i)) (eC (.int i)) := ev_c fun _ => .int i
theorem ev_bl (i : Bool) : EV Γ fr (tC (.bl i)) (eC (.bl i)) := ev_c fun _ => .bl i
theorem ev_str (i : Str) : EV Γ fr (tC (.str i)) (eC (.str i)) := ev_c fun _ => .str i
theorem ev_non : EV Γ fr (tC .non) (eC .non) := ev_c fun _ => .non
theorem ev_var (hi : fr.notOwn i = true := by rfl) : EV Γ fr (tVar i) (eVar i) := fun σ ρ G S c Q p => by
  unfold eVar at p
  generalize e : ρ[i]? = o at p
  cases o with
  | none => exact p.elim
  | some o =>
    cases o with
    | none => exact p.elim
    | some d =>
      obtain ⟨v, h1, h2⟩ := c.sh i d (nown hi) e
      exact ⟨v, h1, PostG.give p (Same.refl _) c h2⟩

/-- a two-place operation on values does what f does on data -/
def OpD (Γ : Gm) (r : R2) (f : D → D → Option D) : Prop := ∀ (G : Hp) (S : Addr → Prop) (x y : V) (dx dy dz : D), (∀ a, S a → ∃ o, G a = some o) → IsD Γ (hide S G) x dx → IsD Γ (hide S G) y dy → f dx dy = some dz → ∀ Q : VK,
  (∀ v G', Same G G' → IsD Γ (hide S G') v dz → Q v G') → r x y G Q
theorem ev_op {r : R2} {f : D → D → Option D} (hr : OpD Γ r f) (ha : EV Γ fr ta ma) (hb : EV Γ fr tb mb) : EV Γ fr (tOp r ta tb) (eBin f ma mb) := fun σ ρ G S c Q p => by
  refine ha.step c p fun dx ρ1 x G1 S1 _ c1 hx p1 => ?_
  refine hb.step c1 p1 fun dy ρ2 y G2 S2 e2 c2 hy p2 => ?_
  obtain ⟨dz, hf, p3⟩ := p2.giveO
  exact hr G2 S2 x y dx dy dz c2.dom (hx.le e2) hy hf Q fun v G3 e3 hv => p3.give (hide_ext e3) (c2.ext e3) hv
def UnD (Γ : Gm) (r : V → Hp → VK → Prop) (f : D → Option D) : Prop := ∀ (G : Hp) (S : Addr → Prop) (x : V) (dx dz : D), (∀ a, S a → ∃ o, G a = some o) → IsD Γ (hide S G) x dx → f dx = some dz → ∀ Q : VK,
  (∀ v G', Same G G' → IsD Γ (hide S G') v dz → Q v G') → r x G Q
theorem ev_un {r : V → Hp → VK → Prop} {f : D → Option D} (hr : UnD Γ r f) (ha : EV Γ fr ta ma) : EV Γ fr (tUn r ta) (eUn f ma) := fun σ ρ G S c Q p => by
  refine ha.step c p fun dx ρ1 x G1 S1 _ c1 hx p1 => ?_
  obtain ⟨dz, hf, p3⟩ := p1.giveO
  exact hr G1 S1 x dx dz c1.dom hx hf Q fun v G3 e3 hv => p3.give (hide_ext e3) (c1.ext e3) hv
theorem ea_nil : EA Γ fr tNil aNil := fun σ ρ G S c Q p => PostG.give p (Same.refl _) c .nil
theorem ea_cons {t : TA} {r : Env → Rs (List D)} (ha : EV Γ fr te m) (hb : EA Γ fr t r) : EA Γ fr (tCons te t) (aCons m r) := fun σ ρ G S c Q p => by
  refine ha.step c p fun dx ρ1 x G1 S1 _ c1 hx p1 => ?_
  refine hb.step c1 p1 fun dy ρ2 y G2 S2 e2 c2 hy p2 => ?_
  exact p2.give (Same.refl _) c2 (.cons (hx.le e2) hy)
/-- a built-in called -/
def CaD (Γ : Gm) (r : List V → Hp → VK → Prop) (f : List D → Option D) : Prop := ∀ (G : Hp) (S : Addr → Prop) (xs : List V) (ds : List D) (dz : D), (∀ a, S a → ∃ o, G a = some o) → IsDs Γ (hide S G) xs ds → f ds = some dz → ∀ Q : VK,
  (∀ v G', Same G G' → IsD Γ (hide S G') v dz → Q v G') → r xs G Q
theorem ev_cb {t : TA} {r : List V → Hp → VK → Prop} {f : List D → Option D} {ma : Env → Rs (List D)} (hr : CaD Γ r f) (ha : EA Γ fr t ma) : EV Γ fr (tCB r t) (aF f ma) := fun σ ρ G S c Q p => by
  refine ha.step c p fun dx ρ1 x G1 S1 _ c1 hx p1 => ?_
  obtain ⟨dz, hf, p3⟩ := p1.giveO
  exact hr G1 S1 x dx dz c1.dom hx hf Q fun v G3 e3 hv => p3.give (hide_ext e3) (c1.ext e3) hv

def dIsN : D → Option D
  | .non => some (.bl true)
  | _ => some (.bl false)
def dNotN : D → Option D
  | .non => some (.bl false)
  | _ => some (.bl true)
/-! ### displays -/
def dTup (l : List D) : Option D := if l.length ≤ 1000000 then some (.tup l) else none
def dLst (l : List D) : Option D := if l.length ≤ 1000000 then some (.lst l) else none
theorem size_ok {n : Nat} (h : n ≤ 1000000) : n ≤ sizeLine := Nat.le_trans h (by decide)
theorem dTup_of {l : List D} {d : D} (h : dTup l = some d) : l.length ≤ 1000000 ∧ d = .tup l := by
  unfold dTup at h
  split at h
  · rename_i hl; exact ⟨hl, (Option.some.inj h).symm⟩
  · cases h
theorem dLst_of {l : List D} {d : D} (h : dLst l = some d) : l.length ≤ 1000000 ∧ d = .lst l := by
  unfold dLst at h
  split at h
  · rename_i hl; exact ⟨hl, (Option.some.inj h).symm⟩
  · cases h
theorem ev_tup {t : TA} {ma : Env → Rs (List D)} (ha : EA Γ fr t ma) : EV Γ fr (tTup t) (aF dTup ma) := fun σ ρ G S c Q p => by
  refine ha.step c p fun dx ρ1 x G1 S1 _ c1 hx p1 => ?_
  obtain ⟨dz, hf, p3⟩ := p1.giveO
  obtain ⟨hl, rfl⟩ := dTup_of hf
  refine ⟨size_ok (by rw [hx.length]; exact hl), fun q hq => ?_⟩
  exact p3.give (hide_ext (same_upd hq)) (c1.ext (same_upd hq)) (.tup (SqT.of (c1.hideNew hq)) (hx.le (hide_ext (same_upd hq))))
theorem ev_lst {t : TA} {ma : Env → Rs (List D)} (ha : EA Γ fr t ma) : EV Γ fr (tLst t) (aF dLst ma) := fun σ ρ G S c Q p => by
  refine ha.step c p fun dx ρ1 x G1 S1 _ c1 hx p1 => ?_
  obtain ⟨dz, hf, p3⟩ := p1.giveO
  obtain ⟨hl, rfl⟩ := dLst_of hf
  refine ⟨size_ok (by rw [hx.length]; exact hl), fun q hq => ?_⟩
  exact p3.give (hide_ext (same_upd hq)) (c1.ext (same_upd hq)) (.lst (c1.hideNew hq) (hx.le (hide_ext (same_upd hq))))

/-! ### tests and truth -/
def tfB (m : Env → Rs D) : Env → Rs Bool := fun ρ => (m ρ).bind fun d ρ1 => match d with
  | .bl b => .ok b ρ1
  | _ => .stuck
def truthD : D → Option Bool
  | .non => some false
  | .bl b => some b
  | .int i => some (i != 0)
  | .str s => if s.length ≤ 1000000 then some ((s.length : Int) != 0) else none
  | .tup l => some !l.isEmpty
  | .lst l => some !l.isEmpty
  | _ => none
def tfT (m : Env → Rs D) : Env → Rs Bool := fun ρ => (m ρ).bind fun d ρ1 => Rs.ofOpt (truthD d) ρ1
def tfAnd (a b : Env → Rs Bool) : Env → Rs Bool := fun ρ => (a ρ).bind fun x ρ1 => if x = true then b ρ1 else .ok false ρ1
def tfOr (a b : Env → Rs Bool) : Env → Rs Bool := fun ρ => (a ρ).bind fun x ρ1 => if x = true then .ok true ρ1 else b ρ1
def tfNot (a : Env → Rs Bool) : Env → Rs Bool := fun ρ => (a ρ).bind fun x ρ1 => .ok (!x) ρ1
theorem et_test (h : EV Γ fr te m) : ET Γ fr (tTest te) (tfB m) := fun σ ρ G S c Q p => by
  refine h.step c p fun d ρ1 x G1 S1 _ c1 hx p1 => ?_
  cases hx with
  | bl b => exact ⟨b, rfl, p1.give (Same.refl _) c1 rfl⟩
  | _ => exact p1.elim
theorem et_B (h : EV Γ fr te m) : ET Γ fr (tB te) (tfB m) := fun σ ρ G S c Q p => by
  refine h.step c p fun d ρ1 x G1 S1 _ c1 hx p1 => ?_
  cases hx with
  | bl b => exact ⟨b, rfl, p1.give (Same.refl _) c1 rfl⟩
  | _ => exact p1.elim
theorem isEmpty_len {α β : Type} {l : List α} {k : List β} (h : l.length = k.length) : l.isEmpty = k.isEmpty := by
  cases l with
  | nil => cases k with
    | nil => rfl
    | cons => simp at h
  | cons => cases k with
    | nil => simp at h
    | cons => rfl
theorem truV_of {H : Hp} {x : V} {d : D} {b : Bool} (h : IsD Γ H x d) (e : truthD d = some b) {G : Hp} (le : Same H G) : TruV Γ.K x G b := by
  cases h with
  | non => exact (Option.some.inj e).symm
  | bl b => exact (Option.some.inj e).symm
  | int i => exact (Option.some.inj e).symm
  | str s =>
    have e' : (if s.length ≤ 1000000 then some ((s.length : Int) != 0) else none) = some b := e
    by_cases hl : s.length ≤ 1000000
    · rw [if_pos hl] at e'
      exact ⟨size_ok hl, (Option.some.inj e').symm⟩
    · rw [if_neg hl] at e'
      cases e'
  | tup h1 h2 =>
    refine .inr (.inl ⟨_, sqT_mono le h1, ?_⟩)
    rw [isEmpty_len h2.length]
    exact (Option.some.inj e).symm
  | lst h1 h2 =>
    refine .inl ⟨_, SqL.of (le _ _ h1), ?_⟩
    rw [isEmpty_len h2.length]
    exact (Option.some.inj e).symm
  | scr _ => cases e
  | ins _ _ _ => cases e
  | dic _ _ _ _ => cases e
  | exv _ _ _ => cases e
theorem et_tru (h : EV Γ fr te m) : ET Γ fr (fun σ H Q => te σ H fun x H' => ∃ k, TruV Γ.K x H' k ∧ Q k H') (tfT m) := fun σ ρ G S c Q p => by
  refine h.step c p fun d ρ1 x G1 S1 _ c1 hx p1 => ?_
  obtain ⟨b, hf, p3⟩ := p1.giveO
  exact ⟨b, truV_of hx hf hide_le, p3.give (Same.refl _) c1 rfl⟩
variable {tt tu : TT} {mt mu : Env → Rs Bool}
theorem et_and (h1 : ET Γ fr tt mt) (h2 : ET Γ fr tu mu) : ET Γ fr (tAnd tt tu) (tfAnd mt mu) := fun σ ρ G S c Q p => by
  refine h1.step c p fun d ρ1 x G1 S1 _ c1 hx p1 => ?_
  subst hx
  cases x with
  | true => exact h2 σ ρ1 G1 S1 c1 Q p1
  | false => exact p1.give (Same.refl _) c1 rfl
theorem et_or (h1 : ET Γ fr tt mt) (h2 : ET Γ fr tu mu) : ET Γ fr (tOr tt tu) (tfOr mt mu) := fun σ ρ G S c Q p => by
  refine h1.step c p fun d ρ1 x G1 S1 _ c1 hx p1 => ?_
  subst hx
  cases x with
  | true => exact p1.give (Same.refl _) c1 rfl
  | false => exact h2 σ ρ1 G1 S1 c1 Q p1
theorem et_not (h1 : ET Γ fr tt mt) : ET Γ fr (tNot tt) (tfNot mt) := fun σ ρ G S c Q p => by
  refine h1.step c p fun d ρ1 x G1 S1 _ c1 hx p1 => ?_
  subst hx
  exact p1.give (Same.refl _) c1 rfl
/-- and, or, not as values: truth values -/
def eAnd (a b : Env → Rs D) : Env → Rs D := fun ρ => (a ρ).bind fun x ρ1 => match x with
  | .bl true => b ρ1
  | .bl false => .ok (.bl false) ρ1
  | _ => .stuck
def eOr (a b : Env → Rs D) : Env → Rs D := fun ρ => (a ρ).bind fun x ρ1 => match x with
  | .bl true => .ok (.bl true) ρ1
  | .bl false => b ρ1
  | _ => .stuck
def eNot (a : Env → Rs D) : Env → Rs D := fun ρ => (a ρ).bind fun x ρ1 => match x with
  | .bl b => .ok (.bl !b) ρ1
  | _ => .stuck
def eIf (t : Env → Rs Bool) (a b : Env → Rs D) : Env → Rs D := fun ρ => (t ρ).bind fun x ρ1 => if x = true then a ρ1 else b ρ1
theorem ev_andV (h1 : EV Γ fr ta ma) (h2 : EV Γ fr tb mb) : EV Γ fr (tAndV ta tb) (eAnd ma mb) := fun σ ρ G S c Q p => by
  refine h1.step c p fun d ρ1 x G1 S1 _ c1 hx p1 => ?_
  cases hx with
  | bl b => cases b with
    | true => exact ⟨true, rfl, h2 σ ρ1 G1 S1 c1 Q p1⟩
    | false => exact ⟨false, rfl, p1.give (Same.refl _) c1 (.bl false)⟩
  | _ => exact p1.elim
theorem ev_orV (h1 : EV Γ fr ta ma) (h2 : EV Γ fr tb mb) : EV Γ fr (tOrV ta tb) (eOr ma mb) := fun σ ρ G S c Q p => by
  refine h1.step c p fun d ρ1 x G1 S1 _ c1 hx p1 => ?_
  cases hx with
  | bl b => cases b with
    | true => exact ⟨true, rfl, p1.give (Same.refl _) c1 (.bl true)⟩
    | false => exact ⟨false, rfl, h2 σ ρ1 G1 S1 c1 Q p1⟩
  | _ => exact p1.elim
theorem ev_notV (h1 : EV Γ fr ta ma) : EV Γ fr (tNotV ta) (eNot ma) := fun σ ρ G S c Q p => by
  refine h1.step c p fun d ρ1 x G1 S1 _ c1 hx p1 => ?_
  cases hx with
  | bl b => exact ⟨b, rfl, p1.give (Same.refl _) c1 (.bl !b)⟩
  | _ => exact p1.elim
theorem ev_if (h : ET Γ fr tt mt) (h1 : EV Γ fr ta ma) (h2 : EV Γ fr tb mb) : EV Γ fr (tIf tt ta tb) (eIf mt ma mb) := fun σ ρ G S c Q p => by
  refine h.step c p fun d ρ1 x G1 S1 _ c1 hx p1 => ?_
  subst hx
  cases x with
  | true => exact h1 σ ρ1 G1 S1 c1 Q p1
  | false => exact h2 σ ρ1 G1 S1 c1 Q p1
theorem ev_isN (h1 : EV Γ fr ta ma) : EV Γ fr (tIsN ta) (eUn dIsN ma) := fun σ ρ G S c Q p => by
  refine h1.step c p fun d ρ1 x G1 S1 _ c1 hx p1 => ?_
  cases hx with
  | non => exact PostG.give (d := D.bl true) p1 (Same.refl _) c1 (.bl true)
  | _ => exact PostG.give (d := D.bl false) p1 (Same.refl _) c1 (.bl false)
theorem ev_notN (h1 : EV Γ fr ta ma) : EV Γ fr (tNotN ta) (eUn dNotN ma) := fun σ ρ G S c Q p => by
  refine h1.step c p fun d ρ1 x G1 S1 _ c1 hx p1 => ?_
  cases hx with
  | non => exact PostG.give (d := D.bl false) p1 (Same.refl _) c1 (.bl false)
  | _ => exact PostG.give (d := D.bl true) p1 (Same.refl _) c1 (.bl true)
end
end Py

set_option Elab.async false
set_option linter.all false
set_option maxRecDepth 100000
set_option maxHeartbeats 2000000
namespace Py
open PySem L2

/-! ## 4. Operators -/
theorem OpR_or {X : Cx} {f : Value → Value → Sem Value} {r r' : R2} (h : OpR X f r) (h' : OpR X f r') : OpR X f (fun x y H Q => r x y H Q ∨ r' x y H Q) := by
  intro pins s σ H x y v u Q I rx ry q
  rcases q with q | q
  · exact h pins s σ H x y v u Q I rx ry q
  · exact h' pins s σ H x y v u Q I rx ry q
def rOr (r r' : R2) : R2 := fun x y H Q => r x y H Q ∨ r' x y H Q
def rAddX (K : PySem.W.Frag) : R2 := rOr (rI0 fun i j => .int (i + j)) (rOr rCat (rOr (rCatA K) (fun x y H Q => ∃ i j, x = .str i ∧ y = .str j ∧ i.length + j.length ≤ sizeLine ∧ Q (.str (i ++ j)) H)))
theorem opx_add {X : Cx} : OpR X (binaryOp .Add) (rAddX X.K) := OpR_or op_add (OpR_or op_cat (OpR_or op_catA op_add_str))
def bits (n : Int) : Nat := n.natAbs.log2
/-- a text so many times -/
def rMulS : R2 := fun x y H Q => ∃ a n, x = .str a ∧ y = .int n ∧ PySem.MulOk a n ∧ Q (.str (PySem.Txt.mul a n)) H
theorem op_mulS {X : Cx} : OpR X (binaryOp .Mult) rMulS := by
  intro pins s σ H x y v u Q I rx ry h
  obtain ⟨a, n, rfl, rfl, ok, q⟩ := h
  obtain ⟨t, rfl⟩ := rx
  obtain ⟨t', rfl⟩ := ry
  exact PySem.SB.mul ok fun t2 k => ⟨.str (PySem.Txt.mul a n), H, I.tok k, ⟨_, rfl⟩, q⟩
def rMulX : R2 := rOr (rI CMulW fun i j => .int (i * j)) (rOr rRep rMulS)
theorem opx_mul {X : Cx} : OpR X (binaryOp .Mult) rMulX := OpR_or op_mulW (OpR_or op_rep op_mulS)
def CDivX (_ j : Int) : Prop := j ≠ 0 ∧ bits j < 9000
open PyProof.Rows in
theorem opx_fdiv {X : Cx} : OpR X (binaryOp .FloorDiv) (rI CDivX fun i j => .int (i.fdiv j)) := opI fun i j _ _ _ _ _ hc q => floordiv_int hc.1 q (.inl (PyProof.noPylong_of_log2 hc.2))
def CPowX (i j : Int) : Prop := 0 ≤ j ∧ j ≤ 1000000 ∧ (i.natAbs < 2 ^ 64 ∨ (Builtin.Int.intBits i : Int) * j ≤ 2 ^ 27)
open PyProof.Rows in
theorem opx_pow {X : Cx} : OpR X (binaryOp .Pow) (rI CPowX fun i j => .int (i ^ j.toNat)) := opI fun i j _ _ _ _ _ hc q => by
  obtain ⟨h1, h2, h3 | h3⟩ := hc
  · exact pow_int_small h1 h2 h3 q
  · exact pow_int h1 h3 q

def dAdd : D → D → Option D
  | .int i, .int j => some (.int (i + j))
  | .lst l, .lst m => if l.length + m.length ≤ 1000000 then some (.lst (l ++ m)) else none
  | .tup l, .tup m => if l.length + m.length ≤ 1000000 then some (.tup (l ++ m)) else none
  | .str x, .str y => if x.length + y.length ≤ 1000000 then some (.str (x ++ y)) else none
  | _, _ => none
def dSub : D → D → Option D
  | .int i, .int j => some (.int (i - j))
  | _, _ => none
def dMul : D → D → Option D
  | .int i, .int j => if bits i + bits j < 1000000 then some (.int (i * j)) else none
  | .lst l, .int k => if k < 1000000 ∧ -1000000 < k ∧ l.length * k.toNat ≤ 1000000 then some (.lst (List.replicate k.toNat l).flatten) else none
  | .str a, .int k => if a.length ≤ 1000 ∧ k ≤ 1000 ∧ -1000000 < k then some (.str (PySem.Txt.mul a k)) else none
  | _, _ => none
def dFdiv : D → D → Option D
  | .int i, .int j => if j ≠ 0 ∧ bits j < 9000 then some (.int (i.fdiv j)) else none
  | _, _ => none
def dMod : D → D → Option D
  | .int i, .int j => if j ≠ 0 then some (.int (i.fmod j)) else none
  | _, _ => none
def dPow : D → D → Option D
  | .int i, .int j => if 0 ≤ j ∧ j ≤ 1000000 ∧ i.natAbs < 2 ^ 64 then some (.int (i ^ j.toNat)) else none
  | _, _ => none
def dBAnd : D → D → Option D
  | .int i, .int j => some (.int (Builtin.bitAnd i j))
  | _, _ => none
def dBOr : D → D → Option D
  | .int i, .int j => some (.int (Builtin.bitOr i j))
  | _, _ => none
def dShr : D → D → Option D
  | .int i, .int j => if 0 ≤ j then some (.int (i / 2 ^ j.toNat)) else none
  | _, _ => none
def dShl : D → D → Option D
  | .int i, .int j => if 0 ≤ j ∧ j ≤ 1000000 ∧ i.natAbs < 2 ^ 64 then some (.int (i * 2 ^ j.toNat)) else none
  | _, _ => none
def dNeg : D → Option D
  | .int i => some (.int (-i))
  | _ => none
def dLt : D → D → Option D
  | .int i, .int j => some (.bl (decide (i < j)))
  | _, _ => none
def dLe : D → D → Option D
  | .int i, .int j => some (.bl (decide (i ≤ j)))
  | _, _ => none
def dGt : D → D → Option D
  | .int i, .int j => some (.bl (decide (j < i)))
  | _, _ => none
def dGe : D → D → Option D
  | .int i, .int j => some (.bl (decide (j ≤ i)))
  | _, _ => none

section
variable {Γ : Gm}
theorem opD_I0 {g : Int → Int → V} {f : D → D → Option D} {f' : Int → Int → D} (h : ∀ a b d, f a b = some d → ∃ i j, a = .int i ∧ b = .int j ∧ d = f' i j) (hg : ∀ i j H, IsD Γ H (g i j) (f' i j)) : OpD Γ (rI0 g) f := fun G S x y dx dy dz dom hx hy e Q q => by
  obtain ⟨i, j, rfl, rfl, rfl⟩ := h _ _ _ e
  cases hx
  cases hy
  exact ⟨i, j, rfl, rfl, q _ G (Same.refl _) (hg _ _ _)⟩
theorem opD_I {C : Int → Int → Prop} {g : Int → Int → V} {f : D → D → Option D} {f' : Int → Int → D} (h : ∀ a b d, f a b = some d → ∃ i j, a = .int i ∧ b = .int j ∧ C i j ∧ d = f' i j) (hg : ∀ i j H, IsD Γ H (g i j) (f' i j)) : OpD Γ (rI C g) f := fun G S x y dx dy dz dom hx hy e Q q => by
  obtain ⟨i, j, rfl, rfl, c, rfl⟩ := h _ _ _ e
  cases hx
  cases hy
  exact ⟨i, j, rfl, rfl, c, q _ G (Same.refl _) (hg _ _ _)⟩
theorem opd_sub : OpD Γ (rI0 fun i j => .int (i - j)) dSub := opD_I0 (f' := fun i j => .int (i - j)) (fun a b d h => by
  cases a <;> cases b <;> first | exact ⟨_, _, rfl, rfl, (Option.some.inj h).symm⟩ | cases h) fun i j H => .int _
theorem opd_lt : OpD Γ (rI0 fun i j => .bl (decide (i < j))) dLt := opD_I0 (f' := fun i j => .bl (decide (i < j))) (fun a b d h => by
  cases a <;> cases b <;> first | exact ⟨_, _, rfl, rfl, (Option.some.inj h).symm⟩ | cases h) fun i j H => .bl _
theorem opd_le : OpD Γ (rI0 fun i j => .bl (decide (i ≤ j))) dLe := opD_I0 (f' := fun i j => .bl (decide (i ≤ j))) (fun a b d h => by
  cases a <;> cases b <;> first | exact ⟨_, _, rfl, rfl, (Option.some.inj h).symm⟩ | cases h) fun i j H => .bl _
theorem opd_gt : OpD Γ (rI0 fun i j => .bl (decide (j < i))) dGt := opD_I0 (f' := fun i j => .bl (decide (j < i))) (fun a b d h => by
  cases a <;> cases b <;> first | exact ⟨_, _, rfl, rfl, (Option.some.inj h).symm⟩ | cases h) fun i j H => .bl _
theorem opd_ge : OpD Γ (rI0 fun i j => .bl (decide (j ≤ i))) dGe := opD_I0 (f' := fun i j => .bl (decide (j ≤ i))) (fun a b d h => by
  cases a <;> cases b <;> first | exact ⟨_, _, rfl, rfl, (Option.some.inj h).symm⟩ | cases h) fun i j H => .bl _
theorem opd_band : OpD Γ (rI0 fun i j => .int (Builtin.bitAnd i j)) dBAnd := opD_I0 (f' := fun i j => .int (Builtin.bitAnd i j)) (fun a b d h => by
  cases a <;> cases b <;> first | exact ⟨_, _, rfl, rfl, (Option.some.inj h).symm⟩ | cases h) fun i j H => .int _
theorem opd_bor : OpD Γ (rI0 fun i j => .int (Builtin.bitOr i j)) dBOr := opD_I0 (f' := fun i j => .int (Builtin.bitOr i j)) (fun a b d h => by
  cases a <;> cases b <;> first | exact ⟨_, _, rfl, rfl, (Option.some.inj h).symm⟩ | cases h) fun i j H => .int _
theorem ite_some {α : Type} {c : Prop} [Decidable c] {a d : α} (h : (if c then some a else none) = some d) : c ∧ d = a := by
  by_cases hc : c
  · rw [if_pos hc] at h
    exact ⟨hc, (Option.some.inj h).symm⟩
  · rw [if_neg hc] at h
    cases h
theorem opd_fdiv : OpD Γ (rI CDivX fun i j => .int (i.fdiv j)) dFdiv := opD_I (f' := fun i j => .int (i.fdiv j)) (fun a b d h => by
  cases a <;> cases b <;> first | exact ⟨_, _, rfl, rfl, (ite_some h).1, (ite_some h).2⟩ | cases h) fun i j H => .int _
theorem opd_mod : OpD Γ (rI (fun _ j => j ≠ 0) fun i j => .int (i.fmod j)) dMod := opD_I (f' := fun i j => .int (i.fmod j)) (fun a b d h => by
  cases a <;> cases b <;> first | exact ⟨_, _, rfl, rfl, (ite_some h).1, (ite_some h).2⟩ | cases h) fun i j H => .int _
theorem opd_pow : OpD Γ (rI CPowX fun i j => .int (i ^ j.toNat)) dPow := opD_I (f' := fun i j => .int (i ^ j.toNat)) (fun a b d h => by
  cases a <;> cases b <;> first | exact ⟨_, _, rfl, rfl, ⟨(ite_some h).1.1, (ite_some h).1.2.1, .inl (ite_some h).1.2.2⟩, (ite_some h).2⟩ | cases h) fun i j H => .int _
theorem opd_shr : OpD Γ (rI (fun _ j => 0 ≤ j) fun i j => .int (i / 2 ^ j.toNat)) dShr := opD_I (f' := fun i j => .int (i / 2 ^ j.toNat)) (fun a b d h => by
  cases a <;> cases b <;> first | exact ⟨_, _, rfl, rfl, (ite_some h).1, (ite_some h).2⟩ | cases h) fun i j H => .int _
theorem opd_shl : OpD Γ (rI CPow fun i j => .int (i * 2 ^ j.toNat)) dShl := opD_I (f' := fun i j => .int (i * 2 ^ j.toNat)) (fun a b d h => by
  cases a <;> cases b <;> first | exact ⟨_, _, rfl, rfl, (ite_some h).1, (ite_some h).2⟩ | cases h) fun i j H => .int _
theorem und_neg : UnD Γ (rU fun i => .int (-i)) dNeg := fun G S x dx dz dom hx e Q q => by
  cases hx with
  | int i =>
    cases e
    exact ⟨_, rfl, q _ G (Same.refl _) (.int _)⟩
  | _ => cases e

theorem opd_add : OpD Γ (rAddX Γ.K) dAdd := fun G S x y dx dy dz dom hx hy e Q q => by
  have fresh : ∀ {p : Addr}, G p = none → ¬ S p := fun {p} h z => by
    obtain ⟨o, e⟩ := dom p z
    rw [h] at e; cases e
  cases hx with
  | int i =>
    cases hy with
    | int j =>
      cases e
      exact .inl ⟨_, _, rfl, rfl, q _ G (Same.refl _) (.int _)⟩
    | _ => cases e
  | str i =>
    cases hy with
    | str j =>
      obtain ⟨h1, rfl⟩ := ite_some e
      exact .inr (.inr (.inr ⟨_, _, rfl, rfl, size_ok h1, q _ G (Same.refl _) (.str _)⟩))
    | _ => cases e
  | lst hx1 hx2 =>
    cases hy with
    | lst hy1 hy2 =>
      obtain ⟨h1, rfl⟩ := ite_some e
      refine .inr (.inl ⟨_, _, _, _, rfl, rfl, hide_le _ _ hx1, hide_le _ _ hy1, size_ok (by rw [hx2.length, hy2.length]; exact h1), fun p hp => ?_⟩)
      exact q _ _ (same_upd hp) (.lst (hide_of (fresh hp) upd_same) ((hx2.append hy2).le (hide_ext (same_upd hp))))
    | _ => cases e
  | tup hx1 hx2 =>
    cases hy with
    | tup hy1 hy2 =>
      obtain ⟨h1, rfl⟩ := ite_some e
      have t1 := sqT_mono hide_le hx1
      have t2 := sqT_mono hide_le hy1
      refine .inr (.inr (.inl ⟨_, _, _, _, rfl, rfl, t1, t2, size_ok (by rw [hx2.length, hy2.length]; exact h1), fun h0 => ?_, fun h0 h00 => ?_, fun h0 h00 p hp => ?_⟩))
      · subst h0
        cases hx2
        exact q _ G (Same.refl _) (.tup hy1 hy2)
      · subst h00
        cases hy2
        exact q _ G (Same.refl _) (by rw [Ro]; exact .tup hx1 hx2)
      · exact q _ _ (same_upd hp) (.tup (SqT.of (hide_of (fresh hp) upd_same)) ((hx2.append hy2).le (hide_ext (same_upd hp))))
    | _ => cases e
  | _ => cases e
theorem isDs_rep {H : Hp} {xs : List V} {l : List D} (h : IsDs Γ H xs l) : ∀ n : Nat, IsDs Γ H (List.replicate n xs).flatten (List.replicate n l).flatten
  | 0 => .nil
  | n + 1 => by
    rw [Rc, Rc, List.flatten_cons, List.flatten_cons]
    exact h.append (isDs_rep h n)
theorem opd_mul : OpD Γ rMulX dMul := fun G S x y dx dy dz dom hx hy e Q q => by
  have fresh : ∀ {p : Addr}, G p = none → ¬ S p := fun {p} h z => by
    obtain ⟨o, e⟩ := dom p z
    rw [h] at e; cases e
  cases hx with
  | int i =>
    cases hy with
    | int j =>
      obtain ⟨h1, rfl⟩ := ite_some e
      exact .inl ⟨_, _, rfl, rfl, h1, q _ G (Same.refl _) (.int _)⟩
    | _ => cases e
  | lst hx1 hx2 =>
    cases hy with
    | int k =>
      obtain ⟨⟨h1, h2, h3⟩, rfl⟩ := ite_some e
      refine .inr (.inl ⟨_, _, _, rfl, rfl, hide_le _ _ hx1, by omega, by omega, size_ok (by rw [hx2.length]; exact h3), fun p hp => ?_⟩)
      exact q _ _ (same_upd hp) (.lst (hide_of (fresh hp) upd_same) ((isDs_rep hx2 _).le (hide_ext (same_upd hp))))
    | _ => cases e
  | str a =>
    cases hy with
    | int k =>
      obtain ⟨⟨h1, h2, h3⟩, rfl⟩ := ite_some e
      exact .inr (.inr ⟨_, _, rfl, rfl, PyProof.Rows.mulOk_of 1000 1000 h1 h2 (by omega) (by decide) (by decide), q _ G (Same.refl _) (.str _)⟩)
    | _ => cases e
  | _ => cases e

/-! ### items and slices -/
def dIx : D → D → Option D
  | .lst l, .int i => atI l i
  | .tup l, .int i => atI l i
  | .str s, .int i => if s.length ≤ 1000000 then (atI s.cps.toList i).map fun c => .str ⟨#[c]⟩ else none
  | _, _ => none
theorem atI_rel {H : Hp} {xs : List V} {l : List D} {i : Int} {d : D} (h : IsDs Γ H xs l) (e : atI l i = some d) : ∃ v, atI xs i = some v ∧ IsD Γ H v d := by
  unfold atI at e ⊢
  rw [h.length]
  cases hj : ixN l.length i with
  | none => rw [hj] at e; cases e
  | some j =>
    rw [hj] at e
    exact h.get (i := j) e
theorem opd_ix : OpD Γ (rIx Γ.K) dIx := fun G S x y dx dy dz dom hx hy e Q q => by
  cases hx with
  | lst hx1 hx2 =>
    cases hy with
    | int i =>
      obtain ⟨v, h1, h2⟩ := atI_rel hx2 e
      exact .inl ⟨_, _, _, _, rfl, rfl, SqL.of (hide_le _ _ hx1), h1, q _ G (Same.refl _) h2⟩
    | _ => cases e
  | tup hx1 hx2 =>
    cases hy with
    | int i =>
      obtain ⟨v, h1, h2⟩ := atI_rel hx2 e
      exact .inr (.inl ⟨_, _, _, _, rfl, rfl, sqT_mono hide_le hx1, h1, q _ G (Same.refl _) h2⟩)
    | _ => cases e
  | str s =>
    cases hy with
    | int i =>
      have e' : (if s.length ≤ 1000000 then (atI s.cps.toList i).map fun c => D.str ⟨#[c]⟩ else none) = some dz := e
      by_cases hl : s.length ≤ 1000000
      · rw [if_pos hl] at e'
        cases ha : atI s.cps.toList i with
        | none => rw [ha] at e'; cases e'
        | some c =>
          rw [ha] at e'
          cases e'
          exact .inr (.inr ⟨_, _, c, rfl, rfl, size_ok hl, ha, q _ G (Same.refl _) (.str _)⟩)
      · rw [if_neg hl] at e'; cases e'
    | _ => cases e
  | _ => cases e
def cutD (l : List D) (lo hi : Option Int) : List D := (l.drop (HT.sIx l.length 0 lo)).take (HT.sIx l.length l.length hi - HT.sIx l.length 0 lo)
theorem cut_rel {H : Hp} {xs : List V} {l : List D} (h : IsDs Γ H xs l) (lo hi : Option Int) : IsDs Γ H (cutV xs lo hi) (cutD l lo hi) := by
  unfold cutV cutD
  rw [h.length]
  exact (h.drop _).take _
end
/-- a part of a slice -/
def oNone : Env → Rs (Option Int) := fun ρ => .ok none ρ
def oSome (m : Env → Rs D) : Env → Rs (Option Int) := fun ρ => (m ρ).bind fun d ρ1 => match d with
  | .int i => .ok (some i) ρ1
  | _ => .stuck
def eSl (m : Env → Rs D) (a b : Env → Rs (Option Int)) : Env → Rs D := fun ρ => (m ρ).bind fun d ρ1 => (a ρ1).bind fun lo ρ2 => (b ρ2).bind fun hi ρ3 => match d with
  | .lst l => .ok (.lst (cutD l lo hi)) ρ3
  | .tup l => .ok (.tup (cutD l lo hi)) ρ3
  | .str z => if z.length ≤ 1000000 then .ok (.str (cutS z lo hi)) ρ3 else .stuck
  | _ => .stuck
def rSlX (K : PySem.W.Frag) : V → Option Int → Option Int → Hp → VK → Prop := fun x lo hi H Q => rSlL K x lo hi H Q ∨ rSlA K x lo hi H Q ∨ rSlS x lo hi H Q
theorem slx {X : Cx} : SlR X (rSlX X.K) := by
  intro pins s σ H x v vl vu lo hi sl Q I rx hs pl pu h
  rcases h with h | h | h
  · exact sl_list pins s σ H x v vl vu lo hi sl Q I rx hs pl pu h
  · exact sl_tupA pins s σ H x v vl vu lo hi sl Q I rx hs pl pu h
  · exact sl_str pins s σ H x v vl vu lo hi sl Q I rx hs pl pu h
section
variable {Γ : Gm} {fr : Frm} {te : TE} {m : Env → Rs D}
abbrev EO (Γ : Gm) (fr : Frm) (te : TO) (m : Env → Rs (Option Int)) : Prop := EVG (fun _ v d => v = d) Γ fr te m
theorem eo_none : EO Γ fr tNoPart oNone := fun σ ρ G S c Q p => PostG.give p (Same.refl _) c rfl
theorem eo_some (h : EV Γ fr te m) : EO Γ fr (tPart te) (oSome m) := fun σ ρ G S c Q p => by
  refine h.step c p fun d ρ1 x G1 S1 _ c1 hx p1 => ?_
  cases hx with
  | int i => exact ⟨i, rfl, p1.give (Same.refl _) c1 rfl⟩
  | _ => exact p1.elim
theorem ev_sl {tl th : TO} {a b : Env → Rs (Option Int)} (h : EV Γ fr te m) (ha : EO Γ fr tl a) (hb : EO Γ fr th b) : EV Γ fr (tSl (rSlX Γ.K) te tl th) (eSl m a b) := fun σ ρ G S c Q p => by
  refine h.step c p fun d ρ1 x G1 S1 _ c1 hx p1 => ?_
  refine ha.step c1 p1 fun lo ρ2 lo' G2 S2 e2 c2 hlo p2 => ?_
  refine hb.step c2 p2 fun hi ρ3 hi' G3 S3 e3 c3 hhi p3 => ?_
  subst hlo hhi
  have hx3 := (hx.le e2).le e3
  cases hx3 with
  | lst h1 h2 =>
    refine .inl ⟨_, _, rfl, SqL.of (hide_le _ _ h1), fun q hq => ?_⟩
    exact p3.give (hide_ext (same_upd hq)) (c3.ext (same_upd hq)) (.lst (c3.hideNew hq) ((cut_rel h2 _ _).le (hide_ext (same_upd hq))))
  | @tup a xs l h1 h2 =>
    refine .inr (.inl ⟨_, _, rfl, sqT_mono hide_le h1, fun hw => ?_, fun hw q hq => ?_⟩)
    · have e1 : cutD l lo' hi' = l := by
        unfold cutD
        rw [h2.length] at hw
        rw [hw.1, hw.2, List.drop_zero, Nat.sub_zero, List.take_length]
      have p4 : PostG (fun H v d => IsD Γ H v d) Γ fr σ G3 S3 Q (.ok (.tup (cutD l lo' hi')) ρ3) := p3
      rw [e1] at p4
      exact p4.give (Same.refl _) c3 (.tup h1 h2)
    · exact PostG.give (d := D.tup (cutD l lo' hi')) p3 (hide_ext (same_upd hq)) (c3.ext (same_upd hq)) (.tup (SqT.of (c3.hideNew hq)) ((cut_rel h2 _ _).le (hide_ext (same_upd hq))))
  | str z =>
    have p4 : PostG (fun H v d => IsD Γ H v d) Γ fr σ G3 S3 Q (if z.length ≤ 1000000 then .ok (.str (cutS z lo' hi')) ρ3 else .stuck) := p3
    by_cases hl : z.length ≤ 1000000
    · rw [if_pos hl] at p4
      exact .inr (.inr ⟨z, rfl, size_ok hl, p4.give (Same.refl _) c3 (.str _)⟩)
    · rw [if_neg hl] at p4
      exact p4.elim
  | _ => exact p3.elim
end

/-! ### == -/
mutual
def toPy : D → PyData
  | .non => .none
  | .bl b => .bool b
  | .int i => .int i
  | .str s => .str s
  | .tup l => .tuple (toPys l)
  | .lst l => .list (toPys l)
  | .scr _ => .none
  | .ins _ _ _ => .none
  | .dic _ _ => .none
  | .shd _ => .none
  | .exv _ _ _ => .none
def toPys : List D → List PyData
  | [] => []
  | d :: r => toPy d :: toPys r
end
def okD : Nat → D → Bool
  | _, .non => true
  | _, .bl _ => true
  | _, .int _ => true
  | _, .str s => PyData.canLay0 (.str s)
  | n + 1, .tup l => l.all (okD n)
  | n + 1, .lst l => l.all (okD n)
  | _, _ => false
def eqvD (a b : D) : Bool := PyData.eqv (toPy a) (toPy b)
def eqvDs (a b : List D) : Bool := PyData.eqvAll (toPys a) (toPys b)
def dEq (a b : D) : Option D := if (okD 20 a && okD 20 b) = true then some (.bl (eqvD a b)) else none
def dNe (a b : D) : Option D := if (okD 20 a && okD 20 b) = true then some (.bl (!eqvD a b)) else none
section
variable {Γ : Gm} {H : Hp}
mutual
theorem dp_of : ∀ (n : Nat) (d : D) (v : V), okD n d = true → IsD Γ H v d → Dp Γ.K H v (toPy d)
  | n, .non, _, _, h => by cases h; exact .non
  | n, .bl b, _, _, h => by cases h; exact .bl b
  | n, .int i, _, _, h => by cases h; exact .int i
  | n, .str s, _, _, h => by cases h; exact .str s
  | 0, .tup l, _, o, h => by cases o
  | n + 1, .tup l, _, o, h => by
    cases h with
    | tup h1 h2 => exact .tup h1 (dps_of n l _ o h2)
  | 0, .lst l, _, o, h => by cases o
  | n + 1, .lst l, _, o, h => by
    cases h with
    | lst h1 h2 => exact .lst (SqL.of h1) (dps_of n l _ o h2)
  | n, .scr l, _, o, h => by cases n <;> cases o
  | n, .ins c ns l, _, o, h => by cases n <;> cases o
  | n, .dic k d, _, o, h => by cases n <;> cases o
  | n, .shd d, _, o, h => by cases n <;> cases o
  | n, .exv c ns l, _, o, h => by cases n <;> cases o
theorem dps_of : ∀ (n : Nat) (l : List D) (vs : List V), l.all (okD n) = true → IsDs Γ H vs l → DpAll Γ.K H vs (toPys l)
  | n, [], _, _, h => by cases h; exact .nil
  | n, d :: r, _, o, h => by
    rw [List.all_cons, Bool.and_eq_true] at o
    cases h with
    | cons h1 h2 => exact .cons (dp_of n d _ o.1 h1) (dps_of n r _ o.2 h2)
end
mutual
theorem shape_of : ∀ (n : Nat) (d : D), okD n d = true → (toPy d).canLay0 = true ∧ (toPy d).depth ≤ n
  | n, .non, _ => ⟨rfl, Nat.zero_le _⟩
  | n, .bl b, _ => ⟨rfl, Nat.zero_le _⟩
  | n, .int i, _ => ⟨rfl, Nat.zero_le _⟩
  | n, .str s, o => ⟨by cases n <;> exact o, Nat.zero_le _⟩
  | 0, .tup l, o => by cases o
  | n + 1, .tup l, o => by
    have h := shapes_of n l o
    exact ⟨h.1, Nat.succ_le_succ h.2⟩
  | 0, .lst l, o => by cases o
  | n + 1, .lst l, o => by
    have h := shapes_of n l o
    exact ⟨h.1, Nat.succ_le_succ h.2⟩
  | n, .scr l, o => by cases n <;> cases o
  | n, .ins c ns l, o => by cases n <;> cases o
  | n, .dic k d, o => by cases n <;> cases o
  | n, .shd d, o => by cases n <;> cases o
  | n, .exv c ns l, o => by cases n <;> cases o
theorem shapes_of : ∀ (n : Nat) (l : List D), l.all (okD n) = true → PyData.canLayAll0 (toPys l) = true ∧ PyData.depthAll (toPys l) ≤ n
  | n, [], _ => ⟨rfl, Nat.zero_le _⟩
  | n, d :: r, o => by
    rw [List.all_cons, Bool.and_eq_true] at o
    have h1 := shape_of n d o.1
    have h2 := shapes_of n r o.2
    refine ⟨?_, ?_⟩
    · show (PyData.canLay0 (toPy d) && PyData.canLayAll0 (toPys r)) = true
      rw [h1.1, h2.1]; rfl
    · show max (PyData.depth (toPy d)) (PyData.depthAll (toPys r)) ≤ n
      exact Nat.max_le.mpr ⟨h1.2, h2.2⟩
end
theorem shaped_of {d : D} (o : okD 20 d = true) : SeqAt.shaped (toPy d) = true := by
  have h := shape_of 20 d o
  unfold SeqAt.shaped
  rw [h.1, Rw]
  exact decide_eq_true (Nat.le_trans h.2 (by decide))
theorem dp_le {K : PySem.W.Frag} {H H' : Hp} (e : Same H H') {v : V} {d : PyData} (h : Dp K H v d) : Dp K H' v d := by
  refine Dp.rec (motive_1 := fun v d _ => Dp K H' v d) (motive_2 := fun vs ds _ => DpAll K H' vs ds) ?_ ?_ ?_ ?_ ?_ ?_ ?_ ?_ h
  · exact .non
  · exact fun b => .bl b
  · exact fun i => .int i
  · exact fun x => .str x
  · exact fun h1 _ h2 => .lst (e.seq h1) h2
  · exact fun h1 _ h2 => .tup (sqT_mono e h1) h2
  · exact .nil
  · exact fun _ _ h1 h2 => .cons h1 h2
theorem opd_eq : OpD Γ (rEqD Γ.K) dEq := fun G S x y dx dy dz dom hx hy e Q q => by
  obtain ⟨o, rfl⟩ := ite_some e
  rw [Bool.and_eq_true] at o
  exact ⟨_, _, dp_le hide_le (dp_of 20 _ _ o.1 hx), dp_le hide_le (dp_of 20 _ _ o.2 hy), shaped_of o.1, shaped_of o.2, q _ G (Same.refl _) (.bl _)⟩
theorem opd_ne : OpD Γ (rNeD Γ.K) dNe := fun G S x y dx dy dz dom hx hy e Q q => by
  obtain ⟨o, rfl⟩ := ite_some e
  rw [Bool.and_eq_true] at o
  exact ⟨_, _, dp_le hide_le (dp_of 20 _ _ o.1 hx), dp_le hide_le (dp_of 20 _ _ o.2 hy), shaped_of o.1, shaped_of o.2, q _ G (Same.refl _) (.bl _)⟩
end
end Py

set_option Elab.async false
set_option linter.all false
set_option maxRecDepth 100000
set_option maxHeartbeats 2000000
namespace Py
open PySem L2

/-! ## 5. Slots -/
section
variable {Γ : Gm} {fr : Frm} {σ : L2.St} {ρ ρ' : Env} {G G' : Hp} {S S' : Addr → Prop} {i : Nat} {v : V} {d : D}
theorem set_get {α : Type} {l : List α} {i j : Nat} {a b : α} (h : (l.set i a)[j]? = some b) : (j = i ∧ i < l.length ∧ b = a) ∨ (j ≠ i ∧ l[j]? = some b) := by
  by_cases e : j = i
  · subst e
    by_cases hl : j < l.length
    · rw [List.getElem?_set_self hl] at h
      exact .inl ⟨rfl, hl, (Option.some.inj h).symm⟩
    · rw [List.getElem?_eq_none (by simpa using hl)] at h
      cases h
  · rw [List.getElem?_set_ne (Ne.symm e)] at h
    exact .inr ⟨e, h⟩
theorem Co.less (c : Co Γ fr σ ρ G S) (hl : ρ'.length = ρ.length) (h : ∀ (i : Nat) (d : D), ρ'[i]? = some (some d) → ρ[i]? = some (some d)) : Co Γ fr σ ρ' G S where
  len := c.len.trans hl.symm
  dom := c.dom
  sub := c.sub
  keep := c.keep
  pin := c.pin
  hs0 := c.hs0
  xsl := c.xsl
  sh := fun i d h1 h2 => c.sh i d h1 (h i d h2)
  own := fun i d h1 h2 => c.own i d h1 (h i d h2)
  inj := fun i j d e p h1 h2 h3 h4 h5 => c.inj i j d e p h1 h2 h3 (h _ _ h4) (h _ _ h5)
theorem Co.set (c : Co Γ fr σ ρ G S) (hi : i ∉ fr.ow) (hz : fr.hd = false ∨ i ≠ 0) (hq : fr.xok i = true) (h : IsD Γ (hide S G) v d) : Co Γ fr (σ.set i (some v)) (ρ.set i (some d)) G S where
  len := by rw [Rn, Rn]; exact c.len
  dom := c.dom
  sub := c.sub
  keep := c.keep
  pin := fun e => by
    rcases hz with hz | hz
    · rw [hz] at e; cases e
    · rw [List.getElem?_set_ne hz]; exact c.pin e
  hs0 := c.hs0
  xsl := fun q h => ⟨by rw [List.getElem?_set_ne (Ne.symm (Frm.xok_ne hq h))]; exact (c.xsl q h).1, (c.xsl q h).2⟩
  sh := fun j d' h1 h2 => by
    rcases set_get h2 with ⟨rfl, hl, e⟩ | ⟨hne, e⟩
    · cases e
      exact ⟨v, List.getElem?_set_self (by rw [c.len]; exact hl), h⟩
    · obtain ⟨v', h3, h4⟩ := c.sh j d' h1 e
      exact ⟨v', by rw [List.getElem?_set_ne (Ne.symm hne)]; exact h3, h4⟩
  own := fun j d' h1 h2 => by
    have hne : j ≠ i := fun e => hi (e ▸ h1)
    rcases set_get h2 with ⟨e, _⟩ | ⟨_, e⟩
    · exact absurd e hne
    · rw [List.getElem?_set_ne (Ne.symm hne)]
      exact c.own j d' h1 e
  inj := fun j k d' e p h1 h2 h3 h4 h5 h6 h7 => by
    have hj : j ≠ i := fun e => hi (e ▸ h1)
    have hk : k ≠ i := fun e => hi (e ▸ h2)
    rw [List.getElem?_set_ne (Ne.symm hj)] at h4 h6
    rw [List.getElem?_set_ne (Ne.symm hk)] at h5 h7
    exact c.inj j k d' e p h1 h2 h3 h4 h5 h6 h7

/-! ## 6. Statements -/
inductive Out where
  | nx (ρ : Env)
  | ret (d : D) (ρ : Env)
  | brk (ρ : Env)
  | ct (ρ : Env)
  | exc (e : D) (ρ : Env)
  | stuck
def Rs.out {α : Type} (r : Rs α) (f : α → Env → Out) : Out := match r with
  | .ok a ρ => f a ρ
  | .exc e ρ => .exc e ρ
  | .stuck => .stuck
def PostS (Γ : Gm) (fr : Frm) (G : Hp) (S : Addr → Prop) (E : Ends) (r : Out) : Prop := match r with
  | .nx ρ' => ∀ σ' G' S', Same (hide S G) (hide S' G') → Co Γ fr σ' ρ' G' S' → E.nx σ' G'
  | .ret d ρ' => ∀ v σ' G' S', Same (hide S G) (hide S' G') → Co Γ fr σ' ρ' G' S' → IsD Γ (hide S' G') v d → E.rt v G'
  | .brk ρ' => ∀ σ' G' S', Same (hide S G) (hide S' G') → Co Γ fr σ' ρ' G' S' → E.bk σ' G'
  | .ct ρ' => ∀ σ' G' S', Same (hide S G) (hide S' G') → Co Γ fr σ' ρ' G' S' → E.ct σ' G'
  | .exc e ρ' => ∀ cls dx σ' G' S', Same (hide S G) (hide S' G') → Co Γ fr σ' ρ' G' S' → IsX Γ (hide S' G') cls dx e → fr.W cls dx σ' G'
  | .stuck => False
theorem PostS.mono {E : Ends} {r : Out} (e : Same (hide S G) (hide S' G')) (h : PostS Γ fr G S E r) : PostS Γ fr G' S' E r := by
  cases r with
  | nx _ => exact fun a b c e2 => h a b c (e.trans e2)
  | ret _ _ => exact fun a b c d e2 => h a b c d (e.trans e2)
  | brk _ => exact fun a b c e2 => h a b c (e.trans e2)
  | ct _ => exact fun a b c e2 => h a b c (e.trans e2)
  | exc _ _ => exact fun a b c d f e2 => h a b c d f (e.trans e2)
  | stuck => exact h
def SV (Γ : Gm) (fr : Frm) (t : TS) (m : Env → Out) : Prop := ∀ σ ρ G S, Co Γ fr σ ρ G S → ∀ E, PostS Γ fr G S E (m ρ) → t E σ G
theorem EVG.stepS {α β : Type} {R : Hp → β → α → Prop} {te : L2.St → Hp → (β → Hp → Prop) → Prop} {m : Env → Rs α} {f : α → Env → Out} {E : Ends} {Q1 : β → Hp → Prop}
    (h : EVG R Γ fr te m) (c : Co Γ fr σ ρ G S) (p : PostS Γ fr G S E ((m ρ).out f))
    (k : ∀ d ρ' v G' S', Same (hide S G) (hide S' G') → Co Γ fr σ ρ' G' S' → R (hide S' G') v d → PostS Γ fr G' S' E (f d ρ') → Q1 v G') : te σ G Q1 := by
  refine h σ ρ G S c Q1 ?_
  generalize m ρ = r at p ⊢
  cases r with
  | ok d ρ' => exact fun v G' S' e c' r => k d ρ' v G' S' e c' r (PostS.mono e p)
  | exc x ρ' => exact fun cls dx G' S' e c' r => p cls dx σ G' S' e c' r
  | stuck => exact p

variable {te : TE} {m : Env → Rs D} {t u : TS} {a b : Env → Out} {E : Ends}
def sNext : Env → Out := fun ρ => .nx ρ
def sBrk : Env → Out := fun ρ => .brk ρ
def sCt : Env → Out := fun ρ => .ct ρ
def sSeq (a b : Env → Out) : Env → Out := fun ρ => match a ρ with
  | .nx ρ1 => b ρ1
  | r => r
def sExpr (m : Env → Rs D) : Env → Out := fun ρ => (m ρ).out fun _ ρ1 => .nx ρ1
def sSet (i : Nat) (m : Env → Rs D) : Env → Out := fun ρ => (m ρ).out fun d ρ1 => .nx (ρ1.set i (some d))
def sRet (m : Env → Rs D) : Env → Out := fun ρ => (m ρ).out fun d ρ1 => .ret d ρ1
def sRetN : Env → Out := fun ρ => .ret .non ρ
def sIf (t : Env → Rs Bool) (a b : Env → Out) : Env → Out := fun ρ => (t ρ).out fun x ρ1 => if x = true then a ρ1 else b ρ1
theorem sv_next : SV Γ fr tNext sNext := fun σ ρ G S c E p => p σ G S (Same.refl _) c
theorem sv_brk : SV Γ fr tBreak sBrk := fun σ ρ G S c E p => p σ G S (Same.refl _) c
theorem sv_ct : SV Γ fr tCont sCt := fun σ ρ G S c E p => p σ G S (Same.refl _) c
theorem sv_seq (h1 : SV Γ fr t a) (h2 : SV Γ fr u b) : SV Γ fr (tSeq t u) (sSeq a b) := fun σ ρ G S c E p => by
  refine h1 σ ρ G S c { E with nx := u E } ?_
  unfold sSeq at p
  generalize a ρ = r at p ⊢
  cases r with
  | nx ρ1 => exact fun σ' G' S' e c' => h2 σ' ρ1 G' S' c' E (PostS.mono e p)
  | ret _ _ => exact p
  | brk _ => exact p
  | ct _ => exact p
  | exc _ _ => exact p
  | stuck => exact p
theorem sv_expr (h : EV Γ fr te m) : SV Γ fr (tDrop te) (sExpr m) := fun σ ρ G S c E p => by
  refine h.stepS c p fun d ρ1 x G1 S1 _ c1 _ p1 => ?_
  exact p1 σ G1 S1 (Same.refl _) c1
theorem sv_set (h : EV Γ fr te m) (hi : fr.notOwn i = true := by rfl) (hz : fr.hd = false ∨ i ≠ 0 := by first | exact Or.inl rfl | exact Or.inr (by decide)) (hq : fr.xok i = true := by rfl) : SV Γ fr (tAsg te (gName i)) (sSet i m) := fun σ ρ G S c E p => by
  refine h.stepS c p fun d ρ1 x G1 S1 _ c1 hx p1 => ?_
  exact p1 _ G1 S1 (Same.refl _) (c1.set (nown hi) hz hq hx)
theorem sv_ret (h : EV Γ fr te m) : SV Γ fr (tRet te) (sRet m) := fun σ ρ G S c E p => by
  refine h.stepS c p fun d ρ1 x G1 S1 _ c1 hx p1 => ?_
  exact p1 x σ G1 S1 (Same.refl _) c1 hx
theorem sv_retN : SV Γ fr tRetN sRetN := fun σ ρ G S c E p => p .non σ G S (Same.refl _) c .non
theorem sv_if {tt : TT} {mt : Env → Rs Bool} (h : ET Γ fr tt mt) (h1 : SV Γ fr t a) (h2 : SV Γ fr u b) : SV Γ fr (tIfS tt t u) (sIf mt a b) := fun σ ρ G S c E p => by
  refine h.stepS c p fun d ρ1 x G1 S1 _ c1 hx p1 => ?_
  subst hx
  cases x with
  | true => exact h1 σ ρ1 G1 S1 c1 E p1
  | false => exact h2 σ ρ1 G1 S1 c1 E p1
theorem sv_never : SV Γ fr tNever (fun _ => .stuck) := fun σ ρ G S c E p => p.elim

/-! ### targets -/
def Agree (ks : List Nat) (σ σ' : L2.St) : Prop := σ'.length = σ.length ∧ ∀ i, i ∉ ks → σ'[i]? = σ[i]?
def GV (Γ : Gm) (fr : Frm) (ks : List Nat) (g : TG) (mg : D → Env → Option Env) : Prop := ∀ σ ρ G S v d, Co Γ fr σ ρ G S → IsD Γ (hide S G) v d → ∀ ρ', mg d ρ = some ρ' → ∀ Q : L2.St → Hp → Prop, (∀ σ' G' S', Agree ks σ σ' → Same (hide S G) (hide S' G') → Co Γ fr σ' ρ' G' S' → Q σ' G') → g v σ G Q
def GsV (Γ : Gm) (fr : Frm) (ks : List Nat) (g : TGs) (mg : List D → Env → Option Env) : Prop := ∀ σ ρ G S v d, Co Γ fr σ ρ G S → IsDs Γ (hide S G) v d → ∀ ρ', mg d ρ = some ρ' → ∀ Q : L2.St → Hp → Prop, (∀ σ' G' S', Agree ks σ σ' → Same (hide S G) (hide S' G') → Co Γ fr σ' ρ' G' S' → Q σ' G') → g v σ G Q
def nmG (i : Nat) : D → Env → Option Env := fun d ρ => some (ρ.set i (some d))
def nilG : List D → Env → Option Env := fun l ρ => match l with
  | [] => some ρ
  | _ => none
def consG (a : D → Env → Option Env) (b : List D → Env → Option Env) : List D → Env → Option Env := fun l ρ => match l with
  | d :: r => (a d ρ).bind (b r)
  | [] => none
def tupG (n : Nat) (b : List D → Env → Option Env) : D → Env → Option Env := fun d ρ => match d with
  | .tup l => if l.length = n then b l ρ else none
  | _ => none
theorem gv_name (hi : fr.notOwn i = true := by rfl) (hz : fr.hd = false ∨ i ≠ 0 := by first | exact Or.inl rfl | exact Or.inr (by decide)) (hq : fr.xok i = true := by rfl) : GV Γ fr [i] (gName i) (nmG i) := fun σ ρ G S v d c h ρ' e Q q => by
  cases e
  exact q _ G S ⟨by rw [Rn], fun j hj => List.getElem?_set_ne (fun e => hj (by rw [e]; exact List.mem_singleton.mpr rfl))⟩ (Same.refl _) (c.set (nown hi) hz hq h)
theorem gs_nil : GsV Γ fr [] gNil nilG := fun σ ρ G S v d c h ρ' e Q q => by
  cases h with
  | nil =>
    cases e
    exact ⟨rfl, q σ G S ⟨rfl, fun _ _ => rfl⟩ (Same.refl _) c⟩
  | cons _ _ => cases e
theorem gs_cons {k1 k2 : List Nat} {g : TG} {gs : TGs} {mg : D → Env → Option Env} {mgs : List D → Env → Option Env} (h1 : GV Γ fr k1 g mg) (h2 : GsV Γ fr k2 gs mgs) : GsV Γ fr (k1 ++ k2) (gCons g gs) (consG mg mgs) := fun σ ρ G S v d c h ρ' e Q q => by
  cases h with
  | nil => cases e
  | cons r1 r2 =>
    rename_i v0 vs d0 ds
    have e' : (mg d0 ρ).bind (mgs ds) = some ρ' := e
    cases hm : mg d0 ρ with
    | none => rw [hm] at e'; cases e'
    | some ρ1 =>
      rw [hm] at e'
      refine ⟨_, _, rfl, h1 σ ρ G S _ _ c r1 ρ1 hm _ fun σ1 G1 S1 a1 e1 c1 => ?_⟩
      exact h2 σ1 ρ1 G1 S1 _ _ c1 (r2.le e1) ρ' e' _ fun σ2 G2 S2 a2 e2 c2 => q σ2 G2 S2 ⟨a2.1.trans a1.1, fun i hi => (a2.2 i fun z => hi (List.mem_append_right _ z)).trans (a1.2 i fun z => hi (List.mem_append_left _ z))⟩ (e1.trans e2) c2
theorem gv_tup {ks : List Nat} {n : Nat} {gs : TGs} {mgs : List D → Env → Option Env} (h2 : GsV Γ fr ks gs mgs) : GV Γ fr ks (gTup Γ.K n gs) (tupG n mgs) := fun σ ρ G S v d c h ρ' e Q q => by
  cases h with
  | tup h3 h4 =>
    rename_i a xs l
    have e' : (if l.length = n then mgs l ρ else none) = some ρ' := e
    by_cases hl : l.length = n
    · rw [if_pos hl] at e'
      exact ⟨_, _, rfl, sqT_mono hide_le h3, h4.length.trans hl, h2 σ ρ G S _ _ c h4 ρ' e' Q q⟩
    · rw [if_neg hl] at e'
      cases e'
  | _ => cases e
/-- targets = e -/
def sAsg (mg : D → Env → Option Env) (m : Env → Rs D) : Env → Out := fun ρ => (m ρ).out fun d ρ1 => match mg d ρ1 with
  | some ρ2 => .nx ρ2
  | none => .stuck
theorem sv_asg {ks : List Nat} {g : TG} {mg : D → Env → Option Env} (hg : GV Γ fr ks g mg) (h : EV Γ fr te m) : SV Γ fr (tAsg te g) (sAsg mg m) := fun σ ρ G S c E p => by
  refine h.stepS c p fun d ρ1 x G1 S1 _ c1 hx p1 => ?_
  cases hm : mg d ρ1 with
  | none =>
    have p2 : PostS Γ fr G1 S1 E (match mg d ρ1 with | some ρ2 => Out.nx ρ2 | none => Out.stuck) := p1
    rw [hm] at p2
    exact p2.elim
  | some ρ2 =>
    have p2 : PostS Γ fr G1 S1 E (match mg d ρ1 with | some ρ2 => Out.nx ρ2 | none => Out.stuck) := p1
    rw [hm] at p2
    exact hg σ ρ1 G1 S1 x d c1 hx ρ2 hm _ fun σ' G' S' _ e c' => p2 σ' G' S' e c'
/-- two names at once -/
def sPar (i j : Nat) (m : Env → Rs (List D)) : Env → Out := fun ρ => (m ρ).out fun ds ρ1 => match ds with
  | [x, y] => .nx ((ρ1.set i (some x)).set j (some y))
  | _ => .stuck
theorem sv_par {j : Nat} {ta : TA} {ma : Env → Rs (List D)} (h : EA Γ fr ta ma) (hi : fr.notOwn i = true := by rfl) (hz : fr.hd = false ∨ i ≠ 0 := by first | exact Or.inl rfl | exact Or.inr (by decide)) (hq : fr.xok i = true := by rfl) (hj : fr.notOwn j = true := by rfl) (hy : fr.hd = false ∨ j ≠ 0 := by first | exact Or.inl rfl | exact Or.inr (by decide)) (hw : fr.xok j = true := by rfl) :
    SV Γ fr (tPar i j ta) (sPar i j ma) := fun σ ρ G S c E p => by
  refine h.stepS c p fun ds ρ1 xs G1 S1 _ c1 hx p1 => ?_
  cases hx with
  | nil => exact p1.elim
  | cons r1 t1 =>
    cases t1 with
    | nil => exact p1.elim
    | cons r2 t2 =>
      cases t2 with
      | nil => exact ⟨_, _, rfl, p1 _ G1 S1 (Same.refl _) ((c1.set (nown hi) hz hq r1).set (nown hj) hy hw r2)⟩
      | cons _ _ => exact p1.elim

/-! ### what is walked -/
def JW (Γ : Gm) (J : It) (ds : List D) (H0 : Hp) : Prop := ∀ (i : Nat) (G : Hp) (S : Addr → Prop), Same H0 (hide S G) → (∀ a, S a → ∃ o, G a = some o) →
  (ds.length ≤ i → J.stop i G) ∧ ∀ d, ds[i]? = some d → J.go i G ∧ ∀ x G', J.yld i G x G' → Same G G' ∧ IsD Γ (hide S G') x d
abbrev IV (Γ : Gm) (fr : Frm) (wi : TI) (m : Env → Rs (List D)) : Prop := EVG (fun H J ds => JW Γ J ds H) Γ fr wi m
def itemsD : D → Option (List D)
  | .lst l => some l
  | .tup l => some l
  | .scr l => some (l.map D.int)
  | .str s => some (s.cps.toList.map fun c => D.str ⟨#[c]⟩)
  | _ => none
def iSeqM (m : Env → Rs D) : Env → Rs (List D) := fun ρ => (m ρ).bind fun d ρ1 => Rs.ofOpt (itemsD d) ρ1
/-- a list, a tuple or a text -/
def iSeq (K : PySem.W.Frag) (tl : TE) : TI := fun σ H R => tl σ H fun x H1 => (∃ a, x = .ref a ∧ (∃ xs, SqL K H1 a xs) ∧ R (Itl K a) H1) ∨ (∃ a, x = .ref a ∧ (∃ xs, SqT K H1 a xs) ∧ R (Itt K a) H1) ∨ ∃ z, x = .str z ∧ R (Its z) H1
open PyProof.Rows in
theorem pi_seq {X : Cx} {tg l : Expr} {tl : TE} (hl : PE X l tl) : PI X tg l (iSeq X.K tl) := by
  constructor
  intro pins s σ H R I h
  refine thn (hl.run pins s σ H _ I h) ?_
  rintro v s1 ⟨x, H1, I1, r1, ⟨a, rfl, ⟨xs, hq⟩, q⟩ | ⟨a, rfl, ⟨xs, hq⟩, q⟩ | ⟨z, rfl, q⟩⟩
  · cases r1
    obtain ⟨its, rv, pl, hz⟩ := I1.list hq
    refine wpAny_pyIter_list pl.isList ?_
    have new : ∀ b ∈ [s1.heap.objs.size], FpOk X pins H1 b := fun b hb => by
      obtain rfl : b = s1.heap.objs.size := by simpa using hb
      exact I1.fpOk (Nat.le_refl _) (I1.hok.fresh (Nat.le_refl _))
    exact ⟨_, [s1.heap.objs.size], _, _, H1, rfl, I1.kept (t' := s1.toks) (fun b o e => Heap.get?_push_of_some _ e), turn_list a _, ⟨_, Heap.get?_push_size _ rfl, rfl, rfl⟩, new, q⟩
  · cases r1
    obtain ⟨its, rv, pl, hz⟩ := I1.tuple hq
    refine wpAny_pyIter_tuple (items := its.toArray) pl ?_
    have new : ∀ b ∈ [s1.heap.objs.size], FpOk X pins H1 b := fun b hb => by
      obtain rfl : b = s1.heap.objs.size := by simpa using hb
      exact I1.fpOk (Nat.le_refl _) (I1.hok.fresh (Nat.le_refl _))
    exact ⟨_, [s1.heap.objs.size], _, _, H1, rfl, I1.kept (t' := s1.toks) (fun b o e => Heap.get?_push_of_some _ e), turn_tuple a _, ⟨_, Heap.get?_push_size _ rfl, rfl, rfl⟩, new, q⟩
  · obtain ⟨t, rfl⟩ := r1
    cases ha : z.cps.all (· < 128) with
    | false => exact wpAny_pyIter_wide ha (pi_one (tk := s1.toks) I1 _ (turn_str _ z t "str_iterator" (.inr rfl)) ⟨_, Heap.get?_push_size _ rfl, rfl, rfl⟩ q)
    | true => exact wpAny_pyIter_ascii ha (pi_one (tk := s1.toks) I1 _ (turn_str _ z t "str_ascii_iterator" (.inl rfl)) ⟨_, Heap.get?_push_size _ rfl, rfl, rfl⟩ q)
theorem jw_list {a : Addr} {xs : List V} {ds : List D} {H0 : Hp} (h : SqL Γ.K H0 a xs) (r : IsDs Γ H0 xs ds) : JW Γ (Itl Γ.K a) ds H0 := fun i G S e dom => by
  have hq : SqL Γ.K G a xs := (e.trans hide_le).seq h
  refine ⟨fun hl => ⟨xs, hq, by rw [r.length]; exact hl⟩, fun d hd => ?_⟩
  obtain ⟨v, hv, hr⟩ := r.get hd
  refine ⟨⟨xs, v, hq, hv⟩, fun x G' y => ?_⟩
  obtain ⟨rfl, y⟩ := y
  have hx := y xs hq
  rw [hv] at hx
  cases hx
  exact ⟨Same.refl _, hr.le e⟩
theorem jw_tup {a : Addr} {xs : List V} {ds : List D} {H0 : Hp} (h : SqT Γ.K H0 a xs) (r : IsDs Γ H0 xs ds) : JW Γ (Itt Γ.K a) ds H0 := fun i G S e dom => by
  have hq : SqT Γ.K G a xs := sqT_mono (e.trans hide_le) h
  refine ⟨fun hl => ⟨xs, hq, by rw [r.length]; exact hl⟩, fun d hd => ?_⟩
  obtain ⟨v, hv, hr⟩ := r.get hd
  refine ⟨⟨xs, v, hq, hv⟩, fun x G' y => ?_⟩
  obtain ⟨rfl, y⟩ := y
  have hx := y xs hq
  rw [hv] at hx
  cases hx
  exact ⟨Same.refl _, hr.le e⟩
theorem iv_seq (h : EV Γ fr te m) : IV Γ fr (iSeq Γ.K te) (iSeqM m) := fun σ ρ G S c Q p => by
  refine h.step c p fun d ρ1 x G1 S1 _ c1 hx p1 => ?_
  cases hx with
  | lst h1 h2 => exact .inl ⟨_, rfl, ⟨_, SqL.of (hide_le _ _ h1)⟩, PostG.give (d := _) p1 (Same.refl _) c1 (jw_list (SqL.of h1) h2)⟩
  | tup h1 h2 => exact .inr (.inl ⟨_, rfl, ⟨_, sqT_mono hide_le h1⟩, PostG.give (d := _) p1 (Same.refl _) c1 (jw_tup h1 h2)⟩)
  | scr h1 => exact .inl ⟨_, rfl, ⟨_, hide_le.seq h1⟩, PostG.give (d := _) p1 (Same.refl _) c1 (jw_list h1 (isDs_ints _))⟩
  | str z =>
    refine .inr (.inr ⟨z, rfl, PostG.give (d := _) p1 (Same.refl _) c1 fun i G S e dom => ⟨fun hl => ?_, fun d hd => ?_⟩⟩)
    · show z.cps.size ≤ i
      rw [Qy, Array.length_toList] at hl
      exact hl
    · rw [List.getElem?_map] at hd
      cases hc : z.cps.toList[i]? with
      | none => rw [hc] at hd; cases hd
      | some k =>
        rw [hc] at hd
        cases hd
        have hlt : i < z.cps.size := by
          have := (List.getElem?_eq_some_iff.mp hc).1
          simpa using this
        refine ⟨hlt, fun x G' y => ?_⟩
        obtain ⟨rfl, k', hk, rfl⟩ := y
        have e2 : z.cps[i]? = some k := by simpa using hc
        rw [e2] at hk
        cases hk
        exact ⟨Same.refl _, .str _⟩
  | _ => exact p1.elim
def rngD (lo hi : Int) : List D := (List.range (hi - lo).toNat).map fun k : Nat => D.int (lo + k)
def rng1M (m : Env → Rs (List D)) : Env → Rs (List D) := fun ρ => (m ρ).bind fun ds ρ1 => match ds with
  | [.int j] => if -(2 ^ 62) ≤ j ∧ j < 2 ^ 62 then .ok (rngD 0 j) ρ1 else .stuck
  | _ => .stuck
def rng2M (m : Env → Rs (List D)) : Env → Rs (List D) := fun ρ => (m ρ).bind fun ds ρ1 => match ds with
  | [.int i, .int j] => if -(2 ^ 62) ≤ i ∧ i < 2 ^ 62 ∧ -(2 ^ 62) ≤ j ∧ j < 2 ^ 62 then .ok (rngD i j) ρ1 else .stuck
  | _ => .stuck
theorem jw_rng {lo : Int} {n : Nat} {H0 : Hp} : JW Γ (Itr lo n) ((List.range n).map fun k : Nat => D.int (lo + k)) H0 := fun i G S e dom => by
  refine ⟨fun hl => ?_, fun d hd => ?_⟩
  · rw [Qy, List.length_range] at hl
    exact hl
  · rw [List.getElem?_map] at hd
    cases hc : (List.range n)[i]? with
    | none => rw [hc] at hd; cases hd
    | some k =>
      rw [hc] at hd
      cases hd
      obtain ⟨h1, h2⟩ := List.getElem?_eq_some_iff.mp hc
      rw [List.length_range] at h1
      rw [List.getElem_range] at h2
      subst h2
      refine ⟨h1, fun x G' y => ?_⟩
      obtain ⟨rfl, rfl⟩ := y
      exact ⟨Same.refl _, .int _⟩
theorem iv_rng1 {ta : TA} {ma : Env → Rs (List D)} (h : EA Γ fr ta ma) : IV Γ fr (iRng1 ta) (rng1M ma) := fun σ ρ G S c Q p => by
  refine h.step c p fun ds ρ1 xs G1 S1 _ c1 hx p1 => ?_
  cases hx with
  | nil => exact p1.elim
  | cons r1 t1 =>
    cases t1 with
    | cons _ _ => cases r1 <;> exact p1.elim
    | nil =>
      cases r1 with
      | int j =>
        have p2 : PostG (fun H J ds => JW Γ J ds H) Γ fr σ G1 S1 Q (if -(2 ^ 62) ≤ j ∧ j < 2 ^ 62 then .ok (rngD 0 j) ρ1 else .stuck) := p1
        by_cases hj : -(2 ^ 62) ≤ j ∧ j < 2 ^ 62
        · rw [if_pos hj] at p2
          refine ⟨j, rfl, hj.1, hj.2, PostG.give p2 (Same.refl _) c1 ?_⟩
          unfold rngD
          rw [Int.sub_zero]
          exact jw_rng
        · rw [if_neg hj] at p2
          exact p2.elim
      | _ => exact p1.elim
theorem iv_rng2 {ta : TA} {ma : Env → Rs (List D)} (h : EA Γ fr ta ma) : IV Γ fr (iRng2 ta) (rng2M ma) := fun σ ρ G S c Q p => by
  refine h.step c p fun ds ρ1 xs G1 S1 _ c1 hx p1 => ?_
  cases hx with
  | nil => exact p1.elim
  | cons r1 t1 =>
    cases t1 with
    | nil => cases r1 <;> exact p1.elim
    | cons r2 t2 =>
      cases t2 with
      | cons _ _ => cases r1 <;> first | exact p1.elim | (cases r2 <;> exact p1.elim)
      | nil =>
        cases r1 with
        | int i =>
          cases r2 with
          | int j =>
            have p2 : PostG (fun H J ds => JW Γ J ds H) Γ fr σ G1 S1 Q (if -(2 ^ 62) ≤ i ∧ i < 2 ^ 62 ∧ -(2 ^ 62) ≤ j ∧ j < 2 ^ 62 then .ok (rngD i j) ρ1 else .stuck) := p1
            by_cases hj : -(2 ^ 62) ≤ i ∧ i < 2 ^ 62 ∧ -(2 ^ 62) ≤ j ∧ j < 2 ^ 62
            · rw [if_pos hj] at p2
              exact ⟨i, j, rfl, hj, PostG.give p2 (Same.refl _) c1 jw_rng⟩
            · rw [if_neg hj] at p2
              exact p2.elim
          | _ => exact p1.elim
        | _ => exact p1.elim

/-! ### for, while -/
def forL (mg : D → Env → Option Env) (mb : Env → Out) : List D → Env → Out
  | [], ρ => .nx ρ
  | d :: ds, ρ => match mg d ρ with
    | none => .stuck
    | some ρ1 => match mb ρ1 with
      | .nx ρ2 => forL mg mb ds ρ2
      | .ct ρ2 => forL mg mb ds ρ2
      | .brk ρ2 => .nx ρ2
      | .ret d ρ2 => .ret d ρ2
      | .exc e ρ2 => .exc e ρ2
      | .stuck => .stuck
def sFor (mi : Env → Rs (List D)) (mg : D → Env → Option Env) (mb : Env → Out) : Env → Out := fun ρ => (mi ρ).out fun ds ρ1 => forL mg mb ds ρ1
theorem sv_for {ks : List Nat} {wi : TI} {g : TG} {mi : Env → Rs (List D)} {mg : D → Env → Option Env} (hi : IV Γ fr wi mi) (hg : GV Γ fr ks g mg) (hb : SV Γ fr t a) : SV Γ fr (tFor wi g t) (sFor mi mg a) := fun σ ρ G S c E p => by
  refine hi.stepS c p fun ds ρ1 J G1 S1 _ c1 hJ p1 => ?_
  refine ⟨fun i k σ' G' => k = ds.length - i ∧ i ≤ ds.length ∧ ∃ ρ' S', Co Γ fr σ' ρ' G' S' ∧ Same (hide S1 G1) (hide S' G') ∧ PostS Γ fr G' S' E (forL mg a (ds.drop i) ρ'), ⟨_, rfl, Nat.zero_le _, ρ1, S1, c1, Same.refl _, p1⟩, ?_⟩
  rintro i k σ2 G2 ⟨rfl, hle, ρ2, S2, c2, e2, p2⟩
  obtain ⟨hstop, hgo⟩ := hJ i G2 S2 e2 c2.dom
  by_cases hlt : i < ds.length
  · have hd : ds[i]? = some ds[i] := List.getElem?_eq_getElem hlt
    obtain ⟨go, yl⟩ := hgo _ hd
    have hdrop : ds.drop i = ds[i] :: ds.drop (i + 1) := List.drop_eq_getElem_cons hlt
    rw [hdrop] at p2
    generalize ds[i] = d at p2 yl
    unfold forL at p2
    cases hm : mg d ρ2 with
    | none => rw [hm] at p2; exact p2.elim
    | some ρ3 =>
      rw [hm] at p2
      refine .inr ⟨go, fun σ' G' => ∃ ρ' S', Co Γ fr σ' ρ' G' S' ∧ Same (hide S1 G1) (hide S' G') ∧ PostS Γ fr G' S' E (forL mg a (ds.drop (i + 1)) ρ'), ?_, ?_⟩
      · rintro σ' G' h
        exact ⟨_, by omega, rfl, hlt, h⟩
      · intro x G3 y
        obtain ⟨e3, hx⟩ := yl x G3 y
        refine hg σ2 ρ2 G3 S2 x d (c2.ext e3) hx ρ3 hm _ fun σ4 G4 S4 _ e4 c4 => ?_
        have e14 : Same (hide S2 G2) (hide S4 G4) := (hide_ext e3).trans e4
        refine hb σ4 ρ3 G4 S4 c4 _ ?_
        have p4 := PostS.mono e14 p2
        have p5 : PostS Γ fr G4 S4 E (match a ρ3 with
          | .nx ρ2 => forL mg a (ds.drop (i + 1)) ρ2
          | .ct ρ2 => forL mg a (ds.drop (i + 1)) ρ2
          | .brk ρ2 => .nx ρ2
          | .ret d ρ2 => .ret d ρ2
          | .exc e ρ2 => .exc e ρ2
          | .stuck => .stuck) := p4
        generalize a ρ3 = r at p5 ⊢
        cases r with
        | nx ρ5 => exact fun σ5 G5 S5 e5 c5 => ⟨ρ5, S5, c5, (e2.trans e14).trans e5, PostS.mono e5 p5⟩
        | ct ρ5 => exact fun σ5 G5 S5 e5 c5 => ⟨ρ5, S5, c5, (e2.trans e14).trans e5, PostS.mono e5 p5⟩
        | brk ρ5 => exact p5
        | ret _ _ => exact p5
        | exc _ _ => exact p5
        | stuck => exact p5
  · have e : ds.drop i = [] := List.drop_eq_nil_of_le (by omega)
    rw [e] at p2
    exact .inl ⟨hstop (by omega), p2 σ2 G2 S2 (Same.refl _) c2⟩

def whN (mt : Env → Rs Bool) (mb : Env → Out) : Nat → Env → Option Out
  | 0, _ => none
  | n + 1, ρ => match mt ρ with
    | .stuck => some .stuck
    | .exc e ρ1 => some (.exc e ρ1)
    | .ok false ρ1 => some (.nx ρ1)
    | .ok true ρ1 => match mb ρ1 with
      | .nx ρ2 => whN mt mb n ρ2
      | .ct ρ2 => whN mt mb n ρ2
      | .brk ρ2 => some (.nx ρ2)
      | .ret d ρ2 => some (.ret d ρ2)
      | .exc e ρ2 => some (.exc e ρ2)
      | .stuck => some .stuck
theorem whN_more {mt : Env → Rs Bool} {mb : Env → Out} : ∀ {n : Nat} {ρ : Env} {r : Out}, whN mt mb n ρ = some r → ∀ k, whN mt mb (n + k) ρ = some r
  | 0, _, _, h, _ => by cases h
  | n + 1, ρ, r, h, k => by
    have ek : n + 1 + k = (n + k) + 1 := by omega
    rw [ek]
    unfold whN at h ⊢
    cases e : mt ρ with
    | stuck => rw [e] at h; exact h
    | exc _ _ => rw [e] at h; exact h
    | ok b ρ1 =>
      rw [e] at h
      cases b with
      | false => exact h
      | true =>
        have h' : (match mb ρ1 with
          | .nx ρ2 => whN mt mb n ρ2
          | .ct ρ2 => whN mt mb n ρ2
          | .brk ρ2 => some (.nx ρ2)
          | .ret d ρ2 => some (.ret d ρ2)
          | .exc e ρ2 => some (.exc e ρ2)
          | .stuck => some .stuck) = some r := h
        show (match mb ρ1 with
          | .nx ρ2 => whN mt mb (n + k) ρ2
          | .ct ρ2 => whN mt mb (n + k) ρ2
          | .brk ρ2 => some (.nx ρ2)
          | .ret d ρ2 => some (.ret d ρ2)
          | .exc e ρ2 => some (.exc e ρ2)
          | .stuck => some .stuck) = some r
        generalize mb ρ1 = q at h' ⊢
        cases q with
        | nx ρ2 => exact whN_more h' k
        | ct ρ2 => exact whN_more h' k
        | brk _ => exact h'
        | ret _ _ => exact h'
        | exc _ _ => exact h'
        | stuck => exact h'
open Classical in
noncomputable def sWhile (mt : Env → Rs Bool) (mb : Env → Out) : Env → Out := fun ρ => if h : ∃ n r, whN mt mb n ρ = some r then Classical.choose (Classical.choose_spec h) else .stuck
theorem sWhile_of {mt : Env → Rs Bool} {mb : Env → Out} {n : Nat} {ρ : Env} {r : Out} (h : whN mt mb n ρ = some r) : sWhile mt mb ρ = r := by
  have hx : ∃ n r, whN mt mb n ρ = some r := ⟨n, r, h⟩
  unfold sWhile
  rw [dif_pos hx]
  have h2 := Classical.choose_spec (Classical.choose_spec hx)
  have h3 := whN_more h (Classical.choose hx)
  have h4 := whN_more h2 n
  rw [Nat.add_comm] at h4
  rw [h4] at h3
  exact Option.some.inj h3
theorem sv_while {tt : TT} {mt : Env → Rs Bool} (h : ET Γ fr tt mt) (hb : SV Γ fr t a) : SV Γ fr (tWhile tt t) (sWhile mt a) := fun σ ρ G S c E p => by
  unfold sWhile at p
  by_cases hx : ∃ n r, whN mt a n ρ = some r
  · rw [dif_pos hx] at p
    have h2 := Classical.choose_spec (Classical.choose_spec hx)
    generalize Classical.choose (Classical.choose_spec hx) = r at p h2
    generalize Classical.choose hx = n at h2
    refine ⟨fun n σ' G' => ∃ ρ' S' r, Co Γ fr σ' ρ' G' S' ∧ whN mt a n ρ' = some r ∧ PostS Γ fr G' S' E r, ⟨n, ρ, S, r, c, h2, p⟩, ?_⟩
    rintro n σ2 G2 ⟨ρ2, S2, r, c2, h2, p2⟩
    cases n with
    | zero => cases h2
    | succ n =>
      unfold whN at h2
      refine h σ2 ρ2 G2 S2 c2 _ ?_
      generalize mt ρ2 = q at h2 ⊢
      cases q with
      | stuck => cases h2; exact p2
      | exc e ρ3 => cases h2; exact fun cls dx G' S' e c r => p2 cls dx σ2 G' S' e c r
      | ok b ρ3 =>
        intro b' G3 S3 e3 c3 eb
        subst eb
        cases b' with
        | false =>
          cases h2
          exact p2 σ2 G3 S3 e3 c3
        | true =>
          refine ⟨fun σ' G' => ∃ ρ' S' r, Co Γ fr σ' ρ' G' S' ∧ whN mt a n ρ' = some r ∧ PostS Γ fr G' S' E r, fun σ' G' h => ⟨n, Nat.lt_succ_self _, h⟩, ?_⟩
          refine hb σ2 ρ3 G3 S3 c3 _ ?_
          have h4 : (match a ρ3 with
            | .nx ρ2 => whN mt a n ρ2
            | .ct ρ2 => whN mt a n ρ2
            | .brk ρ2 => some (.nx ρ2)
            | .ret d ρ2 => some (.ret d ρ2)
            | .exc e ρ2 => some (.exc e ρ2)
            | .stuck => some .stuck) = some r := h2
          generalize a ρ3 = q at h4 ⊢
          cases q with
          | nx ρ5 => exact fun σ5 G5 S5 e5 c5 => ⟨ρ5, S5, r, c5, h4, PostS.mono (e3.trans e5) p2⟩
          | ct ρ5 => exact fun σ5 G5 S5 e5 c5 => ⟨ρ5, S5, r, c5, h4, PostS.mono (e3.trans e5) p2⟩
          | brk ρ5 => cases h4; exact fun σ5 G5 S5 e5 c5 => p2 σ5 G5 S5 (e3.trans e5) c5
          | ret _ _ => cases h4; exact fun v σ5 G5 S5 e5 c5 r5 => p2 v σ5 G5 S5 (e3.trans e5) c5 r5
          | exc _ _ => cases h4; exact fun cls dx σ5 G5 S5 e5 c5 r5 => p2 cls dx σ5 G5 S5 (e3.trans e5) c5 r5
          | stuck => cases h4; exact p2
  · rw [dif_neg hx] at p
    exact p.elim
end
end Py

set_option Elab.async false
set_option linter.all false
set_option maxRecDepth 100000
set_option maxHeartbeats 2000000
namespace Py
open PySem L2

/-! ## 7. Lists of one's own -/
section
variable {Γ : Gm} {fr : Frm} {σ σ' : L2.St} {ρ ρ' : Env} {G G' : Hp} {S S' : Addr → Prop} {i : Nat} {v : V} {d : D} {te : TE} {m : Env → Rs D}

/-- a new list that nothing else names -/
def PostF (Γ : Gm) (fr : Frm) (σ : L2.St) (G : Hp) (S : Addr → Prop) (Q : VK) (r : Rs D) : Prop := match r with
  | .ok d ρ' => ∀ p o G' S', Same (hide S G) (hide S' G') → Co Γ fr σ ρ' G' S' → S' p → G' p = some o → OwnO Γ (hide S' G') p o d → fr.B p = none → ¬ fr.S0 p → (fr.hd = true → p ≠ fr.hp) →
      (∀ i d, i ∈ fr.ow → ρ'[i]? = some (some d) → d.isShd = true ∨ σ[i]? ≠ some (some (.ref p))) → Q (.ref p) G'
  | .exc e ρ' => ∀ cls dx G' S', Same (hide S G) (hide S' G') → Co Γ fr σ ρ' G' S' → IsX Γ (hide S' G') cls dx e → fr.W cls dx σ G'
  | .stuck => False
theorem PostF.mono {Q : VK} {r : Rs D} (e : Same (hide S G) (hide S' G')) (h : PostF Γ fr σ G S Q r) : PostF Γ fr σ G' S' Q r := by
  cases r with
  | ok d ρ' => exact fun p o G2 S2 e2 => h p o G2 S2 (e.trans e2)
  | exc x ρ' => exact fun cls dx G2 S2 e2 => h cls dx G2 S2 (e.trans e2)
  | stuck => exact h
def EVF (Γ : Gm) (fr : Frm) (te : TE) (m : Env → Rs D) : Prop := ∀ σ ρ G S, Co Γ fr σ ρ G S → ∀ Q, PostF Γ fr σ G S Q (m ρ) → te σ G Q
theorem EVG.stepF {α β : Type} {R : Hp → β → α → Prop} {te : L2.St → Hp → (β → Hp → Prop) → Prop} {m : Env → Rs α} {f : α → Env → Rs D} {Q : VK} {Q1 : β → Hp → Prop}
    (h : EVG R Γ fr te m) (c : Co Γ fr σ ρ G S) (p : PostF Γ fr σ G S Q ((m ρ).bind f))
    (k : ∀ d ρ' v G' S', Same (hide S G) (hide S' G') → Co Γ fr σ ρ' G' S' → R (hide S' G') v d → PostF Γ fr σ G' S' Q (f d ρ') → Q1 v G') : te σ G Q1 := by
  refine h σ ρ G S c Q1 ?_
  generalize m ρ = r at p ⊢
  cases r with
  | ok d ρ' => exact fun v G' S' e c' r => k d ρ' v G' S' e c' r (PostF.mono e p)
  | exc x ρ' => exact p
  | stuck => exact p
/-- what is hidden grows by a new address -/
theorem Co.hideMore (c : Co Γ fr σ ρ G S) {p : Addr} {o : HO} (hp : G p = none) : Co Γ fr σ ρ (upd G p o) (fun a => S a ∨ a = p) := by
  have le : Same (hide S G) (hide (fun a => S a ∨ a = p) (upd G p o)) := fun a u h => by
    obtain ⟨h1, h2⟩ := hide_some.mp h
    have ne : a ≠ p := ne_of_none h2 hp
    exact hide_of (fun z => z.elim h1 ne) (by rw [upd_ne ne]; exact h2)
  have same := same_upd (o := o) hp
  exact {
    len := c.len
    dom := fun a h => by
      rcases h with h | rfl
      · obtain ⟨u, e⟩ := c.dom a h
        exact ⟨u, same _ _ e⟩
      · exact ⟨o, upd_same⟩
    sub := fun a h => .inl (c.sub a h)
    keep := fun a u h1 h2 => same _ _ (c.keep a u h1 h2)
    pin := c.pin
    hs0 := c.hs0
    xsl := fun q h => ⟨(c.xsl q h).1, (c.xsl q h).2.le le⟩
    sh := fun i d h1 h2 => by
      obtain ⟨v, h3, h4⟩ := c.sh i d h1 h2
      exact ⟨v, h3, h4.le le⟩
    own := fun i d h1 h2 => by
      rcases c.own i d h1 h2 with ⟨d', v, z, h4, h7⟩ | ⟨q, xs, h4, h5, h6, h7, h8⟩
      · exact .inl ⟨d', v, z, h4, h7.le le⟩
      · exact .inr ⟨q, xs, h4, .inl h5, same _ _ h6, h7.le le, h8⟩
    inj := c.inj }
theorem hideMore_le {p : Addr} {o : HO} (hp : G p = none) : Same (hide S G) (hide (fun a => S a ∨ a = p) (upd G p o)) := fun a u h => by
  obtain ⟨h1, h2⟩ := hide_some.mp h
  have ne : a ≠ p := ne_of_none h2 hp
  exact hide_of (fun z => z.elim h1 ne) (by rw [upd_ne ne]; exact h2)
theorem Co.newB (c : Co Γ fr σ ρ G S) {p : Addr} (hp : G p = none) : fr.B p = none ∧ ¬ fr.S0 p ∧ (fr.hd = true → p ≠ fr.hp) := by
  have h3 : fr.hd = true → p ≠ fr.hp := fun e z => by
    obtain ⟨o, h⟩ := c.dom _ (c.sub _ (c.hs0 e))
    rw [← z, hp] at h; cases h
  refine ⟨?_, fun z => c.fresh hp (c.sub _ z), h3⟩
  cases e : fr.B p with
  | none => rfl
  | some o =>
    have := c.keep p o h3 e
    rw [hp] at this; cases this
theorem Co.newOwn (c : Co Γ fr σ ρ G S) {p : Addr} (hp : G p = none) : ∀ i d, i ∈ fr.ow → ρ[i]? = some (some d) → d.isShd = true ∨ σ[i]? ≠ some (some (.ref p)) := fun i d h1 h2 => by
  rcases c.own i d h1 h2 with ⟨d', v, rfl, _⟩ | ⟨q, xs, h4, h5, h6, h7, h8⟩
  · exact .inl rfl
  · refine .inr fun z => ?_
    rw [h4] at z
    cases z
    rw [hp] at h6; cases h6
theorem evf_lst {t : TA} {ma : Env → Rs (List D)} (ha : EA Γ fr t ma) : EVF Γ fr (tLst t) (aF dLst ma) := fun σ ρ G S c Q p => by
  refine ha.stepF c p fun dx ρ1 x G1 S1 _ c1 hx p1 => ?_
  have p1' : PostF Γ fr σ G1 S1 Q (Rs.ofOpt (dLst dx) ρ1) := p1
  unfold dLst at p1'
  by_cases hl : dx.length ≤ 1000000
  · rw [if_pos hl] at p1'
    refine ⟨size_ok (by rw [hx.length]; exact hl), fun q hq => ?_⟩
    obtain ⟨n1, n2, n3⟩ := c1.newB hq
    exact p1' q _ _ (fun a => S1 a ∨ a = q) (hideMore_le hq) (c1.hideMore hq) (.inr rfl) upd_same (.lst (hx.le (hideMore_le hq))) n1 n2 n3 (c1.newOwn hq)
  · rw [if_neg hl] at p1'
    exact p1'.elim
/-- x = a new list, x a name for a list of one's own -/
theorem sv_own (h : EVF Γ fr te m) (hi : fr.isOwn i = true := by rfl) (hz : fr.hd = false ∨ i ≠ 0 := by first | exact Or.inl rfl | exact Or.inr (by decide)) (hq : fr.xok i = true := by rfl) : SV Γ fr (tAsg te (gName i)) (sSet i m) := fun σ ρ G S c E p => by
  refine h σ ρ G S c _ ?_
  unfold sSet at p
  generalize m ρ = r at p ⊢
  cases r with
  | stuck => exact p
  | exc e ρ' => exact fun cls dx G' S' e c' r => p cls dx σ G' S' e c' r
  | ok d ρ1 =>
    intro q o G1 S1 e1 c1 hS hG hD hB hS0 hh hn
    have hi : i ∈ fr.ow := isown hi
    refine p _ G1 S1 e1 ?_
    exact {
      len := by rw [Rn, Rn]; exact c1.len
      dom := c1.dom
      sub := c1.sub
      keep := c1.keep
      hs0 := c1.hs0
      xsl := fun q h => ⟨by rw [List.getElem?_set_ne (Ne.symm (Frm.xok_ne hq h))]; exact (c1.xsl q h).1, (c1.xsl q h).2⟩
      pin := fun e => by
        rcases hz with hz | hz
        · rw [hz] at e; cases e
        · rw [List.getElem?_set_ne hz]; exact c1.pin e
      sh := fun j d' h1 h2 => by
        have hne : j ≠ i := fun e => h1 (e ▸ hi)
        rcases set_get h2 with ⟨e, _⟩ | ⟨_, e⟩
        · exact absurd e hne
        · rw [List.getElem?_set_ne (Ne.symm hne)]
          exact c1.sh j d' h1 e
      own := fun j d' h1 h2 => by
        rcases set_get h2 with ⟨rfl, hl, e⟩ | ⟨hne, e⟩
        · cases e
          exact .inr ⟨q, _, List.getElem?_set_self (by rw [c1.len]; exact hl), hS, hG, hD, .inr ⟨hB, hS0⟩⟩
        · rw [List.getElem?_set_ne (Ne.symm hne)]
          exact c1.own j d' h1 e
      inj := fun j k d' e' p' h1 h2 h3 h4 h5 h6 h7 => by
        rcases set_get h6 with ⟨rfl, _, e1⟩ | ⟨n1, e1⟩
        · rcases set_get h7 with ⟨rfl, _, _⟩ | ⟨n2, e2⟩
          · exact absurd rfl h3
          · cases e1
            rw [List.getElem?_set_ne (Ne.symm n2)] at h5
            exact .inr ((hn k e' h2 h5).elim id fun z => (z e2).elim)
        · rw [List.getElem?_set_ne (Ne.symm n1)] at h4
          rcases set_get h7 with ⟨rfl, _, e2⟩ | ⟨n2, e2⟩
          · cases e2
            exact .inl ((hn j d' h1 h4).elim id fun z => (z e1).elim)
          · rw [List.getElem?_set_ne (Ne.symm n2)] at h5
            exact c1.inj j k d' e' p' h1 h2 h3 h4 h5 e1 e2 }

/-- the object in an own slot is changed -/
theorem Co.writeO (c : Co Γ fr σ ρ G S) (hi : i ∈ fr.ow) {p : Addr} {o' : HO} {d d' : D} (e : ρ[i]? = some (some d)) (hm : d.isShd = false) (hs : σ[i]? = some (some (.ref p))) (hS : S p) (hD : OwnO Γ (hide S G) p o' d')
    (hb : (fr.hd = true ∧ i = 0 ∧ p = fr.hp) ∨ (fr.B p = none ∧ ¬ fr.S0 p)) : Co Γ fr σ (ρ.set i (some d')) (upd G p o') S ∧ hide S (upd G p o') = hide S G := by
  have eh : hide S (upd G p o') = hide S G := by
    funext a
    unfold hide
    by_cases ha : S a
    · rw [if_pos ha, if_pos ha]
    · rw [if_neg ha, if_neg ha, upd_ne (fun z => ha (by rw [z]; exact hS))]
  have hlen : i < ρ.length := (List.getElem?_eq_some_iff.mp e).1
  refine ⟨?_, eh⟩
  exact {
    len := by rw [Rn]; exact c.len
    dom := fun a h => by
      by_cases ha : a = p
      · subst ha; exact ⟨_, upd_same⟩
      · rw [upd_ne ha]; exact c.dom a h
    sub := c.sub
    keep := fun a o h1 h2 => by
      have ha : a ≠ p := fun z => by
        subst z
        rcases hb with ⟨b1, _, b3⟩ | ⟨b1, _⟩
        · exact h1 b1 b3
        · rw [b1] at h2; cases h2
      rw [upd_ne ha]; exact c.keep a o h1 h2
    hs0 := c.hs0
    pin := c.pin
    xsl := fun q h => by rw [eh]; exact c.xsl q h
    sh := fun j d' h1 h2 => by
      rw [eh]
      rcases set_get h2 with ⟨rfl, _⟩ | ⟨_, e2⟩
      · exact absurd hi h1
      · exact c.sh j d' h1 e2
    own := fun j d' h1 h2 => by
      rw [eh]
      rcases set_get h2 with ⟨rfl, hl, e2⟩ | ⟨hne, e2⟩
      · cases e2
        exact .inr ⟨p, _, hs, hS, upd_same, hD, hb⟩
      · rcases c.own j d' h1 e2 with z | ⟨q, ys, h4, h5, h6, h7, h8⟩
        · exact .inl z
        · have hq : q ≠ p := fun z => by
            subst z
            rcases c.inj j i d' _ q h1 hi hne e2 e h4 hs with y | y
            · cases h7 <;> cases y
            · rw [hm] at y; cases y
          exact .inr ⟨q, ys, h4, h5, by rw [upd_ne hq]; exact h6, h7, h8⟩
    inj := fun j k d' e' p' h1 h2 h3 h4 h5 h6 h7 => by
      rcases set_get h4 with ⟨rfl, _, z1⟩ | ⟨n1, e1⟩
      · rcases set_get h5 with ⟨rfl, _, z2⟩ | ⟨n2, e2⟩
        · exact absurd rfl h3
        · exact .inr ((c.inj j k _ _ p' h1 h2 h3 e e2 h6 h7).elim (fun y => by rw [hm] at y; cases y) id)
      · rcases set_get h5 with ⟨rfl, _, z2⟩ | ⟨n2, e2⟩
        · exact .inl ((c.inj j k _ _ p' h1 h2 h3 e1 e h6 h7).elim id fun y => by rw [hm] at y; cases y)
        · exact c.inj j k _ _ p' h1 h2 h3 e1 e2 h6 h7 }
/-- the list in an own slot is changed -/
theorem Co.write (c : Co Γ fr σ ρ G S) (hi : i ∈ fr.ow) {p : Addr} {xs xs' : List V} {l l' : List D} (e : ρ[i]? = some (some (.lst l))) (hs : σ[i]? = some (some (.ref p))) (hG : G p = some (.lst xs)) (hS : S p) (hD : IsDs Γ (hide S G) xs' l')
    (hb : (fr.hd = true ∧ i = 0 ∧ p = fr.hp) ∨ (fr.B p = none ∧ ¬ fr.S0 p)) : Co Γ fr σ (ρ.set i (some (.lst l'))) (upd G p (.lst xs')) S ∧ hide S (upd G p (.lst xs')) = hide S G := c.writeO hi e rfl hs hS (.lst hD) hb
def ownL (ρ : Env) (i : Nat) : Option (List D) := match ρ[i]? with
  | some (some (.lst l)) => some l
  | _ => none
theorem ownL_of {l : List D} (h : ownL ρ i = some l) : ρ[i]? = some (some (.lst l)) := by
  unfold ownL at h
  split at h
  · rename_i l' e
    cases h
    exact e
  · cases h
theorem Co.ownAt (c : Co Γ fr σ ρ G S) (hi : i ∈ fr.ow) {l : List D} (h : ownL ρ i = some l) : ∃ p xs, σ[i]? = some (some (.ref p)) ∧ S p ∧ G p = some (.lst xs) ∧ IsDs Γ (hide S G) xs l ∧ ((fr.hd = true ∧ i = 0 ∧ p = fr.hp) ∨ (fr.B p = none ∧ ¬ fr.S0 p)) := by
  rcases c.own i _ hi (ownL_of h) with ⟨d', v, z, _⟩ | ⟨p, o, h4, h5, h6, h7, h8⟩
  · cases z
  · obtain ⟨xs, rfl, h9⟩ := h7.isLst
    exact ⟨p, xs, h4, h5, h6, h9, h8⟩
/-- x.append(e) -/
def sApp (i : Nat) (m : Env → Rs D) : Env → Out := fun ρ => match ownL ρ i with
  | none => .stuck
  | some _ => (m ρ).out fun d ρ1 => match ownL ρ1 i with
    | none => .stuck
    | some l => if l.length < 1000000 then .nx (ρ1.set i (some (.lst (l ++ [d])))) else .stuck
theorem sv_app (h : EV Γ fr te m) (hi : fr.isOwn i = true := by rfl) : SV Γ fr (tDrop (tBM Γ.K "list" rAppend (tVar i) (tCons te tNil))) (sApp i m) := fun σ ρ G S c E p => by
  have hi : i ∈ fr.ow := isown hi
  unfold sApp at p
  cases ho : ownL ρ i with
  | none => rw [ho] at p; exact p.elim
  | some l0 =>
    rw [ho] at p
    obtain ⟨q, xs0, h4, h5, h6, h7, h8⟩ := c.ownAt hi ho
    refine ⟨.ref q, h4, .inl ⟨rfl, _, .inl (.inl h6)⟩, ?_⟩
    refine h.stepS c p fun d ρ1 x G1 S1 _ c1 hx p1 => ?_
    cases ho1 : ownL ρ1 i with
    | none =>
      have p2 : PostS Γ fr G1 S1 E (match ownL ρ1 i with
        | none => .stuck
        | some l => if l.length < 1000000 then .nx (ρ1.set i (some (.lst (l ++ [d])))) else .stuck) := p1
      rw [ho1] at p2
      exact p2.elim
    | some l =>
      have p2 : PostS Γ fr G1 S1 E (match ownL ρ1 i with
        | none => .stuck
        | some l => if l.length < 1000000 then .nx (ρ1.set i (some (.lst (l ++ [d])))) else .stuck) := p1
      rw [ho1] at p2
      obtain ⟨q1, xs, g4, g5, g6, g7, g8⟩ := c1.ownAt hi ho1
      rw [h4] at g4
      cases g4
      have p3 : PostS Γ fr G1 S1 E (if l.length < 1000000 then .nx (ρ1.set i (some (.lst (l ++ [d])))) else .stuck) := p2
      by_cases hl : l.length < 1000000
      · rw [if_pos hl] at p3
        refine ⟨q, xs, x, rfl, rfl, g6, Nat.lt_of_lt_of_le (by rw [g7.length]; exact hl) (size_ok (Nat.le_refl _)), ?_⟩
        obtain ⟨c2, eh⟩ := c1.write hi (ownL_of ho1) h4 g6 g5 (g7.append (.cons hx .nil)) g8
        exact p3 σ _ S1 (by rw [eh]; exact Same.refl _) c2
      · rw [if_neg hl] at p3
        exact p3.elim
/-- x[k] = e -/
def sSetIx (i : Nat) (mk m : Env → Rs D) : Env → Out := fun ρ => (m ρ).out fun d ρ1 => match ownL ρ1 i with
  | none => .stuck
  | some _ => (mk ρ1).out fun k ρ2 => match ownL ρ2 i, k with
    | some l, .int n => match ixN l.length n with
      | some j => .nx (ρ2.set i (some (.lst (l.set j d))))
      | none => .stuck
    | _, _ => .stuck
theorem sv_setIx {tk : TE} {mk : Env → Rs D} (h : EV Γ fr te m) (hk : EV Γ fr tk mk) (hi : fr.isOwn i = true := by rfl) : SV Γ fr (tAsg te (gSub (tVar i) tk rSetL)) (sSetIx i mk m) := fun σ ρ G S c E p => by
  have hi : i ∈ fr.ow := isown hi
  refine h.stepS c p fun d ρ1 x G1 S1 _ c1 hx p1 => ?_
  cases ho : ownL ρ1 i with
  | none =>
    have p2 : PostS Γ fr G1 S1 E (match ownL ρ1 i with
      | none => .stuck
      | some _ => (mk ρ1).out fun k ρ2 => match ownL ρ2 i, k with
        | some l, .int n => match ixN l.length n with
          | some j => .nx (ρ2.set i (some (.lst (l.set j d))))
          | none => .stuck
        | _, _ => .stuck) := p1
    rw [ho] at p2
    exact p2.elim
  | some l0 =>
    have p2 : PostS Γ fr G1 S1 E (match ownL ρ1 i with
      | none => .stuck
      | some _ => (mk ρ1).out fun k ρ2 => match ownL ρ2 i, k with
        | some l, .int n => match ixN l.length n with
          | some j => .nx (ρ2.set i (some (.lst (l.set j d))))
          | none => .stuck
        | _, _ => .stuck) := p1
    rw [ho] at p2
    obtain ⟨q, xs0, h4, h5, h6, h7, h8⟩ := c1.ownAt hi ho
    refine ⟨.ref q, h4, ?_⟩
    refine hk.stepS c1 p2 fun k ρ2 y G2 S2 e2 c2 hy p3 => ?_
    cases hy with
    | int n =>
      cases ho2 : ownL ρ2 i with
      | none =>
        have p4 : PostS Γ fr G2 S2 E (match ownL ρ2 i, D.int n with
          | some l, .int n => match ixN l.length n with
            | some j => .nx (ρ2.set i (some (.lst (l.set j d))))
            | none => .stuck
          | _, _ => .stuck) := p3
        rw [ho2] at p4
        exact p4.elim
      | some l =>
        have p4 : PostS Γ fr G2 S2 E (match ownL ρ2 i, D.int n with
          | some l, .int n => match ixN l.length n with
            | some j => .nx (ρ2.set i (some (.lst (l.set j d))))
            | none => .stuck
          | _, _ => .stuck) := p3
        rw [ho2] at p4
        obtain ⟨q1, xs, g4, g5, g6, g7, g8⟩ := c2.ownAt hi ho2
        rw [h4] at g4
        cases g4
        cases hj : ixN l.length n with
        | none =>
          have p5 : PostS Γ fr G2 S2 E (match ixN l.length n with
            | some j => .nx (ρ2.set i (some (.lst (l.set j d))))
            | none => .stuck) := p4
          rw [hj] at p5
          exact p5.elim
        | some j =>
          have p5 : PostS Γ fr G2 S2 E (match ixN l.length n with
            | some j => .nx (ρ2.set i (some (.lst (l.set j d))))
            | none => .stuck) := p4
          rw [hj] at p5
          refine ⟨q, xs, n, j, rfl, rfl, g6, by rw [g7.length]; exact hj, ?_⟩
          obtain ⟨c3, eh⟩ := c2.write hi (ownL_of ho2) h4 g6 g5 (IsDs.set (hx.le e2) j g7) g8
          exact p5 σ _ S2 (by rw [eh]; exact Same.refl _) c3
    | _ =>
      cases ho2 : ownL ρ2 i with
      | none =>
        have p4 := p3
        rw [ho2] at p4
        exact p4.elim
      | some l =>
        have p4 := p3
        rw [ho2] at p4
        exact p4.elim
/-- x[k], x a list of one's own -/
def eIxOwn (i : Nat) (mk : Env → Rs D) : Env → Rs D := fun ρ => match ownL ρ i with
  | none => .stuck
  | some _ => (mk ρ).bind fun k ρ1 => match ownL ρ1 i with
    | none => .stuck
    | some l => Rs.ofOpt (dIx (.lst l) k) ρ1
theorem ev_ixOwn {tk : TE} {mk : Env → Rs D} (hk : EV Γ fr tk mk) (hi : fr.isOwn i = true := by rfl) : EV Γ fr (tOp (rIx Γ.K) (tVar i) tk) (eIxOwn i mk) := fun σ ρ G S c Q p => by
  have hi : i ∈ fr.ow := isown hi
  unfold eIxOwn at p
  cases ho : ownL ρ i with
  | none => rw [ho] at p; exact p.elim
  | some l0 =>
    rw [ho] at p
    obtain ⟨q, xs0, h4, h5, h6, h7, h8⟩ := c.ownAt hi ho
    refine ⟨.ref q, h4, ?_⟩
    refine hk.step c p fun k ρ1 x G1 S1 _ c1 hx p1 => ?_
    cases ho1 : ownL ρ1 i with
    | none =>
      have p2 : PostG (fun H v d => IsD Γ H v d) Γ fr σ G1 S1 Q (match ownL ρ1 i with
        | none => .stuck
        | some l => Rs.ofOpt (dIx (.lst l) k) ρ1) := p1
      rw [ho1] at p2
      exact p2.elim
    | some l =>
      have p2 : PostG (fun H v d => IsD Γ H v d) Γ fr σ G1 S1 Q (match ownL ρ1 i with
        | none => .stuck
        | some l => Rs.ofOpt (dIx (.lst l) k) ρ1) := p1
      rw [ho1] at p2
      obtain ⟨q1, xs, g4, g5, g6, g7, g8⟩ := c1.ownAt hi ho1
      rw [h4] at g4
      cases g4
      obtain ⟨dz, hf, p3⟩ := PostG.giveO p2
      cases hx with
      | int n =>
        obtain ⟨v, h1, h2⟩ := atI_rel g7 hf
        exact .inl ⟨q, xs, n, v, rfl, rfl, SqL.of g6, h1, p3.give (Same.refl _) c1 h2⟩
      | _ => cases hf
/-- the list in an own slot is given away: the slot is empty from then on -/
def eMove (i : Nat) : Env → Rs D := fun ρ => match ownL ρ i with
  | none => .stuck
  | some l => .ok (.lst l) (ρ.set i none)
theorem ev_move (hi : fr.isOwn i = true := by rfl) (hz : fr.hd = false ∨ i ≠ 0 := by first | exact Or.inl rfl | exact Or.inr (by decide)) : EV Γ fr (tVar i) (eMove i) := fun σ ρ G S c Q p => by
  have hi : i ∈ fr.ow := isown hi
  unfold eMove at p
  cases ho : ownL ρ i with
  | none => rw [ho] at p; exact p.elim
  | some l =>
    rw [ho] at p
    obtain ⟨q, xs, h4, h5, h6, h7, h8⟩ := c.ownAt hi ho
    refine ⟨.ref q, h4, ?_⟩
    have hb : fr.B q = none ∧ ¬ fr.S0 q := by
      rcases h8 with ⟨a, b, _⟩ | h
      · rcases hz with hz | hz
        · rw [hz] at a; cases a
        · exact absurd b hz
      · exact h
    have le : Same (hide S G) (hide (fun a => S a ∧ a ≠ q) G) := hide_less fun a h => h.1
    refine PostG.give p le (S' := fun a => S a ∧ a ≠ q) ?_ (.lst (hide_of (fun z => z.2 rfl) h6) (h7.le le))
    exact {
      len := by rw [Rn]; exact c.len
      dom := fun a h => c.dom a h.1
      sub := fun a h => ⟨c.sub a h, fun z => hb.2 (z ▸ h)⟩
      keep := c.keep
      hs0 := c.hs0
      pin := c.pin
      xsl := fun q h => ⟨(c.xsl q h).1, (c.xsl q h).2.le le⟩
      sh := fun j d' h1 h2 => by
        rcases set_get h2 with ⟨_, _, e⟩ | ⟨_, e⟩
        · cases e
        · obtain ⟨v, h3, h4⟩ := c.sh j d' h1 e
          exact ⟨v, h3, h4.le le⟩
      own := fun j d' h1 h2 => by
        rcases set_get h2 with ⟨_, _, e⟩ | ⟨hne, e⟩
        · cases e
        · rcases c.own j d' h1 e with ⟨d2, v, z, g4, g7⟩ | ⟨q', ys, g4, g5, g6, g7, g8⟩
          · exact .inl ⟨d2, v, z, g4, g7.le le⟩
          · refine .inr ⟨q', ys, g4, ⟨g5, fun z => ?_⟩, g6, g7.le le, g8⟩
            subst z
            rcases c.inj j i d' _ q' h1 hi hne e (ownL_of ho) g4 h4 with y | y
            · cases g7 <;> cases y
            · cases y
      inj := fun j k d' e' p' h1 h2 h3 g4 g5 => by
        rcases set_get g4 with ⟨_, _, e⟩ | ⟨_, e1⟩
        · cases e
        · rcases set_get g5 with ⟨_, _, e⟩ | ⟨_, e2⟩
          · cases e
          · exact c.inj j k d' e' p' h1 h2 h3 e1 e2 }
/-- the list in an own slot is shared from then on; what is shared there already is read -/
def frzV (ρ : Env) (i : Nat) : Option (Option D) → Rs D
  | some (some (.lst l)) => .ok (.lst l) (ρ.set i (some (.shd (.lst l))))
  | some (some (.shd d)) => .ok d ρ
  | _ => .stuck
def eFrz (i : Nat) : Env → Rs D := fun ρ => frzV ρ i ρ[i]?
theorem ev_frz (hi : fr.isOwn i = true := by rfl) (hz : fr.hd = false ∨ i ≠ 0 := by first | exact Or.inl rfl | exact Or.inr (by decide)) : EV Γ fr (tVar i) (eFrz i) := fun σ ρ G S c Q p => by
  have hi : i ∈ fr.ow := isown hi
  unfold eFrz at p
  generalize he : ρ[i]? = o at p
  rcases o with _ | (_ | d)
  · exact p.elim
  · exact p.elim
  · cases d with
    | shd d =>
      rcases c.own i _ hi he with ⟨d', v, z, h4, h7⟩ | ⟨q, o, h4, h5, h6, h7, h8⟩
      · cases z
        exact ⟨v, h4, PostG.give p (Same.refl _) c h7⟩
      · cases h7
    | lst l =>
      have ho : ownL ρ i = some l := by unfold ownL; rw [he]
      obtain ⟨q, xs, h4, h5, h6, h7, h8⟩ := c.ownAt hi ho
      refine ⟨.ref q, h4, ?_⟩
      have hb : fr.B q = none ∧ ¬ fr.S0 q := by
        rcases h8 with ⟨a, b, _⟩ | h
        · rcases hz with hz | hz
          · rw [hz] at a; cases a
          · exact absurd b hz
        · exact h
      have le : Same (hide S G) (hide (fun a => S a ∧ a ≠ q) G) := hide_less fun a h => h.1
      have hL : IsD Γ (hide (fun a => S a ∧ a ≠ q) G) (.ref q) (.lst l) := .lst (hide_of (fun z => z.2 rfl) h6) (h7.le le)
      refine PostG.give (d := D.lst l) p le (S' := fun a => S a ∧ a ≠ q) ?_ hL
      exact {
        len := by rw [Rn]; exact c.len
        dom := fun a h => c.dom a h.1
        sub := fun a h => ⟨c.sub a h, fun z => hb.2 (z ▸ h)⟩
        keep := c.keep
        hs0 := c.hs0
        pin := c.pin
        xsl := fun q h => ⟨(c.xsl q h).1, (c.xsl q h).2.le le⟩
        sh := fun j d' h1 h2 => by
          rcases set_get h2 with ⟨rfl, _, e⟩ | ⟨_, e⟩
          · exact absurd hi h1
          · obtain ⟨v, h3, h4⟩ := c.sh j d' h1 e
            exact ⟨v, h3, h4.le le⟩
        own := fun j d' h1 h2 => by
          rcases set_get h2 with ⟨rfl, _, e⟩ | ⟨hne, e⟩
          · cases e
            exact .inl ⟨_, _, rfl, h4, hL⟩
          · rcases c.own j d' h1 e with ⟨d2, v, z, g4, g7⟩ | ⟨q', ys, g4, g5, g6, g7, g8⟩
            · exact .inl ⟨d2, v, z, g4, g7.le le⟩
            · refine .inr ⟨q', ys, g4, ⟨g5, fun z => ?_⟩, g6, g7.le le, g8⟩
              subst z
              rcases c.inj j i d' _ q' h1 hi hne e (ownL_of ho) g4 h4 with y | y
              · cases g7 <;> cases y
              · cases y
        inj := fun j k d' e' p' h1 h2 h3 g4 g5 g6 g7 => by
          rcases set_get g4 with ⟨rfl, _, e⟩ | ⟨_, e1⟩
          · cases e
            exact .inl rfl
          · rcases set_get g5 with ⟨rfl, _, e⟩ | ⟨_, e2⟩
            · cases e
              exact .inr rfl
            · exact c.inj j k d' e' p' h1 h2 h3 e1 e2 g6 g7 }
    | _ => exact p.elim
/-- a reading of an own list that keeps nothing of it: f tells a plain value -/
def aOwn (f : List D → Option D) (i : Nat) : Env → Rs D := fun ρ => match ownL ρ i with
  | none => .stuck
  | some l => Rs.ofOpt (f l) ρ
end
end Py

set_option Elab.async false
set_option linter.all false
set_option maxRecDepth 100000
set_option maxHeartbeats 2000000
namespace Py
open PySem L2

/-! ## 8. Comprehensions -/
def wipeE (ρ : Env) : List Nat → Env
  | [] => ρ
  | v :: vs => (wipeE ρ vs).set v none
def restE (ρ0 ρ : Env) : List Nat → Env
  | [] => ρ
  | v :: vs => (restE ρ0 ρ vs).set v ((ρ0[v]?).getD none)
theorem wipeE_length (ρ : Env) : ∀ vs : List Nat, (wipeE ρ vs).length = ρ.length
  | [] => rfl
  | v :: vs => by unfold wipeE; rw [Rn, wipeE_length ρ vs]
theorem restE_length (ρ0 ρ : Env) : ∀ vs : List Nat, (restE ρ0 ρ vs).length = ρ.length
  | [] => rfl
  | v :: vs => by unfold restE; rw [Rn, restE_length ρ0 ρ vs]
theorem wipeE_some {ρ : Env} {i : Nat} {d : D} : ∀ {vs : List Nat}, (wipeE ρ vs)[i]? = some (some d) → ρ[i]? = some (some d) ∧ i ∉ vs
  | [], h => ⟨h, by simp⟩
  | v :: vs, h => by
    unfold wipeE at h
    rcases set_get h with ⟨_, _, e⟩ | ⟨hne, e⟩
    · cases e
    · obtain ⟨h1, h2⟩ := wipeE_some e
      exact ⟨h1, fun z => by
        rcases List.mem_cons.mp z with z | z
        · exact hne z
        · exact h2 z⟩
theorem restE_some {ρ0 ρ : Env} {i : Nat} {d : D} : ∀ {vs : List Nat}, (restE ρ0 ρ vs)[i]? = some (some d) → (i ∈ vs ∧ ρ0[i]? = some (some d)) ∨ (i ∉ vs ∧ ρ[i]? = some (some d))
  | [], h => .inr ⟨by simp, h⟩
  | v :: vs, h => by
    unfold restE at h
    rcases set_get h with ⟨rfl, _, e⟩ | ⟨hne, e⟩
    · left
      refine ⟨List.mem_cons_self, ?_⟩
      cases h0 : ρ0[i]? with
      | none => rw [h0] at e; cases e
      | some o =>
        rw [h0] at e
        exact congrArg some e.symm
    · rcases restE_some e with ⟨h1, h2⟩ | ⟨h1, h2⟩
      · exact .inl ⟨List.mem_cons_of_mem _ h1, h2⟩
      · exact .inr ⟨fun z => by
          rcases List.mem_cons.mp z with z | z
          · exact hne z
          · exact h1 z, h2⟩
theorem wipe_get {σ : L2.St} {i : Nat} : ∀ {vs : List Nat}, i ∉ vs → (wipe σ vs)[i]? = σ[i]?
  | [], _ => rfl
  | v :: vs, h => by
    unfold wipe
    rw [List.getElem?_set_ne (fun e => h (by rw [e]; exact List.mem_cons_self))]
    exact wipe_get fun z => h (List.mem_cons_of_mem _ z)
theorem wipe_in {σ : L2.St} {i : Nat} : ∀ {vs : List Nat}, i ∈ vs → (wipe σ vs)[i]? = if i < σ.length then some none else none
  | [], h => by cases h
  | v :: vs, h => by
    unfold wipe
    by_cases e : i = v
    · subst e
      by_cases hl : i < σ.length
      · rw [if_pos hl]
        exact List.getElem?_set_self (by rw [wipe_length]; exact hl)
      · rw [if_neg hl]
        exact List.getElem?_eq_none (by rw [Rn, wipe_length]; omega)
    · rw [List.getElem?_set_ne (Ne.symm e)]
      rcases List.mem_cons.mp h with z | z
      · exact absurd z e
      · exact wipe_in z
theorem wipe_agree {σ σ' : L2.St} {ks vs : List Nat} (a : Agree ks σ σ') (h : ∀ k ∈ ks, k ∈ vs) : wipe σ' vs = wipe σ vs := by
  apply List.ext_getElem?
  intro i
  by_cases hi : i ∈ vs
  · rw [wipe_in hi, wipe_in hi, a.1]
  · rw [wipe_get hi, wipe_get hi]
    exact a.2 i fun z => hi (h i z)
section
variable {Γ : Gm} {fr : Frm} {σ σ' : L2.St} {ρ ρ' : Env} {G G' : Hp} {S S' : Addr → Prop} {i : Nat} {v : V} {d : D} {te : TE} {m : Env → Rs D}
theorem Co.wipe {vs : List Nat} (c : Co Γ fr σ ρ G S) (hv : fr.hd = false ∨ 0 ∉ vs) (hx : fr.xs = none) : Co Γ fr (L2.wipe σ vs) (wipeE ρ vs) G S where
  len := by rw [wipe_length, wipeE_length]; exact c.len
  dom := c.dom
  sub := c.sub
  keep := c.keep
  hs0 := c.hs0
  xsl := fun q h => by rw [hx] at h; cases h
  pin := fun e => by
    rcases hv with h | h
    · rw [h] at e; cases e
    · rw [wipe_get h]; exact c.pin e
  sh := fun i d h1 h2 => by
    obtain ⟨h3, h4⟩ := wipeE_some h2
    obtain ⟨v, h5, h6⟩ := c.sh i d h1 h3
    exact ⟨v, by rw [wipe_get h4]; exact h5, h6⟩
  own := fun i d h1 h2 => by
    obtain ⟨h3, h4⟩ := wipeE_some h2
    rw [wipe_get h4]
    exact c.own i d h1 h3
  inj := fun i j d e p h1 h2 h3 h4 h5 h6 h7 => by
    obtain ⟨g1, g2⟩ := wipeE_some h4
    obtain ⟨g3, g4⟩ := wipeE_some h5
    rw [wipe_get g2] at h6
    rw [wipe_get g4] at h7
    exact c.inj i j d e p h1 h2 h3 g1 g3 h6 h7
/-- the frame of a comprehension's block -/
def frb (fr : Frm) (B : Hp) (S0 : Addr → Prop) : Frm := { ow := fr.ow, hd := fr.hd, hp := fr.hp, B := B, S0 := S0, W := fun _ _ _ _ => False }

def lcL (mg : D → Env → Option Env) (mt : Env → Rs Bool) (me : Env → Rs D) (vs : List Nat) : List D → List D → Env → Rs (List D)
  | [], acc, ρ => .ok acc ρ
  | d :: ds, acc, ρ => match mg d (wipeE ρ vs) with
    | none => .stuck
    | some ρ1 => match mt ρ1 with
      | .ok true ρ2 => match me ρ2 with
        | .ok y ρ3 => lcL mg mt me vs ds (acc ++ [y]) ρ3
        | _ => .stuck
      | .ok false ρ2 => lcL mg mt me vs ds acc ρ2
      | _ => .stuck
def eLc (mi : Env → Rs (List D)) (mg : D → Env → Option Env) (mt : Env → Rs Bool) (me : Env → Rs D) (vs : List Nat) : Env → Rs D := fun ρ => (mi ρ).bind fun ds ρ1 =>
  if ds.length ≤ 1000000 then (match lcL mg mt me vs ds [] ρ1 with
    | .ok l ρ2 => .ok (.lst l) (restE ρ1 ρ2 vs)
    | _ => .stuck) else .stuck
def lYes : Env → Rs Bool := fun ρ => .ok true ρ
theorem et_yes : ET Γ fr tYes lYes := fun σ ρ G S c Q p => PostG.give p (Same.refl _) c rfl

/-- a walk while what is in Bk stays -/
def JWK (Γ : Gm) (J : It) (ds : List D) (H0 Bk : Hp) : Prop := ∀ (i : Nat) (G : Hp) (S : Addr → Prop), Same H0 (hide S G) → (∀ a, S a → ∃ o, G a = some o) → (∀ a o, Bk a = some o → G a = some o) →
  (ds.length ≤ i → J.stop i G) ∧ ∀ d, ds[i]? = some d → J.go i G ∧ ∀ x G', J.yld i G x G' → Same G G' ∧ IsD Γ (hide S G') x d
theorem jwk_of {J : It} {ds : List D} {H0 : Hp} (h : JW Γ J ds H0) : JWK Γ J ds H0 (fun _ => none) := fun i G S e dom _ => h i G S e dom
/-- the core: the new list at D stays hidden -/
theorem lc_run {ks vs : List Nat} {g : TG} {tt : TT} {J : It} {mg : D → Env → Option Env} {mt : Env → Rs Bool} {ds : List D} {ρ1 : Env} {G1 : Hp} {S1 : Addr → Prop} {Dl : Addr} {Qd : Hp → Prop} {l : List D} {ρe : Env}
    (c1 : Co Γ fr σ ρ1 G1 S1) {Bk : Hp} (hJ : JWK Γ J ds (hide S1 G1) Bk) (hBk : ∀ a o, Bk a = some o → fr.B a = some o ∧ (fr.hd = true → a ≠ fr.hp)) (hD : G1 Dl = none) (hlen : ds.length ≤ 1000000) (hr : lcL mg mt m vs ds [] ρ1 = .ok l ρe)
    (hg : ∀ B S0, GV Γ (frb fr B S0) ks g mg) (ht : ∀ B S0, ET Γ (frb fr B S0) tt mt) (he : ∀ B S0, EV Γ (frb fr B S0) te m) (hk : ∀ k ∈ ks, k ∈ vs) (hv : fr.hd = false ∨ 0 ∉ vs) (hov : ∀ k ∈ fr.ow, k ∉ vs) (hxs : fr.xs = none)
    (hQ : ∀ G2 S2 xs, Same (hide S1 G1) (hide S2 G2) → Co Γ fr σ (restE ρ1 ρe vs) G2 S2 → S2 Dl → G2 Dl = some (.lst xs) → IsDs Γ (hide S2 G2) xs l → (∀ i d, i ∈ fr.ow → (restE ρ1 ρe vs)[i]? = some (some d) → d.isShd = true ∨ σ[i]? ≠ some (some (.ref Dl))) → Qd G2) :
    ∃ W : Nat → Nat → Hp → Prop, (∃ m, W 0 m (upd G1 Dl (.lst []))) ∧ ∀ i m H, W i m H → (J.stop i H ∧ Qd H) ∨ (J.go i H ∧ ∃ Nx : Hp → Prop, (∀ H', Nx H' → ∃ m', m' < m ∧ W (i + 1) m' H') ∧ ∀ x H', J.yld i H x H' → g x (L2.wipe σ vs) H' fun σ2 H2 => L2.wipe σ2 vs = L2.wipe σ vs ∧ tt σ2 H2 fun b H3 =>
      if b = true then te σ2 H3 fun y H4 => ∃ acc, H4 Dl = some (.lst acc) ∧ acc.length < sizeLine ∧ Nx (upd H4 Dl (.lst (acc ++ [y]))) else Nx H3) := by
  obtain ⟨n1, n2, n3⟩ := c1.newB hD
  -- the block's state
  let Inn : Nat → Hp → Prop := fun i G => ∃ ρ' S' accV accD, Co Γ (frb fr (upd fr.B Dl (.lst accV)) (fun a => fr.S0 a ∨ a = Dl)) (L2.wipe σ vs) (wipeE ρ' vs) G S' ∧ ρ'.length = ρ1.length ∧ Same (hide S1 G1) (hide S' G) ∧ G Dl = some (.lst accV) ∧ IsDs Γ (hide S' G) accV accD ∧ accD.length ≤ i ∧
    lcL mg mt m vs (ds.drop i) accD ρ' = .ok l ρe
  refine ⟨fun i k G => k = ds.length - i ∧ i ≤ ds.length ∧ Inn i G, ⟨_, rfl, Nat.zero_le _, ρ1, fun a => S1 a ∨ a = Dl, [], [], ?_, rfl, hideMore_le hD, upd_same, .nil, Nat.le_refl _, hr⟩, ?_⟩
  · have c2 := (c1.hideMore (o := .lst []) hD).wipe hv hxs
    have own' := c1.newOwn hD
    exact {
      len := c2.len
      dom := c2.dom
      sub := fun a h => h.elim (fun z => .inl (c1.sub a z)) .inr
      keep := fun a o h1 h2 => by
        by_cases ha : a = Dl
        · subst ha
          have h2' : upd fr.B a (.lst []) a = some o := h2
          rw [upd_same] at h2'
          rw [upd_same]
          exact h2'
        · have h2' : upd fr.B Dl (.lst []) a = some o := h2
          rw [upd_ne ha] at h2'
          exact c2.keep a o h1 h2'
      hs0 := fun e => .inl (c1.hs0 e)
      xsl := fun q h => nomatch h
      pin := c2.pin
      sh := c2.sh
      own := fun j d h1 h2 => by
        rcases c2.own j d h1 h2 with z | ⟨q, xs, h4, h5, h6, h7, h8⟩
        · exact .inl z
        · have hq : q ≠ Dl := fun z => by
            subst z
            have e1 := (wipeE_some h2).1
            have e2 : σ[j]? = some (some (.ref q)) := by rw [← wipe_get (wipeE_some h2).2]; exact h4
            rcases own' j d h1 e1 with y | y
            · cases h7 <;> cases y
            · exact y e2
          refine .inr ⟨q, xs, h4, h5, h6, h7, h8.elim .inl fun z => .inr ⟨?_, fun y => y.elim z.2 hq⟩⟩
          show upd fr.B Dl (.lst []) q = none
          rw [upd_ne hq]; exact z.1
      inj := c2.inj }
  · rintro i k G2 ⟨rfl, hle, ρ2, S2, accV, accD, c2, hl2, e2, hG2, hA, hAl, hrun⟩
    obtain ⟨hstop, hgo⟩ := hJ i G2 S2 e2 c2.dom (fun a o h => c2.keep a o (fun e => (hBk a o h).2 e) (by
      have h1 := (hBk a o h).1
      show upd fr.B Dl (.lst accV) a = some o
      rw [upd_ne (fun z => by subst z; rw [n1] at h1; cases h1)]
      exact h1))
    by_cases hlt : i < ds.length
    · have hd : ds[i]? = some ds[i] := List.getElem?_eq_getElem hlt
      obtain ⟨go, yl⟩ := hgo _ hd
      rw [List.drop_eq_getElem_cons hlt] at hrun
      generalize ds[i] = d at hrun yl
      unfold lcL at hrun
      cases hm : mg d (wipeE ρ2 vs) with
      | none => rw [hm] at hrun; cases hrun
      | some ρ3 =>
        rw [hm] at hrun
        dsimp only at hrun
        refine .inr ⟨go, Inn (i + 1), fun H' h => ⟨_, by omega, rfl, hlt, h⟩, fun x G3 y => ?_⟩
        obtain ⟨e3, hx⟩ := yl x G3 y
        refine hg _ _ _ _ G3 S2 x d (c2.ext e3) hx ρ3 hm _ fun σ4 G4 S4 ag e4 c4 => ?_
        have hw : L2.wipe σ4 vs = L2.wipe σ vs := by
          rw [wipe_agree ag hk]
          apply List.ext_getElem?
          intro j
          by_cases hj : j ∈ vs
          · rw [wipe_in hj, wipe_in hj, wipe_length]
          · rw [wipe_get hj, wipe_get hj]
        refine ⟨hw, ?_⟩
        have e14 : Same (hide S2 G2) (hide S4 G4) := (hide_ext e3).trans e4
        -- in the block, wherever one stands
        have stay : ∀ {ρ5 : Env} {G5 : Hp} {S5 : Addr → Prop}, Co Γ (frb fr (upd fr.B Dl (.lst accV)) (fun a => fr.S0 a ∨ a = Dl)) σ4 ρ5 G5 S5 → G5 Dl = some (.lst accV) ∧ S5 Dl := fun {ρ5 G5 S5} c5 =>
          ⟨c5.keep Dl _ (fun e => n3 e) upd_same, c5.sub Dl (.inr rfl)⟩
        refine ht _ _ σ4 ρ3 G4 S4 c4 _ ?_
        generalize hmt : mt ρ3 = r at hrun ⊢
        cases r with
        | stuck => cases hrun
        | exc _ _ => cases hrun
        | ok b ρ5 =>
          intro b' G5 S5 e5 c5 eb
          subst eb
          cases b' with
          | false =>
            have hrun' : lcL mg mt m vs (ds.drop (i + 1)) accD ρ5 = .ok l ρe := hrun
            have cw := c5.wipe (vs := vs) hv rfl
            rw [hw] at cw
            refine ⟨ρ5, S5, accV, accD, cw, ?_, (e2.trans e14).trans e5, (stay c5).1, hA.le (e14.trans e5), Nat.le_succ_of_le hAl, hrun'⟩
            have z1 := c5.len
            have z2 := c2.len
            rw [wipe_length, wipeE_length] at z2
            have z3 : σ4.length = σ.length := by
              have := congrArg List.length hw
              rw [wipe_length, wipe_length] at this
              exact this
            omega
          | true =>
            have hrun' : (match m ρ5 with
              | .ok y ρ3 => lcL mg mt m vs (ds.drop (i + 1)) (accD ++ [y]) ρ3
              | _ => .stuck) = .ok l ρe := hrun
            refine he _ _ σ4 ρ5 G5 S5 c5 _ ?_
            generalize hme : m ρ5 = r at hrun' ⊢
            cases r with
            | stuck => cases hrun'
            | exc _ _ => cases hrun'
            | ok y ρ6 =>
              intro yv G6 S6 e6 c6 hy
              obtain ⟨s1, s2⟩ := stay c6
              have hA6 := hA.le ((e14.trans e5).trans e6)
              refine ⟨accV, s1, Nat.lt_of_lt_of_le (show accV.length < 1000000 by rw [hA.length]; omega) (size_ok (Nat.le_refl _)), ?_⟩
              have eh : hide S6 (upd G6 Dl (.lst (accV ++ [yv]))) = hide S6 G6 := by
                funext a
                unfold hide
                by_cases ha : S6 a
                · rw [if_pos ha, if_pos ha]
                · rw [if_neg ha, if_neg ha, upd_ne (fun z => ha (by rw [z]; exact s2))]
              have cw := c6.wipe (vs := vs) hv rfl
              rw [hw] at cw
              refine ⟨ρ6, S6, accV ++ [yv], accD ++ [y], ?_, ?_, ?_, upd_same, ?_, ?_, hrun'⟩
              · exact {
                  len := cw.len
                  dom := fun a h => by
                    by_cases ha : a = Dl
                    · subst ha; exact ⟨_, upd_same⟩
                    · rw [upd_ne ha]; exact cw.dom a h
                  sub := cw.sub
                  keep := fun a o h1 h2 => by
                    by_cases ha : a = Dl
                    · subst ha
                      have h2' : upd fr.B a (.lst (accV ++ [yv])) a = some o := h2
                      rw [upd_same] at h2'
                      rw [upd_same]
                      exact h2'
                    · have h2' : upd fr.B Dl (.lst (accV ++ [yv])) a = some o := h2
                      rw [upd_ne ha] at h2'
                      rw [upd_ne ha]
                      refine cw.keep a o h1 ?_
                      show upd fr.B Dl (.lst accV) a = some o
                      rw [upd_ne ha]
                      exact h2'
                  hs0 := cw.hs0
                  xsl := fun q h => nomatch h
                  pin := cw.pin
                  sh := fun j d' h1 h2 => by rw [eh]; exact cw.sh j d' h1 h2
                  own := fun j d' h1 h2 => by
                    rw [eh]
                    rcases cw.own j d' h1 h2 with z | ⟨q, xs, h4, h5, h6, h7, h8⟩
                    · exact .inl z
                    · have hq : q ≠ Dl := fun z => by
                        subst z
                        rcases h8 with ⟨b1, _, b3⟩ | ⟨_, b2⟩
                        · exact n3 b1 b3
                        · exact b2 (.inr rfl)
                      refine .inr ⟨q, xs, h4, h5, by rw [upd_ne hq]; exact h6, h7, h8.elim .inl fun z => .inr ⟨?_, z.2⟩⟩
                      show upd fr.B Dl (.lst (accV ++ [yv])) q = none
                      have z1 : upd fr.B Dl (.lst accV) q = none := z.1
                      rw [upd_ne hq] at z1 ⊢
                      exact z1
                  inj := cw.inj }
              · have z1 := c6.len
                have z2 := c2.len
                rw [wipe_length, wipeE_length] at z2
                have z3 : σ4.length = σ.length := by
                  have := congrArg List.length hw
                  rw [wipe_length, wipe_length] at this
                  exact this
                omega
              · rw [eh]; exact ((e2.trans e14).trans e5).trans e6
              · rw [eh]; exact hA6.append (.cons hy .nil)
              · rw [Rb, List.length_singleton]; omega
    · have e : ds.drop i = [] := List.drop_eq_nil_of_le (by omega)
      rw [e] at hrun
      cases hrun
      refine .inl ⟨hstop (by omega), hQ G2 S2 accV e2 ?_ (c2.sub Dl (.inr rfl)) hG2 hA ?_⟩
      · exact {
          len := by rw [restE_length, hl2]; exact c1.len
          dom := c2.dom
          sub := fun a h => c2.sub a (.inl h)
          keep := fun a o h1 h2 => by
            have ha : a ≠ Dl := fun z => by subst z; rw [n1] at h2; cases h2
            refine c2.keep a o h1 ?_
            show upd fr.B Dl (.lst accV) a = some o
            rw [upd_ne ha]; exact h2
          hs0 := c1.hs0
          xsl := fun q h => by rw [hxs] at h; cases h
          pin := c1.pin
          sh := fun j d' h1 h2 => by
            rcases restE_some h2 with ⟨_, h4⟩ | ⟨h3, h4⟩
            · obtain ⟨v, h5, h6⟩ := c1.sh j d' h1 h4
              exact ⟨v, h5, h6.le e2⟩
            · have h5 : (wipeE ρe vs)[j]? = some (some d') := by
                have : ∀ vs : List Nat, j ∉ vs → (wipeE ρe vs)[j]? = ρe[j]? := by
                  intro vs
                  induction vs with
                  | nil => intro _; rfl
                  | cons v vs ih =>
                    intro h
                    unfold wipeE
                    rw [List.getElem?_set_ne (fun e => h (by rw [e]; exact List.mem_cons_self))]
                    exact ih fun z => h (List.mem_cons_of_mem _ z)
                rw [this vs h3]; exact h4
              obtain ⟨v, h6, h7⟩ := c2.sh j d' h1 h5
              rw [wipe_get h3] at h6
              exact ⟨v, h6, h7⟩
          own := fun j d' h1 h2 => by
            rcases restE_some h2 with ⟨h3, _⟩ | ⟨h3, h4⟩
            · exact absurd h3 (hov j h1)
            · have h5 : (wipeE ρe vs)[j]? = some (some d') := by
                have : ∀ vs : List Nat, j ∉ vs → (wipeE ρe vs)[j]? = ρe[j]? := by
                  intro vs
                  induction vs with
                  | nil => intro _; rfl
                  | cons v vs ih =>
                    intro h
                    unfold wipeE
                    rw [List.getElem?_set_ne (fun e => h (by rw [e]; exact List.mem_cons_self))]
                    exact ih fun z => h (List.mem_cons_of_mem _ z)
                rw [this vs h3]; exact h4
              rcases c2.own j d' h1 h5 with ⟨d2, v, z, g4, g7⟩ | ⟨q, xs, g4, g5, g6, g7, g8⟩
              · rw [wipe_get h3] at g4
                exact .inl ⟨d2, v, z, g4, g7⟩
              · rw [wipe_get h3] at g4
                refine .inr ⟨q, xs, g4, g5, g6, g7, g8.elim .inl fun z => .inr ⟨?_, fun y => z.2 (.inl y)⟩⟩
                have hq : q ≠ Dl := fun e => z.2 (.inr e)
                have z1 : upd fr.B Dl (.lst accV) q = none := z.1
                rw [upd_ne hq] at z1
                exact z1
          inj := fun j k d' e' p' h1 h2 h3 h4 h5 h6 h7 => by
            have lift : ∀ {j : Nat} {d' : D}, j ∈ fr.ow → (restE ρ1 ρe vs)[j]? = some (some d') → (wipeE ρe vs)[j]? = some (some d') ∧ j ∉ vs := by
              intro j d' h1 h2
              rcases restE_some h2 with ⟨h3, _⟩ | ⟨h3, h4⟩
              · exact absurd h3 (hov j h1)
              · have : ∀ vs : List Nat, j ∉ vs → (wipeE ρe vs)[j]? = ρe[j]? := by
                  intro vs
                  induction vs with
                  | nil => intro _; rfl
                  | cons v vs ih =>
                    intro h
                    unfold wipeE
                    rw [List.getElem?_set_ne (fun e => h (by rw [e]; exact List.mem_cons_self))]
                    exact ih fun z => h (List.mem_cons_of_mem _ z)
                exact ⟨by rw [this vs h3]; exact h4, h3⟩
            obtain ⟨q1, q2⟩ := lift h1 h4
            obtain ⟨q3, q4⟩ := lift h2 h5
            exact c2.inj j k d' e' p' h1 h2 h3 q1 q3 (by rw [wipe_get q2]; exact h6) (by rw [wipe_get q4]; exact h7) }
      · intro j d' h1 h2
        rcases restE_some h2 with ⟨h4, _⟩ | ⟨h4, h5⟩
        · exact absurd h4 (hov j h1)
        · have h6 : (wipeE ρe vs)[j]? = some (some d') := by
            have : ∀ vs : List Nat, j ∉ vs → (wipeE ρe vs)[j]? = ρe[j]? := by
              intro vs
              induction vs with
              | nil => intro _; rfl
              | cons v vs ih =>
                intro h
                unfold wipeE
                rw [List.getElem?_set_ne (fun e => h (by rw [e]; exact List.mem_cons_self))]
                exact ih fun z => h (List.mem_cons_of_mem _ z)
            rw [this vs h4]; exact h5
          rcases c2.own j d' h1 h6 with ⟨d2, v, rfl, _⟩ | ⟨q, xs, g4, g5, g6, g7, g8⟩
          · exact .inl rfl
          · refine .inr fun h3 => ?_
            rw [wipe_get h4, h3] at g4
            cases g4
            rcases g8 with ⟨b1, _, b3⟩ | ⟨_, b2⟩
            · exact n3 b1 b3
            · exact b2 (.inr rfl)
variable {ks vs : List Nat} {wi : TI} {g : TG} {tt : TT} {mi : Env → Rs (List D)} {mg : D → Env → Option Env} {mt : Env → Rs Bool}
theorem evf_lc (hi : IV Γ fr wi mi) (hg : ∀ B S0, GV Γ (frb fr B S0) ks g mg) (ht : ∀ B S0, ET Γ (frb fr B S0) tt mt) (he : ∀ B S0, EV Γ (frb fr B S0) te m) (hk : ∀ k ∈ ks, k ∈ vs := by decide) (hv : fr.hd = false ∨ 0 ∉ vs := by first | exact Or.inl rfl | exact Or.inr (by decide)) (hov : (fr.ow.all fun k => !vs.contains k) = true := by rfl) (hxs : fr.xs = none := by rfl) :
    EVF Γ fr (tLc wi g tt te vs) (eLc mi mg mt m vs) := fun σ ρ G S c Q p => by
  refine hi.stepF c p fun ds ρ1 J G1 S1 _ c1 hJ p1 => ?_
  intro Dl hD
  obtain ⟨n1, n2, n3⟩ := c1.newB hD
  by_cases hlen : ds.length ≤ 1000000
  · rw [if_pos hlen] at p1
    generalize hr : lcL mg mt m vs ds [] ρ1 = r at p1
    cases r with
    | stuck => exact p1.elim
    | exc _ _ => exact p1.elim
    | ok l ρe => exact lc_run c1 (jwk_of hJ) (fun a o h => by cases h) hD hlen hr hg ht he hk hv (allown hov) hxs fun G2 S2 xs e2 c2 h1 h2 h3 h4 => p1 Dl _ G2 S2 e2 c2 h1 h2 (.lst h3) n1 n2 n3 h4
  · rw [if_neg hlen] at p1
    exact p1.elim
/-- a new list, shared from then on -/
theorem ev_of (h : EVF Γ fr te m) : EV Γ fr te m := fun σ ρ G S c Q p => by
  refine h σ ρ G S c Q ?_
  generalize m ρ = r at p ⊢
  cases r with
  | stuck => exact p
  | exc _ _ => exact p
  | ok d ρ' =>
    intro q o G1 S1 e1 c1 hS hG hD hB hS0 hh hn
    have le : Same (hide S1 G1) (hide (fun a => S1 a ∧ a ≠ q) G1) := hide_less fun a h => h.1
    have hD2 : IsD Γ (hide (fun a => S1 a ∧ a ≠ q) G1) (.ref q) d := by
      have hg := hide_of (S := fun a => S1 a ∧ a ≠ q) (fun z => z.2 rfl) hG
      cases hD with
      | lst h => exact .lst hg (h.le le)
      | ins h0 h => exact .ins hg h0 (h.le le)
      | dic h0 h h' => exact .dic hg h0 (h.le le) (h'.le le)
    refine PostG.give p (e1.trans le) (S' := fun a => S1 a ∧ a ≠ q) ?_ hD2
    exact {
      len := c1.len
      dom := fun a h => c1.dom a h.1
      sub := fun a h => ⟨c1.sub a h, fun z => hS0 (by rw [← z]; exact h)⟩
      keep := c1.keep
      hs0 := c1.hs0
      pin := c1.pin
      xsl := fun q h => ⟨(c1.xsl q h).1, (c1.xsl q h).2.le le⟩
      sh := fun j d' h1 h2 => by
        obtain ⟨v, h3, h4⟩ := c1.sh j d' h1 h2
        exact ⟨v, h3, h4.le le⟩
      own := fun j d' h1 h2 => by
        rcases c1.own j d' h1 h2 with ⟨d2, v, z, g4, g7⟩ | ⟨q', ys, g4, g5, g6, g7, g8⟩
        · exact .inl ⟨d2, v, z, g4, g7.le le⟩
        · refine .inr ⟨q', ys, g4, ⟨g5, fun z => ?_⟩, g6, g7.le le, g8⟩
          rcases hn j d' h1 h2 with y | y
          · cases g7 <;> cases y
          · exact y (by rw [← z]; exact g4)
      inj := c1.inj }
/-- a comprehension over a list of one's own, which it doesn't name elsewhere -/
def lcO2 (i : Nat) (ρ1 : Env) (vs : List Nat) (ds : List D) : Rs (List D) → Rs D
  | .ok l ρ2 => .ok (.lst l) ((restE ρ1 ρ2 vs).set i (some (.lst ds)))
  | _ => .stuck
def lcO1 (i : Nat) (mg : D → Env → Option Env) (mt : Env → Rs Bool) (me : Env → Rs D) (vs : List Nat) (ρ : Env) : Option (List D) → Rs D
  | some ds => if ds.length ≤ 1000000 then lcO2 i (ρ.set i none) vs ds (lcL mg mt me vs ds [] (ρ.set i none)) else .stuck
  | none => .stuck
def eLcO (i : Nat) (mg : D → Env → Option Env) (mt : Env → Rs Bool) (me : Env → Rs D) (vs : List Nat) : Env → Rs D := fun ρ => lcO1 i mg mt me vs ρ (ownL ρ i)
theorem evf_lcO (hi : fr.isOwn i = true) (hg : ∀ B S0, GV Γ (frb fr B S0) ks g mg) (ht : ∀ B S0, ET Γ (frb fr B S0) tt mt) (he : ∀ B S0, EV Γ (frb fr B S0) te m) (hk : ∀ k ∈ ks, k ∈ vs := by decide) (hv : fr.hd = false ∨ 0 ∉ vs := by first | exact Or.inl rfl | exact Or.inr (by decide)) (hov : (fr.ow.all fun k => !vs.contains k) = true := by rfl) (hxs : fr.xs = none := by rfl) (hz : fr.hd = false ∨ i ≠ 0 := by first | exact Or.inl rfl | exact Or.inr (by decide)) :
    EVF Γ fr (tLc (iSeq Γ.K (tVar i)) g tt te vs) (eLcO i mg mt m vs) := fun σ ρ G S c Q p => by
  have hi : i ∈ fr.ow := isown hi
  unfold eLcO at p
  cases ho : ownL ρ i with
  | none => rw [ho] at p; exact p.elim
  | some ds =>
    rw [ho] at p
    obtain ⟨q, xs, h4, h5, h6, h7, h8⟩ := c.ownAt hi ho
    have hb : fr.B q = none ∧ ¬ fr.S0 q := by
      rcases h8 with ⟨a, b, _⟩ | h
      · rcases hz with hz | hz
        · rw [hz] at a; cases a
        · exact absurd b hz
      · exact h
    have hqp : fr.hd = true → q ≠ fr.hp := fun e z => hb.2 (z ▸ c.hs0 e)
    have c1 : Co Γ { fr with B := upd fr.B q (.lst xs), S0 := fun a => fr.S0 a ∨ a = q } σ (ρ.set i none) G S := {
      len := by rw [Rn]; exact c.len
      dom := c.dom
      sub := fun a h => h.elim (c.sub a) (fun e => e ▸ h5)
      keep := fun a o h1 h2 => by
        by_cases ha : a = q
        · subst ha
          have h2' : upd fr.B a (.lst xs) a = some o := h2
          rw [upd_same] at h2'
          rw [h6]; exact h2'
        · have h2' : upd fr.B q (.lst xs) a = some o := h2
          rw [upd_ne ha] at h2'
          exact c.keep a o h1 h2'
      pin := c.pin
      hs0 := fun e => .inl (c.hs0 e)
      xsl := c.xsl
      sh := fun j d' h1 h2 => by
        rcases set_get h2 with ⟨_, _, e⟩ | ⟨_, e⟩
        · cases e
        · exact c.sh j d' h1 e
      own := fun j d' h1 h2 => by
        rcases set_get h2 with ⟨_, _, e⟩ | ⟨hne, e⟩
        · cases e
        · rcases c.own j d' h1 e with z | ⟨q', o, g4, g5, g6, g7, g8⟩
          · exact .inl z
          · have hq : q' ≠ q := fun z => by
              subst z
              rcases c.inj j i d' _ q' h1 hi hne e (ownL_of ho) g4 h4 with y | y
              · cases g7 <;> cases y
              · cases y
            refine .inr ⟨q', o, g4, g5, g6, g7, g8.elim .inl fun z => .inr ⟨?_, fun y => y.elim z.2 hq⟩⟩
            show upd fr.B q (.lst xs) q' = none
            rw [upd_ne hq]; exact z.1
      inj := fun j k d' e' p' h1 h2 h3 g4 g5 => by
        rcases set_get g4 with ⟨_, _, e⟩ | ⟨_, e1⟩
        · cases e
        · rcases set_get g5 with ⟨_, _, e⟩ | ⟨_, e2⟩
          · cases e
          · exact c.inj j k d' e' p' h1 h2 h3 e1 e2 }
    have hJ : JWK Γ (Itl Γ.K q) ds (hide S G) (fun a => if a = q then some (.lst xs) else none) := fun j G2 S2 e dom hkp => by
      have hG2 : G2 q = some (.lst xs) := hkp q _ (if_pos rfl)
      have hq : SqL Γ.K G2 q xs := SqL.of hG2
      refine ⟨fun hl => ⟨xs, hq, by rw [h7.length]; exact hl⟩, fun d hd => ?_⟩
      obtain ⟨v, hv, hr⟩ := h7.get hd
      refine ⟨⟨xs, v, hq, hv⟩, fun x G' y => ?_⟩
      obtain ⟨rfl, y⟩ := y
      have hx := y xs hq
      rw [hv] at hx
      cases hx
      exact ⟨Same.refl _, hr.le e⟩
    refine ⟨.ref q, h4, .inl ⟨q, rfl, ⟨xs, SqL.of h6⟩, fun Dl hD => ?_⟩⟩
    obtain ⟨n1, n2, n3⟩ := c.newB hD
    have nq : Dl ≠ q := fun z => by rw [z, h6] at hD; cases hD
    have p2 : PostF Γ fr σ G S Q (if ds.length ≤ 1000000 then lcO2 i (ρ.set i none) vs ds (lcL mg mt m vs ds [] (ρ.set i none)) else .stuck) := p
    by_cases hlen : ds.length ≤ 1000000
    · rw [if_pos hlen] at p2
      generalize hr : lcL mg mt m vs ds [] (ρ.set i none) = r at p2
      cases r with
      | stuck => exact p2.elim
      | exc _ _ => exact p2.elim
      | ok l ρe =>
        refine lc_run c1 hJ (fun a o h => ?_) hD hlen hr hg ht he hk hv (allown hov) hxs fun G2 S2 xs2 e2 c2 s1 s2 s3 s4 => ?_
        · by_cases ha : a = q
          · subst ha
            have h' : (if a = a then some (HO.lst xs) else none) = some o := h
            rw [if_pos rfl] at h'
            exact ⟨by show upd fr.B a (.lst xs) a = some o; rw [upd_same]; exact h', hqp⟩
          · have h' : (if a = q then some (HO.lst xs) else none) = some o := h
            rw [if_neg ha] at h'; cases h'
        · have hGq : G2 q = some (.lst xs) := c2.keep q _ hqp (by show upd fr.B q (.lst xs) q = _; rw [upd_same])
          have hSq : S2 q := c2.sub q (.inr rfl)
          have back : ∀ {j : Nat} {d' : D}, j ∈ fr.ow → j ≠ i → (restE (ρ.set i none) ρe vs)[j]? = some (some d') → (∃ d2 v, d' = .shd d2 ∧ σ[j]? = some (some v) ∧ IsD Γ (hide S2 G2) v d2) ∨ ∃ q' o, σ[j]? = some (some (.ref q')) ∧ S2 q' ∧ G2 q' = some o ∧ OwnO Γ (hide S2 G2) q' o d' ∧ q' ≠ q ∧ ((fr.hd = true ∧ j = 0 ∧ q' = fr.hp) ∨ (fr.B q' = none ∧ ¬ fr.S0 q')) := fun {j d'} h1 hne e => by
            rcases c2.own j d' h1 e with z | ⟨q', o, g4, g5, g6, g7, g8⟩
            · exact .inl z
            · rcases g8 with ⟨b1, b2, b3⟩ | ⟨b1, b2⟩
              · exact .inr ⟨q', o, g4, g5, g6, g7, fun z => hqp b1 (z ▸ b3), .inl ⟨b1, b2, b3⟩⟩
              · have hq : q' ≠ q := fun z => b2 (.inr z)
                have b1' : upd fr.B q (.lst xs) q' = none := b1
                rw [upd_ne hq] at b1'
                exact .inr ⟨q', o, g4, g5, g6, g7, hq, .inr ⟨b1', fun y => b2 (.inl y)⟩⟩
          refine p2 Dl _ G2 S2 e2 ?_ s1 s2 (.lst s3) n1 n2 n3 fun j d' h1 h2 => ?_
          · exact {
              len := by rw [Rn]; exact c2.len
              dom := c2.dom
              sub := fun a h => c2.sub a (.inl h)
              keep := fun a o h1 h2 => by
                by_cases ha : a = q
                · subst ha; rw [hb.1] at h2; cases h2
                · exact c2.keep a o h1 (by show upd fr.B q (.lst xs) a = some o; rw [upd_ne ha]; exact h2)
              pin := c2.pin
              hs0 := c.hs0
              xsl := c2.xsl
              sh := fun j d' h1 h2 => by
                rcases set_get h2 with ⟨rfl, _⟩ | ⟨_, e⟩
                · exact absurd hi h1
                · exact c2.sh j d' h1 e
              own := fun j d' h1 h2 => by
                rcases set_get h2 with ⟨rfl, _, e⟩ | ⟨hne, e⟩
                · cases e
                  exact .inr ⟨q, _, h4, hSq, hGq, .lst (h7.le e2), .inr hb⟩
                · rcases back h1 hne e with z | ⟨q', o, g4, g5, g6, g7, _, g8⟩
                  · exact .inl z
                  · exact .inr ⟨q', o, g4, g5, g6, g7, g8⟩
              inj := fun j k d' e' p' h1 h2 h3 g4 g5 g6 g7 => by
                rcases set_get g4 with ⟨rfl, _, z1⟩ | ⟨n1, z1⟩
                · rcases set_get g5 with ⟨rfl, _, z2⟩ | ⟨n2, z2⟩
                  · exact absurd rfl h3
                  · rw [h4] at g6
                    cases g6
                    rcases back h2 n2 z2 with ⟨_, _, y, _⟩ | ⟨q', o, y4, _, _, _, y5, _⟩
                    · subst y; exact .inr rfl
                    · rw [g7] at y4; cases y4; exact absurd rfl y5
                · rcases set_get g5 with ⟨rfl, _, z2⟩ | ⟨n2, z2⟩
                  · rw [h4] at g7
                    cases g7
                    rcases back h1 n1 z1 with ⟨_, _, y, _⟩ | ⟨q', o, y4, _, _, _, y5, _⟩
                    · subst y; exact .inl rfl
                    · rw [g6] at y4; cases y4; exact absurd rfl y5
                  · exact c2.inj j k d' e' p' h1 h2 h3 z1 z2 g6 g7 }
          · rcases set_get h2 with ⟨rfl, _, e⟩ | ⟨hne, e⟩
            · refine .inr fun z => ?_
              rw [h4] at z
              cases z
              exact nq rfl
            · exact s4 j d' h1 e
    · rw [if_neg hlen] at p2
      exact p2.elim
end
end Py

set_option Elab.async false
set_option linter.all false
set_option maxRecDepth 100000
set_option maxHeartbeats 2000000
namespace Py
open PySem L2
open PyProof.Rows (envOfC)

/-! ## 9. Defs -/
inductive Rf (α : Type) where
  | ok (a : α)
  | exc (e : D)
  | stuck
/-- a def that changes nothing of what it is handed -/
def spP (Γ : Gm) (n : Nat) (m : List D → Rf D) : Sp := fun vs G Q E => vs.length = n ∧ ∃ (S : Addr → Prop) (ds : List D), (∀ a, S a → ∃ o, G a = some o) ∧ IsDs Γ (hide S G) vs ds ∧ match m ds with
  | .ok d => ∀ v G', Same G G' → IsD Γ (hide S G') v d → Q v G'
  | .exc e => ∀ cls dx G', Same G G' → IsX Γ (hide S G') cls dx e → E cls dx G'
  | .stuck => False
/-- a def whose first argument is a list that it changes -/
def spH (Γ : Gm) (n : Nat) (m : List D → List D → Rf (D × List D)) : Sp := fun vs G Q E => vs.length = n ∧ ∃ (S : Addr → Prop) (p : Addr) (ws xs : List V) (l ds : List D), vs = .ref p :: ws ∧ (∀ a, S a → ∃ o, G a = some o) ∧ S p ∧ G p = some (.lst xs) ∧ IsDs Γ (hide S G) xs l ∧ IsDs Γ (hide S G) ws ds ∧ match m l ds with
  | .ok (d, l') => ∀ v G' xs', (∀ a o, a ≠ p → G a = some o → G' a = some o) → G' p = some (.lst xs') → IsDs Γ (hide S G') xs' l' → IsD Γ (hide S G') v d → Q v G'
  | .exc e => False
  | .stuck => False
/-- a def that hands back a new list, its own from then on -/
def spN (Γ : Gm) (n : Nat) (m : List D → Rf D) : Sp := fun vs G Q E => vs.length = n ∧ ∃ (S : Addr → Prop) (ds : List D), (∀ a, S a → ∃ o, G a = some o) ∧ IsDs Γ (hide S G) vs ds ∧ match m ds with
  | .ok d => ∀ p G' o, G p = none → Same G G' → G' p = some o → OwnO Γ (hide (fun a => S a ∨ a = p) G') p o d → Q (.ref p) G'
  | .exc e => False
  | .stuck => False
def entry (n : Nat) (ds : List D) : Env := ds.map some ++ List.replicate (n - ds.length) none
def runF (n : Nat) (m : Env → Out) (ds : List D) : Rf D := match m (entry n ds) with
  | .nx _ => .ok .non
  | .ret d _ => .ok d
  | .exc e _ => .exc e
  | _ => .stuck
def runH (n : Nat) (m : Env → Out) (l ds : List D) : Rf (D × List D) := match m (entry n (.lst l :: ds)) with
  | .nx ρ => match ownL ρ 0 with
    | some l' => .ok (.non, l')
    | none => .stuck
  | .ret d ρ => match ownL ρ 0 with
    | some l' => .ok (d, l')
    | none => .stuck
  | _ => .stuck
theorem entry_some {n : Nat} {ds : List D} {i : Nat} {d : D} (h : (entry n ds)[i]? = some (some d)) : ds[i]? = some d := by
  unfold entry at h
  by_cases hi : i < ds.length
  · rw [List.getElem?_append_left (by simpa using hi), List.getElem?_map] at h
    cases e : ds[i]? with
    | none => rw [e] at h; cases h
    | some x => rw [e] at h; cases h; rfl
  · rw [List.getElem?_append_right (by simpa using hi), List.getElem?_replicate] at h
    split at h <;> cases h
theorem start_get {N : List Str} {vs : List V} {i : Nat} {v : V} (h : vs[i]? = some v) : (L2.start N vs)[i]? = some (some v) := by
  have hi : i < vs.length := (List.getElem?_eq_some_iff.mp h).1
  unfold L2.start
  rw [List.getElem?_append_left (by simpa using hi), List.getElem?_map, h]
  rfl
section
variable {Γ : Gm} {P : Program} {w : World} {mg : Str → Option Value} {base : Heap}
theorem okP {dvs : List V} {x qual : Str} {st : Stmt} {f : Addr} {fd : FuncData} {N ps : List Str} {k : Nat} (ow : List Nat) (m : Env → Out) (F : FunD Γ.K x qual (defArgs st) (defBody st) (defScope st) dvs [] f fd) (S : FnScope N ps (defScope st)) (how : ∀ i ∈ ow, ps.length ≤ i)
    (hbody : ∀ (cdv : Value) (A : Around) (outer : List PySem.Env) (s : Shared) (H : Hp) (E : XK) (S0 : Addr → Prop), Room k (A.deeper (envOfC qual (defScope st) s.heap.objs.size f cdv)) →
      ∃ t, PSs (cxOf (L2.CX P w) P w Γ.K mg base N qual (defScope st) f cdv A outer s H E) (defBody st) t ∧ SV Γ { ow := ow, hd := false, hp := 0, B := H, S0 := S0, W := fun cls d _ H => E cls d H } t m) :
    FnOk P w Γ.K mg base (L2.CX P w) (k + 1) f fd ps (spP Γ ps.length (runF N.length m)) := by
  refine F.ok (CX := L2.CX P w) S (fun vs H Q E h => h.1) (fun cdv A outer s H vs Q E hr h => ?_)
  obtain ⟨hn, S0, ds, dom, hv, hq⟩ := h
  obtain ⟨t, ht, hs⟩ := hbody cdv A outer s H E S0 hr
  refine ⟨t, ht, hs (L2.start N vs) (entry N.length ds) H S0 ?_ _ ?_⟩
  · exact {
      len := by unfold L2.start entry; simp only [Rb, Qy, List.length_replicate]; rw [hv.length]
      dom := dom
      sub := fun _ h => h
      keep := fun _ _ _ h => h
      pin := fun e => by cases e
      hs0 := fun e => by cases e
      xsl := fun q h => nomatch h
      sh := fun i d _ h => by
        obtain ⟨v, h1, h2⟩ := hv.get (entry_some h)
        exact ⟨v, start_get h1, h2⟩
      own := fun i d h1 h2 => by
        have h3 := (List.getElem?_eq_some_iff.mp (entry_some h2)).1
        have h4 := how i h1
        rw [← hv.length, hn] at h3
        omega
      inj := fun i j d e p h1 _ _ h2 => by
        have h3 := (List.getElem?_eq_some_iff.mp (entry_some h2)).1
        have h4 := how i h1
        rw [← hv.length, hn] at h3
        omega }
  · unfold runF at hq
    generalize m (entry N.length ds) = r at hq ⊢
    cases r with
    | nx ρ => exact fun σ' G' S' e c => hq .non G' (fun a o h => c.keep a o (fun z => by cases z) h) .non
    | ret d ρ => exact fun v σ' G' S' e c hd => hq v G' (fun a o h => c.keep a o (fun z => by cases z) h) (hd.le (hide_less c.sub))
    | exc e ρ => exact fun cls dx σ' G' S' _ c hx => hq cls dx G' (fun a o h => c.keep a o (fun z => by cases z) h) (hx.le (hide_less c.sub))
    | brk _ => exact hq.elim
    | ct _ => exact hq.elim
    | stuck => exact hq
theorem okH {dvs : List V} {x qual : Str} {st : Stmt} {f : Addr} {fd : FuncData} {N ps : List Str} {k : Nat} (ow : List Nat) (m : Env → Out) (F : FunD Γ.K x qual (defArgs st) (defBody st) (defScope st) dvs [] f fd) (S : FnScope N ps (defScope st)) (h0 : 0 ∈ ow) (how : ∀ i ∈ ow, i = 0 ∨ ps.length ≤ i)
    (hbody : ∀ (cdv : Value) (A : Around) (outer : List PySem.Env) (s : Shared) (H : Hp) (E : XK) (S0 : Addr → Prop) (p : Addr), Room k (A.deeper (envOfC qual (defScope st) s.heap.objs.size f cdv)) →
      ∃ t, PSs (cxOf (L2.CX P w) P w Γ.K mg base N qual (defScope st) f cdv A outer s H E) (defBody st) t ∧ SV Γ { ow := ow, hd := true, hp := p, B := H, S0 := S0, W := fun cls d _ H => E cls d H } t m) :
    FnOk P w Γ.K mg base (L2.CX P w) (k + 1) f fd ps (spH Γ ps.length (runH N.length m)) := by
  refine F.ok (CX := L2.CX P w) S (fun vs H Q E h => h.1) (fun cdv A outer s H vs Q E hr h => ?_)
  obtain ⟨hn, S0, p, ws, xs, l, ds, rfl, dom, hS, hG, hx, hv, hq⟩ := h
  obtain ⟨t, ht, hs⟩ := hbody cdv A outer s H E S0 p hr
  have fin : ∀ {σ' : L2.St} {ρ' : Env} {G' : Hp} {S' : Addr → Prop} {l' : List D}, Co Γ { ow := ow, hd := true, hp := p, B := H, S0 := S0, W := fun cls d _ H => E cls d H } σ' ρ' G' S' → ownL ρ' 0 = some l' →
      (∀ a o, a ≠ p → H a = some o → G' a = some o) ∧ ∃ xs', G' p = some (.lst xs') ∧ IsDs Γ (hide S0 G') xs' l' := fun {σ' ρ' G' S' l'} c e => by
    refine ⟨fun a o h1 h2 => c.keep a o (fun _ => h1) h2, ?_⟩
    obtain ⟨q, ys, g1, g2, g3, g4, _⟩ := c.ownAt h0 e
    have g5 := c.pin rfl
    rw [g1] at g5
    cases g5
    exact ⟨ys, g3, g4.le (hide_less c.sub)⟩
  refine ⟨t, ht, hs (L2.start N (.ref p :: ws)) (entry N.length (.lst l :: ds)) H S0 ?_ _ ?_⟩
  · exact {
      len := by unfold L2.start entry; simp only [Rb, Qy, List.length_replicate, Qz]; rw [hv.length]
      dom := dom
      sub := fun _ h => h
      keep := fun _ _ _ h => h
      pin := fun _ => start_get rfl
      hs0 := fun _ => hS
      xsl := fun q h => nomatch h
      sh := fun i d h h' => by
        have h1 := entry_some h'
        cases i with
        | zero => exact absurd h0 h
        | succ i =>
          obtain ⟨v, h1, h2⟩ := hv.get (i := i) (by simpa using h1)
          exact ⟨v, start_get (by simpa using h1), h2⟩
      own := fun i d h1 h2 => by
        rcases how i h1 with rfl | h4
        · have h3 := entry_some h2
          cases h3
          exact .inr ⟨p, _, start_get rfl, hS, hG, .lst hx, .inl ⟨rfl, rfl, rfl⟩⟩
        · have h3 := (List.getElem?_eq_some_iff.mp (entry_some h2)).1
          rw [Qz, ← hv.length] at h3
          rw [Qz] at hn
          omega
      inj := fun i j d e p h1 h1' hne h2 h2' => by
        have key : ∀ {i : Nat} {d : D}, i ∈ ow → (entry N.length (.lst l :: ds))[i]? = some (some d) → i = 0 := fun {i d} h1 h2 => by
          rcases how i h1 with h4 | h4
          · exact h4
          · have h3 := (List.getElem?_eq_some_iff.mp (entry_some h2)).1
            rw [Qz, ← hv.length] at h3
            rw [Qz] at hn
            omega
        have e1 := key h1 h2
        have e2 := key h1' h2'
        exact absurd (e1.trans e2.symm) hne }
  · unfold runH at hq
    generalize m (entry N.length (.lst l :: ds)) = r at hq ⊢
    cases r with
    | nx ρ =>
      dsimp only at hq
      intro σ' G' S' e c
      cases ho : ownL ρ 0 with
      | none => rw [ho] at hq; exact hq.elim
      | some l' =>
        rw [ho] at hq
        obtain ⟨f1, xs', f2, f3⟩ := fin c ho
        exact hq .non G' xs' f1 f2 f3 .non
    | ret d ρ =>
      dsimp only at hq
      intro v σ' G' S' e c hd
      cases ho : ownL ρ 0 with
      | none => rw [ho] at hq; exact hq.elim
      | some l' =>
        rw [ho] at hq
        obtain ⟨f1, xs', f2, f3⟩ := fin c ho
        exact hq v G' xs' f1 f2 f3 (hd.le (hide_less c.sub))
    | exc e ρ => exact hq.elim
    | brk _ => exact hq.elim
    | ct _ => exact hq.elim
    | stuck => exact hq
end

/-- a def that ends by handing back a list that it has made: the list stays hidden -/
def SN (Γ : Gm) (fr : Frm) (t : TS) (m : Env → Out) : Prop := ∀ σ ρ G S, Co Γ fr σ ρ G S → ∀ E : Ends, (match m ρ with
  | .nx ρ' => ∀ σ' G' S', Same (hide S G) (hide S' G') → Co Γ fr σ' ρ' G' S' → E.nx σ' G'
  | .ret d ρ' => ∀ p o σ' G' S', Same (hide S G) (hide S' G') → Co Γ fr σ' ρ' G' S' → S' p → G' p = some o → OwnO Γ (hide S' G') p o d → fr.B p = none → ¬ fr.S0 p → E.rt (.ref p) G'
  | _ => False) → t E σ G
/-! ## 10. Calls -/
def Rf.to {α : Type} (r : Rf α) (ρ : Env) : Rs α := match r with
  | .ok d => .ok d ρ
  | .exc e => .exc e ρ
  | .stuck => .stuck
def eCall (n : Nat) (m : List D → Rf D) (dd : List D) (ma : Env → Rs (List D)) : Env → Rs D := fun ρ => (ma ρ).bind fun ds ρ1 => if (ds ++ dd).length = n then (m (ds ++ dd)).to ρ1 else .stuck
def eCallN (n : Nat) (m : List D → Rf D) (dd : List D) (ma : Env → Rs (List D)) : Env → Rs D := fun ρ => (ma ρ).bind fun ds ρ1 => if (ds ++ dd).length = n then (match m (ds ++ dd) with
  | .ok d => .ok d ρ1
  | _ => .stuck) else .stuck
def eCallH (i n : Nat) (m : List D → List D → Rf (D × List D)) (ma : Env → Rs (List D)) : Env → Rs D := fun ρ => match ownL ρ i with
  | none => .stuck
  | some _ => (ma ρ).bind fun ds ρ1 => if ds.length + 1 = n then (match ownL ρ1 i with
    | none => .stuck
    | some l => match m l ds with
      | .ok (d, l') => .ok d (ρ1.set i (some (.lst l')))
      | _ => .stuck) else .stuck
section
variable {Γ : Gm} {fr : Frm} {σ : L2.St} {ρ : Env} {G G' : Hp} {S S' : Addr → Prop} {te : TE} {m : Env → Rs D} {i n : Nat} {ta : TA} {ma : Env → Rs (List D)}
theorem ev_call {f : List D → Rf D} {dvs : List V} {dd : List D} (ha : EA Γ fr ta ma) (hd : ∀ H, IsDs Γ H dvs dd) : EV Γ fr (tCallSD (spP Γ n f) dvs (WE fr.W) ta) (eCall n f dd ma) := fun σ ρ G S c Q p => by
  refine ha.step c p fun ds ρ1 vs G1 S1 _ c1 hx p1 => ?_
  have p2 : PostG (fun H v d => IsD Γ H v d) Γ fr σ G1 S1 Q (if (ds ++ dd).length = n then (f (ds ++ dd)).to ρ1 else .stuck) := p1
  by_cases hn : (ds ++ dd).length = n
  · rw [if_pos hn] at p2
    have hv := hx.append (hd (hide S1 G1))
    refine ⟨hv.length.trans hn, S1, ds ++ dd, c1.dom, hv, ?_⟩
    generalize f (ds ++ dd) = r at p2
    cases r with
    | ok d => exact fun v G' e h => p2 v G' S1 (hide_ext e) (c1.ext e) h
    | exc x => exact fun cls dx G' e h => p2 cls dx G' S1 (hide_ext e) (c1.ext e) h
    | stuck => exact p2
  · rw [if_neg hn] at p2
    exact p2.elim
theorem evf_call {f : List D → Rf D} {dvs : List V} {dd : List D} (ha : EA Γ fr ta ma) (hd : ∀ H, IsDs Γ H dvs dd) : EVF Γ fr (tCallSD (spN Γ n f) dvs (WE fr.W) ta) (eCallN n f dd ma) := fun σ ρ G S c Q p => by
  refine ha.stepF c p fun ds ρ1 vs G1 S1 _ c1 hx p1 => ?_
  by_cases hn : (ds ++ dd).length = n
  · rw [if_pos hn] at p1
    have hv := hx.append (hd (hide S1 G1))
    refine ⟨hv.length.trans hn, S1, ds ++ dd, c1.dom, hv, ?_⟩
    generalize f (ds ++ dd) = r at p1
    cases r with
    | ok d =>
      intro q G2 o hq e2 hG hD
      obtain ⟨n1, n2, n3⟩ := c1.newB hq
      have le : Same (hide S1 G1) (hide (fun a => S1 a ∨ a = q) G2) := fun a u h => by
        obtain ⟨h1, h2⟩ := hide_some.mp h
        exact hide_of (fun z => z.elim h1 (ne_of_none h2 hq)) (e2 _ _ h2)
      refine p1 q o G2 (fun a => S1 a ∨ a = q) le ?_ (.inr rfl) hG hD n1 n2 n3 (c1.newOwn hq)
      have c2 := c1.ext e2
      exact {
        len := c2.len
        dom := fun a h => by
          rcases h with h | rfl
          · exact c2.dom a h
          · exact ⟨_, hG⟩
        sub := fun a h => .inl (c2.sub a h)
        keep := c2.keep
        pin := c2.pin
        hs0 := c2.hs0
        xsl := fun q h => ⟨(c1.xsl q h).1, (c1.xsl q h).2.le le⟩
        sh := fun i d h1 h2 => by
          obtain ⟨v, h3, h4⟩ := c1.sh i d h1 h2
          exact ⟨v, h3, h4.le le⟩
        own := fun i d h1 h2 => by
          rcases c1.own i d h1 h2 with ⟨d2, v, z, h4, h7⟩ | ⟨q', ys, h4, h5, h6, h7, h8⟩
          · exact .inl ⟨d2, v, z, h4, h7.le le⟩
          · exact .inr ⟨q', ys, h4, .inl h5, e2 _ _ h6, h7.le le, h8⟩
        inj := c2.inj }
    | exc x => exact p1.elim
    | stuck => exact p1
  · rw [if_neg hn] at p1
    exact p1.elim
end
end Py

set_option Elab.async false
set_option linter.all false
set_option maxRecDepth 100000
set_option maxHeartbeats 2000000
namespace Py
open PySem L2
open PyProof.Rows (envOfC)

section
variable {Γ : Gm} {fr : Frm} {σ : L2.St} {ρ : Env} {G G' : Hp} {S S' : Addr → Prop} {te : TE} {m : Env → Rs D} {i n : Nat} {ta : TA} {ma : Env → Rs (List D)}
theorem ev_callH {f : List D → List D → Rf (D × List D)} (ha : EA Γ fr ta ma) (hi : fr.isOwn i = true := by rfl) : EV Γ fr (tCallSD (spH Γ n f) [] (WE fr.W) (tCons (tVar i) ta)) (eCallH i n f ma) := fun σ ρ G S c Q p => by
  have hi : i ∈ fr.ow := isown hi
  unfold eCallH at p
  cases ho : ownL ρ i with
  | none => rw [ho] at p; exact p.elim
  | some l0 =>
    rw [ho] at p
    obtain ⟨q, xs0, h4, h5, h6, h7, h8⟩ := c.ownAt hi ho
    refine ⟨.ref q, h4, ?_⟩
    refine ha.step c p fun ds ρ1 vs G1 S1 _ c1 hx p1 => ?_
    have p2 : PostG (fun H v d => IsD Γ H v d) Γ fr σ G1 S1 Q (if ds.length + 1 = n then (match ownL ρ1 i with
      | none => .stuck
      | some l => match f l ds with
        | .ok (d, l') => .ok d (ρ1.set i (some (.lst l')))
        | _ => .stuck) else .stuck) := p1
    by_cases hn : ds.length + 1 = n
    · rw [if_pos hn] at p2
      cases ho1 : ownL ρ1 i with
      | none => rw [ho1] at p2; exact p2.elim
      | some l =>
        rw [ho1] at p2
        obtain ⟨q1, xs, g4, g5, g6, g7, g8⟩ := c1.ownAt hi ho1
        rw [h4] at g4
        cases g4
        have p3 : PostG (fun H v d => IsD Γ H v d) Γ fr σ G1 S1 Q (match f l ds with
          | .ok (d, l') => .ok d (ρ1.set i (some (.lst l')))
          | _ => .stuck) := p2
        refine ⟨?_, S1, q, vs, xs, l, ds, by rw [Ro], c1.dom, g5, g6, g7, hx, ?_⟩
        · rw [Ro, Qz, hx.length]; exact hn
        · generalize f l ds = r at p3
          cases r with
          | ok dl =>
            obtain ⟨d, l'⟩ := dl
            intro v G2 xs' k1 k2 k3 k4
            obtain ⟨Gz, em1, em2⟩ : ∃ Gz : Hp, Gz q = G1 q ∧ ∀ a, a ≠ q → Gz a = G2 a := ⟨fun a => if a = q then G1 q else G2 a, if_pos rfl, fun a h => if_neg h⟩
            have e1 : Same G1 Gz := fun a o h => by
              by_cases ha : a = q
              · subst ha; rw [em1]; exact h
              · rw [em2 a ha]; exact k1 a o ha h
            have e2 : upd Gz q (.lst xs') = G2 := by
              funext a
              by_cases ha : a = q
              · subst ha; rw [upd_same]; exact k2.symm
              · rw [upd_ne ha, em2 a ha]
            have e3 : hide S1 Gz = hide S1 G2 := by
              funext a
              unfold hide
              by_cases ha : S1 a
              · rw [if_pos ha, if_pos ha]
              · have hne : a ≠ q := fun z => ha (by rw [z]; exact g5)
                rw [if_neg ha, if_neg ha, em2 a hne]
            obtain ⟨c3, eh⟩ := (c1.ext e1).write (xs' := xs') (l' := l') hi (ownL_of ho1) h4 (by rw [em1]; exact g6) g5 (by rw [e3]; exact k3) g8
            rw [e2] at c3
            exact p3 v G2 S1 (by rw [← e3]; exact hide_ext e1) c3 k4
          | exc x => exact p3
          | stuck => exact p3
    · rw [if_neg hn] at p2
      exact p2.elim
/-- f(), raising as wished -/
theorem pe_callSD0 {X : Cx} {CX : CXT} {k : Nat} {f : Addr} {fd : FuncData} {ps : List Str} {sp : Sp} {dvs : List V} {ds : List Value} {E : L2.St → XK} {x : Str} {p pos : Pos}
    (F : FnOk X.prog X.w X.K X.mg X.base CX k f fd ps sp) (hr : Room k X.A) (hg : Gl X x) (hm : X.mg x = some (.ref f)) (hk : PySem.W.keepIn X.K (.ref f) = true) (hb : Binds X.K fd ps ds) (hd : Vals dvs ds) (hx : ∀ σ, PassesAt CX X σ (E σ))
    (hdb : (x == ("__debug__" : Str)) = false := by decide) : PE X (.Call (.Name x p) [] [] pos) (tCallSD sp dvs E tNil) := by
  refine ⟨fun pins s σ H Q I h => ?_⟩
  refine wpAny_Call_Name_kw (ld_glob I hg hm ?_ hdb)
  exact PySem.W.callWith_K0 I.kIn hk (run_fnSD (us := []) F hr hb hd (hx σ) I .nil h)

/-! ## 11. Errors -/
def spI1 (C : Addr) (f : Str) : Sp := fun vs H Q _ => ∃ (a : Addr) (y : V), vs = [.ref a, y] ∧ H a = some (exo a C none) ∧ ∀ dx, H dx = none → dx ≠ a → Q .non (upd (upd H dx (exd dx [(f, y)])) a (exo a C (some dx)))
def spI2 (C : Addr) (f g : Str) : Sp := fun vs H Q _ => ∃ (a : Addr) (y z : V), vs = [.ref a, y, z] ∧ H a = some (exo a C none) ∧ ∀ dx, H dx = none → dx ≠ a → Q .non (upd (upd (upd H dx (exd dx [(f, y)])) a (exo a C (some dx))) dx (exd dx [(g, z), (f, y)]))
theorem ok_i1 {P : Program} {w : World} {K : PySem.W.Frag} {mg : Str → Option Value} {base : Heap} {C : Addr} {x qual p : Str} {st : Stmt} {f : Addr} {fd : FuncData} {fl : Str} (F : FunD K x qual (defArgs st) (defBody st) (defScope st) [] [] f fd) (S : FnScope ["self", p] ["self", p] (defScope st)) (T : OexC K C) (hno : PySem.W.findIn K (.ref C) fl = some none)
    (hb : ∀ (cdv : Value) (A : Around) (outer : List PySem.Env) (s : Shared) (H : Hp) (E : XK), PSs (cxOf (L2.CX P w) P w K mg base ["self", p] qual (defScope st) f cdv A outer s H E) (defBody st) (tOst K fl (tVar 0) (tVar 1))) :
    FnOk P w K mg base (L2.CX P w) 1 f fd ["self", p] (spI1 C fl) := by
  refine F.ok (CX := L2.CX P w) S (fun vs H Q E h => ?_) (fun cdv A outer s H vs Q E hr h => ?_)
  · obtain ⟨a, y, rfl, _⟩ := h; rfl
  · obtain ⟨a, y, rfl, ha, k⟩ := h
    exact ⟨_, hb cdv A outer s H E, y, rfl, .ref a, rfl, a, C, rfl, T, hno, .inl ⟨ha, fun dx h1 h2 => k dx h1 h2⟩⟩
theorem ok_i2 {P : Program} {w : World} {K : PySem.W.Frag} {mg : Str → Option Value} {base : Heap} {C : Addr} {x qual p p' : Str} {st : Stmt} {f : Addr} {fd : FuncData} {fl gl : Str} (F : FunD K x qual (defArgs st) (defBody st) (defScope st) [] [] f fd) (S : FnScope ["self", p, p'] ["self", p, p'] (defScope st)) (T : OexC K C) (hno : PySem.W.findIn K (.ref C) fl = some none) (hno' : PySem.W.findIn K (.ref C) gl = some none)
    (hb : ∀ (cdv : Value) (A : Around) (outer : List PySem.Env) (s : Shared) (H : Hp) (E : XK), PSs (cxOf (L2.CX P w) P w K mg base ["self", p, p'] qual (defScope st) f cdv A outer s H E) (defBody st) (tSeq (tOst K fl (tVar 0) (tVar 1)) (tOst K gl (tVar 0) (tVar 2)))) :
    FnOk P w K mg base (L2.CX P w) 1 f fd ["self", p, p'] (spI2 C fl gl) := by
  refine F.ok (CX := L2.CX P w) S (fun vs H Q E h => ?_) (fun cdv A outer s H vs Q E hr h => ?_)
  · obtain ⟨a, y, z, rfl, _⟩ := h; rfl
  · obtain ⟨a, y, z, rfl, ha, k⟩ := h
    refine ⟨_, hb cdv A outer s H E, y, rfl, .ref a, rfl, a, C, rfl, T, hno, .inl ⟨ha, fun dx h1 h2 => ?_⟩⟩
    exact ⟨z, rfl, .ref a, rfl, a, C, rfl, T, hno', .inr ⟨dx, _, upd_same, by rw [upd_ne h2, upd_same], by simp, k dx h1 h2⟩⟩
def sRaise1 (c : Nat) (f : Str) (m : Env → Rs D) : Env → Out := fun ρ => (m ρ).out fun d ρ1 => .exc (.ins c [f] [d]) ρ1
def sRaise2 (c : Nat) (f g : Str) (m1 m2 : Env → Rs D) : Env → Out := fun ρ => (m1 ρ).out fun d ρ1 => (m2 ρ1).out fun e ρ2 => .exc (.ins c [g, f] [e, d]) ρ2
theorem sv_raise1 {c : Nat} {f : Str} {W : WX} (h : EV Γ fr te m) (hW : fr.W = W) : SV Γ fr (fun _ σ H => tMkO (Γ.cl c) (spI1 (Γ.cl c) f) [] (tCons te tNil) σ H fun cls d H' => W cls d σ H') (sRaise1 c f m) := fun σ ρ G S co E p => by
  refine h.stepS co p fun d ρ1 x G1 S1 _ c1 hx p1 => ?_
  refine ⟨Nat.le_of_ble_eq_true rfl, fun a ha => ⟨a, x, rfl, upd_same, fun dx hdx hne => ⟨rfl, dx, _, upd_same, by rw [upd_ne hne, upd_same], ?_, ?_⟩⟩⟩
  · rw [upd_ne hne] at hdx; exact hdx
  · have hdx' : G1 dx = none := by rw [upd_ne hne] at hdx; exact hdx
    have e : Same G1 (upd (del (upd (upd (upd G1 a (exo a (Γ.cl c) none)) dx (exd dx [(f, x)])) a (exo a (Γ.cl c) (some dx))) a) dx (.xd [(f, x)])) := fun b o hb => by
      have n1 : b ≠ dx := ne_of_none hb hdx'
      have n2 : b ≠ a := ne_of_none hb ha
      rw [upd_ne n1, del_ne n2, upd_ne n2, upd_ne n1, upd_ne n2]; exact hb
    rw [← hW]
    refine p1 _ _ σ _ S1 (hide_ext e) (c1.ext e) ⟨c, [f], [d], rfl, rfl, .inr ⟨dx, [x], rfl, hide_of (c1.fresh hdx') upd_same, rfl, .cons (hx.le (hide_ext e)) .nil⟩⟩
theorem sv_raise2 {c : Nat} {f g : Str} {W : WX} {te2 : TE} {m2 : Env → Rs D} (h : EV Γ fr te m) (h2 : EV Γ fr te2 m2) (hW : fr.W = W) : SV Γ fr (fun _ σ H => tMkO (Γ.cl c) (spI2 (Γ.cl c) f g) [] (tCons te (tCons te2 tNil)) σ H fun cls d H' => W cls d σ H') (sRaise2 c f g m m2) := fun σ ρ G S co E p => by
  refine h.stepS co p fun d ρ1 x G1 S1 _ c1 hx p1 => ?_
  refine h2.stepS c1 p1 fun d2 ρ2 y G2 S2 e12 c2 hy p2 => ?_
  refine ⟨Nat.le_of_ble_eq_true rfl, fun a ha => ⟨a, x, y, rfl, upd_same, fun dx hdx hne => ⟨rfl, dx, _, by rw [upd_ne (Ne.symm hne), upd_same], upd_same, ?_, ?_⟩⟩⟩
  · rw [upd_ne hne] at hdx; exact hdx
  · have hdx' : G2 dx = none := by rw [upd_ne hne] at hdx; exact hdx
    have e : Same G2 (upd (del (upd (upd (upd (upd G2 a (exo a (Γ.cl c) none)) dx (exd dx [(f, x)])) a (exo a (Γ.cl c) (some dx))) dx (exd dx [(g, y), (f, x)])) a) dx (.xd [(g, y), (f, x)])) := fun b o hb => by
      have n1 : b ≠ dx := ne_of_none hb hdx'
      have n2 : b ≠ a := ne_of_none hb ha
      rw [upd_ne n1, del_ne n2, upd_ne n1, upd_ne n2, upd_ne n1, upd_ne n2]; exact hb
    rw [← hW]
    exact p2 _ _ σ _ S2 (hide_ext e) (c2.ext e) ⟨c, [g, f], [d2, d], rfl, rfl, .inr ⟨dx, [y, x], rfl, hide_of (c2.fresh hdx') upd_same, rfl, .cons (hy.le (hide_ext e)) (.cons ((hx.le e12).le (hide_ext e)) .nil)⟩⟩

/-! ### try .. except C as x -/
def frW (fr : Frm) (W : WX) : Frm := { ow := fr.ow, hd := fr.hd, hp := fr.hp, B := fr.B, S0 := fr.S0, W := W, xs := fr.xs }
def frS (fr : Frm) (q : XS) : Frm := { ow := fr.ow, hd := fr.hd, hp := fr.hp, B := fr.B, S0 := fr.S0, W := fun _ _ _ _ => False, xs := some q }
theorem Co.toW {W : WX} (c : Co Γ fr σ ρ G S) : Co Γ (frW fr W) σ ρ G S := ⟨c.len, c.dom, c.sub, c.keep, c.pin, c.hs0, c.xsl, c.sh, c.own, c.inj⟩
theorem Co.ofW {W : WX} (c : Co Γ (frW fr W) σ ρ G S) : Co Γ fr σ ρ G S := ⟨c.len, c.dom, c.sub, c.keep, c.pin, c.hs0, c.xsl, c.sh, c.own, c.inj⟩
theorem Co.gone {q : XS} (hxs : fr.xs = none) (c : Co Γ (frS fr q) σ ρ G S) (hi : q.i ∉ fr.ow) (hz : fr.hd = false ∨ q.i ≠ 0) : Co Γ fr (σ.set q.i none) (ρ.set q.i none) G S where
  len := by rw [Rn, Rn]; exact c.len
  dom := c.dom
  sub := c.sub
  keep := c.keep
  hs0 := c.hs0
  xsl := fun q h => by rw [hxs] at h; cases h
  pin := fun e => by
    rcases hz with hz | hz
    · rw [hz] at e; cases e
    · rw [List.getElem?_set_ne hz]; exact c.pin e
  sh := fun j d' h1 h2 => by
    rcases set_get h2 with ⟨_, _, e⟩ | ⟨hne, e⟩
    · cases e
    · rw [List.getElem?_set_ne (Ne.symm hne)]
      exact c.sh j d' h1 e
  own := fun j d' h1 h2 => by
    rcases set_get h2 with ⟨_, _, e⟩ | ⟨hne, e⟩
    · cases e
    · rw [List.getElem?_set_ne (Ne.symm hne)]
      exact c.own j d' h1 e
  inj := fun j k d' e p h1 h2 h3 h4 h5 h6 h7 => by
    rcases set_get h4 with ⟨_, _, z⟩ | ⟨n1, e1⟩
    · cases z
    · rcases set_get h5 with ⟨_, _, z⟩ | ⟨n2, e2⟩
      · cases z
      · rw [List.getElem?_set_ne (Ne.symm n1)] at h6
        rw [List.getElem?_set_ne (Ne.symm n2)] at h7
        exact c.inj j k d' e p h1 h2 h3 e1 e2 h6 h7
def behind (i : Nat) : Out → Out
  | .nx ρ => .nx (ρ.set i none)
  | .ret d ρ => .ret d (ρ.set i none)
  | .brk ρ => .brk (ρ.set i none)
  | .ct ρ => .ct (ρ.set i none)
  | _ => .stuck
def sTry (i : Nat) (isa : Nat → Option Bool) (mb : Env → Out) (mh : D → Env → Out) : Env → Out := fun ρ => match mb ρ with
  | .exc e ρ1 => match e with
    | .ins c ns l => match isa c with
      | some true => if i < ρ1.length then behind i (mh (.ins c ns l) (ρ1.set i none)) else .stuck
      | some false => .exc (.ins c ns l) ρ1
      | none => .stuck
    | _ => .stuck
  | r => r
theorem sv_try {C : Value} {tb : WX → TS} {ts : Addr → Value → Option Addr → TS} {mb : Env → Out} {mh : D → Env → Out} {isa : Nat → Option Bool} {Wo : WX} (hW : fr.W = Wo) (hb : ∀ W, SV Γ (frW fr W) (tb W) mb) (hs : ∀ q : XS, q.i = i → SV Γ (frS fr q) (ts q.a q.cls q.dx) (mh q.e))
    (hx : ∀ c b, isa c = some b → PySem.W.exmOne Γ.K (.ref (Γ.cl c)) C = some b) (hi : fr.notOwn i = true := by rfl) (hz : fr.hd = false ∨ i ≠ 0 := by first | exact Or.inl rfl | exact Or.inr (by decide)) (hxs : fr.xs = none := by rfl) :
    SV Γ fr (fun E σ H => tb (wAs Γ.K C i ts Wo E) E σ H) (sTry i isa mb mh) := fun σ ρ G S c E p => by
  refine hb _ σ ρ G S c.toW E ?_
  unfold sTry at p
  generalize mb ρ = r at p ⊢
  cases r with
  | nx ρ1 => exact fun σ' G' S' e c' => p σ' G' S' e c'.ofW
  | ret d ρ1 => exact fun v σ' G' S' e c' => p v σ' G' S' e c'.ofW
  | brk ρ1 => exact fun σ' G' S' e c' => p σ' G' S' e c'.ofW
  | ct ρ1 => exact fun σ' G' S' e c' => p σ' G' S' e c'.ofW
  | stuck => exact p
  | exc e ρ1 =>
    intro cls dx σ1 G1 S1 e1 c1 hX
    have c1 := c1.ofW
    cases e with
    | ins k ns l =>
      have p2 : PostS Γ fr G S E (match isa k with
        | some true => if i < ρ1.length then behind i (mh (.ins k ns l) (ρ1.set i none)) else .stuck
        | some false => .exc (.ins k ns l) ρ1
        | none => .stuck) := p
      have ecls : cls = .ref (Γ.cl k) := by
        obtain ⟨k', ns', l', h1, h2, _⟩ := hX
        cases h1
        exact h2
      cases hisa : isa k with
      | none => rw [hisa] at p2; exact p2.elim
      | some b =>
        rw [hisa] at p2
        refine ⟨b, by rw [ecls]; exact hx k b hisa, fun hb1 a ha => ?_, fun hb0 => ?_⟩
        · subst hb1
          have p3 : PostS Γ fr G S E (if i < ρ1.length then behind i (mh (.ins k ns l) (ρ1.set i none)) else .stuck) := p2
          by_cases hl : i < ρ1.length
          · rw [if_pos hl] at p3
            have hl' : i < σ1.length := by rw [c1.len]; exact hl
            have cs : Co Γ (frS fr ⟨i, a, cls, dx, .ins k ns l⟩) (σ1.set i (some (.ref a))) (ρ1.set i none) G1 S1 := {
              len := by rw [Rn, Rn]; exact c1.len
              dom := c1.dom
              sub := c1.sub
              keep := c1.keep
              hs0 := c1.hs0
              xsl := fun q h => by
                cases h
                exact ⟨List.getElem?_set_self hl', hX⟩
              pin := fun e => by
                rcases hz with hz | hz
                · have e' : fr.hd = true := e
                  rw [hz] at e'; cases e'
                · rw [List.getElem?_set_ne hz]; exact c1.pin e
              sh := fun j d' h1 h2 => by
                rcases set_get h2 with ⟨_, _, e⟩ | ⟨hne, e⟩
                · cases e
                · rw [List.getElem?_set_ne (Ne.symm hne)]
                  exact c1.sh j d' h1 e
              own := fun j d' h1 h2 => by
                rcases set_get h2 with ⟨_, _, e⟩ | ⟨hne, e⟩
                · cases e
                · rw [List.getElem?_set_ne (Ne.symm hne)]
                  exact c1.own j d' h1 e
              inj := fun j k d' e p h1 h2 h3 h4 h5 h6 h7 => by
                rcases set_get h4 with ⟨_, _, z⟩ | ⟨n1, e1⟩
                · cases z
                · rcases set_get h5 with ⟨_, _, z⟩ | ⟨n2, e2⟩
                  · cases z
                  · rw [List.getElem?_set_ne (Ne.symm n1)] at h6
                    rw [List.getElem?_set_ne (Ne.symm n2)] at h7
                    exact c1.inj j k d' e p h1 h2 h3 e1 e2 h6 h7 }
            refine hs ⟨i, a, cls, dx, .ins k ns l⟩ rfl _ _ G1 S1 cs _ ?_
            have p4 := PostS.mono e1 p3
            show PostS Γ _ G1 S1 _ (mh (.ins k ns l) (ρ1.set i none))
            generalize mh (.ins k ns l) (ρ1.set i none) = r at p4 ⊢
            cases r with
            | nx ρ2 => exact fun σ' G' S' e c' => p4 _ G' S' e (c'.gone hxs (nown hi) hz)
            | ret d ρ2 => exact fun v σ' G' S' e c' => p4 v _ G' S' e (c'.gone hxs (nown hi) hz)
            | brk ρ2 => exact fun σ' G' S' e c' => p4 _ G' S' e (c'.gone hxs (nown hi) hz)
            | ct ρ2 => exact fun σ' G' S' e c' => p4 _ G' S' e (c'.gone hxs (nown hi) hz)
            | exc _ _ => exact p4.elim
            | stuck => exact p4
          · rw [if_neg hl] at p3
            exact p3.elim
        · subst hb0
          rw [← hW]
          exact p2 cls dx σ1 G1 S1 e1 c1 hX
    | _ => exact p.elim
end
end Py

set_option Elab.async false
set_option linter.all false
set_option maxRecDepth 100000
set_option maxHeartbeats 2000000
namespace Py
open PySem L2

section
variable {Γ : Gm} {fr : Frm} {σ : L2.St} {ρ : Env} {G G' : Hp} {S S' : Addr → Prop} {te : TE} {m : Env → Rs D} {i n : Nat} {ta : TA} {ma : Env → Rs (List D)}
/-- x.f, x the error that the suite holds -/
def eXf (e : D) (c0 : Nat) (f : Str) : Env → Rs D := fun ρ => match e with
  | .ins c ns l => if c = c0 then Rs.ofOpt ((ns.zip l).lookup f) ρ else .stuck
  | _ => .stuck
theorem lookup_rel {H : Hp} : ∀ {ns : List Str} {xs : List V} {l : List D} {f : Str} {d : D}, ns.length = xs.length → IsDs Γ H xs l → (ns.zip l).lookup f = some d → ∃ v, (ns.zip xs).lookup f = some v ∧ IsD Γ H v d
  | [], _, _, _, _, _, _, h => by simp at h
  | n :: ns, [], _, _, _, e, _, _ => by simp at e
  | n :: ns, x :: xs, _, f, d, e, .cons (d := d0) r t, h => by
    simp only [List.zip_cons_cons, List.lookup_cons] at h ⊢
    cases hf : (f == n) with
    | true =>
      rw [hf] at h
      cases h
      exact ⟨x, rfl, r⟩
    | false =>
      rw [hf] at h
      exact lookup_rel (by simpa using e) t h
theorem ev_xf {q : XS} {c0 : Nat} {f : Str} (hq : fr.xs = some q) : EV Γ fr (tXf q.a q.cls q.dx (Γ.cl c0) f (tVar q.i)) (eXf q.e c0 f) := fun σ ρ G S c Q p => by
  obtain ⟨h1, k, ns, l, he, hc, hx⟩ := c.xsl q hq
  unfold eXf at p
  rw [he] at p
  have p2 : PostG (fun H v d => IsD Γ H v d) Γ fr σ G S Q (if k = c0 then Rs.ofOpt ((ns.zip l).lookup f) ρ else .stuck) := p
  by_cases hk : k = c0
  · rw [if_pos hk] at p2
    obtain ⟨d, hd, p3⟩ := PostG.giveO p2
    rcases hx with ⟨rfl, _, _⟩ | ⟨x, xs, hdx, hxd, hl, hD⟩
    · simp at hd
    · obtain ⟨v, hv, hr⟩ := lookup_rel hl hD hd
      exact ⟨.ref q.a, h1, rfl, by rw [hc, hk], x, ns.zip xs, v, hdx, hide_le _ _ hxd, hv, p3.give (Same.refl _) c hr⟩
  · rw [if_neg hk] at p2
    exact p2.elim

/-! ## 12. Built-ins -/
def dLen : List D → Option D
  | [.lst l] => some (.int l.length)
  | [.tup l] => some (.int l.length)
  | [.scr l] => some (.int l.length)
  | [.str s] => if s.length ≤ 1000000 then some (.int s.length) else none
  | _ => none
theorem cad_len : CaD Γ (fun xs H Q => ∃ x n, xs = [x] ∧ LenV Γ.K x H n ∧ Q (.int n) H) dLen := fun G S xs ds dz dom hx e Q q => by
  cases hx with
  | nil => cases e
  | cons r t =>
    cases t with
    | cons _ _ => cases r <;> cases e
    | nil =>
      cases r with
      | lst h1 h2 =>
        cases e
        exact ⟨_, _, rfl, .inl ⟨_, SqL.of (hide_le _ _ h1), rfl⟩, q _ G (Same.refl _) (by rw [h2.length]; exact .int _)⟩
      | tup h1 h2 =>
        cases e
        exact ⟨_, _, rfl, .inr ⟨_, sqT_mono hide_le h1, rfl⟩, q _ G (Same.refl _) (by rw [h2.length]; exact .int _)⟩
      | scr h1 =>
        cases e
        exact ⟨_, _, rfl, .inl ⟨_, hide_le.seq h1, rfl⟩, q _ G (Same.refl _) (by rw [Qy]; exact .int _)⟩
      | str s =>
        obtain ⟨hl, rfl⟩ := ite_some e
        exact ⟨_, _, rfl, ⟨size_ok hl, rfl⟩, q _ G (Same.refl _) (.int _)⟩
      | _ => cases e
/-- len of a list of one's own -/
theorem ev_lenOwn (hi : fr.isOwn i = true := by rfl) : EV Γ fr (tCB (fun xs H Q => ∃ x n, xs = [x] ∧ LenV Γ.K x H n ∧ Q (.int n) H) (tCons (tVar i) tNil)) (aOwn (fun l => some (.int l.length)) i) := fun σ ρ G S c Q p => by
  have hi : i ∈ fr.ow := isown hi
  unfold aOwn at p
  cases ho : ownL ρ i with
  | none => rw [ho] at p; exact p.elim
  | some l =>
    rw [ho] at p
    obtain ⟨q, xs, h4, h5, h6, h7, h8⟩ := c.ownAt hi ho
    exact ⟨.ref q, h4, .ref q, xs.length, rfl, .inl ⟨_, SqL.of h6, rfl⟩, PostG.give (d := D.int l.length) p (Same.refl _) c (by rw [h7.length]; exact .int _)⟩
def dAbs : List D → Option D
  | [.int i] => some (.int (if i < 0 then -i else i))
  | _ => none
theorem cad_abs : CaD Γ (fun xs H Q => ∃ i, xs = [V.int i] ∧ Q (.int (if i < 0 then -i else i)) H) dAbs := fun G S xs ds dz dom hx e Q q => by
  cases hx with
  | nil => cases e
  | cons r t =>
    cases t with
    | cons _ _ => cases r <;> cases e
    | nil =>
      cases r with
      | int i => cases e; exact ⟨_, rfl, q _ G (Same.refl _) (.int _)⟩
      | _ => cases e
def dInt : List D → Option D
  | [.int i] => some (.int i)
  | [.bl k] => some (.int (if k then 1 else 0))
  | [.str s] => if s.length ≤ 640 then (PySem.intText? s).map D.int else none
  | _ => none
def rIntX : List V → Hp → VK → Prop := fun xs H Q => ((∃ i, xs = [V.int i] ∧ Q (.int i) H) ∨ ∃ k, xs = [V.bl k] ∧ Q (.int (if k then 1 else 0)) H) ∨ ∃ a n, xs = [V.str a] ∧ PySem.intText? a = some n ∧ a.length ≤ 640 ∧ Q (.int n) H
theorem call_intX {X : Cx} : CallR X (.type "int") rIntX := by
  intro pins s σ H xs us Q I r h
  rcases h with h | h
  · exact call_int1 pins s σ H xs us Q I r h
  · exact call_int_str pins s σ H xs us Q I r h
theorem cad_int : CaD Γ rIntX dInt := fun G S xs ds dz dom hx e Q q => by
  cases hx with
  | nil => cases e
  | cons r t =>
    cases t with
    | cons _ _ => cases r <;> cases e
    | nil =>
      cases r with
      | int i => cases e; exact .inl (.inl ⟨_, rfl, q _ G (Same.refl _) (.int _)⟩)
      | bl i => cases e; exact .inl (.inr ⟨_, rfl, q _ G (Same.refl _) (.int _)⟩)
      | str z =>
        have e' : (if z.length ≤ 640 then (PySem.intText? z).map D.int else none) = some dz := e
        by_cases hl : z.length ≤ 640
        · rw [if_pos hl] at e'
          cases hn : PySem.intText? z with
          | none => rw [hn] at e'; cases e'
          | some n =>
            rw [hn] at e'
            cases e'
            exact .inr ⟨z, n, rfl, hn, hl, q _ G (Same.refl _) (.int _)⟩
        · rw [if_neg hl] at e'
          cases e'
      | _ => cases e
def dList : List D → Option D
  | [.lst l] => some (.lst l)
  | [.tup l] => some (.lst l)
  | [.scr l] => some (.lst (l.map .int))
  | _ => none
def rListX (K : PySem.W.Frag) : List V → Hp → VK → Prop := fun xs H Q => ∃ p ys, xs = [.ref p] ∧ (SqL K H p ys ∨ SqT K H p ys) ∧ ∀ l, H l = none → Q (.ref l) (upd H l (.lst ys))
theorem list_of {H : Hp} {xs : List V} {ds : List D} {dz : D} (hx : IsDs Γ H xs ds) (e : dList ds = some dz) {G : Hp} (le : Same H G) : ∃ p ys l, xs = [.ref p] ∧ (SqL Γ.K G p ys ∨ SqT Γ.K G p ys) ∧ dz = .lst l ∧ IsDs Γ H ys l := by
  cases hx with
  | nil => cases e
  | cons r t =>
    cases t with
    | cons _ _ => cases r <;> cases e
    | nil =>
      cases r with
      | lst h1 h2 => cases e; exact ⟨_, _, _, rfl, .inl (SqL.of (le _ _ h1)), rfl, h2⟩
      | tup h1 h2 => cases e; exact ⟨_, _, _, rfl, .inr (sqT_mono le h1), rfl, h2⟩
      | scr h1 => cases e; exact ⟨_, _, _, rfl, .inl (le.seq h1), rfl, isDs_ints _⟩
      | _ => cases e
theorem evf_list (ha : EA Γ fr ta ma) : EVF Γ fr (tCB (rListX Γ.K) ta) (aF dList ma) := fun σ ρ G S c Q p => by
  refine ha.stepF c p fun ds ρ1 xs G1 S1 _ c1 hx p1 => ?_
  have p2 : PostF Γ fr σ G1 S1 Q (Rs.ofOpt (dList ds) ρ1) := p1
  cases e : dList ds with
  | none => rw [e] at p2; exact p2.elim
  | some dz =>
    rw [e] at p2
    obtain ⟨p, ys, l, rfl, hs, rfl, hD⟩ := list_of hx e hide_le
    refine ⟨p, ys, rfl, hs, fun q hq => ?_⟩
    obtain ⟨n1, n2, n3⟩ := c1.newB hq
    exact p2 q _ _ (fun a => S1 a ∨ a = q) (hideMore_le hq) (c1.hideMore hq) (.inr rfl) upd_same (.lst (hD.le (hideMore_le hq))) n1 n2 n3 (c1.newOwn hq)
def dTuple : List D → Option D
  | [.lst l] => some (.tup l)
  | [.tup l] => some (.tup l)
  | [.scr l] => some (.tup (l.map .int))
  | _ => none
theorem cad_tuple : CaD Γ (fun xs H Q => ∃ p ys, xs = [V.ref p] ∧ ((SqL Γ.K H p ys ∧ ∀ l, H l = none → Q (.ref l) (upd H l (.tup ys))) ∨ (SqT Γ.K H p ys ∧ Q (.ref p) H))) dTuple := fun G S xs ds dz dom hx e Q q => by
  have fresh : ∀ {p : Addr}, G p = none → ¬ S p := fun {p} h z => by
    obtain ⟨o, e⟩ := dom p z
    rw [h] at e; cases e
  cases hx with
  | nil => cases e
  | cons r t =>
    cases t with
    | cons _ _ => cases r <;> cases e
    | nil =>
      cases r with
      | lst h1 h2 =>
        cases e
        exact ⟨_, _, rfl, .inl ⟨SqL.of (hide_le _ _ h1), fun l hl => q _ _ (same_upd hl) (.tup (SqT.of (hide_of (fresh hl) upd_same)) (h2.le (hide_ext (same_upd hl))))⟩⟩
      | scr h1 =>
        cases e
        exact ⟨_, _, rfl, .inl ⟨hide_le.seq h1, fun l hl => q _ _ (same_upd hl) (.tup (SqT.of (hide_of (fresh hl) upd_same)) (isDs_ints _))⟩⟩
      | tup h1 h2 =>
        cases e
        exact ⟨_, _, rfl, .inr ⟨sqT_mono hide_le h1, q _ G (Same.refl _) (.tup h1 h2)⟩⟩
      | _ => cases e
/-- tuple(x), x a list of one's own -/
theorem ev_tupleOwn (hi : fr.isOwn i = true := by rfl) : EV Γ fr (tCB (fun xs H Q => ∃ p ys, xs = [V.ref p] ∧ ((SqL Γ.K H p ys ∧ ∀ l, H l = none → Q (.ref l) (upd H l (.tup ys))) ∨ (SqT Γ.K H p ys ∧ Q (.ref p) H))) (tCons (tVar i) tNil)) (aOwn (fun l => some (.tup l)) i) := fun σ ρ G S c Q p => by
  have hi : i ∈ fr.ow := isown hi
  unfold aOwn at p
  cases ho : ownL ρ i with
  | none => rw [ho] at p; exact p.elim
  | some l =>
    rw [ho] at p
    obtain ⟨q, xs, h4, h5, h6, h7, h8⟩ := c.ownAt hi ho
    exact ⟨.ref q, h4, q, xs, rfl, .inl ⟨SqL.of h6, fun l' hl => PostG.give (d := D.tup l) p (hide_ext (same_upd hl)) (c.ext (same_upd hl)) (.tup (SqT.of (c.hideNew hl)) (h7.le (hide_ext (same_upd hl))))⟩⟩
def dGcd : List D → Option D
  | [.int a, .int b] => some (.int (Nat.gcd a.natAbs b.natAbs : Nat))
  | _ => none
theorem cad_gcd : CaD Γ rGcd dGcd := fun G S xs ds dz dom hx e Q q => by
  cases hx with
  | nil => cases e
  | cons r t =>
    cases t with
    | nil => cases r <;> cases e
    | cons r2 t2 =>
      cases t2 with
      | cons _ _ => cases r <;> first | cases e | (cases r2 <;> cases e)
      | nil =>
        cases r with
        | int a =>
          cases r2 with
          | int b => cases e; exact ⟨a, b, rfl, q _ G (Same.refl _) (.int _)⟩
          | _ => cases e
        | _ => cases e
def dLcm : List D → Option D
  | [.int a, .int b] => if bits a < 5000 ∧ bits b < 5000 then some (.int (Nat.lcm a.natAbs b.natAbs : Nat)) else none
  | _ => none
def rLcm : List V → Hp → VK → Prop := fun vs H Q => ∃ a b : Int, vs = [.int a, .int b] ∧ (bits a < 5000 ∧ bits b < 5000) ∧ Q (.int ((Nat.lcm a.natAbs b.natAbs : Nat) : Int)) H
theorem cad_lcm : CaD Γ rLcm dLcm := fun G S xs ds dz dom hx e Q q => by
  cases hx with
  | nil => cases e
  | cons r t =>
    cases t with
    | nil => cases r <;> cases e
    | cons r2 t2 =>
      cases t2 with
      | cons _ _ => cases r <;> first | cases e | (cases r2 <;> cases e)
      | nil =>
        cases r with
        | int a =>
          cases r2 with
          | int b =>
            obtain ⟨h1, rfl⟩ := ite_some e
            exact ⟨a, b, rfl, h1, q _ G (Same.refl _) (.int _)⟩
          | _ => cases e
        | _ => cases e

/-! ### isinstance -/
def tyNm : D → Option String
  | .non => some "NoneType"
  | .bl _ => some "bool"
  | .int _ => some "int"
  | .str _ => some "str"
  | .tup _ => some "tuple"
  | .lst _ => some "list"
  | .scr _ => some "list"
  | .ins _ _ _ => none
  | .dic _ _ => none
  | .shd _ => none
  | .exv _ _ _ => none
def isiN (a T : String) : Bool := a == T || (a == "bool" && T == "int")
def kitTs : List String := ["int", "bool", "str", "list", "tuple"]
theorem kit_all : ∀ T ∈ kitTs, ∀ a ∈ ["NoneType", "bool", "int", "str", "tuple", "list"], kitB a T = some (isiN a T) := by decide +kernel
theorem tyX_of {H : Hp} {v : V} {d : D} {a : String} (h : IsD Γ H v d) (e : tyNm d = some a) {G : Hp} (le : Same H G) : TyX Γ.K G v (.type a) ∧ a ∈ ["NoneType", "bool", "int", "str", "tuple", "list"] := by
  cases h with
  | non => cases e; exact ⟨.base .non, by decide⟩
  | bl b => cases e; exact ⟨.base (.bl b), by decide⟩
  | int b => cases e; exact ⟨.base (.int b), by decide⟩
  | str b => cases e; exact ⟨.base (.str b), by decide⟩
  | tup h1 h2 =>
    cases e
    refine ⟨?_, by decide⟩
    rcases h1 with (h1 | ⟨o, h1⟩) | ⟨o, its, n, h1, h3, _⟩
    · exact .base (.tup (le _ _ h1))
    · exact .fTuple (le _ _ h1)
    · exact .kTuple h1 h3
  | lst h1 h2 => cases e; exact ⟨.base (.lst (le _ _ h1)), by decide⟩
  | scr h1 =>
    cases e
    refine ⟨?_, by decide⟩
    rcases h1 with (h1 | ⟨o, h1⟩) | ⟨o, its, n, h1, h3, _⟩
    · exact .base (.lst (le _ _ h1))
    · exact .base (.frz (le _ _ h1))
    · exact .kList h1 h3
  | ins _ _ _ => cases e
  | dic _ _ _ _ => cases e
  | exv _ _ _ => cases e
def dIsi (T : String) : D → Option D := fun d => if T ∈ kitTs then (tyNm d).map fun a => .bl (isiN a T) else none
theorem ev_isi {T : String} (h : EV Γ fr te m) : EV Γ fr (tCB (rIsi Γ.K) (tCons te (tCons (tC (.ty T)) tNil))) (eUn (dIsi T) m) := fun σ ρ G S c Q p => by
  refine h.step c p fun d ρ1 x G1 S1 _ c1 hx p1 => ?_
  obtain ⟨dz, hf, p3⟩ := p1.giveO
  unfold dIsi at hf
  by_cases hT : T ∈ kitTs
  · rw [if_pos hT] at hf
    cases ha : tyNm d with
    | none => rw [ha] at hf; cases hf
    | some a =>
      rw [ha] at hf
      cases hf
      obtain ⟨h1, h2⟩ := tyX_of hx ha hide_le
      exact ⟨x, .ty T, _, _, _, rfl, .ty T, h1, kit_ty (kit_all T hT a h2), p3.give (Same.refl _) c1 (.bl _)⟩
  · rw [if_neg hT] at hf
    cases hf
def dIsi2 (A B : String) : D → Option D := fun d => if A ∈ kitTs ∧ B ∈ kitTs then (tyNm d).map fun a => .bl (isiN a A || isiN a B) else none
theorem ev_isi2 {A B : String} (h : EV Γ fr te m) : EV Γ fr (tCB (rIsiT Γ.K) (tCons te (tCons (tTup (tCons (tC (.ty A)) (tCons (tC (.ty B)) tNil))) tNil))) (eUn (dIsi2 A B) m) := fun σ ρ G S c Q p => by
  refine h.step c p fun d ρ1 x G1 S1 _ c1 hx p1 => ?_
  obtain ⟨dz, hf, p3⟩ := p1.giveO
  unfold dIsi2 at hf
  by_cases hT : A ∈ kitTs ∧ B ∈ kitTs
  · rw [if_pos hT] at hf
    cases ha : tyNm d with
    | none => rw [ha] at hf; cases hf
    | some a =>
      rw [ha] at hf
      cases hf
      obtain ⟨h1, h2⟩ := tyX_of hx ha hide_le
      refine ⟨by show 2 ≤ sizeLine; decide, fun q hq => ?_⟩
      obtain ⟨h1, h2⟩ := tyX_of hx ha (hide_le.trans (same_upd (o := .tup [.ty A, .ty B]) hq))
      refine ⟨x, q, _, _, [.type A, .type B], isiN a A || isiN a B, rfl, upd_same, .cons (.ty A) (.cons (.ty B) .nil), h1, ?_, p3.give (hide_ext (same_upd hq)) (c1.ext (same_upd hq)) (.bl _)⟩
      refine kitAny_cons (kit_ty (kit_all A hT.1 a h2)) (fun e => ?_) (fun e => by rw [e]; rfl)
      rw [e, Rx]
      exact kitAny_cons (kit_ty (kit_all B hT.2 a h2)) (fun e => by rw [e]; exact kitAny_nil) (fun e => e)
  · rw [if_neg hT] at hf
    cases hf
end
section
variable {X : Cx}
open PyProof.Rows in
theorem cr_lcm : CallR X (.builtin "math.lcm") rLcm := by
  intro pins s σ H vs us Q I r h
  obtain ⟨a, b, rfl, ⟨ha, hb⟩, q⟩ := h
  obtain ⟨u1, u2, rfl, ⟨t, rfl⟩, ⟨t', rfl⟩⟩ := vals2 r
  have l1 : ∀ x : Nat, Nat.lcm 1 x = x := fun x => by simp [Nat.lcm]
  have hm : ∀ x y : Nat, (max x y).log2 ≤ max x.log2 y.log2 := fun x y => by
    by_cases h : x ≤ y
    · rw [Nat.max_eq_right h]; exact Nat.le_max_right _ _
    · rw [Nat.max_eq_left (by omega)]; exact Nat.le_max_left _ _
  have ha' : a.natAbs.log2 < 5000 := ha
  have hb' : b.natAbs.log2 < 5000 := hb
  have c0 : ¬ (max 1 a.natAbs).log2 / 30 + 1 > 450 := by
    have h1 := hm 1 a.natAbs
    have h2 : (1 : Nat).log2 = 0 := by decide
    rw [h2] at h1
    have h3 : max 0 a.natAbs.log2 = a.natAbs.log2 := Nat.zero_max _
    omega
  have c1 : ¬ (max a.natAbs b.natAbs).log2 / 30 + 1 > 450 := by
    have h1 := hm a.natAbs b.natAbs
    have h3 : max a.natAbs.log2 b.natAbs.log2 < 5000 := Nat.max_lt.mpr ⟨ha', hb'⟩
    omega
  have lt : ∀ x : Nat, x.log2 < 5000 → x < 2 ^ 5000 := fun x hx => by
    by_cases h0 : x = 0
    · rw [h0]; exact Nat.two_pow_pos _
    · exact (Nat.log2_lt h0).mp hx
  have sz : ((((Nat.lcm 1 a.natAbs).lcm b.natAbs : Nat) : Int)).natAbs.log2 < bitsLine := by
    rw [l1, Int.natAbs_natCast]
    have e : bitsLine = 134217728 := by decide
    rw [e]
    by_cases h0 : a.natAbs.lcm b.natAbs = 0
    · rw [h0]; decide
    · rw [Nat.log2_lt h0]
      have h1 : a.natAbs.lcm b.natAbs ≤ a.natAbs * b.natAbs := by
        unfold Nat.lcm
        exact Nat.div_le_self _ _
      have h2 : a.natAbs * b.natAbs < 2 ^ 5000 * 2 ^ 5000 := Nat.mul_lt_mul'' (lt _ ha') (lt _ hb')
      rw [← Nat.pow_add] at h2
      exact Nat.lt_of_le_of_lt h1 (Nat.lt_of_lt_of_le h2 (Nat.pow_le_pow_right (by decide) (by decide)))
  have q' : Q (.int (((Nat.lcm 1 a.natAbs).lcm b.natAbs : Nat) : Int)) H := by rw [l1]; exact q
  refine call_function_meets PySem.W.MGF.kind_lcm PySem.W.MGF.plain_lcm PySem.W.MGF.entry_lcm (PySem.W.MGF.args_lcm _ _) (PySem.W.mg_run_lcm a t b t' c0 c1 sz).meets ⟨.int _, H, I.tok _, ⟨_, rfl⟩, q'⟩
end
end Py

set_option Elab.async false
set_option linter.all false
set_option maxRecDepth 100000
set_option maxHeartbeats 2000000
namespace Py
open PySem L2
open PyProof.Rows (envOfC)

/-! ## 13. How a def stands, and how it is called -/
structure W0 where
  P : Program
  w : World
  Γ : Gm
  mg : Str → Option Value
  base : Heap
/-- a def of the text behind the top, with its defaults -/
def Stands (Γ : Gm) (mg : Str → Option Value) (x qual : Str) (st : Stmt) (dvs : List V) (f : Addr) : Prop := ∃ fd, FunD Γ.K x qual (defArgs st) (defBody st) (defScope st) dvs [] f fd ∧ mg x = some (.ref f)
/-- a call of x, the defaults dvs filling up, keeps sp -/
def OkC (P : Program) (w : World) (K : PySem.W.Frag) (mg : Str → Option Value) (base : Heap) (x : Str) (dvs : List V) (k : Nat) (sp : Sp) : Prop :=
  ∃ f fd ps ds, FnOk P w K mg base (L2.CX P w) k f fd ps sp ∧ mg x = some (.ref f) ∧ PySem.W.keepIn K (.ref f) = true ∧ Binds K fd ps ds ∧ Vals dvs ds
theorem okc_all {P : Program} {w : World} {Γ : Gm} {mg : Str → Option Value} {base : Heap} {x qual : Str} {st : Stmt} {f : Addr} {k : Nat} {ps : List Str} {sp : Sp} (h : Stands Γ mg x qual st [] f)
    (ok : ∀ fd, FunD Γ.K x qual (defArgs st) (defBody st) (defScope st) [] [] f fd → FnOk P w Γ.K mg base (L2.CX P w) k f fd ps sp)
    (hb : ∀ (kV doc pm : Value) (an : Option Addr) (cdv ct : Value) (us : List Value), us.length = ps.length → bindArgs (PySem.W.fnOf x qual (defArgs st) (defBody st) (defScope st) .none kV doc pm an cdv ct) ⟨us, []⟩ = pure (ps.zip us)) :
    OkC P w Γ.K mg base x [] k sp := by
  obtain ⟨fd, F, hm⟩ := h
  exact ⟨f, fd, ps, [], ok fd F, hm, F.kp, F.bindsN hb, .nil⟩
theorem okc_dfl {P : Program} {w : World} {Γ : Gm} {mg : Str → Option Value} {base : Heap} {x qual : Str} {st : Stmt} {f : Addr} {k : Nat} {ps : List Str} {sp : Sp} {dvs : List V} (n j : Nat) (h : Stands Γ mg x qual st dvs f)
    (ok : ∀ fd, FunD Γ.K x qual (defArgs st) (defBody st) (defScope st) dvs [] f fd → FnOk P w Γ.K mg base (L2.CX P w) k f fd ps sp) (hd : dvs ≠ []) (hn : n + (dvs.length - j) = ps.length)
    (hb : ∀ (T : Addr) (kV doc pm : Value) (an : Option Addr) (cdv ct : Value) (us its : List Value), us.length = n → its.length = dvs.length →
      ∃ k, bindArgs (PySem.W.fnOf x qual (defArgs st) (defBody st) (defScope st) (.ref T) kV doc pm an cdv ct) ⟨us, []⟩ = seqItems? (.ref T) >>= k ∧ k (some its.toArray) = pure (ps.zip (us ++ its.drop j))) :
    OkC P w Γ.K mg base x (dvs.drop j) k sp := by
  obtain ⟨fd, F, hm⟩ := h
  obtain ⟨ds, r, b⟩ := F.binds1 n j hd hn hb
  exact ⟨f, fd, ps, ds, ok fd F, hm, F.kp, b, r⟩
section
variable {X : Cx} {k : Nat} {sp : Sp} {dvs : List V} {x : Str} {p pos : Pos} {e : Expr} {es : List Expr} {t : TA} {W : WX}
theorem pe_callX (F : OkC X.prog X.w X.K X.mg X.base x dvs k sp) (hr : Room k X.A) (tk : Takes X W) (ha : PA X (e :: es) t) (hg : Gl X x := by rfl) (hdb : (x == ("__debug__" : Str)) = false := by decide)
    (he : starEach (e :: es) X.env = (false, eval e X.env) :: starEach es X.env := by rfl) (hpl : (backTo pos (starEach es X.env)).any (·.1) = false := by rfl) :
    PE X (.Call (.Name x p) (e :: es) [] pos) (tCallSD sp dvs (WE W) t) := by
  obtain ⟨f, fd, ps, ds, F, hm, hk, hb, hd⟩ := F
  exact pe_callSD F hr hg hm hk hb hd (fun σ => passAt tk σ) ha hdb he hpl
theorem pe_callX0 (F : OkC X.prog X.w X.K X.mg X.base x dvs k sp) (hr : Room k X.A) (tk : Takes X W) (hg : Gl X x := by rfl) (hdb : (x == ("__debug__" : Str)) = false := by decide) : PE X (.Call (.Name x p) [] [] pos) (tCallSD sp dvs (WE W) tNil) := by
  obtain ⟨f, fd, ps, ds, F, hm, hk, hb, hd⟩ := F
  exact pe_callSD0 F hr hg hm hk hb hd (fun σ => passAt tk σ) hdb
end
def sSeqN (a b : Env → Out) : Env → Out := fun ρ => match a ρ with
  | .nx ρ1 => b ρ1
  | _ => .stuck
def runN (n : Nat) (m : Env → Out) (ds : List D) : Rf D := match m (entry n ds) with
  | .ret d _ => .ok d
  | _ => .stuck
section
variable {Γ : Gm} {fr : Frm} {te : TE} {m : Env → Rs D} {t u : TS} {a b : Env → Out}
theorem sn_ret (h : EVF Γ fr te m) : SN Γ fr (tRet te) (sRet m) := fun σ ρ G S c E p => by
  refine h σ ρ G S c _ ?_
  unfold sRet at p
  generalize m ρ = r at p ⊢
  cases r with
  | ok d ρ' => exact fun q o G' S' e1 c1 hS hG hD hB h0 _ _ => p q o σ G' S' e1 c1 hS hG hD hB h0
  | exc _ _ => exact p.elim
  | stuck => exact p
theorem sn_seq (h1 : SV Γ fr t a) (h2 : SN Γ fr u b) : SN Γ fr (tSeq t u) (sSeqN a b) := fun σ ρ G S c E p => by
  refine h1 σ ρ G S c { E with nx := u E } ?_
  unfold sSeqN at p
  generalize a ρ = r at p ⊢
  cases r with
  | nx ρ1 =>
    intro σ' G' S' e c'
    refine h2 σ' ρ1 G' S' c' E ?_
    have p : (match b ρ1 with
      | .nx ρ' => ∀ σ' G' S', Same (hide S G) (hide S' G') → Co Γ fr σ' ρ' G' S' → E.nx σ' G'
      | .ret d ρ' => ∀ p o σ' G' S', Same (hide S G) (hide S' G') → Co Γ fr σ' ρ' G' S' → S' p → G' p = some o → OwnO Γ (hide S' G') p o d → fr.B p = none → ¬ fr.S0 p → E.rt (.ref p) G'
      | _ => False) := p
    generalize b ρ1 = r at p ⊢
    cases r with
    | nx _ => exact fun σ2 G2 S2 e2 c2 => p σ2 G2 S2 (e.trans e2) c2
    | ret _ _ => exact fun q o σ2 G2 S2 e2 c2 => p q o σ2 G2 S2 (e.trans e2) c2
    | brk _ => exact p
    | ct _ => exact p
    | exc _ _ => exact p
    | stuck => exact p
  | ret _ _ => exact p.elim
  | brk _ => exact p.elim
  | ct _ => exact p.elim
  | exc _ _ => exact p.elim
  | stuck => exact p
theorem okN {P : Program} {w : World} {mg : Str → Option Value} {base : Heap} {dvs : List V} {x qual : Str} {st : Stmt} {f : Addr} {fd : FuncData} {N ps : List Str} {k : Nat} (ow : List Nat) (m : Env → Out) (F : FunD Γ.K x qual (defArgs st) (defBody st) (defScope st) dvs [] f fd) (S : FnScope N ps (defScope st)) (how : ∀ i ∈ ow, ps.length ≤ i)
    (hbody : ∀ (cdv : Value) (A : Around) (outer : List PySem.Env) (s : Shared) (H : Hp) (E : XK) (S0 : Addr → Prop), Room k (A.deeper (envOfC qual (defScope st) s.heap.objs.size f cdv)) →
      ∃ t, PSs (cxOf (L2.CX P w) P w Γ.K mg base N qual (defScope st) f cdv A outer s H E) (defBody st) t ∧ SN Γ { ow := ow, hd := false, hp := 0, B := H, S0 := S0, W := fun cls d _ H => E cls d H } t m) :
    FnOk P w Γ.K mg base (L2.CX P w) (k + 1) f fd ps (spN Γ ps.length (runN N.length m)) := by
  refine F.ok (CX := L2.CX P w) S (fun vs H Q E h => h.1) (fun cdv A outer s H vs Q E hr h => ?_)
  obtain ⟨hn, S0, ds, dom, hv, hq⟩ := h
  obtain ⟨t, ht, hs⟩ := hbody cdv A outer s H E S0 hr
  refine ⟨t, ht, hs (L2.start N vs) (entry N.length ds) H S0 ?_ _ ?_⟩
  · exact {
      len := by unfold L2.start entry; simp only [Rb, Qy, List.length_replicate]; rw [hv.length]
      dom := dom
      sub := fun _ h => h
      keep := fun _ _ _ h => h
      pin := fun e => by cases e
      hs0 := fun e => by cases e
      xsl := fun q h => nomatch h
      sh := fun i d _ h => by
        obtain ⟨v, h1, h2⟩ := hv.get (entry_some h)
        exact ⟨v, start_get h1, h2⟩
      own := fun i d h1 h2 => by
        have h3 := (List.getElem?_eq_some_iff.mp (entry_some h2)).1
        have h4 := how i h1
        rw [← hv.length, hn] at h3
        omega
      inj := fun i j d e p h1 _ _ h2 => by
        have h3 := (List.getElem?_eq_some_iff.mp (entry_some h2)).1
        have h4 := how i h1
        rw [← hv.length, hn] at h3
        omega }
  · unfold runN at hq
    generalize m (entry N.length ds) = r at hq ⊢
    cases r with
    | ret d ρ =>
      intro p o σ' G' S' e c hS hG hD hB h0
      have old : Same H G' := fun a o h => c.keep a o (fun z => by cases z) h
      refine hq p G' o hB old hG (hD.le (hide_less fun a h => ?_))
      rcases h with h | rfl
      · exact c.sub a h
      · exact hS
    | nx _ => exact hq.elim
    | exc _ _ => exact hq.elim
    | brk _ => exact hq.elim
    | ct _ => exact hq.elim
    | stuck => exact hq
end
/-- an error class of one's own whose __init__ keeps sp -/
def ExcI (P : Program) (w : World) (K : PySem.W.Frag) (mg : Str → Option Value) (base : Heap) (x : Str) (C : Addr) (sp : Sp) : Prop :=
  OexC K C ∧ mg x = some (.ref C) ∧ ∃ fI fd ps, PySem.W.findIn K (.ref C) "__init__" = some (some (.ref fI)) ∧ PySem.W.typeIn K (.ref fI) = some (.type "function") ∧ FnOk P w K mg base (L2.CX P w) 1 fI fd ps sp ∧ Binds K fd ps []
theorem ps_raiseX {X : Cx} {W : WX} {x : Str} {C : Addr} {sp : Sp} {p pos pos2 : Pos} {e : Expr} {es : List Expr} {ta : TA} (hc : X.calm = true) (F : ExcI X.prog X.w X.K X.mg X.base x C sp) (hr : Room 2 X.A) (tk : Takes X W) (ha : PA X (e :: es) ta) (hg : Gl X x := by rfl)
    (hdb : (x == ("__debug__" : Str)) = false := by decide) (he : starEach (e :: es) X.env = (false, eval e X.env) :: starEach es X.env := by rfl) (hpl : (backTo pos (starEach es X.env)).any (·.1) = false := by rfl) :
    PS X (.Raise (some (.Call (.Name x p) (e :: es) [] pos)) none pos2) (fun _ σ H => tMkO C sp [] ta σ H fun cls d H' => W cls d σ H') := by
  obtain ⟨T, hm, fI, fd, ps, h1, h2, h3, h4⟩ := F
  exact ps_raise hc tk (pmk_oex T h1 h2 h3 hr h4 .nil passL hg hm ha hdb he hpl)
theorem hu64 {k : Nat} {A : Around} (hr : Room k A) : A.units + 64 < cLine := hr.units
theorem nil_ds {Γ : Gm} : ∀ H, IsDs Γ H [] [] := fun _ => .nil

theorem bt_len : bootBuiltins "len" = some (.builtin "len") := by decide +kernel
theorem bt_abs : bootBuiltins "abs" = some (.builtin "abs") := by decide +kernel
theorem bt_isinstance : bootBuiltins "isinstance" = some (.builtin "isinstance") := by decide +kernel
theorem bt_int : bootBuiltins "int" = some (.type "int") := by decide +kernel
theorem bt_bool : bootBuiltins "bool" = some (.type "bool") := by decide +kernel
theorem bt_str : bootBuiltins "str" = some (.type "str") := by decide +kernel
theorem bt_list : bootBuiltins "list" = some (.type "list") := by decide +kernel
theorem bt_tuple : bootBuiltins "tuple" = some (.type "tuple") := by decide +kernel

/-- is True, is False: both sides truth values -/
def dIsB : D → D → Option D
  | .bl a, .bl b => some (.bl (decide (a = b)))
  | _, _ => none
def dNotB : D → D → Option D
  | .bl a, .bl b => some (.bl (!decide (a = b)))
  | _, _ => none
theorem opd_isB {Γ : Gm} : OpD Γ rIsB dIsB := fun G S x y dx dy dz dom hx hy e Q q => by
  cases hx with
  | bl a =>
    cases hy with
    | bl b => cases e; exact ⟨a, b, rfl, rfl, q _ G (Same.refl _) (.bl _)⟩
    | _ => cases e
  | _ => cases e
theorem opd_notB {Γ : Gm} : OpD Γ rNotB dNotB := fun G S x y dx dy dz dom hx hy e Q q => by
  cases hx with
  | bl a =>
    cases hy with
    | bl b => cases e; exact ⟨a, b, rfl, rfl, q _ G (Same.refl _) (.bl _)⟩
    | _ => cases e
  | _ => cases e
/-- a < b < c -/
def chK (f' : D → D → Option D) (mc : Env → Rs D) (b : D) : D → Env → Rs D := fun z ρ3 => match z with
  | .bl true => (mc ρ3).bind fun c ρ4 => Rs.ofOpt (f' b c) ρ4
  | .bl false => .ok (.bl false) ρ3
  | _ => .stuck
def eChain (f f' : D → D → Option D) (ma mb mc : Env → Rs D) : Env → Rs D := fun ρ => (ma ρ).bind fun a ρ1 => (mb ρ1).bind fun b ρ2 => (Rs.ofOpt (f a b) ρ2).bind (chK f' mc b)
section
variable {Γ : Gm} {fr : Frm} {ta tb tc : TE} {ma mb mc : Env → Rs D}
theorem ev_chain {r r' : R2} {f f' : D → D → Option D} (h1 : OpD Γ r f) (h2 : OpD Γ r' f') (ha : EV Γ fr ta ma) (hb : EV Γ fr tb mb) (hc : EV Γ fr tc mc) : EV Γ fr (tChain r r' ta tb tc) (eChain f f' ma mb mc) := fun σ ρ G S c Q p => by
  refine ha.step c p fun da ρ1 x G1 S1 _ c1 hx p1 => ?_
  refine hb.step c1 p1 fun db ρ2 y G2 S2 e2 c2 hy p2 => ?_
  cases hf : f da db with
  | none => rw [hf] at p2; exact p2.elim
  | some z =>
    rw [hf] at p2
    refine h1 G2 S2 x y da db z c2.dom (hx.le e2) hy hf _ fun v G3 e3 hv => ?_
    have p3 : PostG (fun H v d => IsD Γ H v d) Γ fr σ G3 S2 Q (chK f' mc db z ρ2) := PostG.mono (hide_ext e3) p2
    cases hv with
    | bl b =>
      refine ⟨b, rfl, ?_⟩
      cases b with
      | false => exact PostG.give (d := D.bl false) p3 (Same.refl _) (c2.ext e3) (.bl false)
      | true =>
        refine hc.step (c2.ext e3) p3 fun dc ρ4 zv G4 S4 e4 c4 hz p4 => ?_
        obtain ⟨dz, hf', p5⟩ := p4.giveO
        exact h2 G4 S4 y zv db dc dz c4.dom ((hy.le (hide_ext e3)).le e4) hz hf' Q fun v G5 e5 hv => p5.give (hide_ext e5) (c4.ext e5) hv
    | _ => exact p3.elim
end
end Py

set_option Elab.async false
set_option linter.all false
set_option maxRecDepth 100000
set_option maxHeartbeats 2000000
namespace Py
open PySem L2
open PyProof.Rows (envOfC)
/-! ## 14. In a suite: isinstance of the error, calls that are handed the error -/
section
variable {prog : Program} {w : World} {A : Around} {E : Value → Shared → Prop} {s : Shared} {Q : Value → Shared → Prop} {K : PySem.W.Frag}
theorem isi_yes {x t c : Value} {I : Heap → Prop} (ty : ∀ (M : Model) (h : Heap), I h → PySem.W.Looks M h (typeOf x) t) (e : PySem.W.kitOne K t c = some true) (X : K.In s.heap) (p : I s.heap) (hx : x ≠ .builtin "__main__.__loader__#opaque")
    (h : ∀ tk, Q (.bool true) { s with toks := tk }) : wpAny (model prog w) A (call (.builtin "isinstance") [x, c]) Q E s := by
  refine call_isinstance (S := fun _ R z => (K.In z.heap ∧ I z.heap) ∧ ∀ tk, R (.ok (.ret (.bool true))) { z with toks := tk }) (fun prog w A R z hs => isinstance_outer ?_ hx) ⟨⟨X, p⟩, h⟩
  obtain ⟨h0, g, d, tz, os⟩ := z
  obtain ⟨⟨X, p⟩, hq⟩ := hs
  have L := ty (model prog w) h0 p
  unfold Builtin.«isinstance.nested»
  refine wpAny_bind (L.at ?_)
  unfold PySem.W.kitOne at e
  by_cases same : (t == c) = true
  · rw [if_pos same]
    first
      | exact wpAny_bind (wpAny_rule (hq tz))
      | exact wpAny_bind (wpAny_rule (wpAny_pure (hq tz)))
      | exact wpAny_pure (hq tz)
      | exact wpAny_pure (wpAny_pure (hq tz))
      | exact hq tz
  · rw [if_neg same] at e
    rw [if_neg same]
    obtain ⟨k1, k2, k3⟩ := PySem.W.kit_cls (M := model prog w) X e
    have LI : PySem.W.Looks (model prog w) h0 (isInstance x c) true := L.andThen k3
    refine wpAny_bind (k1.at ?_)
    rw [if_pos (by decide)]
    k_delta "plainIsInstance"
    refine wpAny_bind (wpAny_bind (k2.at ?_))
    simp only [Ry, Bool.false_eq_true, if_false]
    refine wpAny_bind (LI.at ?_)
    first
      | exact wpAny_pure (wpAny_pure (hq tz))
      | (simp only [if_true]; first | exact wpAny_pure (wpAny_pure (hq tz)) | exact wpAny_pure (hq tz) | exact wpAny_bind (wpAny_pure (wpAny_pure (hq tz))))
end
/-- isinstance(x, C), x the error at a -/
def rIsY (K : PySem.W.Frag) (cls : Value) (a : Addr) : List V → Hp → VK → Prop := fun xs H Q => ∃ (c : V) (cv : Value), xs = [.ref a, c] ∧ ClsV c cv ∧ PySem.W.kitOne K cls cv = some true ∧ Q (.bl true) H
theorem call_isY {X : Cx} {q : Addr × Obj} {cls : Value} {dx : Option Addr} (hz : Zc cls dx q.2) (hq : q ∈ X.pn) : CallR X (.builtin "isinstance") (rIsY X.K cls q.1) := by
  intro pins s σ H xs us Q I r h
  obtain ⟨c, cv, rfl, kc, e, post⟩ := h
  obtain ⟨u1, u2, rfl, r1, r2⟩ := vals2 r
  cases r1
  cases kc.eq r2
  have P1 := I.pin q (List.mem_append_left _ hq)
  exact isi_yes (I := fun h => h.get? q.1 = some q.2) (fun M h g => by rw [← hz.1]; exact (PySem.W.Looks.ld g).andThen .now) e I.kIn P1.1 (fun z => nomatch z) fun tk => ⟨.bl true, H, I.tok tk, rfl, post⟩
/-! ### a def that is handed the error -/
structure FnP (P : Program) (w : World) (K : PySem.W.Frag) (mg : Str → Option Value) (base : Heap) (k : Nat) (f : Addr) (fd : FuncData) (ps : List Str) (sp : Addr × Obj → Sp) : Prop where
  ln : ∀ q vs H Q E, sp q vs H Q E → vs.length = ps.length
  go : ∀ (A : Around) (outer : List PySem.Env) (s : Shared) (H : Hp) (args : Args) (us : List Value) (vs : List V) (Q : VK) (q : Addr × Obj), L2H.RoomH k A → L2H.PinOk outer H s q → Env0 P w K mg base A outer s H → BindsTo s fd args (ps.zip us) → Vals vs us → sp q vs H Q (fun _ _ _ => False) →
    codeAny (model P w) A (.call (.ref f) args) (CR (L2.CX P w) outer P w H s Q (fun _ _ _ => False)) s
theorem fn_ofP {P : Program} {w : World} {K : PySem.W.Frag} {mg : Str → Option Value} {base : Heap} {k : Nat} {x qual : Str} {st : Stmt} {f : Addr} {fd : FuncData} {N ps : List Str} {sp : Addr × Obj → Sp} (F : FunD K x qual (defArgs st) (defBody st) (defScope st) [] [] f fd) (S : FnScope N ps (defScope st))
    (ln : ∀ q vs H Q E, sp q vs H Q E → vs.length = ps.length)
    (body : ∀ (cdv : Value) (A : Around) (outer : List PySem.Env) (s : Shared) (H : Hp) (vs : List V) (Q : VK) (q : Addr × Obj), L2H.RoomH k (A.deeper (envOfC qual (defScope st) s.heap.objs.size f cdv)) → sp q vs H Q (fun _ _ _ => False) →
      ∃ t, PSs (L2H.cxH (L2.CX P w) P w K mg base N qual (defScope st) f cdv A outer s H (fun _ _ _ => False) q) (defBody st) t ∧ t { nx := fun _ H' => Q .non H', rt := Q } (L2.start N vs) H) :
    FnP P w K mg base (k + 1) f fd ps sp := by
  obtain ⟨kc, kd, dV, kV, doc, pm, an, cdv, ct, ks, efd, lk, hcd, _, _⟩ := F.ex
  subst efd
  refine ⟨ln, fun A outer s H args us vs Q q room pin e0 hb r post => ?_⟩
  have hl := ln _ _ _ _ _ post
  have KX : K.In s.heap := (show K.In base from e0.mod.kin).keeps fun b o e => (e0.bs b o e).1
  have lim : s.heap.NoLimit := (show base.NoLimit from e0.mod.nolimit).keeps fun b o e => (e0.bs b o e).1
  have knd : ∀ y ∈ ps.zip us, (defScope st).names.lookup y.1 = some .local ∨ ((defScope st).names.lookup y.1 = some .cell ∧ ((cellsFrom (s.heap.objs.size + 1) (defScope st).names []).lookup y.1).isSome = true) := fun ⟨n, v⟩ hy => by
    rcases S.par n (List.of_mem_zip hy).1 with z | z
    · exact .inl z
    · exact .inr ⟨z, PySem.W.cellsFrom_some _ _ _ (.inl z)⟩
  have dpt : A.depth < recursionLimit := by have := room.dp; omega
  have room2 : L2H.RoomH k (A.deeper (envOfC qual (defScope st) s.heap.objs.size f cdv)) := room.deeper _
  refine codeAny_call_function dpt (KX _ _ lk) rfl S.co S.gen rfl (PySem.W.codeRec_of KX hcd) (hb _ _ _ _ ?_)
  refine wpAny_newFunctionEnv_cells S.kind knd fun env he s1 x => ?_
  subst he
  refine ⟨lim.keeps x.toInCall.keep, codeAny_func ?_⟩
  obtain ⟨t, ht, goal⟩ := body cdv A outer s H vs Q q room2 post
  have I0 := L2H.inv_startH (CX := L2.CX P w) (E := fun _ _ _ => False) (cd := cdv) (f := f) (qual := qual) S pin e0 hl r x
  refine wpAny_mono (ht.run [] s1 (L2.start N vs) H _ I0 goal) (fun fl z hs => ?_) fun e z hs => hs
  cases fl with
  | ret u =>
    obtain ⟨v, σ2, H2, J, rv, fin⟩ := hs
    exact ⟨v, H2, J.os, J.bare, J.base, J.hok, rv, fin⟩
  | next =>
    obtain ⟨σ2, H2, J, fin⟩ := hs
    exact ⟨V.non, H2, J.os, J.bare, J.base, J.hok, rfl, fin⟩
  | brk =>
    obtain ⟨_, _, _, z⟩ := hs
    exact z.elim
  | cont =>
    obtain ⟨_, _, _, z⟩ := hs
    exact z.elim
def tCallP (sp : Sp) (t : TA) : TE := fun σ H Q => t σ H fun vs H1 => sp vs H1 Q (fun _ _ _ => False)
theorem pe_callP {X : Cx} {k : Nat} {f : Addr} {fd : FuncData} {ps : List Str} {sp : Addr × Obj → Sp} {x : Str} {p pos : Pos} {e : Expr} {es : List Expr} {t : TA} {q : Addr × Obj} (F : FnP X.prog X.w X.K X.mg X.base k f fd ps sp) (hr : L2H.RoomH k X.A) (hq : q ∈ X.pn) (hm : X.mg x = some (.ref f)) (hk : PySem.W.keepIn X.K (.ref f) = true) (hb : Binds X.K fd ps [])
    (ha : PA X (e :: es) t) (hg : Gl X x := by rfl) (hdb : (x == ("__debug__" : Str)) = false := by decide) (he : starEach (e :: es) X.env = (false, eval e X.env) :: starEach es X.env := by rfl) (hpl : (backTo pos (starEach es X.env)).any (·.1) = false := by rfl) :
    PE X (.Call (.Name x p) (e :: es) [] pos) (tCallP (sp q) t) := by
  refine ⟨fun pins s σ H Q I h => wpAny_Call_Name_kw (ld_glob I hg hm ?_ hdb)⟩
  refine PySem.W.callWith_K (h₀ := X.base) I.ok.mod.kin hk (thn (ha.run pos pins s σ H _ I h) fun us s1 ⟨vs, H1, I1, r, post⟩ => ⟨I1.kIn, ?_⟩) he hpl
  have el : us.length = ps.length := by rw [← r.length]; exact F.ln _ _ _ _ _ post
  have bs := hb s1 us I1.kIn (by rw [Ro]; exact el)
  rw [Ro] at bs
  have P1 := I1.pin q (List.mem_append_left _ hq)
  have pin : L2H.PinOk X.stack H1 s1 q := ⟨P1.1, P1.2.1, fun z => (List.mem_cons.mp (I1.stkSub q.1 z)).elim P1.2.2.1 P1.2.2.2.1, P1.2.2.2.2⟩
  refine wpAny_call (codeAny_mono (F.go X.A X.stack s1 H1 ⟨us, []⟩ us vs Q q hr pin I1.env0 bs r post) fun rr s2 done => ?_)
  cases rr with
  | error e =>
    obtain ⟨_, _, _, _, _, _, _, _, _, _, _, _, z⟩ := done
    exact z.elim
  | ok fl =>
    cases fl with
    | ret u => exact I1.after done
    | next => exact done.elim
    | brk => exact done.elim
    | cont => exact done.elim
/-- the error is of these classes -/
def spFam (K : PySem.W.Frag) (cvs : List Value) : Addr × Obj → Sp := fun q vs H Q _ => vs = [.ref q.1] ∧ ∃ cls dx, Zc cls dx q.2 ∧ (∀ cv ∈ cvs, PySem.W.kitOne K cls cv = some true) ∧ Q (.bl true) H
def OkF (P : Program) (w : World) (K : PySem.W.Frag) (mg : Str → Option Value) (base : Heap) (x : Str) (k : Nat) (sp : Addr × Obj → Sp) : Prop :=
  ∃ f fd ps, FnP P w K mg base k f fd ps sp ∧ mg x = some (.ref f) ∧ PySem.W.keepIn K (.ref f) = true ∧ Binds K fd ps []
def tFam (K : PySem.W.Frag) (cvs : List Value) (a : Addr) (cls : Value) (i : Nat) : TE := fun σ H Q => σ[i]? = some (some (.ref a)) ∧ (∀ cv ∈ cvs, PySem.W.kitOne K cls cv = some true) ∧ Q (.bl true) H
theorem pe_fam {X : Cx} {k i : Nat} {cvs : List Value} {x : Str} {a : Addr} {oe : Obj} {cls : Value} {dx : Option Addr} {pn : List (Addr × Obj)} {p pos : Pos} {e : Expr} (F : OkF X.prog X.w X.K X.mg X.base x k (spFam X.K cvs)) (hr : Room k X.A) (hz : Zc cls dx oe)
    (ha : PA (X.suite a ((a, oe) :: pn)) [e] (tCons (tVar i) tNil)) (hg : Gl X x := by rfl) (hdb : (x == ("__debug__" : Str)) = false := by decide) (he : starEach [e] X.env = (false, eval e X.env) :: starEach [] X.env := by rfl) :
    PE (X.suite a ((a, oe) :: pn)) (.Call (.Name x p) [e] [] pos) (tFam X.K cvs a cls i) := by
  obtain ⟨f, fd, ps, F, hm, hk, hb⟩ := F
  refine ⟨fun pins s σ H Q I h => ?_⟩
  refine (pe_callP (X := X.suite a ((a, oe) :: pn)) (q := (a, oe)) (pos := pos) F ⟨hr.dp, hr.un⟩ List.mem_cons_self hm hk hb ha hg hdb he rfl).run pins s σ H Q I ?_
  obtain ⟨h1, h2, h3⟩ := h
  exact ⟨.ref a, h1, rfl, cls, dx, hz, h2, h3⟩
def eFam (e : D) (cs : List Nat) : Env → Rs D := fun ρ => match e with
  | .ins c _ _ => if c ∈ cs then .ok (.bl true) ρ else .stuck
  | _ => .stuck
section
variable {Γ : Gm} {fr : Frm}
theorem ev_fam {q : XS} {cs : List Nat} {cvs : List Value} (hq : fr.xs = some q) (hf : ∀ c ∈ cs, ∀ cv ∈ cvs, PySem.W.kitOne Γ.K (.ref (Γ.cl c)) cv = some true) : EV Γ fr (tFam Γ.K cvs q.a q.cls q.i) (eFam q.e cs) := fun σ ρ G S c Q p => by
  obtain ⟨h1, k, ns, l, he, hc, hx⟩ := c.xsl q hq
  unfold eFam at p
  rw [he] at p
  have p2 : PostG (fun H v d => IsD Γ H v d) Γ fr σ G S Q (if k ∈ cs then .ok (.bl true) ρ else .stuck) := p
  by_cases hk : k ∈ cs
  · rw [if_pos hk] at p2
    exact ⟨h1, fun cv hcv => by rw [hc]; exact hf k hk cv hcv, PostG.give (d := D.bl true) p2 (Same.refl _) c (.bl _)⟩
  · rw [if_neg hk] at p2
    exact p2.elim
/-- isinstance(e, C), e the error that the suite holds -/
theorem ev_isY {q : XS} {cs : List Nat} {c : V} {cv : Value} (hq : fr.xs = some q) (hc : ClsV c cv) (hf : ∀ k ∈ cs, PySem.W.kitOne Γ.K (.ref (Γ.cl k)) cv = some true) : EV Γ fr (tCB (rIsY Γ.K q.cls q.a) (tCons (tVar q.i) (tCons (tC c) tNil))) (eFam q.e cs) := fun σ ρ G S co Q p => by
  obtain ⟨h1, k, ns, l, he, hcl, hx⟩ := co.xsl q hq
  unfold eFam at p
  rw [he] at p
  have p2 : PostG (fun H v d => IsD Γ H v d) Γ fr σ G S Q (if k ∈ cs then .ok (.bl true) ρ else .stuck) := p
  by_cases hk : k ∈ cs
  · rw [if_pos hk] at p2
    exact ⟨_, h1, c, cv, rfl, hc, by rw [hcl]; exact hf k hk, PostG.give (d := D.bl true) p2 (Same.refl _) co (.bl _)⟩
  · rw [if_neg hk] at p2
    exact p2.elim
end
/-- def f(e): return isinstance(e, A) and isinstance(e, B) -/
theorem okFam {P : Program} {w : World} {K : PySem.W.Frag} {mg : Str → Option Value} {base : Heap} {x qual y : Str} {st : Stmt} {f : Addr} {fd : FuncData} {c1 c2 : V} {cv1 cv2 : Value} (F : FunD K x qual (defArgs st) (defBody st) (defScope st) [] [] f fd) (S : FnScope [y] [y] (defScope st)) (h1 : ClsV c1 cv1) (h2 : ClsV c2 cv2)
    (hb : ∀ (cdv : Value) (A : Around) (outer : List PySem.Env) (s : Shared) (H : Hp) (q : Addr × Obj) (cls : Value) (dx : Option Addr), Zc cls dx q.2 → PSs (L2H.cxH (L2.CX P w) P w K mg base [y] qual (defScope st) f cdv A outer s H (fun _ _ _ => False) q) (defBody st)
      (tRet (tAndV (tCB (rIsY K cls q.1) (tCons (tVar 0) (tCons (tC c1) tNil))) (tCB (rIsY K cls q.1) (tCons (tVar 0) (tCons (tC c2) tNil)))))) :
    FnP P w K mg base 1 f fd [y] (spFam K [cv1, cv2]) := by
  refine fn_ofP F S (fun q vs H Q E h => by rw [h.1]; rfl) (fun cdv A outer s H vs Q q hr post => ?_)
  obtain ⟨rfl, cls, dx, hz, hc, fin⟩ := post
  exact ⟨_, hb cdv A outer s H q cls dx hz, _, rfl, c1, cv1, rfl, h1, hc cv1 (by simp), true, rfl, _, rfl, c2, cv2, rfl, h2, hc cv2 (by simp), fin⟩
theorem okf_all {P : Program} {w : World} {Γ : Gm} {mg : Str → Option Value} {base : Heap} {x qual : Str} {st : Stmt} {f : Addr} {k : Nat} {ps : List Str} {sp : Addr × Obj → Sp} (h : Stands Γ mg x qual st [] f)
    (ok : ∀ fd, FunD Γ.K x qual (defArgs st) (defBody st) (defScope st) [] [] f fd → FnP P w Γ.K mg base k f fd ps sp)
    (hb : ∀ (kV doc pm : Value) (an : Option Addr) (cdv ct : Value) (us : List Value), us.length = ps.length → bindArgs (PySem.W.fnOf x qual (defArgs st) (defBody st) (defScope st) .none kV doc pm an cdv ct) ⟨us, []⟩ = pure (ps.zip us)) :
    OkF P w Γ.K mg base x k sp := by
  obtain ⟨fd, F, hm⟩ := h
  exact ⟨f, fd, ps, ok fd F, hm, F.kp, F.bindsN hb⟩
/-- which classes an except clause takes -/
def isaL (l : List (Nat × Bool)) (c : Nat) : Option Bool := l.lookup c
theorem isaL_ok {K : PySem.W.Frag} {cl : Nat → Addr} {C : Value} {l : List (Nat × Bool)} (h : ∀ p ∈ l, PySem.W.exmOne K (.ref (cl p.1)) C = some p.2) : ∀ c b, isaL l c = some b → PySem.W.exmOne K (.ref (cl c)) C = some b := by
  intro c b e
  unfold isaL at e
  induction l with
  | nil => cases e
  | cons p r ih =>
    obtain ⟨c0, b0⟩ := p
    rw [List.lookup_cons] at e
    cases hc : (c == c0) with
    | true =>
      rw [hc] at e
      cases e
      cases beq_iff_eq.mp hc
      exact h _ List.mem_cons_self
    | false =>
      rw [hc] at e
      exact ih (fun p hp => h p (List.mem_cons_of_mem _ hp)) e
theorem bt_ValueError : bootBuiltins "ValueError" = some (.type "ValueError") := by decide +kernel
theorem bt_KeyError : bootBuiltins "KeyError" = some (.type "KeyError") := by decide +kernel
end Py

set_option Elab.async false
set_option linter.all false
set_option maxRecDepth 100000
set_option maxHeartbeats 2000000
namespace Py
open PySem L2 He
open PyProof.Rows (envOfC)
theorem ini_at {P : Program} {w : World} {K : PySem.W.Frag} {mg : Str → Option Value} {base : Heap} {x : Str} {sp : Sp} {fd : FuncData} {ps : List Str} (he : OexC K (ga K x)) (hm : mg x = some (.ref (ga K x))) (c : fIni x K = true) (F : FnOk P w K mg base (L2.CX P w) 1 (ma K (ga K x) "__init__") fd ps sp) (hb : Binds K fd ps []) : ExcI P w K mg base x (ga K x) sp := by
  obtain ⟨h1, h2⟩ := ba c
  exact ⟨he, hm, _, fd, ps, eqO_ok h1, of_decide_eq_true h2, F, hb⟩
/-- the law's promise, from its mirror -/
theorem spP_law {Γ : Gm} {m : List D → Rf D} {H : Hp} {a : Addr} {ns : List Int} (hS : SqL Γ.K H a (ns.map V.int)) (hm : m [.scr ns] = .ok (.bl true)) : spP Γ 1 m [.ref a] H (fun v _ => v = .bl true) (fun _ _ _ => False) := by
  refine ⟨rfl, fun _ => False, [.scr ns], fun _ z => z.elim, .cons (.scr ?_) .nil, ?_⟩
  · have e : hide (fun _ => False) H = H := by
      funext b
      unfold hide
      exact if_neg (fun z => z)
    rw [e]
    exact hS
  · rw [hm]
    intro v G' _ hv
    cases hv
    rfl
/-- a def that lets nothing out -/
def shutS (sp : Sp) : Sp := fun vs H Q _ => sp vs H Q (fun _ _ _ => False)
theorem shut {P : Program} {w : World} {K : PySem.W.Frag} {mg : Str → Option Value} {base : Heap} {k : Nat} {f : Addr} {fd : FuncData} {ps : List Str} {sp : Sp} (F : FnOk P w K mg base (L2.CX P w) k f fd ps sp) : FnOk P w K mg base CX0 k f fd ps (shutS sp) := by
  refine ⟨fun vs H Q E h => F.len vs H Q _ h, fun A outer s H args us vs Q E hr e0 hb r h => codeAny_mono (F.run A outer s H args us vs Q (fun _ _ _ => False) hr e0 hb r h) fun rr s2 z => ?_⟩
  cases rr with
  | error e =>
    obtain ⟨_, _, _, _, _, _, _, _, _, _, _, _, z⟩ := z
    exact z.elim
  | ok fl =>
    cases fl with
    | ret u => exact z
    | next => exact z
    | brk => exact z
    | cont => exact z
end Py

set_option Elab.async false
set_option linter.all false
set_option maxRecDepth 100000
set_option maxHeartbeats 1000000
namespace Py
open PySem L2
/-! ## 16. The mirror's values, step by step -/
section
variable {ρ ρ1 ρ2 : Py.Env} {a b c d : D} {ma mb mc : Py.Env → Rs D} {ta tb : Py.Env → Rs Bool} {la : Py.Env → Rs (List D)} {s t : Py.Env → Out} {r : Out} {i n : Nat} {ds : List D} {x : Bool}
theorem eVar_of (h : ρ[i]? = some (some d)) : eVar i ρ = .ok d ρ := by unfold eVar; rw [h]
theorem eBin_of {f : D → D → Option D} (h1 : ma ρ = .ok a ρ1) (h2 : mb ρ1 = .ok b ρ2) (h3 : f a b = some c) : eBin f ma mb ρ = .ok c ρ2 := by unfold eBin; rw [h1]; show (mb ρ1).bind _ = _; rw [h2]; show Rs.ofOpt (f a b) ρ2 = _; rw [h3]; rfl
theorem eUn_of {f : D → Option D} (h1 : ma ρ = .ok a ρ1) (h3 : f a = some c) : eUn f ma ρ = .ok c ρ1 := by unfold eUn; rw [h1]; show Rs.ofOpt (f a) ρ1 = _; rw [h3]; rfl
theorem aCons_of (h1 : ma ρ = .ok a ρ1) (h2 : la ρ1 = .ok ds ρ2) : aCons ma la ρ = .ok (a :: ds) ρ2 := by unfold aCons; rw [h1]; show (la ρ1).bind _ = _; rw [h2]; rfl
theorem aF_of {f : List D → Option D} (h1 : la ρ = .ok ds ρ1) (h3 : f ds = some c) : aF f la ρ = .ok c ρ1 := by unfold aF; rw [h1]; show Rs.ofOpt (f ds) ρ1 = _; rw [h3]; rfl
theorem app0 {dd : List D} : [] ++ dd = dd := rfl
theorem app1 {dd : List D} : [a] ++ dd = a :: dd := rfl
theorem app2 {dd : List D} : [a, b] ++ dd = a :: b :: dd := rfl
theorem app3 {dd : List D} : [a, b, c] ++ dd = a :: b :: c :: dd := rfl
theorem eCall_of {f : List D → Rf D} {dd es : List D} (h1 : la ρ = .ok ds ρ1) (he : ds ++ dd = es) (hn : es.length = n) (h2 : f es = .ok d) : eCall n f dd la ρ = .ok d ρ1 := by subst he; unfold eCall; rw [h1]; show (if (ds ++ dd).length = n then _ else _) = _; rw [if_pos hn, h2]; rfl
theorem eCall_exc {f : List D → Rf D} {dd es : List D} (h1 : la ρ = .ok ds ρ1) (he : ds ++ dd = es) (hn : es.length = n) (h2 : f es = .exc d) : eCall n f dd la ρ = .exc d ρ1 := by subst he; unfold eCall; rw [h1]; show (if (ds ++ dd).length = n then _ else _) = _; rw [if_pos hn, h2]; rfl
theorem eCallN_of {f : List D → Rf D} {dd es : List D} (h1 : la ρ = .ok ds ρ1) (he : ds ++ dd = es) (hn : es.length = n) (h2 : f es = .ok d) : eCallN n f dd la ρ = .ok d ρ1 := by subst he; unfold eCallN; rw [h1]; show (if (ds ++ dd).length = n then _ else _) = _; rw [if_pos hn, h2]
theorem eCallH_of {f : List D → List D → Rf (D × List D)} {l0 l l' : List D} (h0 : ownL ρ i = some l0) (h1 : la ρ = .ok ds ρ1) (hn : ds.length + 1 = n) (h : ownL ρ1 i = some l) (h2 : f l ds = .ok (d, l')) : eCallH i n f la ρ = .ok d (ρ1.set i (some (.lst l'))) := by
  unfold eCallH; rw [h0]; show (la ρ).bind _ = _; rw [h1]; show (if ds.length + 1 = n then _ else _) = _; rw [if_pos hn, h]; show (match f l ds with | .ok (d, l') => Rs.ok d (ρ1.set i (some (.lst l'))) | _ => .stuck) = _; rw [h2]
theorem eIxOwn_of {l0 l : List D} (h0 : ownL ρ i = some l0) (h1 : ma ρ = .ok a ρ1) (h : ownL ρ1 i = some l) (h2 : dIx (.lst l) a = some d) : eIxOwn i ma ρ = .ok d ρ1 := by
  unfold eIxOwn; rw [h0]; show (ma ρ).bind _ = _; rw [h1]; show (match ownL ρ1 i with | none => Rs.stuck | some l => Rs.ofOpt (dIx (.lst l) a) ρ1) = _; rw [h]; show Rs.ofOpt (dIx (.lst l) a) ρ1 = _; rw [h2]; rfl
theorem eMove_of {l : List D} (h : ownL ρ i = some l) : eMove i ρ = .ok (.lst l) (ρ.set i none) := by unfold eMove; rw [h]
theorem aOwn_of {f : List D → Option D} {l : List D} (h : ownL ρ i = some l) (h2 : f l = some d) : aOwn f i ρ = .ok d ρ := by unfold aOwn; rw [h]; show Rs.ofOpt (f l) ρ = _; rw [h2]; rfl
theorem eAnd_of (h1 : ma ρ = .ok (.bl x) ρ1) {r : Rs D} (h2 : (if x = true then mb ρ1 else .ok (.bl false) ρ1) = r) : eAnd ma mb ρ = r := by unfold eAnd; rw [h1]; cases x <;> exact h2
theorem eOr_of (h1 : ma ρ = .ok (.bl x) ρ1) {r : Rs D} (h2 : (if x = true then .ok (.bl true) ρ1 else mb ρ1) = r) : eOr ma mb ρ = r := by unfold eOr; rw [h1]; cases x <;> exact h2
theorem eNot_of (h1 : ma ρ = .ok (.bl x) ρ1) : eNot ma ρ = .ok (.bl !x) ρ1 := by unfold eNot; rw [h1]; rfl
theorem eIf_of (h1 : ta ρ = .ok x ρ1) {r : Rs D} (h2 : (if x = true then ma ρ1 else mb ρ1) = r) : eIf ta ma mb ρ = r := by unfold eIf; rw [h1]; exact h2
theorem tfB_of (h1 : ma ρ = .ok (.bl x) ρ1) : tfB ma ρ = .ok x ρ1 := by unfold tfB; rw [h1]; rfl
theorem tfT_of (h1 : ma ρ = .ok a ρ1) (h2 : truthD a = some x) : tfT ma ρ = .ok x ρ1 := by unfold tfT; rw [h1]; show Rs.ofOpt (truthD a) ρ1 = _; rw [h2]; rfl
theorem tfAnd_of (h1 : ta ρ = .ok x ρ1) {r : Rs Bool} (h2 : (if x = true then tb ρ1 else .ok false ρ1) = r) : tfAnd ta tb ρ = r := by unfold tfAnd; rw [h1]; exact h2
theorem tfOr_of (h1 : ta ρ = .ok x ρ1) {r : Rs Bool} (h2 : (if x = true then .ok true ρ1 else tb ρ1) = r) : tfOr ta tb ρ = r := by unfold tfOr; rw [h1]; exact h2
theorem tfNot_of (h1 : ta ρ = .ok x ρ1) : tfNot ta ρ = .ok (!x) ρ1 := by unfold tfNot; rw [h1]; rfl
theorem sSeq_nx (h1 : s ρ = .nx ρ1) (h2 : t ρ1 = r) : sSeq s t ρ = r := by unfold sSeq; rw [h1]; exact h2
theorem sSeqN_nx (h1 : s ρ = .nx ρ1) (h2 : t ρ1 = r) : sSeqN s t ρ = r := by unfold sSeqN; rw [h1]; exact h2
theorem sSeq_ret (h1 : s ρ = .ret d ρ1) : sSeq s t ρ = .ret d ρ1 := by unfold sSeq; rw [h1]
theorem sSeq_exc (h1 : s ρ = .exc d ρ1) : sSeq s t ρ = .exc d ρ1 := by unfold sSeq; rw [h1]
/-- the first part's end, then the rest -/
def thenO (t : Py.Env → Out) : Out → Out
  | .nx ρ => t ρ
  | r => r
theorem sSeq_of {r1 : Out} (h1 : s ρ = r1) (h2 : thenO t r1 = r) : sSeq s t ρ = r := by subst h1; rw [← h2]; unfold sSeq thenO; cases s ρ <;> rfl
theorem sNext_of : sNext ρ = .nx ρ := rfl
theorem sBrk_of : sBrk ρ = .brk ρ := rfl
theorem sCt_of : sCt ρ = .ct ρ := rfl
theorem sRetN_of : sRetN ρ = .ret .non ρ := rfl
theorem thenO_nx (h : t ρ = r) : thenO t (.nx ρ) = r := h
theorem thenO_ret : thenO t (.ret d ρ) = .ret d ρ := rfl
theorem thenO_exc : thenO t (.exc d ρ) = .exc d ρ := rfl
theorem sSet_of (h1 : ma ρ = .ok a ρ1) : sSet i ma ρ = .nx (ρ1.set i (some a)) := by unfold sSet; rw [h1]; rfl
theorem sSet_to (h1 : ma ρ = .ok a ρ1) (h2 : Out.nx (ρ1.set i (some a)) = r) : sSet i ma ρ = r := (sSet_of h1).trans h2
theorem sSet_exc (h1 : ma ρ = .exc a ρ1) : sSet i ma ρ = .exc a ρ1 := by unfold sSet; rw [h1]; rfl
theorem sRet_of (h1 : ma ρ = .ok a ρ1) : sRet ma ρ = .ret a ρ1 := by unfold sRet; rw [h1]; rfl
theorem sRet_exc (h1 : ma ρ = .exc a ρ1) : sRet ma ρ = .exc a ρ1 := by unfold sRet; rw [h1]; rfl
theorem sExpr_of (h1 : ma ρ = .ok a ρ1) : sExpr ma ρ = .nx ρ1 := by unfold sExpr; rw [h1]; rfl
theorem sIf_of (h1 : ta ρ = .ok x ρ1) (h2 : (if x = true then s ρ1 else t ρ1) = r) : sIf ta s t ρ = r := by unfold sIf; rw [h1]; exact h2
theorem sAsg_of {mg : D → Py.Env → Option Py.Env} (h1 : ma ρ = .ok a ρ1) (h2 : mg a ρ1 = some ρ2) : sAsg mg ma ρ = .nx ρ2 := by unfold sAsg; rw [h1]; show (match mg a ρ1 with | some ρ2 => Out.nx ρ2 | none => Out.stuck) = _; rw [h2]
theorem sPar_of {j : Nat} (h1 : la ρ = .ok [a, b] ρ1) : sPar i j la ρ = .nx ((ρ1.set i (some a)).set j (some b)) := by unfold sPar; rw [h1]; rfl
theorem sApp_of {l0 l : List D} (h0 : ownL ρ i = some l0) (h1 : ma ρ = .ok a ρ1) (h : ownL ρ1 i = some l) (hl : l.length < 1000000) : sApp i ma ρ = .nx (ρ1.set i (some (.lst (l ++ [a])))) := by
  unfold sApp; rw [h0]; show (ma ρ).out _ = _; rw [h1]; show (match ownL ρ1 i with | none => Out.stuck | some l => if l.length < 1000000 then .nx (ρ1.set i (some (.lst (l ++ [a])))) else .stuck) = _; rw [h]; exact if_pos hl
theorem sSetIx_of {mk : Py.Env → Rs D} {l0 l : List D} {z : Int} {j : Nat} (h1 : ma ρ = .ok a ρ1) (h0 : ownL ρ1 i = some l0) (h2 : mk ρ1 = .ok (.int z) ρ2) (h : ownL ρ2 i = some l) (hj : ixN l.length z = some j) : sSetIx i mk ma ρ = .nx (ρ2.set i (some (.lst (l.set j a)))) := by
  unfold sSetIx; rw [h1]; show (match ownL ρ1 i with | none => Out.stuck | some _ => (mk ρ1).out _) = _; rw [h0]; show (mk ρ1).out _ = _; rw [h2]; show (match ownL ρ2 i, D.int z with | some l, .int n => (match ixN l.length n with | some j => Out.nx (ρ2.set i (some (.lst (l.set j a)))) | none => .stuck) | _, _ => .stuck) = _; rw [h]; show (match ixN l.length z with | some j => Out.nx (ρ2.set i (some (.lst (l.set j a)))) | none => .stuck) = _; rw [hj]
theorem sPar_to {j : Nat} (h1 : la ρ = .ok [a, b] ρ1) (h2 : Out.nx ((ρ1.set i (some a)).set j (some b)) = r) : sPar i j la ρ = r := (sPar_of h1).trans h2
theorem sApp_to {l0 l : List D} (h0 : ownL ρ i = some l0) (h1 : ma ρ = .ok a ρ1) (h : ownL ρ1 i = some l) (hl : l.length < 1000000) (h2 : Out.nx (ρ1.set i (some (.lst (l ++ [a])))) = r) : sApp i ma ρ = r := (sApp_of h0 h1 h hl).trans h2
theorem sSetIx_to {mk : Py.Env → Rs D} {l0 l : List D} {z : Int} {j : Nat} (h1 : ma ρ = .ok a ρ1) (h0 : ownL ρ1 i = some l0) (h2 : mk ρ1 = .ok (.int z) ρ2) (h : ownL ρ2 i = some l) (hj : ixN l.length z = some j) (h3 : Out.nx (ρ2.set i (some (.lst (l.set j a)))) = r) : sSetIx i mk ma ρ = r := (sSetIx_of h1 h0 h2 h hj).trans h3
theorem sFor_of {mi : Py.Env → Rs (List D)} {mg : D → Py.Env → Option Py.Env} (h1 : mi ρ = .ok ds ρ1) (h2 : forL mg s ds ρ1 = r) : sFor mi mg s ρ = r := by unfold sFor; rw [h1]; exact h2
theorem iSeqM_of {l : List D} (h1 : ma ρ = .ok a ρ1) (h2 : itemsD a = some l) : iSeqM ma ρ = .ok l ρ1 := by unfold iSeqM; rw [h1]; show Rs.ofOpt (itemsD a) ρ1 = _; rw [h2]; rfl
theorem rng1M_of {j : Int} (h1 : la ρ = .ok [.int j] ρ1) (h : -(2 ^ 62) ≤ j ∧ j < 2 ^ 62) : rng1M la ρ = .ok (rngD 0 j) ρ1 := by unfold rng1M; rw [h1]; exact if_pos h
theorem sRaise1_of {c : Nat} {f : Str} (h1 : ma ρ = .ok a ρ1) : sRaise1 c f ma ρ = .exc (.ins c [f] [a]) ρ1 := by unfold sRaise1; rw [h1]; rfl
/-- a try whose body lets nothing out -/
theorem sTry_nx {isa : Nat → Option Bool} {mh : D → Py.Env → Out} (h1 : s ρ = .nx ρ1) : sTry i isa s mh ρ = .nx ρ1 := by unfold sTry; rw [h1]
theorem sTry_exc {isa : Nat → Option Bool} {mh : D → Py.Env → Out} {k : Nat} {ns : List Str} {l : List D} (h1 : s ρ = .exc (.ins k ns l) ρ1) (h2 : isa k = some true) (hi : i < ρ1.length) (h3 : behind i (mh (.ins k ns l) (ρ1.set i none)) = r) : sTry i isa s mh ρ = r := by
  unfold sTry; rw [h1]; show (match isa k with | some true => if i < ρ1.length then behind i (mh (.ins k ns l) (ρ1.set i none)) else .stuck | some false => .exc (.ins k ns l) ρ1 | none => .stuck) = r; rw [h2]; show (if i < ρ1.length then behind i (mh (.ins k ns l) (ρ1.set i none)) else .stuck) = r; rw [if_pos hi]; exact h3
theorem runF_ret {m : Py.Env → Out} (h : m (entry n ds) = .ret d ρ) : runF n m ds = .ok d := by unfold runF; rw [h]
theorem runF_exc {m : Py.Env → Out} (h : m (entry n ds) = .exc d ρ) : runF n m ds = .exc d := by unfold runF; rw [h]
theorem runN_ret {m : Py.Env → Out} (h : m (entry n ds) = .ret d ρ) : runN n m ds = .ok d := by unfold runN; rw [h]
theorem runH_ret {m : Py.Env → Out} {l l' : List D} (h : m (entry n (.lst l :: ds)) = .ret d ρ) (h2 : ownL ρ 0 = some l') : runH n m l ds = .ok (d, l') := by unfold runH; rw [h]; show (match ownL ρ 0 with | some l' => Rf.ok (d, l') | none => .stuck) = _; rw [h2]
theorem pos_of {α : Type} {p : Bool} {y z r : α} (hp : p = true) (h : y = r) : (if p = true then y else z) = r := by rw [if_pos hp]; exact h
theorem neg_of {α : Type} {p : Bool} {y z r : α} (hp : p = false) (h : z = r) : (if p = true then y else z) = r := by rw [hp]; exact h
end
theorem eLc_of {ρ ρ1 ρ2 : Py.Env} {mi : Py.Env → Rs (List D)} {mg : D → Py.Env → Option Py.Env} {mt : Py.Env → Rs Bool} {me : Py.Env → Rs D} {vs : List Nat} {ds l : List D} {r : Rs D} (h1 : mi ρ = .ok ds ρ1) (hl : ds.length ≤ 1000000) (h2 : lcL mg mt me vs ds [] ρ1 = .ok l ρ2) (h3 : Rs.ok (D.lst l) (restE ρ1 ρ2 vs) = r) : eLc mi mg mt me vs ρ = r := by
  unfold eLc; rw [h1]; show (if ds.length ≤ 1000000 then (match lcL mg mt me vs ds [] ρ1 with | .ok l ρ2 => Rs.ok (D.lst l) (restE ρ1 ρ2 vs) | _ => Rs.stuck) else Rs.stuck) = r; rw [if_pos hl, h2]; exact h3
theorem lcL_go {mg : D → Py.Env → Option Py.Env} {me : Py.Env → Rs D} {vs : List Nat} {d y : D} {ds acc : List D} {ρ ρ1 ρ3 : Py.Env} (h1 : mg d (wipeE ρ vs) = some ρ1) (h2 : me ρ1 = .ok y ρ3) : lcL mg lYes me vs (d :: ds) acc ρ = lcL mg lYes me vs ds (acc ++ [y]) ρ3 := by
  conv => lhs; unfold lcL
  rw [h1]
  show (match lYes ρ1 with | .ok true ρ2 => (match me ρ2 with | .ok y ρ3 => lcL mg lYes me vs ds (acc ++ [y]) ρ3 | _ => Rs.stuck) | .ok false ρ2 => lcL mg lYes me vs ds acc ρ2 | _ => Rs.stuck) = _
  unfold lYes
  show (match me ρ1 with | .ok y ρ3 => lcL mg _ me vs ds (acc ++ [y]) ρ3 | _ => Rs.stuck) = _
  rw [h2]
theorem truthD_int (i : Int) : truthD (.int i) = some (!decide (i = 0)) := by
  by_cases h : i = 0
  · subst h; rfl
  · show some (i != 0) = _
    rw [decide_eq_false h]
    exact congrArg some (bne_iff_ne.mpr h)
/-! ### numbers -/
theorem bits_of {i : Int} {k : Nat} (h : i.natAbs < 2 ^ k) (hk : 0 < k) : bits i < k := by
  unfold bits
  by_cases h0 : i.natAbs = 0
  · rw [h0]; exact hk
  · exact (Nat.log2_lt h0).mpr h
theorem ok_int (n : Nat) (i : Int) : okD n (.int i) = true := by cases n <;> rfl
theorem eqv_int (i j : Int) : PyData.eqv (.int i) (.int j) = decide (i = j) := by
  unfold PyData.eqv
  first | rfl | simp [PyData.eqv] | (by_cases h : i = j <;> simp [h])
theorem dEq_int (i j : Int) : dEq (.int i) (.int j) = some (.bl (decide (i = j))) := by
  unfold dEq eqvD
  rw [ok_int, ok_int]
  show some (D.bl (PyData.eqv (.int i) (.int j))) = _
  rw [eqv_int]
theorem dNe_int (i j : Int) : dNe (.int i) (.int j) = some (.bl (!decide (i = j))) := by
  unfold dNe eqvD
  rw [ok_int, ok_int]
  show some (D.bl (!PyData.eqv (.int i) (.int j))) = _
  rw [eqv_int]
/-- a bound by bits, kept folded -/
def Bd (k : Nat) (i : Int) : Prop := i.natAbs < 2 ^ k
theorem Bd.mono {j k : Nat} {i : Int} (h : Bd j i) (hj : j ≤ k) : Bd k i := Nat.lt_of_lt_of_le h (Nat.pow_le_pow_right (by decide) hj)
theorem Bd.mul {j k : Nat} {a b : Int} (h : Bd j a) (g : Bd k b) : Bd (j + k) (a * b) := by
  unfold Bd at *
  rw [Int.natAbs_mul, Nat.pow_add]
  exact Nat.mul_lt_mul'' h g
theorem Bd.add {k : Nat} {a b : Int} (h : Bd k a) (g : Bd k b) : Bd (k + 1) (a + b) := by
  unfold Bd at *
  have := Int.natAbs_add_le a b
  rw [Nat.pow_succ]
  omega
theorem Bd.neg {k : Nat} {a : Int} (h : Bd k a) : Bd k (-a) := by unfold Bd at *; rw [Int.natAbs_neg]; exact h
theorem Bd.sub {k : Nat} {a b : Int} (h : Bd k a) (g : Bd k b) : Bd (k + 1) (a - b) := by
  rw [Int.sub_eq_add_neg]; exact h.add g.neg
theorem Bd.bits {k : Nat} {a : Int} (h : Bd (k + 1) a) : bits a < k + 1 := bits_of h (Nat.succ_pos k)
theorem bits_le {k : Nat} {a : Int} (h : Bd k a) : bits a ≤ k := by
  cases k with
  | zero =>
    have e : a.natAbs = 0 := by unfold Bd at h; omega
    unfold Py.bits
    rw [e]; decide
  | succ k => exact Nat.le_of_lt h.bits
theorem dMul_of {j k : Nat} {a b : Int} (h : Bd j a) (g : Bd k b) (hs : j + k < 900000) : dMul (.int a) (.int b) = some (.int (a * b)) := by
  have h1 := bits_le h
  have h2 := bits_le g
  unfold dMul
  exact if_pos (by omega)
theorem dFdiv_of {k : Nat} {a b : Int} (h : Bd k b) (hs : k < 8000) (hb : b ≠ 0) : dFdiv (.int a) (.int b) = some (.int (a.fdiv b)) := by
  have h1 := bits_le h
  unfold dFdiv
  exact if_pos ⟨hb, by omega⟩
theorem bd64 {a : Int} (h1 : -(2 ^ 64) < a) (h2 : a < 2 ^ 64) : Bd 64 a := by unfold Bd; omega
theorem dMul64 {a b : Int} (h1 : -(2 ^ 64) < a) (h2 : a < 2 ^ 64) (h3 : -(2 ^ 64) < b) (h4 : b < 2 ^ 64) : dMul (.int a) (.int b) = some (.int (a * b)) := dMul_of (bd64 h1 h2) (bd64 h3 h4) (by decide)
theorem dFdiv64 {a b : Int} (h0 : b ≠ 0) (h1 : -(2 ^ 64) < b) (h2 : b < 2 ^ 64) : dFdiv (.int a) (.int b) = some (.int (a.fdiv b)) := dFdiv_of (bd64 h1 h2) (by decide) h0
theorem dMod_of {a b : Int} (hb : b ≠ 0) : dMod (.int a) (.int b) = some (.int (a.fmod b)) := by unfold dMod; exact if_pos hb
theorem fmod_lo {a b : Int} (h : 0 < b) : 0 ≤ a.fmod b := Int.fmod_nonneg_of_pos a h
theorem fmod_hi {a b : Int} (h : 0 < b) : a.fmod b < b := Int.fmod_lt_of_pos a h
theorem atI_of {α : Type} {l : List α} {i : Int} {n : Nat} {x : α} (hi : i = n) (h : l[n]? = some x) : atI l i = some x := by
  have hl := (List.getElem?_eq_some_iff.mp h).1
  unfold atI ixN
  subst hi
  rw [if_pos (by omega), if_pos (by omega)]
  simpa using h
theorem forL_inv {mg : D → Py.Env → Option Py.Env} {mb : Py.Env → Out} (I : Nat → Py.Env → Prop) : ∀ (ds : List D) (n : Nat) (ρ : Py.Env), I n ρ → (∀ k d ρ, ds[k]? = some d → I (n + k) ρ → ∃ ρ1 ρ2, mg d ρ = some ρ1 ∧ mb ρ1 = .nx ρ2 ∧ I (n + k + 1) ρ2) → ∃ ρ', forL mg mb ds ρ = .nx ρ' ∧ I (n + ds.length) ρ'
  | [], n, ρ, h, _ => ⟨ρ, rfl, h⟩
  | d :: ds, n, ρ, h, step => by
    obtain ⟨ρ1, ρ2, e1, e2, h2⟩ := step 0 d ρ rfl h
    obtain ⟨ρ', e3, h3⟩ := forL_inv I ds (n + 1) ρ2 h2 (fun k d ρ hk hI => by
      have := step (k + 1) d ρ (by simpa using hk) (by rwa [show n + (k + 1) = n + 1 + k by omega])
      rwa [show n + (k + 1) + 1 = n + 1 + k + 1 by omega] at this)
    refine ⟨ρ', ?_, by rwa [Qz, show n + (ds.length + 1) = n + 1 + ds.length by omega]⟩
    show (match mg d ρ with | none => Out.stuck | some ρ1 => _) = _
    rw [e1]
    show (match mb ρ1 with | .nx ρ2 => forL mg mb ds ρ2 | .ct ρ2 => forL mg mb ds ρ2 | .brk ρ2 => .nx ρ2 | .ret d ρ2 => .ret d ρ2 | .exc e ρ2 => .exc e ρ2 | .stuck => .stuck) = _
    rw [e2]
    exact e3
end Py

set_option Elab.async false
set_option linter.all false
set_option maxRecDepth 100000
set_option maxHeartbeats 2000000
namespace Py
open PySem L2
open PyProof.Rows (envOfC)
/-! ## 17. Errors as values -/
def tMkV (C : Addr) (sp : Sp) (ta : TA) : TE := fun σ H Q => ta σ H fun vs H1 => vs.length ≤ 1000 ∧ ∀ a, H1 a = none → sp (.ref a :: vs) (upd H1 a (exo a C none)) (fun v H2 => v = .non ∧ Q (.ref a) H2) (fun _ _ _ => False)
section
variable {X : Cx} {e : Expr} {es : List Expr} {ta : TA} {p pos : Pos} {x : Str} {C : Addr} {sp : Sp} {W : WX}
theorem mk_run {pins : List (Addr × Obj)} {σ : L2.St} {H1 : Hp} {s1 : Shared} {us : List Value} {vs : List V} {Q : VK} (F : ExcI X.prog X.w X.K X.mg X.base x C sp) (hr : Room 2 X.A) (hx : Passes (L2.CX X.prog X.w) X (fun _ _ _ => False)) (I1 : Inv X pins σ H1 s1) (r1 : Vals vs us) (hz : vs.length ≤ 1000)
    (q1 : ∀ a, H1 a = none → sp (.ref a :: vs) (upd H1 a (exo a C none)) (fun v H2 => v = .non ∧ Q (.ref a) H2) (fun _ _ _ => False)) : wpAny (model X.prog X.w) X.A (call (.ref C) us) (EP X pins σ Q) X.xe s1 := by
  obtain ⟨T, hm, fI, fd, ps, iC, tI, F1, hb⟩ := F
  obtain ⟨nm, qn, N, bs, bm, sn, sub, ab, col, dd, k0, k1, k2, k3, k5, hC, hbm⟩ := T.cls
  obtain ⟨hp, g, dr, tk, os⟩ := s1
  obtain ⟨a, ea⟩ : ∃ a, a = hp.objs.size + 1 := ⟨_, rfl⟩
  have hsz : hp.objs.size ≤ a := by omega
  have hn : H1 a = none := I1.hok.fresh hsz
  have hq := q1 a hn
  have get : ((hp.push (PySem.W.kdv_tup us)).push (PySem.HandSPX.excO C hp.objs.size)).get? a = some (PySem.HandSPX.excO C hp.objs.size) := by rw [ea]; heap_get
  have keep : ∀ b o, hp.get? b = some o → ((hp.push (PySem.W.kdv_tup us)).push (PySem.HandSPX.excO C hp.objs.size)).get? b = some o := fun b o z => Heap.get?_push_of_some _ (Heap.get?_push_of_some _ z)
  have I2 := I1.laid (t' := tk) (a := a) (o := exo a C none) (h' := (hp.push (PySem.W.kdv_tup us)).push (PySem.HandSPX.excO C hp.objs.size)) keep hsz (exo_ok get)
  have r2 : Vals (V.ref a :: vs) (Value.ref a :: us) := .cons rfl r1
  have hl : (Value.ref a :: us).length = ps.length := by rw [← r2.length]; exact F1.len _ _ _ _ hq
  have hus : us.length ≤ sizeLine := by
    rw [← Paired.length r1, sizeLine_eq]
    omega
  have hb2 := hb _ (Value.ref a :: us) I2.kIn (by rw [Ro]; exact hl)
  rw [Ro] at hb2
  rw [ea] at I2 r2 hb2 hq
  refine wpAny_call (PySem.HandSPX.call_own F.excBase_ValueError (fun Y => PySem.HandSPX.refsVE_contains Y bm hbm) (I1.kIn _ _ hC) (PySem.W.looks_findIn I1.kIn iC) (fun self => PySem.W.bind_fn I1.kIn self tI) hus
    (codeAny_mono (F1.run _ X.stack _ _ ⟨Value.ref (hp.objs.size + 1) :: us, []⟩ (Value.ref (hp.objs.size + 1) :: us) _ _ (fun _ _ _ => False) (hr.make C us []) (I2.env0.make C us []) hb2 r2 hq) fun rr s2 done => ?_))
  cases rr with
  | error er => exact hx pins σ _ _ er s2 I2 done
  | ok fl =>
    cases fl with
    | ret u =>
      obtain ⟨v, H2, I3, rv, ⟨ev, q2⟩⟩ := I2.after done
      subst ev
      exact ⟨rv, ⟨V.ref (hp.objs.size + 1), H2, I3, rfl, q2⟩⟩
    | next => exact done.elim
    | brk => exact done.elim
    | cont => exact done.elim
theorem pe_mkV (F : ExcI X.prog X.w X.K X.mg X.base x C sp) (hr : Room 2 X.A) (hx : Passes (L2.CX X.prog X.w) X (fun _ _ _ => False)) (ha : PA X (e :: es) ta) (hg : Gl X x := by rfl)
    (hdb : (x == ("__debug__" : Str)) = false := by decide) (he : starEach (e :: es) X.env = (false, eval e X.env) :: starEach es X.env := by rfl) (hpl : (backTo pos (starEach es X.env)).any (·.1) = false := by rfl) :
    PE X (.Call (.Name x p) (e :: es) [] pos) (tMkV C sp ta) := by
  refine ⟨fun pins s σ H Q I h => wpAny_Call_Name_kw (ld_glob I hg F.2.1 ?_ hdb)⟩
  exact PySem.W.callWith_K (h₀ := X.base) I.ok.mod.kin F.1.kC (thn (ha.run pos pins s σ H _ I h) fun us s1 ⟨vs, H1, I1, r1, hz, q1⟩ => ⟨I1.kIn, mk_run F hr hx I1 r1 hz q1⟩) he hpl
theorem pe_mkV0 (F : ExcI X.prog X.w X.K X.mg X.base x C sp) (hr : Room 2 X.A) (hx : Passes (L2.CX X.prog X.w) X (fun _ _ _ => False)) (hg : Gl X x := by rfl) (hdb : (x == ("__debug__" : Str)) = false := by decide) : PE X (.Call (.Name x p) [] [] pos) (tMkV C sp tNil) := by
  refine ⟨fun pins s σ H Q I h => wpAny_Call_Name_kw (ld_glob I hg F.2.1 ?_ hdb)⟩
  obtain ⟨hz, q1⟩ := h
  exact PySem.W.callWith_K0 I.kIn F.1.kC (mk_run (us := []) F hr hx I .nil hz q1)
end
end Py

set_option Elab.async false
set_option linter.all false
set_option maxRecDepth 100000
set_option maxHeartbeats 2000000
namespace Py
open PySem L2
open PyProof.Rows (envOfC)
/-! ## 18. try with many handlers, each with or without a name -/
structure HdT where
  c : Value
  i : Option Nat
  ts : Addr → Value → Option Addr → TS
def putN (i : Option Nat) (v : Option V) (σ : L2.St) : L2.St := match i with
  | some i => σ.set i v
  | none => σ
def endN (i : Option Nat) (D : Ends) : Ends := { nx := fun τ G => D.nx (putN i none τ) G, rt := D.rt, bk := fun τ G => D.bk (putN i none τ) G, ct := fun τ G => D.ct (putN i none τ) G }
def wAll (K : PySem.W.Frag) (Wo : WX) (D : Ends) : List HdT → WX
  | [] => Wo
  | h :: r => fun cls d σ G => ∃ b, PySem.W.exmOne K cls h.c = some b ∧ (b = true → ∀ a, G a = none → h.ts a cls d (endN h.i D) (putN h.i (some (.ref a)) σ) G) ∧ (b = false → wAll K Wo D r cls d σ G)
inductive HdA (X : Cx) : List ExceptHandler → List HdT → Prop
  | nil : HdA X [] []
  | bare {x : Str} {c : Value} {ts : Addr → Value → Option Addr → TS} {s0 : Stmt} {su : List Stmt} {p1 p2 : Pos} {hs : List ExceptHandler} {l : List HdT} (hc : Names X x c)
      (hsu : ∀ (a : Addr) (oe : Obj) (cls : Value) (d : Option Addr) (pn : List (Addr × Obj)), Zc cls d oe → (∃ z, oe.data = .fields z) → PSs (X.suite a ((a, oe) :: pn)) (s0 :: su) (ts a cls d)) (r : HdA X hs l) : HdA X (.ExceptHandler (some (.Name x p1)) none (s0 :: su) p2 :: hs) (⟨c, none, ts⟩ :: l)
  | named {x n : Str} {i : Nat} {c : Value} {ts : Addr → Value → Option Addr → TS} {s0 : Stmt} {su : List Stmt} {p1 p2 : Pos} {hs : List ExceptHandler} {l : List HdT} (hc : Names X x c) (hN : X.N.Nodup) (hi : X.N[i]? = some n) (hl : X.env.kindOf n = some .local)
      (hsu : ∀ (a : Addr) (oe : Obj) (cls : Value) (d : Option Addr) (pn : List (Addr × Obj)), Zc cls d oe → (∃ z, oe.data = .fields z) → PSs (X.suite a ((a, oe) :: pn)) (s0 :: su) (ts a cls d)) (r : HdA X hs l) : HdA X (.ExceptHandler (some (.Name x p1)) (some n) (s0 :: su) p2 :: hs) (⟨c, some i, ts⟩ :: l)
section
variable {X : Cx} {body : List Stmt} {h1 : ExceptHandler} {hs : List ExceptHandler} {l : List HdT} {pos : Pos} {tb : WX → TS} {Wo : WX}
theorem ps_tryA (es : X.stack = X.env :: X.outer) (ef : X.env.frame = some X.env.locals) (tk : Takes X Wo)
    (hb : ∀ (W : WX) (pn : List (Addr × Obj)) (xe : Value → Shared → Prop), Takes (X.tr pn xe) W → PassesOwn (model X.prog X.w) X.A X.env xe → PSs (X.tr pn xe) body (tb W))
    (hh : HdA X (h1 :: hs) l) : PS X (.Try body (h1 :: hs) [] [] pos) (fun D σ G => tb (wAll X.K Wo D l) D σ G) := by
  refine ⟨fun pins s0 σ0 G0 D I0 goal => ?_⟩
  have okX := I0.ok
  have frX : X.A.frames = some (X.env :: X.outer) := es ▸ okX.frames
  refine wpAny_Try_except ?_
  have run := hb (wAll X.K Wo D l) (X.pn ++ pins) (fun e z1 => wpAny (model X.prog X.w) X.A (noteFrame e X.env) (fun _ z2 => wpAny (model X.prog X.w) X.A (setFlight e none) (fun _ z3 => wpAny (model X.prog X.w) X.A (handleBy e X.env (h1 :: hs)) (SP X pins D) X.xe z3) X.xe z2) X.xe z1) (fun u zs fly => ?_) PassesOwn.looking
  · refine wpAny_mono (run.run [] s0 σ0 G0 D (I0.toTry _) goal) (fun fl zs res => ?_) (fun e zs z => z)
    cases fl with
    | next =>
      obtain ⟨τ, G, J, fin⟩ := res
      exact wpAny_execs_nil ⟨τ, G, J.ofTry okX, fin⟩
    | brk =>
      obtain ⟨τ, G, J, fin⟩ := res
      exact ⟨τ, G, J.ofTry okX, fin⟩
    | cont =>
      obtain ⟨τ, G, J, fin⟩ := res
      exact ⟨τ, G, J.ofTry okX, fin⟩
    | ret u =>
      obtain ⟨v, τ, G, J, rv, fin⟩ := res
      exact ⟨v, τ, G, J.ofTry okX, rv, fin⟩
  · obtain ⟨a, B, sI, pz, τ, G, cls, d, rfl, JT, nb, up, sky, na, os, ag, wish⟩ := fly
    have J : Inv X pins τ G sI := JT.ofTry okX
    rw [es] at sky
    show wpAny (model X.prog X.w) X.A (noteFrame (.ref a) X.env) _ _ _
    refine Sky.land Zc.steady frX ef sky fun g3 fl3 up3 => ?_
    have J3 : Inv X pins τ G { zs with heap := g3 } := J.landed nb fl3.1 (up.trans up3) os ag
    obtain ⟨o3, fs3, eo3, zo3, ed3⟩ := fl3.there
    have apart : a ∉ frs (X.env :: X.outer) := fun mem => by
      obtain ⟨_, o', e', no⟩ := fl3.2.2.1.mem mem
      rw [eo3] at e'
      cases e'
      exact no _ ed3
    have aL : a ≠ X.env.locals := fun z => apart (List.mem_filterMap.mpr ⟨X.env, List.mem_cons_self, by rw [ef, z]⟩)
    have aF : a ∉ X.fs := fun mem => by
      obtain ⟨ev, me, q⟩ := List.mem_filterMap.mp mem
      exact apart (List.mem_filterMap.mpr ⟨ev, List.mem_cons_of_mem _ me, q⟩)
    have S3 := J3.suite eo3 ed3 na aL aF
    have LT : PySem.W.Looks (model X.prog X.w) g3 (typeOf (.ref a)) cls := fun A Q E z k q => wpAny_typeOf_ref (k _ _ eo3) (by rw [zo3.1]; exact q)
    have test : ∀ {x : Str} {c : Value} {p1 : Pos}, Names X x c → ∀ {Q : Value → Shared → Prop} {E : Value → Shared → Prop}, Q c { zs with heap := g3 } → wpAny (model X.prog X.w) (X.A.mark (some (.ref a))) (eval (.Name x p1) X.env) Q E { zs with heap := g3 } := fun {x c p1} hc {Q E} q => by
      obtain ⟨gl, db, hm | ⟨hm, bv, nn⟩⟩ := hc
      · exact ld_glob (X := X.suite a ((a, o3) :: (X.pn ++ pins))) S3 gl hm q db
      · exact ld_blt (X := X.suite a ((a, o3) :: (X.pn ++ pins))) S3 gl hm bv q nn db
    have all : ∀ {ks : List ExceptHandler} {m : List HdT}, HdA X ks m → wAll X.K Wo D m cls d τ G → wpAny (model X.prog X.w) X.A (handleBy (.ref a) X.env ks) (SP X pins D) X.xe { zs with heap := g3 } := by
      intro ks m hk
      induction hk with
      | nil =>
        intro wish
        refine wpAny_handleBy_nil ?_
        obtain ⟨_, _, _, o5, fs5, T5, _, _, e5, _, d5, f5, _⟩ := id fl3
        unfold PySem.passOn
        refine wpAny_bind (wpAny_field e5 d5 f5 ?_)
        rw [if_neg (show ¬ ((Value.ref T5 == Value.none) = true) from by simp)]
        have fin : wpAny (model X.prog X.w) X.A (setFlight (.ref a) X.env.frame) (fun _ z4 => wpAny (model X.prog X.w) X.A (throw (.ref a) : Sem Flow) (SP X pins D) X.xe z4) X.xe { zs with heap := g3 } := by
          rw [ef]
          refine HandSPX.setFlight_upZ fl3 fun g4 fl4 up4 => wpAny_throw (tk _ _ ?_)
          exact ⟨a, B, sI, pins, τ, G, cls, d, rfl, J, nb, (up.trans up3).trans up4, .inr (.inr (by rw [es]; exact fl4)), na, os, ag, wish⟩
        first
          | exact wpAny_bind (wpAny_pure (wpAny_bind fin))
          | exact wpAny_bind fin
      | @bare x c ts st0 su p1 p2 ks2 m2 hc hsu r ih =>
        intro wish
        obtain ⟨b, eb, yes, no⟩ := wish
        refine wpAny_handleBy_cons (codeAny_handlers_test ?_) (by intro z; cases z)
        refine test hc ((PySem.W.exm_one (M := model X.prog X.w) (J3.kIn) LT eb).here ?_)
        cases b with
        | true =>
          refine codeAny_handlers_suite ?_
          refine HandSPX.lands_againZ fl3 fun g4 fl4 up4 => ?_
          have J4 : Inv X pins τ G { zs with heap := g4 } := J.landed nb fl4.1 ((up.trans up3).trans up4) os ag
          obtain ⟨o4, fs4, eo4, zo4, ed4⟩ := fl4.there
          have S4 := J4.suite eo4 ed4 na aL aF
          refine wpAny_mono ((hsu a o4 cls d (X.pn ++ pins) zo4 ⟨_, ed4⟩).run [] _ _ G _ S4 (yes rfl a na)) (fun fl z6 res => ?_) (fun _ _ z => z.elim)
          cases fl with
          | next =>
            obtain ⟨τ6, G6, S6, fin⟩ := res
            exact ⟨_, _, S6.unsuite okX, fin⟩
          | brk =>
            obtain ⟨τ6, G6, S6, fin⟩ := res
            exact ⟨_, _, S6.unsuite okX, fin⟩
          | cont =>
            obtain ⟨τ6, G6, S6, fin⟩ := res
            exact ⟨_, _, S6.unsuite okX, fin⟩
          | ret u =>
            obtain ⟨v6, τ6, G6, S6, rv, fin⟩ := res
            exact ⟨_, _, _, S6.unsuite okX, rv, fin⟩
        | false => exact ih (no rfl)
      | @named x n i c ts st0 su p1 p2 ks2 m2 hc hN hi hl hsu r ih =>
        intro wish
        obtain ⟨b, eb, yes, no⟩ := wish
        refine wpAny_handleBy_cons (codeAny_handlers_test ?_) (by intro z; cases z)
        refine test hc ((PySem.W.exm_one (M := model X.prog X.w) (J3.kIn) LT eb).here ?_)
        cases b with
        | true =>
          refine codeAny_handlers_suite_as ?_
          refine HandSPX.lands_againZ fl3 fun g4 fl4 up4 => ?_
          have J4 : Inv X pins τ G { zs with heap := g4 } := J.landed nb fl4.1 ((up.trans up3).trans up4) os ag
          obtain ⟨o4, fs4, eo4, zo4, ed4⟩ := fl4.there
          have S4 := J4.suite eo4 ed4 na aL aF
          refine store_ok (X := X.suite a ((a, o4) :: (X.pn ++ pins))) (v := .ref a) S4 hN hi (show Loc X.env.scope n from .inl hl) rfl (fun z5 S5 => ?_) (.inr hl)
          refine wpAny_mono ((hsu a o4 cls d (X.pn ++ pins) zo4 ⟨_, ed4⟩).run [] z5 _ G _ S5 (yes rfl a na)) (fun fl z6 res => ?_) (fun _ _ z => z.elim)
          have over : ∀ {τ6 : L2.St} {G6 : Hp} {Q : Shared → Prop}, Inv (X.suite a ((a, o4) :: (X.pn ++ pins))) [] τ6 G6 z6 → (∀ z7, Inv X pins (τ6.set i none) G6 z7 → Q z7) →
              wpAny (model X.prog X.w) X.A (do bindName X.env n .none; unbindBehindTheSuite X.env n p2) (fun _ z7 => Q z7) X.xe z6 := fun {τ6 G6 Q} S6 hq => gone_ok (S6.unsuite okX) hN hi hl hq
          cases fl with
          | next =>
            obtain ⟨τ6, G6, S6, fin⟩ := res
            exact over S6 fun z7 J7 => ⟨_, _, J7, fin⟩
          | brk =>
            obtain ⟨τ6, G6, S6, fin⟩ := res
            exact over S6 fun z7 J7 => ⟨_, _, J7, fin⟩
          | cont =>
            obtain ⟨τ6, G6, S6, fin⟩ := res
            exact over S6 fun z7 J7 => ⟨_, _, J7, fin⟩
          | ret u =>
            obtain ⟨v6, τ6, G6, S6, rv, fin⟩ := res
            exact over S6 fun z7 J7 => ⟨_, _, _, J7, rv, fin⟩
        | false => exact ih (no rfl)
    exact all hh wish
end
end Py

set_option Elab.async false
set_option linter.all false
set_option maxRecDepth 100000
set_option maxHeartbeats 2000000
namespace Py
open PySem L2
abbrev HdM : Type := (Nat → Option Bool) × Option Nat × (D → Env → Out)
/-- behind a suite without a name: nothing may be raised there -/
def behindB : Out → Out
  | .exc _ _ => .stuck
  | r => r
def tryH : List HdM → Nat → List Str → List D → Env → Out
  | [], c, ns, l, ρ => .exc (.ins c ns l) ρ
  | (isa, io, mh) :: r, c, ns, l, ρ => match isa c with
    | some true => (match io with
      | some i => if i < ρ.length then behind i (mh (.ins c ns l) (ρ.set i none)) else .stuck
      | none => behindB (mh (.ins c ns l) ρ))
    | some false => tryH r c ns l ρ
    | none => .stuck
def sTryA (hs : List HdM) (mb : Env → Out) : Env → Out := fun ρ => match mb ρ with
  | .exc e ρ1 => (match e with
    | .ins c ns l => tryH hs c ns l ρ1
    | _ => .stuck)
  | r => r
section
variable {Γ : Gm} {fr : Frm} {σ : L2.St} {ρ : Env} {G G' : Hp} {S S' : Addr → Prop}
inductive HdV (Γ : Gm) (fr : Frm) : List HdT → List HdM → Prop
  | nil : HdV Γ fr [] []
  | bare {C : Value} {ts : Addr → Value → Option Addr → TS} {isa : Nat → Option Bool} {mh : Env → Out} {l : List HdT} {m : List HdM} (hs : ∀ a cls dx, SV Γ (frW fr fun _ _ _ _ => False) (ts a cls dx) mh) (hx : ∀ c b, isa c = some b → PySem.W.exmOne Γ.K (.ref (Γ.cl c)) C = some b) (r : HdV Γ fr l m) :
      HdV Γ fr (⟨C, none, ts⟩ :: l) ((isa, none, fun _ => mh) :: m)
  | named {C : Value} {i : Nat} {ts : Addr → Value → Option Addr → TS} {isa : Nat → Option Bool} {mh : D → Env → Out} {l : List HdT} {m : List HdM} (hs : ∀ q : XS, q.i = i → SV Γ (frS fr q) (ts q.a q.cls q.dx) (mh q.e)) (hx : ∀ c b, isa c = some b → PySem.W.exmOne Γ.K (.ref (Γ.cl c)) C = some b)
      (hi : fr.notOwn i = true) (hz : fr.hd = false ∨ i ≠ 0) (r : HdV Γ fr l m) : HdV Γ fr (⟨C, some i, ts⟩ :: l) ((isa, some i, mh) :: m)
theorem Co.enter {i : Nat} {a : Addr} {cls : Value} {dx : Option Addr} {e : D} (c : Co Γ fr σ ρ G S) (hi : i ∉ fr.ow) (hz : fr.hd = false ∨ i ≠ 0) (hl : i < ρ.length) (hX : IsX Γ (hide S G) cls dx e) : Co Γ (frS fr ⟨i, a, cls, dx, e⟩) (σ.set i (some (.ref a))) (ρ.set i none) G S where
  len := by rw [Rn, Rn]; exact c.len
  dom := c.dom
  sub := c.sub
  keep := c.keep
  hs0 := c.hs0
  xsl := fun q h => by
    cases h
    exact ⟨List.getElem?_set_self (by rw [c.len]; exact hl), hX⟩
  pin := fun e => by
    rcases hz with hz | hz
    · have e' : fr.hd = true := e
      rw [hz] at e'; cases e'
    · rw [List.getElem?_set_ne hz]; exact c.pin e
  sh := fun j d' h1 h2 => by
    rcases set_get h2 with ⟨_, _, e⟩ | ⟨hne, e⟩
    · cases e
    · rw [List.getElem?_set_ne (Ne.symm hne)]
      exact c.sh j d' h1 e
  own := fun j d' h1 h2 => by
    rcases set_get h2 with ⟨_, _, e⟩ | ⟨hne, e⟩
    · cases e
    · rw [List.getElem?_set_ne (Ne.symm hne)]
      exact c.own j d' h1 e
  inj := fun j k d' e p h1 h2 h3 h4 h5 h6 h7 => by
    rcases set_get h4 with ⟨_, _, z⟩ | ⟨n1, e1⟩
    · cases z
    · rcases set_get h5 with ⟨_, _, z⟩ | ⟨n2, e2⟩
      · cases z
      · rw [List.getElem?_set_ne (Ne.symm n1)] at h6
        rw [List.getElem?_set_ne (Ne.symm n2)] at h7
        exact c.inj j k d' e p h1 h2 h3 e1 e2 h6 h7
theorem wAll_of {Wo : WX} {E : Ends} (hW : fr.W = Wo) (hxs : fr.xs = none) : ∀ {hs : List HdT} {ms : List HdM}, HdV Γ fr hs ms → ∀ {c : Nat} {ns : List Str} {l : List D} {dx : Option Addr}, Co Γ fr σ ρ G S → IsX Γ (hide S G) (.ref (Γ.cl c)) dx (.ins c ns l) →
    PostS Γ fr G S E (tryH ms c ns l ρ) → wAll Γ.K Wo E hs (.ref (Γ.cl c)) dx σ G := by
  intro hs ms hv
  induction hv with
  | nil =>
    intro c ns l dx co hX p
    have p2 : ∀ cls dx σ' G' S', Same (hide S G) (hide S' G') → Co Γ fr σ' ρ G' S' → IsX Γ (hide S' G') cls dx (.ins c ns l) → fr.W cls dx σ' G' := p
    rw [← hW]
    exact p2 _ dx σ G S (Same.refl _) co hX
  | @bare C ts isa mh l0 m hs hx r ih =>
    intro c ns l dx co hX p
    cases hisa : isa c with
    | none => unfold tryH at p; rw [hisa] at p; exact p.elim
    | some b =>
      refine ⟨b, hx c b hisa, fun hb a ha => ?_, fun hb => ?_⟩
      · subst hb
        have p2 : PostS Γ fr G S E (behindB (mh ρ)) := by unfold tryH at p; rw [hisa] at p; exact p
        refine hs a _ dx σ ρ G S co.toW E ?_
        generalize mh ρ = o at p2 ⊢
        cases o with
        | nx ρ2 => exact fun σ' G' S' e c' => p2 σ' G' S' e c'.ofW
        | ret d ρ2 => exact fun v σ' G' S' e c' => p2 v σ' G' S' e c'.ofW
        | brk ρ2 => exact fun σ' G' S' e c' => p2 σ' G' S' e c'.ofW
        | ct ρ2 => exact fun σ' G' S' e c' => p2 σ' G' S' e c'.ofW
        | exc _ _ => exact p2.elim
        | stuck => exact p2.elim
      · subst hb
        exact ih co hX (by unfold tryH at p; rw [hisa] at p; exact p)
  | @named C i ts isa mh l0 m hs hx hi hz r ih =>
    intro c ns l dx co hX p
    cases hisa : isa c with
    | none => unfold tryH at p; rw [hisa] at p; exact p.elim
    | some b =>
      refine ⟨b, hx c b hisa, fun hb a ha => ?_, fun hb => ?_⟩
      · subst hb
        have p2 : PostS Γ fr G S E (if i < ρ.length then behind i (mh (.ins c ns l) (ρ.set i none)) else .stuck) := by unfold tryH at p; rw [hisa] at p; exact p
        by_cases hl : i < ρ.length
        · rw [if_pos hl] at p2
          refine hs ⟨i, a, .ref (Γ.cl c), dx, .ins c ns l⟩ rfl _ _ G S (co.enter (nown hi) hz hl hX) _ ?_
          show PostS Γ _ G S _ (mh (.ins c ns l) (ρ.set i none))
          generalize mh (.ins c ns l) (ρ.set i none) = o at p2 ⊢
          cases o with
          | nx ρ2 => exact fun σ' G' S' e c' => p2 _ G' S' e (c'.gone hxs (nown hi) hz)
          | ret d ρ2 => exact fun v σ' G' S' e c' => p2 v _ G' S' e (c'.gone hxs (nown hi) hz)
          | brk ρ2 => exact fun σ' G' S' e c' => p2 _ G' S' e (c'.gone hxs (nown hi) hz)
          | ct ρ2 => exact fun σ' G' S' e c' => p2 _ G' S' e (c'.gone hxs (nown hi) hz)
          | exc _ _ => exact p2.elim
          | stuck => exact p2.elim
        · rw [if_neg hl] at p2
          exact p2.elim
      · subst hb
        exact ih co hX (by unfold tryH at p; rw [hisa] at p; exact p)
theorem sv_tryA {tb : WX → TS} {mb : Env → Out} {Wo : WX} {hs : List HdT} {ms : List HdM} (hW : fr.W = Wo) (hb : ∀ W, SV Γ (frW fr W) (tb W) mb) (hv : HdV Γ fr hs ms) (hxs : fr.xs = none := by rfl) : SV Γ fr (fun E σ H => tb (wAll Γ.K Wo E hs) E σ H) (sTryA ms mb) := fun σ ρ G S c E p => by
  refine hb _ σ ρ G S c.toW E ?_
  unfold sTryA at p
  generalize mb ρ = r at p ⊢
  cases r with
  | nx ρ1 => exact fun σ' G' S' e c' => p σ' G' S' e c'.ofW
  | ret d ρ1 => exact fun v σ' G' S' e c' => p v σ' G' S' e c'.ofW
  | brk ρ1 => exact fun σ' G' S' e c' => p σ' G' S' e c'.ofW
  | ct ρ1 => exact fun σ' G' S' e c' => p σ' G' S' e c'.ofW
  | stuck => exact p
  | exc e ρ1 =>
    intro cls dx σ1 G1 S1 e1 c1 hX
    cases e with
    | ins k ns l =>
      have ecls : cls = .ref (Γ.cl k) := by
        obtain ⟨k', ns', l', h1, h2, _⟩ := hX
        cases h1
        exact h2
      subst ecls
      exact wAll_of hW hxs hv c1.ofW hX (PostS.mono e1 p)
    | _ => exact p.elim
end
end Py

set_option Elab.async false
set_option linter.all false
set_option maxRecDepth 100000
set_option maxHeartbeats 2000000
namespace Py
open PySem L2 He
/-! ## 19. Errors of classes without an __init__ of their own -/
/-- such a class -/
def ExcP (K : PySem.W.Frag) (mg : Str → Option Value) (x : Str) (C : Addr) : Prop := PySem.W.excIn K C veBase "ValueError.__new__" = true ∧ mg x = some (.ref C) ∧ PySem.W.keepIn K (.ref C) = true ∧ PySem.W.subIn K (.ref C) (.type "BaseException") = some true ∧ PySem.W.typeIn K (.ref C) = some (.type "type")
theorem pla_at {K : PySem.W.Frag} {mg : Str → Option Value} {x : Str} (hm : mg x = some (.ref (ga K x))) (c : fPla x K = true) : ExcP K mg x (ga K x) := by
  obtain ⟨h1, c⟩ := ba c
  obtain ⟨h2, c⟩ := ba c
  obtain ⟨h3, h4⟩ := ba c
  exact ⟨h1, hm, h2, of_decide_eq_true h3, of_decide_eq_true h4⟩
theorem pmk_pla {X : Cx} {x : Str} {C : Addr} {p pos : Pos} (F : ExcP X.K X.mg x C) (hg : Gl X x) (hdb : (x == ("__debug__" : Str)) = false := by decide) : PMk X (.Call (.Name x p) [] [] pos) (fun _ H Q => Q (.ref C) none H) := by
  obtain ⟨q, hm, kC, sC, tC⟩ := F
  intro pins s σ H Q I h
  refine wpAny_Call_Name_kw (ld_glob I hg hm ?_ hdb)
  refine PySem.W.callWith_K0 I.kIn kC ?_
  obtain ⟨bm, N, nm, qn, bs, hdct, sn, sub, ab, col, dd, k0, k1, k2, k3, k5, mN, hC, hN, hni, T⟩ := exc_obj I.kIn q
  refine wpAny_call_exc_subT PySem.F.excBase_ValueError T hC hN hni (fun h' e made => ?_) (by show 0 ≤ sizeLine; omega)
  exact mk_of I made (raises_own sC tC) h (I.hok.gone made.new)
theorem ps_raiseP {X : Cx} {W : WX} {x : Str} {C : Addr} {p pos pos2 : Pos} (hc : X.calm = true) (F : ExcP X.K X.mg x C) (tk : Takes X W) (hg : Gl X x := by rfl) (hdb : (x == ("__debug__" : Str)) = false := by decide) : PS X (.Raise (some (.Call (.Name x p) [] [] pos)) none pos2) (fun _ σ H => W (.ref C) none σ H) :=
  ps_raise hc tk (pmk_pla F hg hdb)
def sRaise0 (c : Nat) : Env → Out := fun ρ => .exc (.ins c [] []) ρ
theorem sv_raise0 {Γ : Gm} {fr : Frm} {c : Nat} {W : WX} (hW : fr.W = W) : SV Γ fr (fun _ σ H => W (.ref (Γ.cl c)) none σ H) (sRaise0 c) := fun σ ρ G S co E p => by
  rw [← hW]
  exact p (.ref (Γ.cl c)) none σ G S (Same.refl _) co ⟨c, [], [], rfl, rfl, .inl ⟨rfl, rfl, rfl⟩⟩
end Py

set_option Elab.async false
set_option linter.all false
set_option maxRecDepth 100000
set_option maxHeartbeats 2000000
namespace Py
open PySem L2
/-! ## 20. sum, all, any, max, min of a list -/
def intsD : List D → Option (List Int)
  | [] => some []
  | .int i :: r => (intsD r).map (i :: ·)
  | _ :: _ => none
def boolsD : List D → Option (List Bool)
  | [] => some []
  | .bl b :: r => (boolsD r).map (b :: ·)
  | _ :: _ => none
theorem intsD_eq : ∀ {l : List D} {ns : List Int}, intsD l = some ns → l = ns.map D.int
  | [], ns, h => by cases h; rfl
  | .int i :: r, ns, h => by
    have h : (intsD r).map (i :: ·) = some ns := h
    obtain ⟨m, hm, rfl⟩ := Option.map_eq_some_iff.mp h
    rw [intsD_eq hm]; rfl
  | .non :: _, _, h => by cases h
  | .bl _ :: _, _, h => by cases h
  | .str _ :: _, _, h => by cases h
  | .tup _ :: _, _, h => by cases h
  | .lst _ :: _, _, h => by cases h
  | .scr _ :: _, _, h => by cases h
  | .ins _ _ _ :: _, _, h => by cases h
  | .dic _ _ :: _, _, h => by cases h
  | .shd _ :: _, _, h => by cases h
  | .exv _ _ _ :: _, _, h => by cases h
theorem boolsD_eq : ∀ {l : List D} {bs : List Bool}, boolsD l = some bs → l = bs.map D.bl
  | [], ns, h => by cases h; rfl
  | .bl i :: r, ns, h => by
    have h : (boolsD r).map (i :: ·) = some ns := h
    obtain ⟨m, hm, rfl⟩ := Option.map_eq_some_iff.mp h
    rw [boolsD_eq hm]; rfl
  | .non :: _, _, h => by cases h
  | .int _ :: _, _, h => by cases h
  | .str _ :: _, _, h => by cases h
  | .tup _ :: _, _, h => by cases h
  | .lst _ :: _, _, h => by cases h
  | .scr _ :: _, _, h => by cases h
  | .ins _ _ _ :: _, _, h => by cases h
  | .dic _ _ :: _, _, h => by cases h
  | .shd _ :: _, _, h => by cases h
  | .exv _ _ _ :: _, _, h => by cases h
theorem IsDs.bools {Γ : Gm} {H : Hp} : ∀ {bs : List Bool} {vs : List V}, IsDs Γ H vs (bs.map D.bl) → vs = bs.map V.bl
  | [], _, h => by cases h; rfl
  | b :: bs, _, h => by
    cases h with
    | cons h1 h2 =>
      cases h1
      rw [IsDs.bools h2]; rfl
def dSum : List D → Option D
  | [.lst l] => (intsD l).map fun ns => .int ns.sum
  | _ => none
def dAll : List D → Option D
  | [.lst l] => (boolsD l).map fun bs => .bl (bs.all id)
  | _ => none
def dAny : List D → Option D
  | [.lst l] => (boolsD l).map fun bs => .bl (bs.any id)
  | _ => none
def maxL : List Int → Int
  | [] => 0
  | [n] => n
  | n :: m :: r => if n < maxL (m :: r) then maxL (m :: r) else n
def minL : List Int → Int
  | [] => 0
  | [n] => n
  | n :: m :: r => if minL (m :: r) < n then minL (m :: r) else n
def dMaxL : List D → Option D
  | [.lst l] => if l.isEmpty then none else (intsD l).map fun ns => .int (maxL ns)
  | _ => none
def dMinL : List D → Option D
  | [.lst l] => if l.isEmpty then none else (intsD l).map fun ns => .int (minL ns)
  | _ => none
theorem maxL_ge : ∀ {ns : List Int} {y : Int}, y ∈ ns → y ≤ maxL ns
  | [n], y, h => by rw [List.mem_singleton.mp h]; exact Int.le_refl _
  | n :: m :: r, y, h => by
    unfold maxL
    rcases List.mem_cons.mp h with rfl | h
    · split <;> omega
    · have := maxL_ge h
      split <;> omega
theorem minL_le : ∀ {ns : List Int} {y : Int}, y ∈ ns → minL ns ≤ y
  | [n], y, h => by rw [List.mem_singleton.mp h]; exact Int.le_refl _
  | n :: m :: r, y, h => by
    unfold minL
    rcases List.mem_cons.mp h with rfl | h
    · split <;> omega
    · have := minL_le h
      split <;> omega
theorem maxL_mem : ∀ {ns : List Int}, ns ≠ [] → maxL ns ∈ ns
  | [], h => absurd rfl h
  | [n], _ => List.mem_singleton.mpr rfl
  | n :: m :: r, _ => by
    unfold maxL
    have := maxL_mem (ns := m :: r) (by simp)
    split
    · exact List.mem_cons_of_mem _ this
    · exact List.mem_cons_self
theorem minL_mem : ∀ {ns : List Int}, ns ≠ [] → minL ns ∈ ns
  | [], h => absurd rfl h
  | [n], _ => List.mem_singleton.mpr rfl
  | n :: m :: r, _ => by
    unfold minL
    have := minL_mem (ns := m :: r) (by simp)
    split
    · exact List.mem_cons_of_mem _ this
    · exact List.mem_cons_self
section
variable {Γ : Gm}
theorem lst1 {H : Hp} {xs : List V} {l : List D} (h : IsDs Γ H xs [.lst l]) {G : Hp} (le : Same H G) : ∃ p ys, xs = [.ref p] ∧ SqL Γ.K G p ys ∧ IsDs Γ H ys l := by
  cases h with
  | cons r t =>
    cases t
    cases r with
    | lst h1 h2 => exact ⟨_, _, rfl, SqL.of (le _ _ h1), h2⟩
theorem one_lst {f : List D → Option D} {xs : List D} {d : D} (k : ∀ ds e, (∀ l, ds ≠ [.lst l]) → f ds = some e → False) (h : f xs = some d) : ∃ l, xs = [.lst l] := by
  by_cases h2 : ∃ l, xs = [.lst l]
  · exact h2
  · exact (k xs d (fun l z => h2 ⟨l, z⟩) h).elim
theorem cad_sum : CaD Γ (rSum Γ.K) dSum := fun G S xs ds dz dom hx e Q q => by
  obtain ⟨l, rfl⟩ := one_lst (f := dSum) (fun ds e k z => by unfold dSum at z; split at z <;> first | exact k _ rfl | cases z) e
  obtain ⟨ns, hn, rfl⟩ := Option.map_eq_some_iff.mp (show (intsD l).map (fun ns => D.int ns.sum) = some dz from e)
  obtain ⟨p, ys, rfl, hs, hd⟩ := lst1 hx hide_le
  rw [intsD_eq hn] at hd
  rw [hd.ints] at hs
  exact ⟨p, ns, rfl, hs, q _ G (Same.refl _) (.int _)⟩
theorem cad_all : CaD Γ (rAll Γ.K) dAll := fun G S xs ds dz dom hx e Q q => by
  obtain ⟨l, rfl⟩ := one_lst (f := dAll) (fun ds e k z => by unfold dAll at z; split at z <;> first | exact k _ rfl | cases z) e
  obtain ⟨bs, hn, rfl⟩ := Option.map_eq_some_iff.mp (show (boolsD l).map (fun bs => D.bl (bs.all id)) = some dz from e)
  obtain ⟨p, ys, rfl, hs, hd⟩ := lst1 hx hide_le
  rw [boolsD_eq hn] at hd
  rw [hd.bools] at hs
  exact ⟨p, bs, rfl, hs, q _ G (Same.refl _) (.bl _)⟩
theorem cad_any : CaD Γ (rAny Γ.K) dAny := fun G S xs ds dz dom hx e Q q => by
  obtain ⟨l, rfl⟩ := one_lst (f := dAny) (fun ds e k z => by unfold dAny at z; split at z <;> first | exact k _ rfl | cases z) e
  obtain ⟨bs, hn, rfl⟩ := Option.map_eq_some_iff.mp (show (boolsD l).map (fun bs => D.bl (bs.any id)) = some dz from e)
  obtain ⟨p, ys, rfl, hs, hd⟩ := lst1 hx hide_le
  rw [boolsD_eq hn] at hd
  rw [hd.bools] at hs
  exact ⟨p, bs, rfl, hs, q _ G (Same.refl _) (.bl _)⟩
theorem cad_maxL : CaD Γ (rMax Γ.K) dMaxL := fun G S xs ds dz dom hx e Q q => by
  obtain ⟨l, rfl⟩ := one_lst (f := dMaxL) (fun ds e k z => by unfold dMaxL at z; split at z <;> first | exact k _ rfl | cases z) e
  have e2 : (if l.isEmpty then none else (intsD l).map fun ns => D.int (maxL ns)) = some dz := e
  by_cases he : l.isEmpty = true
  · rw [if_pos he] at e2; cases e2
  · rw [if_neg he] at e2
    obtain ⟨ns, hn, rfl⟩ := Option.map_eq_some_iff.mp e2
    obtain ⟨p, ys, rfl, hs, hd⟩ := lst1 hx hide_le
    have el := intsD_eq hn
    rw [el] at hd
    rw [hd.ints] at hs
    have hne : ns ≠ [] := fun z => he (by rw [el, z]; rfl)
    refine ⟨p, ns, rfl, hs, List.length_pos_iff.mpr hne, fun m hm hy => ?_⟩
    have em : m = maxL ns := Int.le_antisymm (maxL_ge hm) (hy _ (maxL_mem hne))
    rw [em]
    exact q _ G (Same.refl _) (.int _)
theorem cad_minL : CaD Γ (rMin Γ.K) dMinL := fun G S xs ds dz dom hx e Q q => by
  obtain ⟨l, rfl⟩ := one_lst (f := dMinL) (fun ds e k z => by unfold dMinL at z; split at z <;> first | exact k _ rfl | cases z) e
  have e2 : (if l.isEmpty then none else (intsD l).map fun ns => D.int (minL ns)) = some dz := e
  by_cases he : l.isEmpty = true
  · rw [if_pos he] at e2; cases e2
  · rw [if_neg he] at e2
    obtain ⟨ns, hn, rfl⟩ := Option.map_eq_some_iff.mp e2
    obtain ⟨p, ys, rfl, hs, hd⟩ := lst1 hx hide_le
    have el := intsD_eq hn
    rw [el] at hd
    rw [hd.ints] at hs
    have hne : ns ≠ [] := fun z => he (by rw [el, z]; rfl)
    refine ⟨p, ns, rfl, hs, List.length_pos_iff.mpr hne, fun m hm hy => ?_⟩
    have em : m = minL ns := Int.le_antisymm (hy _ (minL_mem hne)) (minL_le hm)
    rw [em]
    exact q _ G (Same.refl _) (.int _)
end
theorem bt_sum : bootBuiltins "sum" = some (.builtin "sum") := by decide +kernel
theorem bt_all : bootBuiltins "all" = some (.builtin "all") := by decide +kernel
theorem bt_any : bootBuiltins "any" = some (.builtin "any") := by decide +kernel
theorem bt_max : bootBuiltins "max" = some (.builtin "max") := by decide +kernel
theorem bt_min : bootBuiltins "min" = some (.builtin "min") := by decide +kernel
theorem bt_sorted : bootBuiltins "sorted" = some (.builtin "sorted") := by decide +kernel
end Py

set_option Elab.async false
set_option linter.all false
set_option maxRecDepth 100000
set_option maxHeartbeats 2000000
namespace Py
open PySem L2 He
open PySem.Sem (wp)
/-! zip of two of any two kinds, true: a tuple, false: a list -/
def sqS : Bool → Heap → Addr → Array Value → Prop
  | true, g, a, its => g.IsTuple a its
  | false, g, a, its => g.IsList a its
def itS : Bool → Heap → Addr → Addr → Nat → Prop
  | true, g, t, a, i => g.IsTupleIter t a i
  | false, g, t, a, i => g.IsListIter t a i
def SqS (b : Bool) (K : PySem.W.Frag) (H : Hp) (a : Addr) (xs : List V) : Prop := match b with
  | true => SqT K H a xs
  | false => SqL K H a xs
section
variable {prog : Program} {w : World} {A : Around} {E : Value → Shared → Prop} {s : Shared} {b b1 b2 : Bool}
theorem itS_at {g g' : Heap} {t a : Addr} {i : Nat} (h : itS b g t a i) (k : ∀ o, g.get? t = some o → g'.get? t = some o) : itS b g' t a i := by
  cases b
  · exact Heap.IsListIter.at h k
  · exact Heap.IsTupleIter.at h k
theorem itS_but {c : Addr} {g g' : Heap} {t a : Addr} {i : Nat} (h : itS b g t a i) (k : Heap.ExtBut c g g') (n : t ≠ c) : itS b g' t a i := itS_at h fun o e => k _ _ n e
theorem sqS_at {g g' : Heap} {a : Addr} {its : Array Value} (h : sqS b g a its) (k : ∀ o, g.get? a = some o → g'.get? a = some o) : sqS b g' a its := by
  cases b
  · exact Heap.IsList.at h k
  · obtain ⟨o, e, r⟩ := (show g.IsTuple a its from h)
    exact ⟨o, k o e, r⟩
theorem sqS_but {c : Addr} {g g' : Heap} {a : Addr} {its : Array Value} (h : sqS b g a its) (k : Heap.ExtBut c g g') (n : a ≠ c) : sqS b g' a its := sqS_at h fun o e => k _ _ n e
theorem itS_obj {g : Heap} {t a : Addr} {i : Nat} (h : itS b g t a i) : ∃ o fs, g.get? t = some o ∧ o.data = .fields fs := by
  cases b <;> exact (let ⟨o, e, _, d⟩ := h; ⟨o, _, e, d⟩)
theorem nxS_item {t a : Addr} {i : Nat} {its : Array Value} {x : Value} {Q : Value → Shared → Prop} (h : itS b s.heap t a i) (q : sqS b s.heap a its) (e : its[i]? = some x)
    (fin : ∀ g, itS b g t a (i + 1) → Heap.SameBut t s.heap g → Q x { s with heap := g }) : wpAny (model prog w) A (Builtin.SmallTypes.nextOf (.ref t)) Q E s := by
  cases b
  · exact wpAny_nextOf_list_item h q e fin
  · exact RZ.nextOf_tuple_item h q e fin
theorem nxS_end {t a : Addr} {i : Nat} {its : Array Value} {Q : Value → Shared → Prop} (hh : A.handled = none) (h : itS b s.heap t a i) (q : sqS b s.heap a its) (e : its[i]? = none)
    (fin : ∀ g e, Heap.ExtBut t s.heap g → (∃ o, g.get? e = some o ∧ o.cls = .type "StopIteration") → E (.ref e) { s with heap := g }) : wpAny (model prog w) A (Builtin.SmallTypes.nextOf (.ref t)) Q E s := by
  cases b
  · exact wpAny_nextOf_list_end hh h q e fin
  · exact RZ.nextOf_tuple_end hh h q e fin
theorem zs_item {z TI TO j1 j2 m1 m2 : Addr} {n1 n2 : Nat} {us vs : Array Value} {u v c d : Value} {Q : Value → Shared → Prop} (D : ZipApart z TI TO j1 j2 m1 m2)
    (gz : IsZip s.heap z TI TO .none) (gI : IsPair s.heap TI (.ref j1) (.ref j2)) (gO : IsPair s.heap TO c d)
    (g1 : itS b1 s.heap j1 m1 n1) (g2 : itS b2 s.heap j2 m2 n2) (q1 : sqS b1 s.heap m1 us) (q2 : sqS b2 s.heap m2 vs) (gu : us[n1]? = some u) (gv : vs[n2]? = some v)
    (fin : ∀ g, IsZip g z TI TO (rawInt s.heap.objs.size) → IsPair g TO u v → itS b1 g j1 m1 (n1 + 1) → itS b2 g j2 m2 (n2 + 1) → IsPair g s.heap.objs.size u v → g.objs.size = s.heap.objs.size + 1 →
      (∀ c o, c ≠ z → c ≠ TO → c ≠ j1 → c ≠ j2 → s.heap.get? c = some o → g.get? c = some o) → Q (.ref s.heap.objs.size) { s with heap := g }) :
    wpAny (model prog w) A (Builtin.«zip.__next__» ⟨[.ref z], []⟩) (fun fin s' => ∃ v, fin = .done (.ret v) ∧ Q v s') E s := by
  show wpAny _ _ (field (.ref z) 2 >>= _) _ _ _; refine wpAny_bind (wpAny_field gz rfl (x := .bool false) rfl ?_)
  show wpAny _ _ (field (.ref z) 3 >>= _) _ _ _; refine wpAny_bind (wpAny_field gz rfl (x := .ref TI) rfl ?_); refine wpAny_bind (wpAny_seqItems gI rfl ?_)
  show wpAny _ _ (Builtin.SmallTypes.ownedTupleIsFree (.ref z) >>= _) _ _ _; refine wpAny_bind ?_; unfold Builtin.SmallTypes.ownedTupleIsFree
  refine wpAny_bind (wpAny_field gz rfl (x := .none) rfl (wpAny_pure ?_)); simp only [if_true]; refine wpAny_bind (wpAny_rule ?_)
  refine wpAny_bind (wpAny_field gz rfl (x := .ref TO) rfl ?_); refine wpAny_bind (wpAny_setField_rec gz (by simp) fun ha za ka => ?_)
  replace za : IsZip ha z TI TO .ellipsis := za
  refine wpAny_bind ?_; simp only [List.zipIdx_cons, List.zipIdx_nil, List.forIn_cons, List.forIn_nil]; refine wpAny_bind (wpAny_bind (wpAny_onRaise ?_))
  show wpAny _ _ (Builtin.SmallTypes.nextOf (.ref j1) >>= _) _ _ _; refine wpAny_bind (nxS_item (s := { s with heap := ha }) (itS_but g1 ka.extBut D.i1z) (sqS_but q1 ka.extBut D.l1z) gu fun hb tb kb => wpAny_pure ?_)
  have ob : IsPair hb TO c d := kb.extBut _ _ D.TOi1 (ka.extBut _ _ D.TOz gO)
  refine wpAny_bind (wpAny_seqItems ob rfl ?_); refine wpAny_bind (wpAny_updateSeq_pair (s := { s with heap := hb }) ob fun hc oc kc => ?_)
  replace oc : IsPair hc TO u d := oc
  refine wpAny_bind (wpAny_letGo (wpAny_pure ?_)); refine wpAny_bind (wpAny_bind (wpAny_onRaise ?_))
  show wpAny _ _ (Builtin.SmallTypes.nextOf (.ref j2) >>= _) _ _ _
  refine wpAny_bind (nxS_item (s := { s with heap := hc }) (itS_but (itS_but (itS_but g2 ka.extBut D.i2z) kb.extBut D.i12.symm) kc.extBut D.TOi2.symm) (sqS_but (sqS_but (sqS_but q2 ka.extBut D.l2z) kb.extBut D.l2i1) kc.extBut D.l2TO) gv fun hd td kd => wpAny_pure ?_)
  have od : IsPair hd TO u d := kd.extBut _ _ D.TOi2 oc
  refine wpAny_bind (wpAny_seqItems od rfl ?_); refine wpAny_bind (wpAny_updateSeq_pair (s := { s with heap := hd }) od fun he oe ke => ?_)
  replace oe : IsPair he TO u v := oe
  refine wpAny_bind (wpAny_letGo (wpAny_pure (wpAny_pure ?_))); refine wpAny_bind (wpAny_seqItems oe rfl ?_); refine wpAny_bind (wpAny_newTuple ?_)
  have sz : he.objs.size = s.heap.objs.size := by rw [ke.1, kd.1, kc.1, kb.1, ka.1]
  have ze : IsZip he z TI TO .ellipsis := ke.extBut _ _ D.TOz.symm (kd.extBut _ _ D.i2z.symm (kc.extBut _ _ D.TOz.symm (kb.extBut _ _ D.i1z.symm za)))
  have kk : ∀ c o, c ≠ z → c ≠ TO → c ≠ j1 → c ≠ j2 → s.heap.get? c = some o → he.get? c = some o := fun c o a1 a2 a3 a4 e => ke.extBut _ _ a2 (kd.extBut _ _ a4 (kc.extBut _ _ a2 (kb.extBut _ _ a3 (ka.extBut _ _ a1 e))))
  have t1 : itS b1 he j1 m1 (n1 + 1) := itS_but (itS_but (itS_but tb kc.extBut D.TOi1.symm) kd.extBut D.i12) ke.extBut D.TOi1.symm
  have t2 : itS b2 he j2 m2 (n2 + 1) := itS_but td ke.extBut D.TOi2.symm
  have zl : z < he.objs.size := Heap.lt_size ze
  show wpAny _ _ (Builtin.SmallTypes.ownedTupleHandOut (.ref z) (.ref he.objs.size) >>= _) _ _ _; refine wpAny_bind ?_; unfold Builtin.SmallTypes.ownedTupleHandOut
  have zf : IsZip (he.push { cls := .type "tuple", data := .seq #[u, v] }) z TI TO .ellipsis := Heap.get?_push_of_some _ ze
  refine wpAny_bind (wpAny_setField_rec (s := { s with heap := _ }) zf (by simp) fun hg zg kg => ?_)
  replace zg : IsZip hg z TI TO (rawInt he.objs.size) := zg
  refine wpAny_setField_rec (s := { s with heap := hg }) zg (by simp) fun hi zi ki => ?_
  replace zi : IsZip hi z TI TO (rawInt he.objs.size) := zi
  have up : ∀ c o, c ≠ z → he.get? c = some o → hi.get? c = some o := fun c o a e => ki.extBut _ _ a (kg.extBut _ _ a (Heap.get?_push_of_some _ e))
  have pi : IsPair hi he.objs.size u v := ki.extBut _ _ (Nat.ne_of_gt zl) (kg.extBut _ _ (Nat.ne_of_gt zl) (Heap.get?_push_size _ rfl))
  have si : hi.objs.size = he.objs.size + 1 := by rw [ki.1, kg.1, Heap.size_push]
  rw [sz] at zi pi si
  refine wpAny_pure ⟨_, rfl, ?_⟩; show Q (.ref he.objs.size) _; rw [sz]
  exact fin hi zi (up _ _ D.TOz oe) (itS_at t1 fun o e => up _ o D.i1z e) (itS_at t2 fun o e => up _ o D.i2z e) pi si fun c o a1 a2 a3 a4 e => up c o a1 (kk c o a1 a2 a3 a4 e)
theorem zs_end {z TI TO j1 j2 m1 m2 : Addr} {n1 n2 : Nat} {us vs : Array Value} {c d : Value} {Q : Fin → Shared → Prop} (hh : A.handled = none) (D : ZipApart z TI TO j1 j2 m1 m2)
    (gz : IsZip s.heap z TI TO .none) (gI : IsPair s.heap TI (.ref j1) (.ref j2)) (gO : IsPair s.heap TO c d)
    (g1 : itS b1 s.heap j1 m1 n1) (g2 : itS b2 s.heap j2 m2 n2) (q1 : sqS b1 s.heap m1 us) (q2 : sqS b2 s.heap m2 vs) (stop : us[n1]? = none ∨ vs[n2]? = none)
    (fin : ∀ g e, (∀ c o, c ≠ z → c ≠ TO → c ≠ j1 → c ≠ j2 → s.heap.get? c = some o → g.get? c = some o) → (∃ o, g.get? e = some o ∧ o.cls = .type "StopIteration") → E (.ref e) { s with heap := g }) :
    wpAny (model prog w) A (Builtin.«zip.__next__» ⟨[.ref z], []⟩) Q E s := by
  show wpAny _ _ (field (.ref z) 2 >>= _) _ _ _; refine wpAny_bind (wpAny_field gz rfl (x := .bool false) rfl ?_)
  show wpAny _ _ (field (.ref z) 3 >>= _) _ _ _; refine wpAny_bind (wpAny_field gz rfl (x := .ref TI) rfl ?_); refine wpAny_bind (wpAny_seqItems gI rfl ?_)
  show wpAny _ _ (Builtin.SmallTypes.ownedTupleIsFree (.ref z) >>= _) _ _ _; refine wpAny_bind ?_; unfold Builtin.SmallTypes.ownedTupleIsFree
  refine wpAny_bind (wpAny_field gz rfl (x := .none) rfl (wpAny_pure ?_)); simp only [if_true]; refine wpAny_bind (wpAny_rule ?_)
  refine wpAny_bind (wpAny_field gz rfl (x := .ref TO) rfl ?_); refine wpAny_bind (wpAny_setField_rec gz (by simp) fun ha za ka => ?_)
  replace za : IsZip ha z TI TO .ellipsis := za
  refine wpAny_bind ?_; simp only [List.zipIdx_cons, List.zipIdx_nil, List.forIn_cons, List.forIn_nil]; refine wpAny_bind (wpAny_bind (wpAny_onRaise ?_))
  show wpAny _ _ (Builtin.SmallTypes.nextOf (.ref j1) >>= _) _ _ _
  cases gu : us[n1]? with
  | none =>
    refine wpAny_bind (nxS_end (s := { s with heap := ha }) hh (itS_but g1 ka.extBut D.i1z) (sqS_but q1 ka.extBut D.l1z) gu fun hb e kb ⟨oe, ee, ce⟩ => ?_)
    have zb : IsZip hb z TI TO .ellipsis := kb _ _ D.i1z.symm za
    have en : e ≠ z := fun x => by subst x; rw [zb] at ee; cases ee; simp at ce
    refine wpAny_setField_rec (s := { s with heap := hb }) zb (by simp) fun hc _ kc => fin hc e (fun c o a1 _ a3 _ x => kc.extBut _ _ a1 (kb _ _ a3 (ka.extBut _ _ a1 x))) ⟨oe, kc.extBut _ _ en ee, ce⟩
  | some u =>
    have gv : vs[n2]? = none := by rcases stop with h | h; rw [gu] at h; cases h; exact h
    refine wpAny_bind (nxS_item (s := { s with heap := ha }) (itS_but g1 ka.extBut D.i1z) (sqS_but q1 ka.extBut D.l1z) gu fun hb tb kb => wpAny_pure ?_)
    have ob : IsPair hb TO c d := kb.extBut _ _ D.TOi1 (ka.extBut _ _ D.TOz gO)
    refine wpAny_bind (wpAny_seqItems ob rfl ?_); refine wpAny_bind (wpAny_updateSeq_pair (s := { s with heap := hb }) ob fun hc oc kc => ?_)
    refine wpAny_bind (wpAny_letGo (wpAny_pure ?_)); refine wpAny_bind (wpAny_bind (wpAny_onRaise ?_))
    show wpAny _ _ (Builtin.SmallTypes.nextOf (.ref j2) >>= _) _ _ _
    refine wpAny_bind (nxS_end (s := { s with heap := hc }) hh (itS_but (itS_but (itS_but g2 ka.extBut D.i2z) kb.extBut D.i12.symm) kc.extBut D.TOi2.symm) (sqS_but (sqS_but (sqS_but q2 ka.extBut D.l2z) kb.extBut D.l2i1) kc.extBut D.l2TO) gv fun hd e kd ⟨oe, ee, ce⟩ => ?_)
    have zd : IsZip hd z TI TO .ellipsis := kd _ _ D.i2z.symm (kc.extBut _ _ D.TOz.symm (kb.extBut _ _ D.i1z.symm za))
    have en : e ≠ z := fun x => by subst x; rw [zd] at ee; cases ee; simp at ce
    refine wpAny_setField_rec (s := { s with heap := hd }) zd (by simp) fun hf _ kf => fin hf e (fun c o a1 a2 a3 a4 x => kf.extBut _ _ a1 (kd _ _ a4 (kc.extBut _ _ a2 (kb.extBut _ _ a3 (ka.extBut _ _ a1 x))))) ⟨oe, kf.extBut _ _ en ee, ce⟩
theorem zs_pyItem {z TI TO j1 j2 m1 m2 : Addr} {n1 n2 : Nat} {us vs : Array Value} {u v c d : Value} {Q : Option Value → Shared → Prop} (D : ZipApart z TI TO j1 j2 m1 m2)
    (gz : IsZip s.heap z TI TO .none) (gI : IsPair s.heap TI (.ref j1) (.ref j2)) (gO : IsPair s.heap TO c d)
    (g1 : itS b1 s.heap j1 m1 n1) (g2 : itS b2 s.heap j2 m2 n2) (q1 : sqS b1 s.heap m1 us) (q2 : sqS b2 s.heap m2 vs) (gu : us[n1]? = some u) (gv : vs[n2]? = some v)
    (fin : ∀ g, IsZip g z TI TO (rawInt s.heap.objs.size) → IsPair g TO u v → itS b1 g j1 m1 (n1 + 1) → itS b2 g j2 m2 (n2 + 1) → IsPair g s.heap.objs.size u v → g.objs.size = s.heap.objs.size + 1 →
      (∀ c o, c ≠ z → c ≠ TO → c ≠ j1 → c ≠ j2 → s.heap.get? c = some o → g.get? c = some o) → Q (some (.ref s.heap.objs.size)) { s with heap := g }) :
    wpAny (model prog w) A (pyNext (.ref z)) Q E s := by
  have t : s.TypeIs (.ref z) "zip" := ⟨_, gz, rfl⟩
  unfold pyNext; refine wpAny_bind (wpAny_attempt ?_)
  exact wpAny_callSpecial?_slot (name := Str.ofString "__next__") t F.slot_zip_next (wpAny_call_entry F.slot_zip_next t F.entry_zip_next (zs_item D gz gI gO g1 g2 q1 q2 gu gv fun g a1 a2 a3 a4 a5 a6 a7 => wpAny_pure (fin g a1 a2 a3 a4 a5 a6 a7)) (F.args_zip_next_1 _))
theorem zs_pyEnd {z TI TO j1 j2 m1 m2 : Addr} {n1 n2 : Nat} {us vs : Array Value} {c d : Value} {Q : Option Value → Shared → Prop} (hh : A.handled = none) (D : ZipApart z TI TO j1 j2 m1 m2)
    (gz : IsZip s.heap z TI TO .none) (gI : IsPair s.heap TI (.ref j1) (.ref j2)) (gO : IsPair s.heap TO c d)
    (g1 : itS b1 s.heap j1 m1 n1) (g2 : itS b2 s.heap j2 m2 n2) (q1 : sqS b1 s.heap m1 us) (q2 : sqS b2 s.heap m2 vs) (stop : us[n1]? = none ∨ vs[n2]? = none)
    (fin : ∀ g, (∀ c o, c ≠ z → c ≠ TO → c ≠ j1 → c ≠ j2 → s.heap.get? c = some o → g.get? c = some o) → Q none { s with heap := g }) : wpAny (model prog w) A (pyNext (.ref z)) Q E s := by
  have t : s.TypeIs (.ref z) "zip" := ⟨_, gz, rfl⟩
  unfold pyNext; refine wpAny_bind (wpAny_attempt ?_)
  refine wpAny_callSpecial?_slot (name := Str.ofString "__next__") t F.slot_zip_next (wpAny_call_entry F.slot_zip_next t F.entry_zip_next (zs_end hh D gz gI gO g1 g2 q1 q2 stop fun g e k ⟨o, eo, ec⟩ => ?_) (F.args_zip_next_1 _))
  exact wpAny_bind (wpAny_isInstance (T := "StopIteration") (b := true) ⟨o, eo, ec⟩ isSubtype_stop (wpAny_pure (fin _ k)))
def itObj (b : Bool) (a : Addr) : Obj := { cls := .type (if b = true then "tuple_iterator" else "list_iterator"), data := .fields #[.ref a, .int 0 0] }
abbrev zs1 (b1 : Bool) (h : Heap) (a : Addr) : Heap := h.push (itObj b1 a)
abbrev zs2 (b1 b2 : Bool) (h : Heap) (a b : Addr) : Heap := (zs1 b1 h a).push (itObj b2 b)
abbrev zs3 (b1 b2 : Bool) (h : Heap) (a b : Addr) : Heap := (zs2 b1 b2 h a b).push { cls := .type "tuple", data := .seq #[.ref h.objs.size, .ref (zs1 b1 h a).objs.size] }
abbrev zs4 (b1 b2 : Bool) (h : Heap) (a b : Addr) : Heap := (zs3 b1 b2 h a b).push { cls := .type "tuple", data := .seq #[.none, .none] }
abbrev zs5 (b1 b2 : Bool) (h : Heap) (a b : Addr) : Heap := (zs4 b1 b2 h a b).push { cls := .type "zip", data := .fields #[.none, .bool false, .bool false, .ref (zs2 b1 b2 h a b).objs.size, .ref (zs3 b1 b2 h a b).objs.size] }
end
theorem meets_zipLT (a b : Addr) (us vs : Array Value) : Meets (Builtin.«zip.__new__» ⟨[.type "zip", .ref a, .ref b], []⟩) (fun _ R s => s.heap.IsList a us ∧ s.heap.IsTuple b vs ∧ R (.ok (.ret (.ref (zs4 false true s.heap a b).objs.size))) { s with heap := zs5 false true s.heap a b }) :=
  .of_wp fun prog w A R s h => by
    obtain ⟨hp, g, d, tk, os⟩ := s; obtain ⟨p1, p2, h⟩ := h; have sz := sub_zip
    have q1 : Heap.IsList (Shared.heap ⟨hp, g, d, tk, os⟩) a us := p1
    have q2 : Heap.IsTuple (Shared.heap ⟨hp.push { cls := .type "list_iterator", data := .fields #[.ref a, .int 0 0] }, g, d, tk, os⟩) b vs := Heap.IsTuple.push p2 _
    wp_walk using wpAny_pyIter_list q1, wpAny_pyIter_tuple q2
    exact ⟨_, rfl, h⟩
theorem meets_zipTL (a b : Addr) (us vs : Array Value) : Meets (Builtin.«zip.__new__» ⟨[.type "zip", .ref a, .ref b], []⟩) (fun _ R s => s.heap.IsTuple a us ∧ s.heap.IsList b vs ∧ R (.ok (.ret (.ref (zs4 true false s.heap a b).objs.size))) { s with heap := zs5 true false s.heap a b }) :=
  .of_wp fun prog w A R s h => by
    obtain ⟨hp, g, d, tk, os⟩ := s; obtain ⟨p1, p2, h⟩ := h; have sz := sub_zip
    have q1 : Heap.IsTuple (Shared.heap ⟨hp, g, d, tk, os⟩) a us := p1
    have q2 : Heap.IsList (Shared.heap ⟨hp.push { cls := .type "tuple_iterator", data := .fields #[.ref a, .int 0 0] }, g, d, tk, os⟩) b vs := Heap.IsList.push p2 _
    wp_walk using wpAny_pyIter_tuple q1, wpAny_pyIter_list q2
    exact ⟨_, rfl, h⟩
section
variable {prog : Program} {w : World} {A : Around} {E : Value → Shared → Prop} {s : Shared} {b1 b2 : Bool}
theorem itObj_is (b : Bool) (h : Heap) (t a : Addr) (e : h.get? t = some (itObj b a)) : itS b h t a 0 := by
  cases b <;> exact ⟨_, e, rfl, rfl⟩
theorem call_zipS {a b : Addr} {us vs : Array Value} {Q : Value → Shared → Prop} (p1 : sqS b1 s.heap a us) (p2 : sqS b2 s.heap b vs)
    (fin : ∀ g, IsZip g (s.heap.objs.size + 4) (s.heap.objs.size + 2) (s.heap.objs.size + 3) .none → IsPair g (s.heap.objs.size + 2) (.ref s.heap.objs.size) (.ref (s.heap.objs.size + 1)) →
      IsPair g (s.heap.objs.size + 3) .none .none → itS b1 g s.heap.objs.size a 0 → itS b2 g (s.heap.objs.size + 1) b 0 → (∀ c o, s.heap.get? c = some o → g.get? c = some o) → Q (.ref (s.heap.objs.size + 4)) { s with heap := g }) :
    wpAny (model prog w) A (call (.type "zip") [.ref a, .ref b]) Q E s := by
  have n1 : (zs1 b1 s.heap a).objs.size = s.heap.objs.size + 1 := Heap.size_push ..
  have n2 : (zs2 b1 b2 s.heap a b).objs.size = s.heap.objs.size + 2 := by rw [Heap.size_push, n1]
  have n3 : (zs3 b1 b2 s.heap a b).objs.size = s.heap.objs.size + 3 := by rw [Heap.size_push, n2]
  have n4 : (zs4 b1 b2 s.heap a b).objs.size = s.heap.objs.size + 4 := by rw [Heap.size_push, n3]
  have k : ∀ c o, (zs1 b1 s.heap a).get? c = some o → (zs5 b1 b2 s.heap a b).get? c = some o := fun c o e => Heap.get?_push_of_some _ (Heap.get?_push_of_some _ (Heap.get?_push_of_some _ (Heap.get?_push_of_some _ e)))
  have k2 : ∀ c o, (zs2 b1 b2 s.heap a b).get? c = some o → (zs5 b1 b2 s.heap a b).get? c = some o := fun c o e => Heap.get?_push_of_some _ (Heap.get?_push_of_some _ (Heap.get?_push_of_some _ e))
  have e5 : (zs5 b1 b2 s.heap a b).get? (zs4 b1 b2 s.heap a b).objs.size = some { cls := .type "zip", data := .fields #[.none, .bool false, .bool false, .ref (zs2 b1 b2 s.heap a b).objs.size, .ref (zs3 b1 b2 s.heap a b).objs.size] } := Heap.get?_push_size _ rfl
  have e4 : (zs5 b1 b2 s.heap a b).get? (zs3 b1 b2 s.heap a b).objs.size = some { cls := .type "tuple", data := .seq #[.none, .none] } := Heap.get?_push_of_some _ (Heap.get?_push_size _ rfl)
  have e3 : (zs5 b1 b2 s.heap a b).get? (zs2 b1 b2 s.heap a b).objs.size = some { cls := .type "tuple", data := .seq #[.ref s.heap.objs.size, .ref (zs1 b1 s.heap a).objs.size] } := Heap.get?_push_of_some _ (Heap.get?_push_of_some _ (Heap.get?_push_size _ rfl))
  have e2 : (zs5 b1 b2 s.heap a b).get? (zs1 b1 s.heap a).objs.size = some (itObj b2 b) := k2 _ _ (Heap.get?_push_size _ (by cases b2 <;> rfl))
  have e1 : (zs5 b1 b2 s.heap a b).get? s.heap.objs.size = some (itObj b1 a) := k _ _ (Heap.get?_push_size _ (by cases b1 <;> rfl))
  have last : Q (.ref (zs4 b1 b2 s.heap a b).objs.size) { s with heap := zs5 b1 b2 s.heap a b } := by
    rw [n2, n3, n4] at e5
    rw [n1, n2] at e3
    rw [n3] at e4
    rw [n1] at e2
    rw [n4]
    exact fin _ e5 e3 e4 (itObj_is _ _ _ _ e1) (itObj_is _ _ _ _ e2) fun c o e => k _ _ (Heap.get?_push_of_some _ e)
  have cls : ∃ o, (zs5 b1 b2 s.heap a b).get? (zs4 b1 b2 s.heap a b).objs.size = some o ∧ o.cls = .type "zip" := ⟨_, e5, rfl⟩
  cases b1 <;> cases b2
  · exact call_zip_2 p1 p2 fun g a1 a2 a3 a4 a5 _ a7 => fin g a1 a2 a3 a4 a5 a7
  · exact callType_new F.called_zip (by decide) (F.typeCall_zip_2 _ _) (F.newCall_zip_2 _ _) (fun obj => F.args_object_init_3 obj _ _) F.entry_zip_new (meets_zipLT a b us vs) ⟨p1, p2, cls, last⟩
  · exact callType_new F.called_zip (by decide) (F.typeCall_zip_2 _ _) (F.newCall_zip_2 _ _) (fun obj => F.args_object_init_3 obj _ _) F.entry_zip_new (meets_zipTL a b us vs) ⟨p1, p2, cls, last⟩
  · exact RZ.call_zipT p1 p2 fun g a1 a2 a3 a4 a5 _ a7 => fin g a1 a2 a3 a4 a5 a7
end
/-- what the two hold as they stand at each turn, in new pairs -/
def ItS (b1 b2 : Bool) (K : PySem.W.Frag) (a b : Addr) : It :=
  ⟨fun i H => ∃ (xs ys : List V) (x y : V), SqS b1 K H a xs ∧ SqS b2 K H b ys ∧ xs[i]? = some x ∧ ys[i]? = some y,
    fun i H v H' => ∃ T x y, v = .ref T ∧ H T = none ∧ H' = upd H T (.tup [x, y]) ∧ (∀ xs, SqS b1 K H a xs → xs[i]? = some x) ∧ ∀ ys, SqS b2 K H b ys → ys[i]? = some y,
    fun i H => ∃ xs ys : List V, SqS b1 K H a xs ∧ SqS b2 K H b ys ∧ (xs.length ≤ i ∨ ys.length ≤ i)⟩
theorem sqS_read {b : Bool} {X : Cx} {pins : List (Addr × Obj)} {σ : L2.St} {H : Hp} {s : Shared} {a : Addr} {xs : List V} (I : Inv X pins σ H s) (h : SqS b X.K H a xs) : ∃ its : List Value, Vals xs its ∧ sqS b s.heap a its.toArray ∧ a < s.heap.objs.size := by
  cases b
  · obtain ⟨its, rv, p, _⟩ := I.list h
    exact ⟨its, rv, p.isList, p.lt⟩
  · obtain ⟨its, rv, p, _⟩ := I.tuple h
    exact ⟨its, rv, p, by obtain ⟨o, e, _⟩ := id p; exact Heap.lt_size e⟩
theorem sqS_inj {b : Bool} {X : Cx} {pins : List (Addr × Obj)} {σ : L2.St} {H : Hp} {s : Shared} {a : Addr} {xs ys : List V} (I : Inv X pins σ H s) (h : SqS b X.K H a xs) (h' : SqS b X.K H a ys) : xs = ys := by
  cases b
  · exact I.list_inj h h'
  · exact I.tuple_inj h h'
theorem turnS {P : Program} {w : World} {K : PySem.W.Frag} {elts : List Expr} {kk : Nat} {tpos : Pos} {a b z TI TO j1 j2 : Addr} {b1 b2 : Bool} (D : ZipApart z TI TO j1 j2 a b) :
    Turn P w K (.Tuple elts kk tpos) (ItS b1 b2 K a b) [z, TI, TO, j1, j2] z (fun i h => IsZip h z TI TO .none ∧ IsPair h TI (.ref j1) (.ref j2) ∧ (∃ x y, IsPair h TO x y) ∧ itS b1 h j1 a i ∧ itS b2 h j2 b i) where
  mem := by simp
  obj := fun i h ⟨gz, gI, ⟨x, y, gO⟩, g1, g2⟩ c hc => by
    obtain ⟨o1, f1, r1, d1⟩ := itS_obj g1
    obtain ⟨o2, f2, r2, d2⟩ := itS_obj g2
    simp only [List.mem_cons, List.not_mem_nil, or_false] at hc
    rcases hc with rfl | rfl | rfl | rfl | rfl
    · exact ⟨_, gz, fun v q => nomatch q⟩
    · exact ⟨_, gI, fun v q => nomatch q⟩
    · exact ⟨_, gO, fun v q => nomatch q⟩
    · exact ⟨o1, r1, fun v q => by rw [d1] at q; cases q⟩
    · exact ⟨o2, r2, fun v q => by rw [d2] at q; cases q⟩
  keep := fun i h h' ⟨gz, gI, ⟨x, y, gO⟩, g1, g2⟩ k => ⟨k z (by simp) _ gz, k TI (by simp) _ gI, ⟨x, y, k TO (by simp) _ gO⟩, itS_at g1 fun o q => k j1 (by simp) o q, itS_at g2 fun o q => k j2 (by simp) o q⟩
  item := by
    intro X hP hw hK hc i pins s σ H E I hf ⟨gz, gI, ⟨x0, y0, gO⟩, g1, g2⟩ ⟨xs, ys, x, y, sx, sy, ex, ey⟩
    subst hP hw hK
    obtain ⟨us, r1, p1, _⟩ := sqS_read I sx
    obtain ⟨vs, r2, p2, _⟩ := sqS_read I sy
    obtain ⟨u, eu, ru⟩ := r1.get ex
    obtain ⟨v, ev, rv⟩ := r2.get ey
    have zl : z < s.heap.objs.size := Heap.lt_size gz
    refine zs_pyItem D gz gI gO g1 g2 p1 p2 (u := u) (v := v) (by simpa using eu) (by simpa using ev) fun g z' o' t1 t2 pT sz k => ⟨_, rfl, wpAny_letOwnedTupleGo_zip (s := { s with heap := g }) z' fun gg z2 sb => ?_⟩
    have T2 : gg.get? s.heap.objs.size = some { cls := .type "tuple", data := .seq #[u, v] } := (sb.2 _ (Nat.ne_of_gt zl)).trans pT
    have nw : ObjOk X.prog X.w (upd H s.heap.objs.size (.tup [x, y])) gg s.heap.objs.size (.tup [x, y]) := ⟨by show 2 ≤ sizeLine; decide, [u, v], .cons ru (.cons rv .nil), ⟨_, T2, rfl, _, rfl⟩⟩
    have kk : ∀ c o, c ∉ [z, TI, TO, j1, j2] → s.heap.get? c = some o → gg.get? c = some o := fun c o hb q => by
      simp only [List.mem_cons, List.not_mem_nil, or_false, not_or] at hb
      exact (sb.2 c hb.1).trans (k c o hb.1 hb.2.2.1 hb.2.2.2.1 hb.2.2.2.2 q)
    have I1 : Inv X pins σ (upd H s.heap.objs.size (.tup [x, y])) { s with heap := gg } := I.turnedNew (t' := s.toks) (ch := [z, TI, TO, j1, j2]) kk hf (Nat.le_refl _) nw
    refine ⟨.ref s.heap.objs.size, _, I1, rfl, ⟨_, x, y, rfl, I.hok.fresh (Nat.le_refl _), rfl, fun l hl => by rw [sqS_inj I hl sx]; exact ex, fun l hl => by rw [sqS_inj I hl sy]; exact ey⟩, ⟨z2, ?_, ⟨u, v, (sb.2 _ D.TOz).trans o'⟩, itS_at t1 fun o q => (sb.2 _ D.i1z).trans q, itS_at t2 fun o q => (sb.2 _ D.i2z).trans q⟩, fun c hcm => ?_⟩
    · exact (sb.2 _ D.TIz).trans (k _ _ D.TIz D.TITO D.TIi1 D.TIi2 gI)
    · obtain ⟨o1, f1, w1, _⟩ := itS_obj g1
      obtain ⟨o2, f2, w2, _⟩ := itS_obj g2
      have hlt : c < s.heap.objs.size := by
        have hcm' := hcm
        simp only [List.mem_cons, List.not_mem_nil, or_false] at hcm'
        rcases hcm' with rfl | rfl | rfl | rfl | rfl
        · exact zl
        · exact Heap.lt_size gI
        · exact Heap.lt_size gO
        · exact Heap.lt_size w1
        · exact Heap.lt_size w2
      rw [upd_ne (Nat.ne_of_lt hlt)]
      exact (hf c hcm).1
  done := by
    intro X hP hw hK hc i pins s σ H E I hf ⟨gz, gI, ⟨x0, y0, gO⟩, g1, g2⟩ ⟨xs, ys, sx, sy, stop⟩
    subst hP hw hK
    obtain ⟨us, r1, p1, _⟩ := sqS_read I sx
    obtain ⟨vs, r2, p2, _⟩ := sqS_read I sy
    have e1 := r1.length
    have e2 := r2.length
    refine zs_pyEnd (I.ok.hd hc) D gz gI gO g1 g2 p1 p2 (by rcases stop with q | q; exact .inl (by simp; omega); exact .inr (by simp; omega)) fun g k => ⟨rfl, I.turnedL (t' := s.toks) (ch := [z, TI, TO, j1, j2]) (fun c o hb q => ?_) hf⟩
    simp only [List.mem_cons, List.not_mem_nil, or_false, not_or] at hb
    exact k c o hb.1 hb.2.2.1 hb.2.2.2.1 hb.2.2.2.2 q
  self := fun A i s Q E st h => wpAny_pyIter_zip st.1 h
/-- zip of two of any kinds -/
def iZipS (K : PySem.W.Frag) (ta : TA) : TI := fun σ H R => ta σ H fun vs H1 => ∃ b1 b2 a b xs ys, vs = [.ref a, .ref b] ∧ SqS b1 K H1 a xs ∧ SqS b2 K H1 b ys ∧ R (ItS b1 b2 K a b) H1
theorem pi_zipS {X : Cx} {e e2 : Expr} {ta : TA} {p pos tpos : Pos} {elts : List Expr} {kk : Nat} (hg : Gl X "zip") (hm : X.mg "zip" = none) (ha : PA X [e, e2] ta)
    (hs : starEach [e, e2] X.env = (false, eval e X.env) :: starEach [e2] X.env := by rfl) (hpl : (backTo pos (starEach [e2] X.env)).any (·.1) = false := by rfl) : PI X (.Tuple elts kk tpos) (.Call (.Name "zip" p) [e, e2] [] pos) (iZipS X.K ta) := by
  refine ⟨fun pins s σ H R I h => ?_⟩
  refine PyProof.Rows.Call_ (ld_blt I hg hm PyProof.Rows.boot_zip (PyProof.Rows.callWith_type1 (thn (ha.run pos pins s σ H _ I h) fun us s1 ⟨vs, H1, I1, r1, q1⟩ => ?_) hs hpl))
  obtain ⟨b1, b2, a, b, xs, ys, rfl, sx, sy, q⟩ := q1
  obtain ⟨u1, u2, rfl, ra, rb⟩ := vals2 r1
  obtain rfl : u1 = Value.ref a := ra
  obtain rfl : u2 = Value.ref b := rb
  obtain ⟨us, _, p1, la⟩ := sqS_read I1 sx
  obtain ⟨vs, _, p2, lb⟩ := sqS_read I1 sy
  refine call_zipS p1 p2 fun g gz gI gO g1 g2 k => wpAny_pyIter_zip (s := { s1 with heap := g }) gz ?_
  have I2 : Inv X pins σ H1 { s1 with heap := g } := I1.kept (t' := s1.toks) k
  refine ⟨s1.heap.objs.size + 4, [s1.heap.objs.size + 4, s1.heap.objs.size + 2, s1.heap.objs.size + 3, s1.heap.objs.size, s1.heap.objs.size + 1], _, _, H1, rfl, I2, turnS (PySem.W.ktu_apart s1.heap.objs.size a b la lb), ⟨gz, gI, ⟨_, _, gO⟩, g1, g2⟩, fun c hc => ?_, q⟩
  have hle : s1.heap.objs.size ≤ c := by
    simp only [List.mem_cons, List.not_mem_nil, or_false] at hc
    rcases hc with rfl | rfl | rfl | rfl | rfl <;> omega
  exact I1.fpOk hle (I1.hok.fresh hle)
end Py

set_option Elab.async false
set_option linter.all false
set_option maxRecDepth 100000
set_option maxHeartbeats 2000000
namespace Py
open PySem L2 He
open PySem.Sem (wp)
/-! enumerate over a list or a tuple -/
section
variable {prog : Program} {w : World} {A : Around} {E : Value → Shared → Prop} {s : Shared} {b : Bool}
theorem es_item {e t a : Addr} {i : Nat} {us : Array Value} {u old : Value} {Q : Value → Shared → Prop}
    (ge : IsEnum s.heap e t i old) (gt : itS b s.heap t a i) (q : sqS b s.heap a us) (gu : us[i]? = some u) (ne : e ≠ t)
    (fin : ∀ g, IsEnumOut g e t ((i : Int) + 1) u s.heap.objs.size → itS b g t a (i + 1) → g.get? s.heap.objs.size = some { cls := .type "tuple", data := .seq #[.int i s.toks, u] } → g.objs.size = s.heap.objs.size + 1 →
      (∀ c o, c ≠ e → c ≠ t → s.heap.get? c = some o → g.get? c = some o) → Q (.ref s.heap.objs.size) { s with heap := g, toks := s.toks + 1 }) :
    wpAny (model prog w) A (Builtin.«enumerate.__next__» ⟨[.ref e], []⟩) (fun fin s' => ∃ v, fin = .done (.ret v) ∧ Q v s') E s := by
  obtain ⟨hp, g, d, tk, os⟩ := s
  show wpAny _ _ (field (.ref e) 2 >>= _) _ _ _; refine wpAny_bind (wpAny_field ge rfl (x := .ref t) rfl ?_); refine wpAny_bind (nxS_item gt q gu fun h1 t1 k1 => ?_)
  replace k1 : Heap.SameBut t hp h1 := k1
  have e1 : IsEnum h1 e t i old := (k1.2 e ne).trans ge
  show wpAny _ _ (field (.ref e) 3 >>= _) _ _ ⟨h1, g, d, tk, os⟩; refine wpAny_bind (wpAny_field e1 rfl (x := rawInt i) rfl ?_)
  show wpAny _ _ (field (.ref e) 4 >>= _) _ _ ⟨h1, g, d, tk, os⟩; refine wpAny_bind (wpAny_field e1 rfl (x := .none) rfl ?_)
  show wpAny _ _ (mkInt i >>= _) _ _ ⟨h1, g, d, tk, os⟩; refine wpAny_bind (wpAny_mkInt ?_)
  show wpAny _ _ (setField (.ref e) 3 (rawInt ((i : Int) + 1)) >>= _) _ _ ⟨h1, g, d, tk + 1, os⟩; refine wpAny_bind (wpAny_setField_rec e1 (by simp) fun h2 e2 k2 => ?_)
  replace k2 : Heap.SameBut e h1 h2 := k2
  replace e2 : IsEnum h2 e t ((i : Int) + 1) old := e2
  show wpAny _ _ (setField (.ref e) 4 .none >>= _) _ _ ⟨h2, g, d, tk + 1, os⟩; refine wpAny_bind (wpAny_setField_rec e2 (by simp) fun h3 e3 k3 => ?_)
  replace k3 : Heap.SameBut e h2 h3 := k3
  replace e3 : IsEnum h3 e t ((i : Int) + 1) old := e3
  show wpAny _ _ (newTuple [.int i tk, u] >>= _) _ _ ⟨h3, g, d, tk + 1, os⟩; refine wpAny_bind (wpAny_newTuple ?_)
  have e4 : IsEnum (h3.push { cls := .type "tuple", data := .seq #[.int i tk, u] }) e t ((i : Int) + 1) old := Heap.get?_push_of_some _ e3
  generalize hh : h3.push { cls := .type "tuple", data := .seq #[.int i tk, u] } = h4 at e4
  have sz : h3.objs.size = hp.objs.size := by rw [k3.1, k2.1, k1.1]
  have el : e < hp.objs.size := Heap.lt_size ge
  have p4 : h4.get? hp.objs.size = some { cls := .type "tuple", data := .seq #[.int i tk, u] } := by rw [← hh, ← sz]; exact Heap.get?_push_size _ rfl
  have s4 : h4.objs.size = hp.objs.size + 1 := by rw [← hh, Heap.size_push, sz]
  have kk : ∀ c o, c ≠ e → c ≠ t → hp.get? c = some o → h4.get? c = some o := fun c o c1 c2 x => by rw [← hh]; exact Heap.get?_push_of_some _ (k3.extBut c o c1 (k2.extBut c o c1 (k1.extBut c o c2 x)))
  have t4 : itS b h4 t a (i + 1) := by rw [← hh]; exact itS_at (itS_but (itS_but t1 k2.extBut (Ne.symm ne)) k3.extBut (Ne.symm ne)) fun o x => Heap.get?_push_of_some _ x
  show wpAny _ _ (Builtin.SmallTypes.ownedTupleIsFree (.ref e) >>= _) _ _ ⟨h4, g, d, tk + 1, os⟩; rw [sz]; clear hh e3 k3 e2 k2 e1 k1 t1 sz h3 h2 h1
  refine wpAny_bind ?_; unfold Builtin.SmallTypes.ownedTupleIsFree; refine wpAny_bind (wpAny_field e4 rfl (x := .none) rfl (wpAny_pure ?_)); simp only [if_true]; refine wpAny_bind (wpAny_rule ?_)
  refine wpAny_bind (wpAny_field e4 rfl (x := old) rfl ?_); refine wpAny_bind (wpAny_setField_rec e4 (by simp) fun h5 e5 k5 => ?_)
  replace k5 : Heap.SameBut e h4 h5 := k5
  replace e5 : IsEnum h5 e t ((i : Int) + 1) u := e5
  show wpAny _ _ (Builtin.SmallTypes.ownedTupleHandOut (.ref e) (.ref hp.objs.size) >>= _) _ _ ⟨h5, g, d, tk + 1, os⟩; refine wpAny_bind ?_; unfold Builtin.SmallTypes.ownedTupleHandOut
  refine wpAny_bind (wpAny_setField_rec e5 (by simp) fun h6 e6 k6 => ?_)
  replace k6 : Heap.SameBut e h5 h6 := k6
  replace e6 : IsEnumOut h6 e t ((i : Int) + 1) u hp.objs.size := e6
  refine wpAny_setField_rec e6 (by simp) fun h7 e7 k7 => ?_
  replace k7 : Heap.SameBut e h6 h7 := k7
  replace e7 : IsEnumOut h7 e t ((i : Int) + 1) u hp.objs.size := e7
  have up : ∀ c o, c ≠ e → h4.get? c = some o → h7.get? c = some o := fun c o c1 x => k7.extBut c o c1 (k6.extBut c o c1 (k5.extBut c o c1 x))
  exact wpAny_bind (wpAny_letGo (wpAny_pure ⟨_, rfl, fin h7 e7 (itS_at t4 fun o x => up _ o (Ne.symm ne) x) (up _ _ (Nat.ne_of_gt el) p4) (by rw [k7.1, k6.1, k5.1, s4]) fun c o c1 c2 x => up c o c1 (kk c o c1 c2 x)⟩))
theorem es_pyItem {e t a : Addr} {i : Nat} {us : Array Value} {u old : Value} {Q : Option Value → Shared → Prop}
    (ge : IsEnum s.heap e t i old) (gt : itS b s.heap t a i) (q : sqS b s.heap a us) (gu : us[i]? = some u) (ne : e ≠ t)
    (fin : ∀ g, IsEnumOut g e t ((i : Int) + 1) u s.heap.objs.size → itS b g t a (i + 1) → g.get? s.heap.objs.size = some { cls := .type "tuple", data := .seq #[.int i s.toks, u] } → g.objs.size = s.heap.objs.size + 1 →
      (∀ c o, c ≠ e → c ≠ t → s.heap.get? c = some o → g.get? c = some o) → Q (some (.ref s.heap.objs.size)) { s with heap := g, toks := s.toks + 1 }) : wpAny (model prog w) A (pyNext (.ref e)) Q E s := by
  have ty : s.TypeIs (.ref e) "enumerate" := ⟨_, ge, rfl⟩
  unfold pyNext; refine wpAny_bind (wpAny_attempt ?_)
  exact wpAny_callSpecial?_slot (name := Str.ofString "__next__") ty F.slot_enumerate_next (wpAny_call_entry F.slot_enumerate_next ty F.entry_enumerate_next (es_item ge gt q gu ne fun g a1 a2 a3 a4 a5 => wpAny_pure (fin g a1 a2 a3 a4 a5)) (F.args_enumerate_next_1 _))
theorem es_pyEnd {e t a : Addr} {i : Nat} {us : Array Value} {old : Value} {Q : Option Value → Shared → Prop} (hh : A.handled = none)
    (ge : IsEnum s.heap e t i old) (gt : itS b s.heap t a i) (q : sqS b s.heap a us) (gu : us[i]? = none) (fin : ∀ g, Heap.ExtBut t s.heap g → Q none { s with heap := g }) : wpAny (model prog w) A (pyNext (.ref e)) Q E s := by
  have ty : s.TypeIs (.ref e) "enumerate" := ⟨_, ge, rfl⟩
  unfold pyNext; refine wpAny_bind (wpAny_attempt ?_)
  refine wpAny_callSpecial?_slot (name := Str.ofString "__next__") ty F.slot_enumerate_next (wpAny_call_entry F.slot_enumerate_next ty F.entry_enumerate_next ?_ (F.args_enumerate_next_1 _))
  show wpAny _ _ (field (.ref e) 2 >>= _) _ _ _; refine wpAny_bind (wpAny_field ge rfl (x := .ref t) rfl ?_); refine wpAny_bind (nxS_end hh gt q gu fun g x k ⟨o, ho, hc⟩ => ?_)
  exact wpAny_bind (wpAny_isInstance (T := "StopIteration") (b := true) ⟨o, ho, hc⟩ isSubtype_stop (wpAny_pure (fin _ k)))
end
theorem meets_enumT (a : Addr) (us : Array Value) : Meets (Builtin.«enumerate.__new__» ⟨[.type "enumerate", .ref a], []⟩) (fun _ R s => s.heap.IsTuple a us ∧
      R (.ok (.ret (.ref (s.heap.push (itObj true a)).objs.size))) { s with heap := (s.heap.push (itObj true a)).push { cls := .type "enumerate", data := .fields #[.none, .bool false, .ref s.heap.objs.size, rawInt 0, .none, .none] } }) :=
  .of_wp fun prog w A R s h => by
    obtain ⟨hp, g, d, tk, os⟩ := s; obtain ⟨⟨⟨oc, od, dt, osl⟩, hl, hc, n, hd⟩, h⟩ := h
    replace hc : oc = .type "tuple" := hc
    replace hd : dt = .seq us n := hd
    subst hc hd
    have sub := sub_enumerate; have hT : Heap.IsTuple (Shared.heap ⟨hp, g, d, tk, os⟩) a us := ⟨_, hl, rfl, n, rfl⟩
    wp_walk using PySem.AutoSeq1.wpAny_loadPart' hl
    refine wpAny_stack_any fun st => wpAny_pure ?_; split
    · rename_i c _ _ _ _ _
      cases (c == Value.type "enumerate") <;> (wp_walk using PySem.AutoSeq1.wpAny_loadPart' hl, wpAny_pyIter_tuple hT; exact ⟨_, rfl, h⟩)
    · wp_walk using PySem.AutoSeq1.wpAny_loadPart' hl, wpAny_pyIter_tuple hT
      exact ⟨_, rfl, h⟩
section
variable {prog : Program} {w : World} {A : Around} {E : Value → Shared → Prop} {s : Shared} {b : Bool}
theorem call_enumS {a : Addr} {us : Array Value} {Q : Value → Shared → Prop} (q : sqS b s.heap a us)
    (fin : ∀ g, IsEnum g (s.heap.objs.size + 1) s.heap.objs.size 0 .none → itS b g s.heap.objs.size a 0 → (∀ c o, s.heap.get? c = some o → g.get? c = some o) → Q (.ref (s.heap.objs.size + 1)) { s with heap := g }) :
    wpAny (model prog w) A (call (.type "enumerate") [.ref a]) Q E s := by
  cases b
  · exact call_enumerate_list q fun g a1 a2 _ a4 => fin g a1 a2 a4
  · have z : (s.heap.push (itObj true a)).objs.size = s.heap.objs.size + 1 := Heap.size_push ..
    have e1 : ((s.heap.push (itObj true a)).push { cls := .type "enumerate", data := .fields #[.none, .bool false, .ref s.heap.objs.size, rawInt 0, .none, .none] }).get? (s.heap.push (itObj true a)).objs.size = some { cls := .type "enumerate", data := .fields #[.none, .bool false, .ref s.heap.objs.size, rawInt 0, .none, .none] } := Heap.get?_push_size _ rfl
    have e2 : ((s.heap.push (itObj true a)).push { cls := .type "enumerate", data := .fields #[.none, .bool false, .ref s.heap.objs.size, rawInt 0, .none, .none] }).get? s.heap.objs.size = some (itObj true a) := Heap.get?_push_of_some _ (Heap.get?_push_size _ rfl)
    refine callType_new F.called_enumerate (by decide) (F.typeCall_enumerate_1 _) (F.newCall_enumerate_1 _) (fun obj => F.args_object_init_2 obj _) F.entry_enumerate_new (meets_enumT a us) ⟨q, ?_⟩
    show _ ∧ _
    rw [z] at e1 ⊢
    exact ⟨⟨_, e1, rfl⟩, fin _ e1 (itObj_is true _ _ _ e2) fun c o x => Heap.get?_push_of_some _ (Heap.get?_push_of_some _ x)⟩
end
/-- what stands at a at each turn, each in a new pair with its place -/
def ItE (b : Bool) (K : PySem.W.Frag) (a : Addr) : It :=
  ⟨fun i H => ∃ (xs : List V) (x : V), SqS b K H a xs ∧ xs[i]? = some x, fun i H v H' => ∃ T x, v = .ref T ∧ H T = none ∧ H' = upd H T (.tup [.int (i : Nat), x]) ∧ ∀ xs, SqS b K H a xs → xs[i]? = some x, fun i H => ∃ xs : List V, SqS b K H a xs ∧ xs.length ≤ i⟩
theorem turnE {P : Program} {w : World} {K : PySem.W.Frag} {elts : List Expr} {kk : Nat} {tpos : Pos} {b : Bool} (a e t : Addr) :
    Turn P w K (.Tuple elts kk tpos) (ItE b K a) [e, t] e (fun i h => (∃ old, IsEnum h e t ((i : Nat) : Int) old) ∧ itS b h t a i ∧ e ≠ t) where
  mem := by simp
  obj := fun i h ⟨⟨old, ge⟩, gt, _⟩ c hc => by
    obtain ⟨o, f, r, d⟩ := itS_obj gt
    simp only [List.mem_cons, List.not_mem_nil, or_false] at hc
    rcases hc with rfl | rfl
    · exact ⟨_, ge, fun v q => nomatch q⟩
    · exact ⟨o, r, fun v q => by rw [d] at q; cases q⟩
  keep := fun i h h' ⟨⟨old, ge⟩, gt, ne⟩ k => ⟨⟨old, k e (by simp) _ ge⟩, itS_at gt fun o q => k t (by simp) o q, ne⟩
  item := by
    intro X hP hw hK hc i pins s σ H E I hf ⟨⟨old, ge⟩, gt, ne⟩ ⟨xs, x, sx, ex⟩
    subst hP hw hK
    obtain ⟨us, r1, p1, _⟩ := sqS_read I sx
    obtain ⟨u, eu, ru⟩ := r1.get ex
    obtain ⟨o1, f1, w1, _⟩ := itS_obj gt
    have el : e < s.heap.objs.size := Heap.lt_size ge
    have tl : t < s.heap.objs.size := Heap.lt_size w1
    refine es_pyItem ge gt p1 (u := u) (by simpa using eu) ne fun g z1 t1 pT sz k => ⟨_, rfl, wpAny_letOwnedTupleGo_enum (s := { s with heap := g, toks := s.toks + 1 }) z1 fun gg z2 sb => ?_⟩
    have T2 : gg.get? s.heap.objs.size = some { cls := .type "tuple", data := .seq #[.int i s.toks, u] } := (sb.2 _ (Nat.ne_of_gt el)).trans pT
    have nw : ObjOk X.prog X.w (upd H s.heap.objs.size (.tup [.int (i : Nat), x])) gg s.heap.objs.size (.tup [.int (i : Nat), x]) := ⟨by show 2 ≤ sizeLine; decide, [.int i s.toks, u], .cons ⟨_, rfl⟩ (.cons ru .nil), ⟨_, T2, rfl, _, rfl⟩⟩
    have kk : ∀ c o, c ∉ [e, t] → s.heap.get? c = some o → gg.get? c = some o := fun c o hb q => by
      simp only [List.mem_cons, List.not_mem_nil, or_false, not_or] at hb
      exact (sb.2 c hb.1).trans (k c o hb.1 hb.2 q)
    have I1 : Inv X pins σ (upd H s.heap.objs.size (.tup [.int (i : Nat), x])) { s with heap := gg, toks := s.toks + 1 } := I.turnedNew (ch := [e, t]) kk hf (Nat.le_refl _) nw
    refine ⟨.ref s.heap.objs.size, _, I1, rfl, ⟨_, x, rfl, I.hok.fresh (Nat.le_refl _), rfl, fun l hl => by rw [sqS_inj I hl sx]; exact ex⟩, ⟨⟨u, ?_⟩, itS_at t1 fun o q => (sb.2 t (Ne.symm ne)).trans q, ne⟩, fun c hcm => ?_⟩
    · have e1 : ((i + 1 : Nat) : Int) = (i : Int) + 1 := by omega
      rw [e1]; exact z2
    · have hlt : c < s.heap.objs.size := by
        have hcm' := hcm
        simp only [List.mem_cons, List.not_mem_nil, or_false] at hcm'
        rcases hcm' with rfl | rfl
        · exact el
        · exact tl
      rw [upd_ne (Nat.ne_of_lt hlt)]
      exact (hf c hcm).1
  done := by
    intro X hP hw hK hc i pins s σ H E I hf ⟨⟨old, ge⟩, gt, ne⟩ ⟨xs, sx, stop⟩
    subst hP hw hK
    obtain ⟨us, r1, p1, _⟩ := sqS_read I sx
    have e1 := r1.length
    obtain ⟨f0, f1, f2, f3, f4, f5⟩ := hf t (by simp)
    exact es_pyEnd (I.ok.hd hc) ge gt p1 (by simp; omega) fun g k => ⟨rfl, I.turned (t' := s.toks) (fun c o hb q => k c o hb q) f0 f1 f3 f4 f5⟩
  self := fun A i s Q E ⟨⟨_, ge⟩, _⟩ h => wpAny_pyIter_enum ge h
def iEnumS (K : PySem.W.Frag) (ta : TA) : TI := fun σ H R => ta σ H fun vs H1 => ∃ b a xs, vs = [.ref a] ∧ SqS b K H1 a xs ∧ R (ItE b K a) H1
theorem pi_enumS {X : Cx} {e : Expr} {ta : TA} {p pos tpos : Pos} {elts : List Expr} {kk : Nat} (hg : Gl X "enumerate") (hm : X.mg "enumerate" = none) (ha : PA X [e] ta) (hs : starEach [e] X.env = [(false, eval e X.env)] := by rfl) :
    PI X (.Tuple elts kk tpos) (.Call (.Name "enumerate" p) [e] [] pos) (iEnumS X.K ta) := by
  refine ⟨fun pins s σ H R I h => ?_⟩
  refine PyProof.Rows.Call_ (ld_blt I hg hm PyProof.Rows.boot_enumerate (PyProof.Rows.callWith_type1 (thn (ha.run pos pins s σ H _ I h) fun us s1 ⟨vs, H1, I1, r1, q1⟩ => ?_) hs rfl))
  obtain ⟨b, a, xs, rfl, sx, q⟩ := q1
  obtain ⟨u1, rfl, ra⟩ := vals1 r1
  obtain rfl : u1 = Value.ref a := ra
  obtain ⟨us, _, p1, _⟩ := sqS_read I1 sx
  refine call_enumS p1 fun g ge gt k => wpAny_pyIter_enum (s := { s1 with heap := g }) ge ?_
  have I2 : Inv X pins σ H1 { s1 with heap := g } := I1.kept (t' := s1.toks) k
  refine ⟨s1.heap.objs.size + 1, [s1.heap.objs.size + 1, s1.heap.objs.size], _, _, H1, rfl, I2, turnE a (s1.heap.objs.size + 1) s1.heap.objs.size, ⟨⟨.none, ge⟩, gt, Nat.succ_ne_self _⟩, fun c hc => ?_, q⟩
  have hle : s1.heap.objs.size ≤ c := by
    simp only [List.mem_cons, List.not_mem_nil, or_false] at hc
    rcases hc with rfl | rfl <;> omega
  exact I1.fpOk hle (I1.hok.fresh hle)
end Py

set_option Elab.async false
set_option linter.all false
set_option maxRecDepth 100000
set_option maxHeartbeats 2000000
namespace Py
open PySem L2 RZ
/-! ## 21. enumerate, zip -/
def enumD (l : List D) : List D := l.zipIdx.map fun p => .tup [.int p.2, p.1]
def zipD (l m : List D) : List D := List.zipWith (fun a b => D.tup [a, b]) l m
def enumM (m : Env → Rs (List D)) : Env → Rs (List D) := fun ρ => (m ρ).bind fun ds ρ1 => match ds with
  | [.lst l] => .ok (enumD l) ρ1
  | [.tup l] => .ok (enumD l) ρ1
  | [.scr l] => .ok (enumD (l.map D.int)) ρ1
  | _ => .stuck
def zipM (m : Env → Rs (List D)) : Env → Rs (List D) := fun ρ => (m ρ).bind fun ds ρ1 => match ds with
  | [.lst l, .lst k] => .ok (zipD l k) ρ1
  | [.tup l, .tup k] => .ok (zipD l k) ρ1
  | [.lst l, .tup k] => .ok (zipD l k) ρ1
  | [.tup l, .lst k] => .ok (zipD l k) ρ1
  | _ => .stuck
section
variable {Γ : Gm} {fr : Frm} {ta : TA} {ma : Env → Rs (List D)}
theorem SqL.det {K : PySem.W.Frag} {H : Hp} {a : Addr} {xs : List V} {i : Nat} {x : V} (f : ∀ ys, SqL K H a ys → ys[i]? = some x) (h : SqL K H a xs) : xs[i]? = some x := f xs h
theorem new_tup {G : Hp} {S : Addr → Prop} {T : Addr} {x y : V} {dx dy : D} (dom : ∀ a, S a → ∃ o, G a = some o) (hT : G T = none) (h1 : IsD Γ (hide S G) x dx) (h2 : IsD Γ (hide S G) y dy) : Same G (upd G T (.tup [x, y])) ∧ IsD Γ (hide S (upd G T (.tup [x, y]))) (.ref T) (.tup [dx, dy]) := by
  have e : Same G (upd G T (.tup [x, y])) := same_upd hT
  have n : ¬ S T := fun z => by
    obtain ⟨o, q⟩ := dom T z
    rw [hT] at q; cases q
  exact ⟨e, .tup (SqT.of (hide_of n upd_same)) (.cons (h1.le (hide_ext e)) (.cons (h2.le (hide_ext e)) .nil))⟩
theorem sqS_mono {b : Bool} {H G : Hp} {a : Addr} {xs : List V} (e : Same H G) (h : SqS b Γ.K H a xs) : SqS b Γ.K G a xs := by
  cases b
  · exact e.seq h
  · exact sqT_mono e h
theorem jw_enumS {b : Bool} {a : Addr} {xs : List V} {ds : List D} {H0 : Hp} (h : SqS b Γ.K H0 a xs) (r : IsDs Γ H0 xs ds) : JW Γ (ItE b Γ.K a) (enumD ds) H0 := fun i G S e dom => by
  have hq : SqS b Γ.K G a xs := sqS_mono (e.trans hide_le) h
  refine ⟨fun hl => ⟨xs, hq, by rw [r.length]; unfold enumD at hl; simpa using hl⟩, fun d hd => ?_⟩
  unfold enumD at hd
  rw [List.getElem?_map] at hd
  obtain ⟨p, hp, rfl⟩ := Option.map_eq_some_iff.mp hd
  rw [List.getElem?_zipIdx] at hp
  obtain ⟨d0, hd0, rfl⟩ := Option.map_eq_some_iff.mp hp
  obtain ⟨v, hv, hr⟩ := r.get hd0
  refine ⟨⟨xs, v, hq, hv⟩, fun x G' y => ?_⟩
  obtain ⟨T, x0, rfl, hT, rfl, f⟩ := y
  have hx := f xs hq
  rw [hv] at hx
  cases hx
  have := new_tup (dx := .int (i : Nat)) dom hT (.int _) (hr.le e)
  simpa using this
theorem iv_enum (h : EA Γ fr ta ma) : IV Γ fr (iEnumS Γ.K ta) (enumM ma) := fun σ ρ G S c Q p => by
  refine h.step c p fun ds ρ1 xs G1 S1 _ c1 hx p1 => ?_
  cases hx with
  | nil => exact p1.elim
  | cons r1 t1 =>
    cases t1 with
    | cons _ _ => cases r1 <;> exact p1.elim
    | nil =>
      cases r1 with
      | lst h1 h2 => exact ⟨false, _, _, rfl, SqL.of (hide_le _ _ h1), PostG.give (d := _) p1 (Same.refl _) c1 (jw_enumS (b := false) (SqL.of h1) h2)⟩
      | scr h1 => exact ⟨false, _, _, rfl, hide_le.seq h1, PostG.give (d := _) p1 (Same.refl _) c1 (jw_enumS (b := false) h1 (isDs_ints _))⟩
      | tup h1 h2 => exact ⟨true, _, _, rfl, sqT_mono hide_le h1, PostG.give (d := _) p1 (Same.refl _) c1 (jw_enumS (b := true) h1 h2)⟩
      | _ => exact p1.elim
theorem zip_get {l m : List D} {i : Nat} {d : D} (h : (zipD l m)[i]? = some d) : ∃ a b, l[i]? = some a ∧ m[i]? = some b ∧ d = .tup [a, b] := by
  unfold zipD at h
  rw [List.getElem?_zipWith] at h
  cases h1 : l[i]? with
  | none => rw [h1] at h; simp at h
  | some a =>
    cases h2 : m[i]? with
    | none => rw [h1, h2] at h; simp at h
    | some b =>
      rw [h1, h2] at h
      simp at h
      exact ⟨a, b, rfl, rfl, h.symm⟩
theorem jw_zipS {b1 b2 : Bool} {a b : Addr} {xs ys : List V} {ds es : List D} {H0 : Hp} (h : SqS b1 Γ.K H0 a xs) (h' : SqS b2 Γ.K H0 b ys) (r : IsDs Γ H0 xs ds) (r' : IsDs Γ H0 ys es) : JW Γ (ItS b1 b2 Γ.K a b) (zipD ds es) H0 := fun i G S e dom => by
  have hq : SqS b1 Γ.K G a xs := sqS_mono (e.trans hide_le) h
  have hq' : SqS b2 Γ.K G b ys := sqS_mono (e.trans hide_le) h'
  refine ⟨fun hl => ⟨xs, ys, hq, hq', by rw [r.length, r'.length]; unfold zipD at hl; rw [List.length_zipWith] at hl; omega⟩, fun d hd => ?_⟩
  obtain ⟨da, db, h1, h2, rfl⟩ := zip_get hd
  obtain ⟨v, hv, hr⟩ := r.get h1
  obtain ⟨u, hu, hs⟩ := r'.get h2
  refine ⟨⟨xs, ys, v, u, hq, hq', hv, hu⟩, fun x G' y => ?_⟩
  obtain ⟨T, x0, y0, rfl, hT, rfl, f, f'⟩ := y
  have hx := f xs hq
  have hy := f' ys hq'
  rw [hv] at hx
  rw [hu] at hy
  cases hx
  cases hy
  exact new_tup dom hT (hr.le e) (hs.le e)
theorem iv_zip (h : EA Γ fr ta ma) : IV Γ fr (iZipS Γ.K ta) (zipM ma) := fun σ ρ G S c Q p => by
  refine h.step c p fun ds ρ1 xs G1 S1 _ c1 hx p1 => ?_
  cases hx with
  | nil => exact p1.elim
  | cons r1 t1 =>
    cases t1 with
    | nil => cases r1 <;> exact p1.elim
    | cons r2 t2 =>
      cases t2 with
      | cons _ _ => cases r1 <;> first | exact p1.elim | (cases r2 <;> exact p1.elim)
      | nil =>
        cases r1 with
        | lst h1 h2 =>
          cases r2 with
          | lst k1 k2 => exact ⟨false, false, _, _, _, _, rfl, SqL.of (hide_le _ _ h1), SqL.of (hide_le _ _ k1), PostG.give (d := _) p1 (Same.refl _) c1 (jw_zipS (b1 := false) (b2 := false) (SqL.of h1) (SqL.of k1) h2 k2)⟩
          | tup k1 k2 => exact ⟨false, true, _, _, _, _, rfl, SqL.of (hide_le _ _ h1), sqT_mono hide_le k1, PostG.give (d := _) p1 (Same.refl _) c1 (jw_zipS (b1 := false) (b2 := true) (SqL.of h1) k1 h2 k2)⟩
          | _ => exact p1.elim
        | tup h1 h2 =>
          cases r2 with
          | lst k1 k2 => exact ⟨true, false, _, _, _, _, rfl, sqT_mono hide_le h1, SqL.of (hide_le _ _ k1), PostG.give (d := _) p1 (Same.refl _) c1 (jw_zipS (b1 := true) (b2 := false) h1 (SqL.of k1) h2 k2)⟩
          | tup k1 k2 => exact ⟨true, true, _, _, _, _, rfl, sqT_mono hide_le h1, sqT_mono hide_le k1, PostG.give (d := _) p1 (Same.refl _) c1 (jw_zipS (b1 := true) (b2 := true) h1 k1 h2 k2)⟩
          | _ => exact p1.elim
        | _ => exact p1.elim
end
end Py

set_option Elab.async false
set_option linter.all false
set_option maxRecDepth 100000
set_option maxHeartbeats 2000000
namespace Py
open PySem L2
/-! ## 22. A list of one's own as a test -/
def tfOwn (i : Nat) : Env → Rs Bool := fun ρ => match ownL ρ i with
  | some l => .ok (!l.isEmpty) ρ
  | none => .stuck
theorem et_own {Γ : Gm} {fr : Frm} {i : Nat} (hi : fr.isOwn i = true := by rfl) : ET Γ fr (fun σ H Q => tVar i σ H fun x H' => ∃ k, TruV Γ.K x H' k ∧ Q k H') (tfOwn i) := fun σ ρ G S c Q p => by
  unfold tfOwn at p
  cases ho : ownL ρ i with
  | none => rw [ho] at p; exact p.elim
  | some l =>
    rw [ho] at p
    obtain ⟨q, xs, h4, h5, h6, h7, h8⟩ := c.ownAt (isown hi) ho
    have hd : IsD Γ G (.ref q) (.lst l) := .lst h6 (h7.le hide_le)
    exact ⟨.ref q, h4, _, truV_of hd (rfl : truthD (.lst l) = some (!l.isEmpty)) (Same.refl _), PostG.give p (Same.refl _) c rfl⟩
end Py

set_option Elab.async false
set_option linter.all false
set_option maxRecDepth 100000
set_option maxHeartbeats 2000000
namespace Py
open PySem L2 He
open PyProof.Rows (envOfC)
/-! ## 21. Objects of one's own classes -/
def tMakeE (C : Addr) (sp : Sp) (dvs : List V) (E : L2.St → XK) (t : TA) : TE := fun σ H Q => t σ H fun vs H1 => ∀ x dx, H1 x = none → H1 dx = none → dx ≠ x → sp (.ref x :: (vs ++ dvs)) (upd (upd H1 dx (.own x)) x (.ins C dx [])) (fun v H2 => v = .non ∧ Q (.ref x) H2) (E σ)
/-- a class whose __init__ keeps sp -/
def OkM (P : Program) (w : World) (K : PySem.W.Frag) (mg : Str → Option Value) (base : Heap) (x : Str) (C : Addr) (dvs : List V) (k : Nat) (sp : Sp) : Prop :=
  ∃ f fd ps ds, Mk K C f ∧ FnOk P w K mg base (L2.CX P w) k f fd ps sp ∧ mg x = some (.ref C) ∧ Binds K fd ps ds ∧ Vals dvs ds
section
variable {X : Cx} {CX : CXT} {k : Nat} {f C : Addr} {fd : FuncData} {ps : List Str} {sp : Sp} {dvs : List V} {ds : List Value} {E : XK} {W : WX} {x : Str} {p pos : Pos} {e : Expr} {es : List Expr} {t : TA}
theorem run_makeE {pins : List (Addr × Obj)} {σ : L2.St} {H : Hp} {s : Shared} {Q : VK} {us : List Value} {vs : List V} (M : Mk X.K C f) (F : FnOk X.prog X.w X.K X.mg X.base CX k f fd ps sp) (hr : Room (k + 1) X.A) (hb : Binds X.K fd ps ds) (hd : Vals dvs ds)
    (hx : PassesAt CX X σ E) (I : Inv X pins σ H s) (r : Vals vs us)
    (h : ∀ x dx, H x = none → H dx = none → dx ≠ x → sp (.ref x :: (vs ++ dvs)) (upd (upd H dx (.own x)) x (.ins C dx [])) (fun v H2 => v = .non ∧ Q (.ref x) H2) E) :
    wpAny (model X.prog X.w) X.A (call (.ref C) us) (EP X pins σ Q) X.xe s := by
  have hq := h (s.heap.objs.size + 1) s.heap.objs.size (I.hok.fresh (Nat.le_succ _)) (I.hok.fresh (Nat.le_refl _)) (Nat.ne_of_lt (Nat.lt_succ_self _))
  have I2 := Inv.made (C := C) I
  have r2 : Vals (V.ref (s.heap.objs.size + 1) :: (vs ++ dvs)) (Value.ref (s.heap.objs.size + 1) :: (us ++ ds)) := .cons rfl (r.append hd)
  have hl : (Value.ref (s.heap.objs.size + 1) :: us ++ ds).length = ps.length := by
    have e := r2.length
    rw [F.len _ _ _ _ hq] at e
    exact e.symm
  refine wpAny_call (make_map (f := f) I.kIn M.makes M.init (beq_iff_eq.mp M.fn) (codeAny_mono (F.run _ X.stack _ _ ⟨Value.ref (s.heap.objs.size + 1) :: us, []⟩ (Value.ref (s.heap.objs.size + 1) :: (us ++ ds)) _ _ E (hr.make C us [])
    (I2.env0.make C us []) (hb _ (Value.ref (s.heap.objs.size + 1) :: us) I2.kIn hl) r2 hq) fun r s' hq' => ?_))
  cases r with
  | error e => exact hx pins _ _ e s' I2 hq'
  | ok fl =>
    cases fl with
    | ret u =>
      obtain ⟨v, H', I3, rv, ev, q3⟩ := I2.after hq'
      subst ev
      exact ⟨rv, ⟨V.ref (s.heap.objs.size + 1), H', I3, rfl, q3⟩⟩
    | next => exact False.elim hq'
    | brk => exact False.elim hq'
    | cont => exact False.elim hq'
theorem pe_makeX (F : OkM X.prog X.w X.K X.mg X.base x C dvs k sp) (hr : Room (k + 1) X.A) (tk : Takes X W) (ha : PA X (e :: es) t) (hg : Gl X x := by rfl) (hdb : (x == ("__debug__" : Str)) = false := by decide)
    (he : starEach (e :: es) X.env = (false, eval e X.env) :: starEach es X.env := by rfl) (hpl : (backTo pos (starEach es X.env)).any (·.1) = false := by rfl) :
    PE X (.Call (.Name x p) (e :: es) [] pos) (tMakeE C sp dvs (WE W) t) := by
  obtain ⟨f, fd, ps, ds, M, F, hm, hb, hd⟩ := F
  refine ⟨fun pins s σ H Q I h => ?_⟩
  refine wpAny_Call_Name_kw (ld_glob I hg hm ?_ hdb)
  refine PySem.W.callWith_K (h₀ := X.base) I.ok.mod.kin M.kp (thn (ha.run pos pins s σ H _ I h) fun us s1 ⟨vs, H1, I1, r, q⟩ => ⟨I1.kIn, ?_⟩) he hpl
  exact run_makeE M F hr hb hd (passAt tk σ) I1 r q
end
/-- an __init__: the new object is its first argument -/
def spC (Γ : Gm) (c n : Nat) (m : List D → Rf (List Str × List D)) : Sp := fun vs G Q E => vs.length = n ∧ ∃ (S : Addr → Prop) (p dx : Addr) (ws : List V) (ds : List D), vs = .ref p :: ws ∧ (∀ a, S a → ∃ o, G a = some o) ∧ S p ∧ G p = some (.ins (Γ.cl c) dx []) ∧ IsDs Γ (hide S G) ws ds ∧ match m ds with
  | .ok (ns, l) => ∀ G' dx' xs', (∀ a o, a ≠ p → G a = some o → G' a = some o) → G' p = some (.ins (Γ.cl c) dx' (ns.zip xs')) → ns.length = xs'.length → IsDs Γ (hide S G') xs' l → Q .non G'
  | .exc e => ∀ cls d G', (∀ a o, a ≠ p → G a = some o → G' a = some o) → IsX Γ (hide S G') cls d e → E cls d G'
  | .stuck => False
def endC (c : Nat) : Option (Option D) → Rf (List Str × List D)
  | some (some (.ins c' ns l)) => if c' = c then .ok (ns, l) else .stuck
  | _ => .stuck
def runC (c n : Nat) (m : Env → Out) (ds : List D) : Rf (List Str × List D) := match m (entry n (.ins c [] [] :: ds)) with
  | .nx ρ => endC c ρ[0]?
  | .exc e _ => .exc e
  | _ => .stuck
def toM (c : Nat) : Rf (List Str × List D) → Env → Rs D
  | .ok (ns, l), ρ => .ok (.ins c ns l) ρ
  | .exc e, ρ => .exc e ρ
  | .stuck, _ => .stuck
def eMk (c n : Nat) (m : List D → Rf (List Str × List D)) (dd : List D) (ma : Env → Rs (List D)) : Env → Rs D := fun ρ => (ma ρ).bind fun ds ρ1 => if (ds ++ dd).length + 1 = n then toM c (m (ds ++ dd)) ρ1 else .stuck
section
variable {Γ : Gm} {fr : Frm} {σ : L2.St} {ρ : Env} {G G' : Hp} {S S' : Addr → Prop} {te : TE} {m : Env → Rs D} {i n c : Nat} {ta : TA} {ma : Env → Rs (List D)}
theorem ev_mk {f : List D → Rf (List Str × List D)} {dvs : List V} {dd : List D} (ha : EA Γ fr ta ma) (hd : ∀ H, IsDs Γ H dvs dd) : EV Γ fr (tMakeE (Γ.cl c) (spC Γ c n f) dvs (WE fr.W) ta) (eMk c n f dd ma) := fun σ ρ G S co Q p => by
  refine ha.step co p fun ds ρ1 vs G1 S1 _ c1 hx p1 => ?_
  intro x dx hx0 hd0 hne
  have p2 : PostG (fun H v d => IsD Γ H v d) Γ fr σ G1 S1 Q (if (ds ++ dd).length + 1 = n then toM c (f (ds ++ dd)) ρ1 else .stuck) := p1
  have nS : ¬ S1 x := c1.fresh hx0
  have old : ∀ a o, G1 a = some o → upd (upd G1 dx (.own x)) x (.ins (Γ.cl c) dx []) a = some o := fun a o h => by
    rw [upd_ne (ne_of_none h hx0), upd_ne (ne_of_none h hd0)]; exact h
  have le0 : Same (hide S1 G1) (hide (fun a => S1 a ∨ a = x) (upd (upd G1 dx (.own x)) x (.ins (Γ.cl c) dx []))) := fun a o h => by
    obtain ⟨h1, h2⟩ := hide_some.mp h
    exact hide_of (fun z => z.elim h1 (ne_of_none h2 hx0)) (old a o h2)
  by_cases hn : (ds ++ dd).length + 1 = n
  · rw [if_pos hn] at p2
    have hlen : (vs ++ dvs).length = (ds ++ dd).length := by rw [Rb, Rb, hx.length, (hd (fun _ => none)).length]
    refine ⟨by rw [Qz, hlen]; exact hn, fun a => S1 a ∨ a = x, x, dx, vs ++ dvs, ds ++ dd, rfl, fun a h => ?_, .inr rfl, upd_same, (hx.le le0).append (hd _), ?_⟩
    · rcases h with h | rfl
      · obtain ⟨o, ho⟩ := c1.dom a h
        exact ⟨o, old a o ho⟩
      · exact ⟨_, upd_same⟩
    · generalize f (ds ++ dd) = r at p2 ⊢
      cases r with
      | stuck => exact p2
      | ok nl =>
        obtain ⟨ns, l⟩ := nl
        intro G2 dx' xs' k1 k2 k3 k4
        have e : Same G1 G2 := fun a o h => k1 a o (ne_of_none h hx0) (old a o h)
        refine ⟨rfl, ?_⟩
        exact PostG.give (d := D.ins c ns l) p2 (hide_ext e) (c1.ext e) (.ins (hide_of nS k2) k3 (k4.le (hide_less fun a h => .inl h)))
      | exc x' =>
        intro cls d G2 k1 hX
        have e : Same G1 G2 := fun a o h => k1 a o (ne_of_none h hx0) (old a o h)
        have p3 : ∀ cls dx G' S', Same (hide S1 G1) (hide S' G') → Co Γ fr σ ρ1 G' S' → IsX Γ (hide S' G') cls dx x' → fr.W cls dx σ G' := p2
        exact p3 cls d G2 S1 (hide_ext e) (c1.ext e) (hX.le (hide_less fun a h => .inl h))
  · rw [if_neg hn] at p2
    exact p2.elim
variable {P : Program} {w : World} {mg : Str → Option Value} {base : Heap}
theorem okC {dvs : List V} {x qual : Str} {st : Stmt} {f : Addr} {fd : FuncData} {N ps : List Str} {k : Nat} (ow : List Nat) (m : Env → Out) (F : FunD Γ.K x qual (defArgs st) (defBody st) (defScope st) dvs [] f fd) (S : FnScope N ps (defScope st)) (h0 : 0 ∈ ow) (how : ∀ i ∈ ow, i = 0 ∨ ps.length ≤ i)
    (hbody : ∀ (cdv : Value) (A : Around) (outer : List PySem.Env) (s : Shared) (H : Hp) (E : XK) (S0 : Addr → Prop) (p : Addr), Room k (A.deeper (envOfC qual (defScope st) s.heap.objs.size f cdv)) →
      ∃ t, PSs (cxOf (L2.CX P w) P w Γ.K mg base N qual (defScope st) f cdv A outer s H E) (defBody st) t ∧ SV Γ { ow := ow, hd := true, hp := p, B := H, S0 := S0, W := fun cls d _ H => E cls d H } t m) :
    FnOk P w Γ.K mg base (L2.CX P w) (k + 1) f fd ps (spC Γ c ps.length (runC c N.length m)) := by
  refine F.ok (CX := L2.CX P w) S (fun vs H Q E h => h.1) (fun cdv A outer s H vs Q E hr h => ?_)
  obtain ⟨hn, S0, p, dx, ws, ds, rfl, dom, hS, hG, hv, hq⟩ := h
  obtain ⟨t, ht, hs⟩ := hbody cdv A outer s H E S0 p hr
  refine ⟨t, ht, hs (L2.start N (.ref p :: ws)) (entry N.length (.ins c [] [] :: ds)) H S0 ?_ _ ?_⟩
  · exact {
      len := by unfold L2.start entry; simp only [Rb, Qy, List.length_replicate, Qz]; rw [hv.length]
      dom := dom
      sub := fun _ h => h
      keep := fun _ _ _ h => h
      pin := fun _ => start_get rfl
      hs0 := fun _ => hS
      xsl := fun q h => nomatch h
      sh := fun i d h h' => by
        have h1 := entry_some h'
        cases i with
        | zero => exact absurd h0 h
        | succ i =>
          obtain ⟨v, h1, h2⟩ := hv.get (i := i) (by simpa using h1)
          exact ⟨v, start_get (by simpa using h1), h2⟩
      own := fun i d h1 h2 => by
        rcases how i h1 with rfl | h4
        · have h3 := entry_some h2
          cases h3
          exact .inr ⟨p, _, start_get rfl, hS, hG, .ins (ns := []) (xs := []) rfl .nil, .inl ⟨rfl, rfl, rfl⟩⟩
        · have h3 := (List.getElem?_eq_some_iff.mp (entry_some h2)).1
          rw [Qz, ← hv.length] at h3
          rw [Qz] at hn
          omega
      inj := fun i j d e p h1 h1' hne h2 h2' => by
        have key : ∀ {i : Nat} {d : D}, i ∈ ow → (entry N.length (.ins c [] [] :: ds))[i]? = some (some d) → i = 0 := fun {i d} h1 h2 => by
          rcases how i h1 with h4 | h4
          · exact h4
          · have h3 := (List.getElem?_eq_some_iff.mp (entry_some h2)).1
            rw [Qz, ← hv.length] at h3
            rw [Qz] at hn
            omega
        have e1 := key h1 h2
        have e2 := key h1' h2'
        exact absurd (e1.trans e2.symm) hne }
  · unfold runC at hq
    generalize m (entry N.length (.ins c [] [] :: ds)) = r at hq ⊢
    cases r with
    | nx ρ =>
      dsimp only at hq
      intro σ' G' S' e co
      generalize he : ρ[0]? = o at hq
      rcases o with _ | (_ | d)
      · exact hq.elim
      · exact hq.elim
      · cases d with
        | ins c' ns l =>
          by_cases hc : c' = c
          · have e2 : endC c (some (some (.ins c' ns l))) = .ok (ns, l) := if_pos hc
            rw [e2] at hq
            subst hc
            obtain ⟨q, o, g1, g2, g3, g4, _⟩ := (co.own 0 _ h0 he).resolve_left (fun ⟨_, _, z, _⟩ => by cases z)
            have g5 := co.pin rfl
            rw [g1] at g5
            cases g5
            obtain ⟨dx', xs', rfl, k1, k2⟩ := g4.isIns
            exact hq G' dx' xs' (fun a o h1 h2 => co.keep a o (fun _ => h1) h2) g3 k1 (k2.le (hide_less co.sub))
          · have e2 : endC c (some (some (.ins c' ns l))) = .stuck := if_neg hc
            rw [e2] at hq
            exact hq.elim
        | _ => exact hq.elim
    | exc e ρ => exact fun cls d σ' G' S' _ co hX => hq cls d G' (fun a o h1 h2 => co.keep a o (fun _ => h1) h2) (hX.le (hide_less co.sub))
    | ret _ _ => exact hq.elim
    | brk _ => exact hq.elim
    | ct _ => exact hq.elim
    | stuck => exact hq
/-! ### attributes -/
def putNs (f : Str) : List Str → List Str
  | [] => [f]
  | g :: ns => if g = f then g :: ns else g :: putNs f ns
def putVs {α : Type} (f : Str) (d : α) : List Str → List α → List α
  | [], _ => [d]
  | g :: ns, x :: l => if g = f then d :: l else x :: putVs f d ns l
  | _ :: _, [] => []
theorem put_zip (f : Str) (v : V) : ∀ (ns : List Str) (xs : List V), ns.length = xs.length → putF f v (ns.zip xs) = (putNs f ns).zip (putVs f v ns xs) ∧ (putNs f ns).length = (putVs f v ns xs).length
  | [], [], _ => ⟨rfl, rfl⟩
  | [], _ :: _, h => by simp at h
  | _ :: _, [], h => by simp at h
  | g :: ns, x :: xs, h => by
    have ih := put_zip f v ns xs (by simpa using h)
    show (if g = f then (g, v) :: ns.zip xs else (g, x) :: putF f v (ns.zip xs)) = _ ∧ _
    unfold putNs putVs
    by_cases e : g = f
    · rw [if_pos e, if_pos e, if_pos e]
      exact ⟨rfl, by simpa using h⟩
    · rw [if_neg e, if_neg e, if_neg e, ih.1]
      exact ⟨rfl, by simp [ih.2]⟩
theorem put_ds {H : Hp} {f : Str} {v : V} {d : D} (r : IsD Γ H v d) : ∀ {ns : List Str} {xs : List V} {l : List D}, ns.length = xs.length → IsDs Γ H xs l → IsDs Γ H (putVs f v ns xs) (putVs f d ns l)
  | [], _, _, _, _ => .cons r .nil
  | g :: ns, [], _, h, _ => by simp at h
  | g :: ns, x :: xs, _, h, .cons (d := d0) r0 t => by
    unfold putVs
    by_cases e : g = f
    · rw [if_pos e, if_pos e]; exact .cons r t
    · rw [if_neg e, if_neg e]; exact .cons r0 (put_ds r (by simpa using h) t)
def fldO (i c : Nat) (f : Str) (d : D) (ρ : Env) : Option (Option D) → Out
  | some (some (.ins c' ns l)) => if c' = c ∧ ns.length < 900 then .nx (ρ.set i (some (.ins c (putNs f ns) (putVs f d ns l)))) else .stuck
  | _ => .stuck
/-- x.f = e, x an object of one's own -/
def sFldO (i c : Nat) (f : Str) (m : Env → Rs D) : Env → Out := fun ρ => (m ρ).out fun d ρ1 => fldO i c f d ρ1 ρ1[i]?
theorem sv_fldO {f : Str} (h : EV Γ fr te m) (T : Cls Γ.K (Γ.cl c)) (nf : NoAttr Γ.K (Γ.cl c) f) (hi : fr.isOwn i = true := by rfl) (hz : fr.xs = none := by rfl) (hp : fr.hd = true ∧ i = 0 := by exact ⟨rfl, rfl⟩) : SV Γ fr (L2.sFld Γ.K (tVar i) te f) (sFldO i c f m) := fun σ ρ G S co E p => by
  have hi : i ∈ fr.ow := isown hi
  refine h.stepS co p fun d ρ1 x G1 S1 _ c1 hx p1 => ?_
  have p2 : PostS Γ fr G1 S1 E (fldO i c f d ρ1 ρ1[i]?) := p1
  generalize he : ρ1[i]? = o at p2
  unfold fldO at p2
  split at p2
  · rename_i c' ns l
    by_cases hc : c' = c ∧ ns.length < 900
    · rw [if_pos hc] at p2
      obtain ⟨rfl, hl⟩ := hc
      obtain ⟨q, o, g1, g2, g3, g4, g5⟩ := (c1.own i _ hi he).resolve_left (fun ⟨_, _, z, _⟩ => by cases z)
      obtain ⟨dx, xs, rfl, k1, k2⟩ := g4.isIns
      obtain ⟨z1, z2⟩ := put_zip f x ns xs k1
      refine ⟨.ref q, g1, q, _, dx, ns.zip xs, rfl, g3, T, nf, by rw [List.length_zip]; omega, ?_⟩
      rw [z1]
      obtain ⟨c2, eh⟩ := c1.writeO (o' := .ins (Γ.cl c') dx ((putNs f ns).zip (putVs f x ns xs))) (d' := .ins c' (putNs f ns) (putVs f d ns l)) hi he rfl g1 g2 (.ins z2 (put_ds hx k1 k2)) g5
      exact p2 σ _ S1 (by rw [eh]; exact Same.refl _) c2
    · rw [if_neg hc] at p2
      exact p2.elim
  · exact p2.elim
def fldE (cs : List Nat) (f : Str) (ρ : Env) : D → Rs D
  | .ins c ns l => if c ∈ cs then Rs.ofOpt ((ns.zip l).lookup f) ρ else .stuck
  | _ => .stuck
/-- e.f -/
def eFld (cs : List Nat) (f : Str) (m : Env → Rs D) : Env → Rs D := fun ρ => (m ρ).bind fun d ρ1 => fldE cs f ρ1 d
theorem ev_fld {cs : List Nat} {f : Str} (h : EV Γ fr te m) (T : ∀ c ∈ cs, Cls Γ.K (Γ.cl c) ∧ NoAttr Γ.K (Γ.cl c) f) : EV Γ fr (tFld Γ.K te f) (eFld cs f m) := fun σ ρ G S co Q p => by
  refine h.step co p fun d ρ1 x G1 S1 _ c1 hx p1 => ?_
  have p2 : PostG (fun H v d => IsD Γ H v d) Γ fr σ G1 S1 Q (fldE cs f ρ1 d) := p1
  cases hx with
  | @ins a dx c ns xs l h1 h2 h3 =>
    have p3 : PostG (fun H v d => IsD Γ H v d) Γ fr σ G1 S1 Q (if c ∈ cs then Rs.ofOpt ((ns.zip l).lookup f) ρ1 else .stuck) := p2
    by_cases hc : c ∈ cs
    · rw [if_pos hc] at p3
      obtain ⟨d, hd, p4⟩ := PostG.giveO p3
      obtain ⟨v, hv, hr⟩ := lookup_rel h2 h3 hd
      exact ⟨a, _, dx, _, v, rfl, hide_le _ _ h1, (T c hc).1, (T c hc).2, hv, p4.give (Same.refl _) c1 hr⟩
    · rw [if_neg hc] at p3
      exact p3.elim
  | _ => exact p2.elim
def fldEO (cs : List Nat) (f : Str) (ρ : Env) : Option (Option D) → Rs D
  | some (some d) => fldE cs f ρ d
  | _ => .stuck
/-- x.f, x an object of one's own -/
def eFldO (cs : List Nat) (f : Str) (i : Nat) : Env → Rs D := fun ρ => fldEO cs f ρ ρ[i]?
theorem ev_fldO {cs : List Nat} {f : Str} (T : ∀ c ∈ cs, Cls Γ.K (Γ.cl c) ∧ NoAttr Γ.K (Γ.cl c) f) (hi : fr.isOwn i = true := by rfl) : EV Γ fr (tFld Γ.K (tVar i) f) (eFldO cs f i) := fun σ ρ G S co Q p => by
  have hi : i ∈ fr.ow := isown hi
  unfold eFldO at p
  generalize he : ρ[i]? = o at p
  unfold fldEO at p
  split at p
  · rename_i d
    rcases co.own i _ hi he with ⟨d2, v, rfl, _⟩ | ⟨q, o, g1, g2, g3, g4, g5⟩
    · exact p.elim
    refine ⟨.ref q, g1, ?_⟩
    cases g4 with
    | lst _ => exact p.elim
    | dic _ _ _ => exact p.elim
    | @ins dx c ns xs l k1 k2 =>
      have p3 : PostG (fun H v d => IsD Γ H v d) Γ fr σ G S Q (if c ∈ cs then Rs.ofOpt ((ns.zip l).lookup f) ρ else .stuck) := p
      by_cases hc : c ∈ cs
      · rw [if_pos hc] at p3
        obtain ⟨d, hd, p4⟩ := PostG.giveO p3
        obtain ⟨v, hv, hr⟩ := lookup_rel k1 k2 hd
        exact ⟨q, _, dx, _, v, rfl, g3, (T c hc).1, (T c hc).2, hv, p4.give (Same.refl _) co hr⟩
      · rw [if_neg hc] at p3
        exact p3.elim
  · exact p.elim
/-! ### isinstance of one's own class -/
structure InsC (K : PySem.W.Frag) (C : Addr) : Prop where
  cl : Cls K C
  ha : PySem.W.findIn K (.ref C) "__class__" = some (some (.builtin "object.__class__"))
  hn : PySem.W.specialIn K (.builtin "object.__class__") "__get__" = some (some (.builtin "getset_descriptor.__get__"))
  htk : PySem.W.takesIn K (.builtin "object.__class__") = some true
  hm : PySem.W.mroIn K C (.type "object") = some true
theorem lookup_mem {c : Nat} {b : Bool} : ∀ {tb : List (Nat × Bool)}, tb.lookup c = some b → (c, b) ∈ tb
  | [], h => by cases h
  | (k, z) :: r, h => by
    rw [List.lookup_cons] at h
    split at h
    · rename_i hk
      have e : c = k := by simpa using hk
      subst e
      cases h
      exact List.mem_cons_self
    · exact List.mem_cons_of_mem _ (lookup_mem h)
/-- the class c0, what isinstance says of the objects of the classes in tb -/
def dIsiC (tb : List (Nat × Bool)) : D → Option D
  | .ins c _ _ => (tb.lookup c).map fun b => .bl b
  | .dic _ _ => none
  | .exv _ _ _ => none
  | _ => some (.bl false)
theorem ev_isiC {tb : List (Nat × Bool)} {c0 : Nat} (h : EV Γ fr te m) (T : ∀ a ∈ tyNms, PySem.W.kitOne Γ.K (.type a) (.ref (Γ.cl c0)) = some false) (T2 : ∀ p ∈ tb, InsC Γ.K (Γ.cl p.1) ∧ PySem.W.kitOne Γ.K (.ref (Γ.cl p.1)) (.ref (Γ.cl c0)) = some p.2) :
    EV Γ fr (tCB (rIsi Γ.K) (tCons te (tCons (tC (.ref (Γ.cl c0))) tNil))) (eUn (dIsiC tb) m) := fun σ ρ G S c Q p => by
  refine h.step c p fun d ρ1 x G1 S1 _ c1 hx p1 => ?_
  obtain ⟨dz, hf, p3⟩ := p1.giveO
  have plain : ∀ a, tyNm d = some a → dz = .bl false → (∃ (x' c' : V) (t u : Value) (b : Bool), [x, V.ref (Γ.cl c0)] = [x', c'] ∧ ClsV c' u ∧ TyX Γ.K G1 x' t ∧ PySem.W.kitOne Γ.K t u = some b ∧ Q (.bl b) G1) := fun a ha hz => by
    subst hz
    obtain ⟨h1, h2⟩ := tyX_of hx ha hide_le
    exact ⟨x, .ref (Γ.cl c0), _, _, false, rfl, .own _, h1, T a h2, p3.give (Same.refl _) c1 (.bl _)⟩
  cases hx with
  | @ins a dx c ns xs l h1 h2 h3 =>
    have hf' : (tb.lookup c).map (fun b => D.bl b) = some dz := hf
    cases hl : tb.lookup c with
    | none => rw [hl] at hf'; cases hf'
    | some b =>
      rw [hl] at hf'
      cases hf'
      have hmem : (c, b) ∈ tb := lookup_mem hl
      obtain ⟨I, hk⟩ := T2 _ hmem
      exact ⟨.ref a, .ref (Γ.cl c0), _, _, b, rfl, .own _, .base (.ins (hide_le _ _ h1) I.cl I.ha I.hn I.htk I.hm), hk, p3.give (Same.refl _) c1 (.bl _)⟩
  | non => cases hf; exact plain _ rfl rfl
  | bl _ => cases hf; exact plain _ rfl rfl
  | int _ => cases hf; exact plain _ rfl rfl
  | str _ => cases hf; exact plain _ rfl rfl
  | tup _ _ => cases hf; exact plain _ rfl rfl
  | lst _ _ => cases hf; exact plain _ rfl rfl
  | scr _ => cases hf; exact plain _ rfl rfl
  | dic _ _ _ _ => cases hf
  | exv _ _ _ => cases hf
end
/-! ### facts by names -/
theorem cls_at {K : PySem.W.Frag} {x : Str} (c : fCls x K = true) : Cls K (ga K x) := by
  obtain ⟨h1, c⟩ := ba c
  obtain ⟨h2, c⟩ := ba c
  obtain ⟨h3, h4⟩ := ba c
  exact ⟨h1, h2, h3, eqO_ok h4⟩
theorem insC_at {K : PySem.W.Frag} {x : Str} (c : fInsC x K = true) : InsC K (ga K x) := by
  obtain ⟨h1, c⟩ := ba c
  obtain ⟨h2, c⟩ := ba c
  obtain ⟨h3, c⟩ := ba c
  obtain ⟨h4, h5⟩ := ba c
  exact ⟨cls_at h1, eqO_ok h2, eqO_ok h3, of_decide_eq_true h4, of_decide_eq_true h5⟩
theorem mk_at {K : PySem.W.Frag} {x : Str} (c : fMk x K = true) : Mk K (ga K x) (ma K (ga K x) "__init__") := by
  obtain ⟨h1, c⟩ := ba c
  obtain ⟨h2, c⟩ := ba c
  obtain ⟨h3, h4⟩ := ba c
  exact ⟨h1, eqO_ok h2, h3, h4⟩
theorem kitT_at {K : PySem.W.Frag} {x : Str} (c : fKitT x K = true) : ∀ a ∈ tyNms, PySem.W.kitOne K (.type a) (.ref (ga K x)) = some false := fun a h => of_decide_eq_true (List.all_eq_true.mp c a h)
theorem kitB_at {K : PySem.W.Frag} {x y : Str} {b : Bool} (c : fKitB x y b K = true) : PySem.W.kitOne K (.ref (ga K x)) (.ref (ga K y)) = some b := of_decide_eq_true c
end Py

set_option Elab.async false
set_option linter.all false
set_option maxRecDepth 100000
set_option maxHeartbeats 2000000
namespace Py
open PySem L2 He
open PyProof.Rows (envOfC)
/-! ## Errors held as data -/
def tMkP (C : Addr) : TE := fun σ H Q => ∀ a, H a = none → Q (.ref a) (upd H a (exo a C none))
theorem pe_mkP {X : Cx} {x : Str} {C : Addr} {p pos : Pos} (F : ExcP X.K X.mg x C) (hg : Gl X x := by rfl) (hdb : (x == ("__debug__" : Str)) = false := by decide) : PE X (.Call (.Name x p) [] [] pos) (tMkP C) := by
  obtain ⟨q, hm, kC, sC, tC⟩ := F
  refine ⟨fun pins s σ H Q I h => wpAny_Call_Name_kw (ld_glob I hg hm ?_ hdb)⟩
  refine PySem.W.callWith_K0 I.kIn kC ?_
  obtain ⟨bm, N, nm, qn, bs, hdct, sn, sub, ab, col, dd, k0, k1, k2, k3, k5, mN, hC, hN, hni, T⟩ := exc_obj I.kIn q
  refine wpAny_call_exc_subT PySem.F.excBase_ValueError T hC hN hni (fun h' e made => ?_) (by show 0 ≤ sizeLine; omega)
  obtain ⟨t, ht, _, _⟩ := made.there
  have hn := I.hok.gone made.new
  exact ⟨V.ref e, _, I.laidN made.keeps made.new hn (exo_ok ht), rfl, h e hn⟩
def eMkP (c : Nat) : Env → Rs D := fun ρ => .ok (.exv c [] []) ρ
def eMk1 (c : Nat) (f : Str) (m : Env → Rs D) : Env → Rs D := fun ρ => (m ρ).bind fun d ρ1 => .ok (.exv c [f] [d]) ρ1
def eMk2 (c : Nat) (f g : Str) (m1 m2 : Env → Rs D) : Env → Rs D := fun ρ => (m1 ρ).bind fun d ρ1 => (m2 ρ1).bind fun e ρ2 => .ok (.exv c [g, f] [e, d]) ρ2
section
variable {Γ : Gm} {fr : Frm} {σ : L2.St} {ρ : Env} {G G' : Hp} {S S' : Addr → Prop} {te te2 : TE} {m m2 : Env → Rs D} {c : Nat} {f g : Str}
theorem ev_mkP : EV Γ fr (tMkP (Γ.cl c)) (eMkP c) := fun σ ρ G S co Q p a ha => by
  have p2 : PostG (fun H v d => IsD Γ H v d) Γ fr σ G S Q (.ok (.exv c [] []) ρ) := p
  exact PostG.give (d := D.exv c [] []) p2 (hide_ext (same_upd ha)) (co.ext (same_upd ha)) (.exv (hide_of (co.fresh ha) upd_same) ⟨rfl, .inl ⟨rfl, rfl⟩⟩ .nil)
theorem ev_mk1 (h : EV Γ fr te m) : EV Γ fr (tMkV (Γ.cl c) (spI1 (Γ.cl c) f) (tCons te tNil)) (eMk1 c f m) := fun σ ρ G S co Q p => by
  refine h.step co p fun d ρ1 x G1 S1 _ c1 hx p1 => ?_
  have p2 : PostG (fun H v d => IsD Γ H v d) Γ fr σ G1 S1 Q (.ok (.exv c [f] [d]) ρ1) := p1
  refine ⟨Nat.le_of_ble_eq_true rfl, fun a ha => ⟨a, x, rfl, upd_same, fun dx hdx hne => ⟨rfl, ?_⟩⟩⟩
  have hdx' : G1 dx = none := by rw [upd_ne hne] at hdx; exact hdx
  have e : Same G1 (upd (upd (upd G1 a (exo a (Γ.cl c) none)) dx (exd dx [(f, x)])) a (exo a (Γ.cl c) (some dx))) := fun b o hb => by
    have n1 : b ≠ dx := ne_of_none hb hdx'
    have n2 : b ≠ a := ne_of_none hb ha
    rw [upd_ne n2, upd_ne n1, upd_ne n2]; exact hb
  exact PostG.give (d := D.exv c [f] [d]) p2 (hide_ext e) (c1.ext e) (.exv (xs := [x]) (dx := some dx) (hide_of (c1.fresh ha) upd_same) ⟨rfl, .inr ⟨dx, rfl, hide_of (c1.fresh hdx') (by rw [upd_ne hne, upd_same]; rfl)⟩⟩ (.cons (hx.le (hide_ext e)) .nil))
theorem ev_mk2 (h : EV Γ fr te m) (h2 : EV Γ fr te2 m2) : EV Γ fr (tMkV (Γ.cl c) (spI2 (Γ.cl c) f g) (tCons te (tCons te2 tNil))) (eMk2 c f g m m2) := fun σ ρ G S co Q p => by
  refine h.step co p fun d ρ1 x G1 S1 _ c1 hx p1 => ?_
  refine h2.step c1 p1 fun d2 ρ2 y G2 S2 e12 c2 hy p2 => ?_
  have p3 : PostG (fun H v d => IsD Γ H v d) Γ fr σ G2 S2 Q (.ok (.exv c [g, f] [d2, d]) ρ2) := p2
  refine ⟨Nat.le_of_ble_eq_true rfl, fun a ha => ⟨a, x, y, rfl, upd_same, fun dx hdx hne => ⟨rfl, ?_⟩⟩⟩
  have hdx' : G2 dx = none := by rw [upd_ne hne] at hdx; exact hdx
  have e : Same G2 (upd (upd (upd (upd G2 a (exo a (Γ.cl c) none)) dx (exd dx [(f, x)])) a (exo a (Γ.cl c) (some dx))) dx (exd dx [(g, y), (f, x)])) := fun b o hb => by
    have n1 : b ≠ dx := ne_of_none hb hdx'
    have n2 : b ≠ a := ne_of_none hb ha
    rw [upd_ne n1, upd_ne n2, upd_ne n1, upd_ne n2]; exact hb
  exact PostG.give (d := D.exv c [g, f] [d2, d]) p3 (hide_ext e) (c2.ext e) (.exv (xs := [y, x]) (dx := some dx) (hide_of (c2.fresh ha) (by rw [upd_ne (Ne.symm hne), upd_same])) ⟨rfl, .inr ⟨dx, rfl, hide_of (c2.fresh hdx') upd_same⟩⟩ (.cons (hy.le (hide_ext e)) (.cons ((hx.le e12).le (hide_ext e)) .nil)))
end
/-! ### isinstance -/
theorem inst_exv {P : Program} {w : World} {H : Hp} {h : Heap} {a C : Addr} {dx : Option Addr} {ns : List Str} {xs : List V} (hok : HOk P w H h) (ha : H a = some (exo a C dx)) (hd : ExD H dx ns xs) :
    ∃ t1 od, PySem.W.InstAt h a ({ cls := .ref C, dict := dx, data := .fields #[.ref t1, .none, .none, .none, .bool false, .none] } : Obj) C od := by
  obtain ⟨t1, hg⟩ := exo_at hok ha
  obtain ⟨_, (⟨_, rfl⟩ | ⟨x, rfl, hx⟩)⟩ := hd
  · exact ⟨t1, none, hg, rfl, rfl, trivial⟩
  · obtain ⟨mA, hns, _⟩ := exd_at hok hx
    obtain ⟨od, ho, _⟩ := lookIn_ns hns
    exact ⟨t1, some od, hg, rfl, rfl, ho⟩
def rIsV (K : PySem.W.Frag) : List V → Hp → VK → Prop := fun xs H Q => ∃ (a C : Addr) (dx : Option Addr) (ns : List Str) (vs : List V) (c : V) (u : Value) (b : Bool), xs = [.ref a, c] ∧ ClsV c u ∧ H a = some (exo a C dx) ∧ ExD H dx ns vs ∧ ExcC K C ∧ PySem.W.kitOne K (.ref C) u = some b ∧ Q (.bl b) H
theorem call_isV {X : Cx} : CallR X (.builtin "isinstance") (rIsV X.K) := by
  intro pins s σ H xs us Q I r h
  obtain ⟨a, C, dx, ns, vs, c, u, b, rfl, k, ha, hd, T, e, q⟩ := h
  obtain ⟨u1, u2, rfl, r1, r2⟩ := vals2 r
  cases k.eq r2
  obtain rfl : u1 = Value.ref a := r1
  obtain ⟨t1, od, J⟩ := inst_exv I.hok ha hd
  obtain ⟨cd, hc, _⟩ := PySem.W.any_some T.hd
  exact PySem.W.kia_one (PySem.W.kitx_exc (by rw [hc]; rfl) T.hg T.hk T.hs T.ha T.hn T.ht T.hm) I.kIn J e (fun z => nomatch z) fun tk => ⟨.bl b, H, I.tok tk, rfl, q⟩
/-! ### attributes -/
/-- e.f, e an error held as data -/
def tXv (K : PySem.W.Frag) (te : TE) (f : Str) : TE := fun σ H Q => te σ H fun x H1 => ∃ (a C : Addr) (dx : Option Addr) (ns : List Str) (vs : List V) (v : V), x = .ref a ∧ H1 a = some (exo a C dx) ∧ ExD H1 dx ns vs ∧ XfC K C ∧ PySem.W.findIn K (.ref C) f = some none ∧ (ns.zip vs).lookup f = some v ∧ Q v H1
theorem pe_xv {X : Cx} {e : Expr} {te : TE} {pos : Pos} {n : Str} (he : PE X e te) (hb : attributeBase e n X.env (eval e X.env) = eval e X.env := by rfl) : PE X (.Attribute e n pos) (tXv X.K te n) := by
  refine ⟨fun pins s σ H Q I h => ?_⟩
  refine attr_of hb (thn (he.run pins s σ H _ I h) fun u s1 hh => ?_)
  obtain ⟨x, H1, I1, rx, a, C, dx, ns, vs, v, rfl, ha, hd, T, hno, l, q⟩ := hh
  obtain rfl : u = Value.ref a := rx
  obtain ⟨_, (⟨rfl, _⟩ | ⟨dd, rfl, hx⟩)⟩ := hd
  · cases l
  · obtain ⟨t1, hg⟩ := exo_at I1.hok ha
    obtain ⟨mA, hns, hr⟩ := exd_at I1.hok hx
    obtain ⟨od, ho, hl⟩ := lookIn_ns hns
    obtain ⟨u, hu, ru⟩ := RelO.some_of (v := v) (o := mA n) (by rw [← l]; exact hr n)
    have J : PySem.W.InstAt s1.heap a ({ cls := .ref C, dict := some dd, data := .fields #[.ref t1, .none, .none, .none, .bool false, .none] } : Obj) C (some od) := ⟨hg, rfl, rfl, ho⟩
    exact HandSPX.exc_get I1.kIn J T.ga T.gg T.exC (PySem.W.findObj_own T.hdC hno rfl (by rw [hl, hu])) (handed_of ru) ⟨v, H1, I1.tok _, ru, q⟩
def xvE (cs : List Nat) (f : Str) (ρ : Env) : D → Rs D
  | .exv c ns l => if c ∈ cs then Rs.ofOpt ((ns.zip l).lookup f) ρ else .stuck
  | _ => .stuck
def eXv (cs : List Nat) (f : Str) (m : Env → Rs D) : Env → Rs D := fun ρ => (m ρ).bind fun d ρ1 => xvE cs f ρ1 d
/-- what isinstance says of the errors of the classes in tb -/
def dIsiX (tb : List (Nat × Bool)) : D → Option D
  | .exv c _ _ => (tb.lookup c).map fun b => .bl b
  | _ => none
section
variable {Γ : Gm} {fr : Frm} {te : TE} {m : Env → Rs D}
theorem ev_xv {cs : List Nat} {f : Str} (h : EV Γ fr te m) (T : ∀ c ∈ cs, XfC Γ.K (Γ.cl c) ∧ PySem.W.findIn Γ.K (.ref (Γ.cl c)) f = some none) : EV Γ fr (tXv Γ.K te f) (eXv cs f m) := fun σ ρ G S co Q p => by
  refine h.step co p fun d ρ1 x G1 S1 _ c1 hx p1 => ?_
  have p2 : PostG (fun H v d => IsD Γ H v d) Γ fr σ G1 S1 Q (xvE cs f ρ1 d) := p1
  cases hx with
  | @exv a dx c ns xs l h1 h0 h3 =>
    have p3 : PostG (fun H v d => IsD Γ H v d) Γ fr σ G1 S1 Q (if c ∈ cs then Rs.ofOpt ((ns.zip l).lookup f) ρ1 else .stuck) := p2
    by_cases hc : c ∈ cs
    · rw [if_pos hc] at p3
      obtain ⟨d, hd, p4⟩ := PostG.giveO p3
      obtain ⟨v, hv, hr⟩ := lookup_rel h0.1 h3 hd
      exact ⟨a, _, dx, ns, xs, v, rfl, hide_le _ _ h1, h0.mono hide_le, (T c hc).1, (T c hc).2, hv, p4.give (Same.refl _) c1 hr⟩
    · rw [if_neg hc] at p3
      exact p3.elim
  | _ => exact p2.elim
theorem ev_isiX {tb : List (Nat × Bool)} {cv : V} {u : Value} (h : EV Γ fr te m) (hcv : ClsV cv u) (T : ∀ p ∈ tb, ExcC Γ.K (Γ.cl p.1) ∧ PySem.W.kitOne Γ.K (.ref (Γ.cl p.1)) u = some p.2) :
    EV Γ fr (tCB (rIsV Γ.K) (tCons te (tCons (tC cv) tNil))) (eUn (dIsiX tb) m) := fun σ ρ G S c Q p => by
  refine h.step c p fun d ρ1 x G1 S1 _ c1 hx p1 => ?_
  obtain ⟨dz, hf, p3⟩ := p1.giveO
  cases hx with
  | @exv a dx c ns xs l h1 h0 h3 =>
    have hf' : (tb.lookup c).map (fun b => D.bl b) = some dz := hf
    cases hl : tb.lookup c with
    | none => rw [hl] at hf'; cases hf'
    | some b =>
      rw [hl] at hf'
      cases hf'
      obtain ⟨I, hk⟩ := T _ (lookup_mem hl)
      exact ⟨a, _, dx, ns, xs, cv, u, b, rfl, hcv, hide_le _ _ h1, h0.mono hide_le, I, hk, p3.give (Same.refl _) c1 (.bl _)⟩
  | _ => cases hf
end
end Py

set_option Elab.async false
set_option linter.all false
set_option maxRecDepth 100000
set_option maxHeartbeats 2000000
namespace Py
open PySem L2 He
open PyProof.Rows (envOfC)
/-! ## N.__init__(self, ..), N an own error class without an __init__ -/
structure NeI (K : PySem.W.Frag) (C : Addr) : Prop where
  ga : PySem.W.specialIn K (.ref C) "__getattribute__" = some (some (.builtin "type.__getattribute__"))
  rd : PySem.W.readsIn K C (.type "type") = true
  fi : PySem.W.findCls K (.ref C) (.type "type") "__init__" = some (.val (.builtin "ValueError.__init__"))
section
variable {X : Cx} {e : Expr} {es : List Expr} {ta : TA} {p1 p2 pos : Pos} {x : Str} {C : Addr}
theorem pe_neinit {pl : Sem Bool} (N : NeI X.K C) (hm : X.mg x = some (.ref C)) (ha : PA X (e :: es) ta) (hg : Gl X x := by rfl) (hdb : (x == ("__debug__" : Str)) = false := by decide)
    (hc : eval (.Call (.Attribute (.Name x p1) "__init__" p2) (e :: es) [] pos) X.env = (do
      let ov ← eval (.Name x p1) X.env
      standAt p2.atName
      let (f, first) ← holding [ov] (getMethod ov "__init__" pl)
      callWith pos f first (backTo pos (starEach (e :: es) X.env)) (backToKw pos (keywordEach [] X.env))) := by rfl)
    (he : starEach (e :: es) X.env = (false, eval e X.env) :: starEach es X.env := by rfl) (hpl : (backTo pos (starEach es X.env)).any (·.1) = false := by rfl) :
    PE X (.Call (.Attribute (.Name x p1) "__init__" p2) (e :: es) [] pos) (tVeI X.K ta) := by
  refine ⟨fun pins s σ H Q I h => ?_⟩
  refine PySem.W.methodCall_KW (ld_glob I hg hm ?_ hdb) hc
  refine PySem.W.method_cls I.kIn N.ga (PySem.W.cls_value I.kIn N.rd N.fi (by decide +kernel) ?_)
  show wpAny _ _ (callWith pos (Value.builtin "ValueError.__init__") [] (backTo pos (starEach (e :: es) X.env)) []) _ _ _
  refine PyProof.Rows.callWith_method1 (thn (ha.run pos pins _ σ H _ (I.tok _) h) fun us s1 ⟨vs, H1, I1, r1, a, C, ws, ev, hl, T, ea, q⟩ => ?_) he hpl
  subst ev
  cases r1 with
  | @cons _ u0 _ ur ra rw' =>
    obtain rfl : u0 = Value.ref a := ra
    have hlen : ur.length ≤ sizeLine := by
      rw [← Paired.length rw', sizeLine_eq]
      omega
    exact oinit_ok T I1 ea hlen fun s' J => ⟨.non, H1, J, rfl, q⟩
end
theorem veB_ok {r : Option PySem.W.CFound} (h : veB r = true) : r = some (.val (.builtin "ValueError.__init__")) := by
  unfold veB at h
  split at h
  · rw [beq_iff_eq.mp h]
  · cases h
theorem neI_at {K : PySem.W.Frag} {x : Str} (c : fNeI x K = true) : NeI K (ga K x) := by
  obtain ⟨h1, c⟩ := ba c
  obtain ⟨h2, h3⟩ := ba c
  exact ⟨eqO_ok h1, h2, veB_ok h3⟩
end Py
namespace Py
open PySem L2 He
open PyProof.Rows (envOfC)
/-! ### __init__ that calls it -/
def spI0 (C : Addr) : Sp := fun vs H Q _ => ∃ a : Addr, vs = [.ref a] ∧ H a = some (exo a C none) ∧ Q .non H
section
variable {P : Program} {w : World} {K : PySem.W.Frag} {mg : Str → Option Value} {base : Heap} {C f : Addr} {x qual p fl : Str} {st : Stmt} {fd : FuncData} {tx : Str}
theorem ok_i0n (F : FunD K x qual (defArgs st) (defBody st) (defScope st) [] [] f fd) (S : FnScope ["self"] ["self"] (defScope st)) (T : OexC K C)
    (hb : ∀ (cdv : Value) (A : Around) (outer : List PySem.Env) (s : Shared) (H : Hp) (E : XK), PSs (cxOf (L2.CX P w) P w K mg base ["self"] qual (defScope st) f cdv A outer s H E) (defBody st) (tDrop (tVeI K (tCons (tVar 0) (tCons (tC (.str tx)) tNil))))) :
    FnOk P w K mg base (L2.CX P w) 1 f fd ["self"] (spI0 C) := by
  refine F.ok (CX := L2.CX P w) S (fun vs H Q E h => ?_) (fun cdv A outer s H vs Q E hr h => ?_)
  · obtain ⟨a, rfl, _⟩ := h; rfl
  · obtain ⟨a, rfl, ha, k⟩ := h
    exact ⟨_, hb cdv A outer s H E, .ref a, rfl, a, C, [.str tx], rfl, Nat.le_of_ble_eq_true rfl, T, ha, k⟩
theorem ok_i1n (F : FunD K x qual (defArgs st) (defBody st) (defScope st) [] [] f fd) (S : FnScope ["self", p] ["self", p] (defScope st)) (T : OexC K C) (hno : PySem.W.findIn K (.ref C) fl = some none)
    (hb : ∀ (cdv : Value) (A : Around) (outer : List PySem.Env) (s : Shared) (H : Hp) (E : XK), PSs (cxOf (L2.CX P w) P w K mg base ["self", p] qual (defScope st) f cdv A outer s H E) (defBody st) (tSeq (tDrop (tVeI K (tCons (tVar 0) (tCons (tC (.str tx)) tNil)))) (tOst K fl (tVar 0) (tVar 1)))) :
    FnOk P w K mg base (L2.CX P w) 1 f fd ["self", p] (spI1 C fl) := by
  refine F.ok (CX := L2.CX P w) S (fun vs H Q E h => ?_) (fun cdv A outer s H vs Q E hr h => ?_)
  · obtain ⟨a, y, rfl, _⟩ := h; rfl
  · obtain ⟨a, y, rfl, ha, k⟩ := h
    exact ⟨_, hb cdv A outer s H E, .ref a, rfl, a, C, [.str tx], rfl, Nat.le_of_ble_eq_true rfl, T, ha, y, rfl, .ref a, rfl, a, C, rfl, T, hno, .inl ⟨ha, fun dx h1 h2 => k dx h1 h2⟩⟩
end
/-! ### making one without fields -/
section
variable {Γ : Gm} {fr : Frm} {c : Nat}
theorem ev_mk0 : EV Γ fr (tMkV (Γ.cl c) (spI0 (Γ.cl c)) tNil) (eMkP c) := fun σ ρ G S co Q p => by
  have p2 : PostG (fun H v d => IsD Γ H v d) Γ fr σ G S Q (.ok (.exv c [] []) ρ) := p
  exact ⟨Nat.zero_le _, fun a ha => ⟨a, rfl, upd_same, rfl, PostG.give (d := D.exv c [] []) p2 (hide_ext (same_upd ha)) (co.ext (same_upd ha)) (.exv (hide_of (co.fresh ha) upd_same) ⟨rfl, .inl ⟨rfl, rfl⟩⟩ .nil)⟩⟩
end
end Py
namespace Py
open PySem L2 He
theorem excC_at {K : PySem.W.Frag} {D : Addr} (c : fExcC D K = true) : ExcC K D := by
  obtain ⟨h1, c⟩ := ba c
  obtain ⟨h2, c⟩ := ba c
  obtain ⟨h3, c⟩ := ba c
  obtain ⟨h4, c⟩ := ba c
  obtain ⟨h5, c⟩ := ba c
  obtain ⟨h6, c⟩ := ba c
  obtain ⟨h7, h8⟩ := ba c
  exact ⟨eqO_ok h1, eqO_ok h2, of_decide_eq_true h3, h4, eqO_ok h5, eqO_ok h6, of_decide_eq_true h7, of_decide_eq_true h8⟩
theorem ix_at {K : PySem.W.Frag} {nm : List Str} {cs : List Nat} {tb : List (Nat × Bool)} {u : PySem.W.Frag → Value} (c1 : fExcA nm cs K = true) (c2 : fIx nm tb u K = true) (hc : (tb.all fun p => cs.contains p.1) = true) :
    ∀ p ∈ tb, ExcC K (nmC nm K p.1) ∧ PySem.W.kitOne K (.ref (nmC nm K p.1)) (u K) = some p.2 := fun p hp => by
  have h1 := List.all_eq_true.mp hc p hp
  exact ⟨excC_at (List.all_eq_true.mp c1 p.1 (by simpa using h1)), of_decide_eq_true (List.all_eq_true.mp c2 p hp)⟩
end Py

set_option Elab.async false
set_option linter.all false
set_option maxRecDepth 100000
set_option maxHeartbeats 2000000
namespace Py
open PySem L2 He
/-! rules for suites and tries whose statements stand in no pattern -/
theorem pe_bmK {X : Cx} {K : PySem.W.Frag} {o e : Expr} {es : List Expr} {to : TE} {t : TA} {name : Str} {apos cpos : Pos} {T id : String} {r : V → List V → Hp → VK → Prop} (hK : X.K = K)
    (hp : PlainAttrs T) (hs : Slot T name id) (ht : typeOf (Value.builtin id) = pure (Value.type "method_descriptor")) (hm : MtR X id r) (ho : PE X o to) (ha : PA X (e :: es) t)
    (hb : attributeBase o name X.env (eval o X.env) = eval o X.env := by rfl) (hfew : ((((backTo cpos (starEach (e :: es) X.env)).all fun x => !x.1) && (backToKw cpos (keywordEach [] X.env)).all fun x => x.1.isSome) && decide (((e :: es).length + ([] : List Keyword).length + if ([] : List Keyword).isEmpty then 0 else 1) < 30)) = true := by rfl)
    (hline : (apos.endLine == cpos.line) = true := by rfl) (hst : starEach (e :: es) X.env = (false, eval e X.env) :: starEach es X.env := by rfl) (hpl : ((backTo cpos (starEach es X.env)).any fun x => x.1) = false := by rfl) :
    PE X ((o.Attribute name apos).Call (e :: es) [] cpos) (tBM K T r to t) := by
  subst hK
  exact pe_bm hp hs ht hm ho ha hb hfew hline hst hpl
theorem call_isYK {X : Cx} {K : PySem.W.Frag} {a : Addr} {oe : Obj} {cls : Value} {dx : Option Addr} (hK : X.K = K) (hz : Zc cls dx oe) (hq : (a, oe) ∈ X.pn) : CallR X (.builtin "isinstance") (rIsY K cls a) := by
  subst hK
  exact call_isY (q := (a, oe)) hz hq
def tRz (C : Addr) (W : WX) : TS := fun _ σ H => W (.ref C) none σ H
theorem ps_raisePz {X : Cx} {W : WX} {x : Str} {C : Addr} {p pos pos2 : Pos} (hc : X.calm = true) (F : ExcP X.K X.mg x C) (tk : Takes X W) (hg : Gl X x := by rfl) (hdb : (x == ("__debug__" : Str)) = false := by decide) : PS X (.Raise (some (.Call (.Name x p) [] [] pos)) none pos2) (tRz C W) := ps_raiseP hc F tk hg hdb
theorem sv_raise0z {Γ : Gm} {fr : Frm} {c : Nat} {W : WX} (hW : fr.W = W) : SV Γ fr (tRz (Γ.cl c) W) (sRaise0 c) := sv_raise0 hW
theorem ix_at2 {K : PySem.W.Frag} {nm : List Str} {cs : List Nat} {tb : List (Nat × Bool)} {u : Value} (c1 : fExcA nm cs K = true) (k : ∀ p ∈ tb, PySem.W.kitOne K (.ref (nmC nm K p.1)) u = some p.2) (hc : (tb.all fun p => cs.contains p.1) = true) :
    ∀ p ∈ tb, ExcC K (nmC nm K p.1) ∧ PySem.W.kitOne K (.ref (nmC nm K p.1)) u = some p.2 := fun p hp => by
  have h1 := List.all_eq_true.mp hc p hp
  exact ⟨excC_at (List.all_eq_true.mp c1 p.1 (by simpa using h1)), k p hp⟩
end Py

set_option Elab.async false
set_option linter.all false
set_option maxRecDepth 100000
set_option maxHeartbeats 2000000
namespace Py
open PySem L2 He
open PyProof.Rows (envOfC)
/-! ## 22. sorted, of any data -/
def rSortedD (K : PySem.W.Frag) : List V → Hp → VK → Prop := fun vs H Q => ∃ (a : Addr) (bs : List (V × PyData)), vs = [V.ref a] ∧ SqL K H a (bs.map (·.1)) ∧ (∀ b ∈ bs, Dp K H b.1 b.2) ∧ PySem.W.AllAlike (bs.map Prod.snd) ∧ PySem.W.Sortable (bs.map Prod.snd) ∧ (∀ b ∈ bs, b.2.depth ≤ 40) ∧
  ∀ p, H p = none → Q (.ref p) (upd H p (.lst ((bs.mergeSort (PySem.W.dataLe false Prod.snd)).map (·.1))))
section
variable {X : Cx}
theorem each_vals : ∀ {bs : List (V × PyData)} {us : List Value}, Vals (bs.map (·.1)) us → PySem.W.EachIs (fun (u : Value) (b : V × PyData) => RelV b.1 u) us bs
  | [], us, h => by cases h; exact .nil
  | b :: bs, us, h => by
    cases h with
    | cons h1 h2 => exact .cons h1 (each_vals h2)
theorem vals_each : ∀ {bs : List (V × PyData)} {us : List Value}, PySem.W.EachIs (fun (u : Value) (b : V × PyData) => RelV b.1 u) us bs → Vals (bs.map (·.1)) us
  | [], us, h => by cases h; exact .nil
  | b :: bs, us, h => by
    cases h with
    | cons h1 h2 => exact .cons h1 (vals_each h2)
theorem each_reads {pins : List (Addr × Obj)} {σ : L2.St} {H : Hp} {s : Shared} (I : Inv X pins σ H s) : ∀ {bs : List (V × PyData)} {us : List Value}, (∀ b ∈ bs, Dp X.K H b.1 b.2) → PySem.W.EachIs (fun (u : Value) (b : V × PyData) => RelV b.1 u) us bs → PySem.W.EachIs (fun (u : Value) (b : V × PyData) => ∃ as, Reads s.heap u b.2 as) us bs
  | [], us, _, h => by cases h; exact .nil
  | b :: bs, us, hb, h => by
    cases h with
    | cons h1 h2 => exact .cons (Dp.reads I b.2 b.1 _ (hb b List.mem_cons_self) h1) (each_reads I (fun c hc => hb c (List.mem_cons_of_mem _ hc)) h2)
theorem cr_sortedD (hu : X.A.units + 64 < cLine) : CallR X (.builtin "sorted") (rSortedD X.K) := by
  intro pins s σ H vs us Q I r h
  obtain ⟨a, bs, rfl, hs, hd, hal, hk, hdp, q⟩ := h
  obtain ⟨its, rv, hl, hz⟩ := I.list hs
  obtain ⟨u, rfl, ru⟩ := vals1 r
  obtain rfl : u = Value.ref a := ru
  have e := each_vals rv
  have hlen : bs.length ≤ sizeLine := by
    have h1 : bs.length = (bs.map (·.1)).length := (Qy _).symm
    rw [h1]; exact hz
  refine PySem.W.sorted_data (enc := Prod.snd) hl.isList e (each_reads I hd e) hal hk hlen (fun b hb => ?_) fun out ho eo => ?_
  · have := hdp b hb
    omega
  · obtain ⟨n, hn⟩ := PyProof.Rows.sortedAll_at s.heap its (List.toArray out)
    have rv2 := vals_each eo
    have hf : H (s.heap.objs.size + 1) = none := I.hok.fresh (Nat.le_succ _)
    refine ⟨.ref (s.heap.objs.size + 1), upd H (s.heap.objs.size + 1) (.lst ((bs.mergeSort (PySem.W.dataLe false Prod.snd)).map (·.1))), I.laid (t' := s.toks) (fun _ _ => PyProof.Rows.sortedAll_old) (Nat.le_succ _) ⟨?_, out, n, rv2, hn⟩, rfl, q _ hf⟩
    rw [Qy, List.length_mergeSort]
    exact hlen
end
def leD (a b : D) : Bool := PySem.W.dataLe false toPy a b
def alikeB (l : List D) : Bool := l.all fun a => l.all fun b => PySem.W.alike (toPy a) (toPy b)
def tup1 : D → Bool
  | .tup (_ :: _) => true
  | _ => false
def notTup : D → Bool
  | .tup _ => false
  | .non => false
  | .scr _ => false
  | .ins _ _ _ => false
  | .dic _ _ => false
  | .shd _ => false
  | .exv _ _ _ => false
  | _ => true
def sortB (l : List D) : Bool := alikeB l && ((l.all tup1 || l.all notTup) && (l.all (okD 20) && l.all fun d => decide ((toPy d).depth ≤ 40)))
def dSorted : List D → Option D
  | [.lst l] => if sortB l = true then some (.lst (l.mergeSort leD)) else none
  | _ => none
section
variable {Γ : Gm} {H : Hp}
def pairUp : List V → List D → List (V × D)
  | v :: vs, d :: ds => (v, d) :: pairUp vs ds
  | _, _ => []
theorem pairUp_ok : ∀ {vs : List V} {ds : List D}, IsDs Γ H vs ds → (pairUp vs ds).map (·.1) = vs ∧ (pairUp vs ds).map (·.2) = ds ∧ ∀ p ∈ pairUp vs ds, IsD Γ H p.1 p.2
  | _, _, .nil => ⟨rfl, rfl, fun _ h => by cases h⟩
  | _, _, .cons r t => by
    obtain ⟨h1, h2, h3⟩ := pairUp_ok t
    refine ⟨congrArg _ h1, congrArg _ h2, fun p hp => ?_⟩
    rcases List.mem_cons.mp hp with rfl | hp
    · exact r
    · exact h3 p hp
theorem isDs_of_pairs : ∀ (ps : List (V × D)), (∀ p ∈ ps, IsD Γ H p.1 p.2) → IsDs Γ H (ps.map (·.1)) (ps.map (·.2))
  | [], _ => .nil
  | p :: ps, h => .cons (h p List.mem_cons_self) (isDs_of_pairs ps fun q hq => h q (List.mem_cons_of_mem _ hq))
theorem cad_sorted : CaD Γ (rSortedD Γ.K) dSorted := fun G S xs ds dz dom hx e Q q => by
  cases hx with
  | nil => cases e
  | cons r t =>
    cases t with
    | cons _ _ => cases r <;> cases e
    | nil =>
      cases r with
      | @lst a vs l h1 h2 =>
        obtain ⟨hb, rfl⟩ := ite_some e
        have hb' : (alikeB l && ((l.all tup1 || l.all notTup) && (l.all (okD 20) && l.all fun d => decide ((toPy d).depth ≤ 40)))) = true := hb
        obtain ⟨b1, hb2⟩ := ba hb'
        obtain ⟨b2, hb3⟩ := ba hb2
        obtain ⟨b3, b4⟩ := ba hb3
        obtain ⟨p1, p2, p3⟩ := pairUp_ok h2
        have h2' := h2.le (hide_le (S := S) (G := G))
        obtain ⟨_, _, p3'⟩ := pairUp_ok h2'
        generalize hps : pairUp vs l = ps at p1 p2 p3 p3'
        have hbs : (ps.map fun p => (p.1, toPy p.2)).map Prod.snd = l.map toPy := by
          rw [List.map_map, ← p2, List.map_map]; rfl
        have hbf : (ps.map fun p => (p.1, toPy p.2)).map (·.1) = vs := by
          rw [List.map_map, ← p1]; rfl
        refine ⟨a, ps.map fun p => (p.1, toPy p.2), rfl, by rw [hbf]; exact SqL.of (hide_le _ _ h1), fun b hb => ?_, ?_, ?_, fun b hb => ?_, fun p hp => ?_⟩
        · obtain ⟨p, hp, rfl⟩ := List.mem_map.mp hb
          have hm : p.2 ∈ l := by rw [← p2]; exact List.mem_map_of_mem hp
          exact dp_of 20 p.2 p.1 (List.all_eq_true.mp b3 _ hm) (p3' p hp)
        · rw [hbs]
          intro d hd d' hd'
          obtain ⟨x, hx, rfl⟩ := List.mem_map.mp hd
          obtain ⟨y, hy, rfl⟩ := List.mem_map.mp hd'
          exact List.all_eq_true.mp (List.all_eq_true.mp b1 x hx) y hy
        · rw [hbs]
          rcases Bool.or_eq_true_iff.mp b2 with h | h
          · refine .inl fun d hd => ?_
            obtain ⟨x, hx, rfl⟩ := List.mem_map.mp hd
            have := List.all_eq_true.mp h x hx
            unfold tup1 at this
            split at this
            · rename_i y r
              exact ⟨toPy y, toPys r, by simp [toPy, toPys]⟩
            · cases this
          · refine .inr fun d hd => ?_
            obtain ⟨x, hx, rfl⟩ := List.mem_map.mp hd
            have := List.all_eq_true.mp h x hx
            cases x <;> first | (cases this; done) | exact ⟨(by simp [toPy]), (fun xs => by simp [toPy])⟩
        · obtain ⟨p, hp, rfl⟩ := List.mem_map.mp hb
          have hm : p.2 ∈ l := by rw [← p2]; exact List.mem_map_of_mem hp
          exact of_decide_eq_true (List.all_eq_true.mp b4 _ hm)
        · refine q _ _ (same_upd hp) (.lst (hide_of (fun z => by obtain ⟨o, eo⟩ := dom p z; rw [hp] at eo; cases eo) upd_same) ?_)
          have e1 : ((ps.map fun p => (p.1, toPy p.2)).mergeSort (PySem.W.dataLe false Prod.snd)).map (·.1) = (ps.mergeSort fun a b => leD a.2 b.2).map (·.1) := by
            rw [← PySem.W.sort_maps (r := fun a b => leD a.2 b.2) (s := PySem.W.dataLe false Prod.snd) (fun p : V × D => (p.1, toPy p.2)) (fun a _ b _ => rfl), List.map_map]
            rfl
          have e2 : l.mergeSort leD = (ps.mergeSort fun a b => leD a.2 b.2).map (·.2) := by
            rw [PySem.W.sort_maps (r := fun (a b : V × D) => leD a.2 b.2) (s := leD) Prod.snd (fun a _ b _ => rfl), ← p2]
          rw [e1, e2]
          refine (isDs_of_pairs (H := hide S G) _ fun r hr => p3 r (List.mem_mergeSort.mp hr)).le (hide_ext (same_upd hp))
      | _ => cases e
end
end Py

set_option Elab.async false
set_option linter.all false
set_option maxRecDepth 100000
set_option maxHeartbeats 2000000
namespace Py
open PySem L2 He
open PyProof.Rows (envOfC)
/-! ## 23. Texts: join, split, str, in, f-strings -/
def strsD : List D → Option (List Str)
  | [] => some []
  | .str s :: r => (strsD r).map (s :: ·)
  | _ :: _ => none
theorem strsD_vs {Γ : Gm} {H : Hp} : ∀ {l : List D} {ys : List Str} {vs : List V}, strsD l = some ys → IsDs Γ H vs l → vs = ys.map V.str
  | [], ys, _, e, h => by cases e; cases h; rfl
  | d :: r, ys, _, e, h => by
    cases h with
    | cons h1 h2 =>
      cases h1 with
      | str s =>
        have e' : (strsD r).map (s :: ·) = some ys := e
        cases hr : strsD r with
        | none => rw [hr] at e'; cases e'
        | some zs =>
          rw [hr] at e'
          cases e'
          rw [strsD_vs hr h2]; rfl
      | _ => cases e
theorem isDs_strs {Γ : Gm} {H : Hp} : ∀ (ys : List Str), IsDs Γ H (ys.map V.str) (ys.map D.str)
  | [] => .nil
  | y :: ys => .cons (.str y) (isDs_strs ys)
def joinOf (a : Str) (l : List D) : Option D := (strsD l).bind fun ys => if (ys.map (·.length)).sum + ys.length * a.length ≤ 1000000 then some (.str (Txt.join a ys)) else none
def dJoin : D → D → Option D
  | .str a, .lst l => joinOf a l
  | .str a, .tup l => joinOf a l
  | _, _ => none
def dSplit : D → D → Option D
  | .str a, .str b => if (b.length == 0) = false ∧ a.length ≤ 900000 then some (.lst ((Txt.split a b).map D.str)) else none
  | _, _ => none
/-- a two-place method of a text -/
def strK (f : D → D → Option D) (mb : Env → Rs D) (ρ : Env) : D → Rs D
  | .str a => (mb ρ).bind fun b ρ2 => Rs.ofOpt (f (.str a) b) ρ2
  | _ => .stuck
def eBinS (f : D → D → Option D) (ma mb : Env → Rs D) : Env → Rs D := fun ρ => (ma ρ).bind fun a ρ1 => strK f mb ρ1 a
def MtD (Γ : Gm) (r : V → List V → Hp → VK → Prop) (f : D → D → Option D) : Prop := ∀ (G : Hp) (S : Addr → Prop) (x y : V) (dx dy dz : D), (∀ a, S a → ∃ o, G a = some o) → IsD Γ (hide S G) x dx → IsD Γ (hide S G) y dy → f dx dy = some dz → ∀ Q : VK,
  (∀ v G', Same G G' → IsD Γ (hide S G') v dz → Q v G') → r x [y] G Q
section
variable {Γ : Gm} {fr : Frm} {σ : L2.St} {ρ : Env} {G G' : Hp} {S S' : Addr → Prop} {ta tb te : TE} {ma mb m : Env → Rs D} {i n : Nat}
theorem ev_m1 {r : V → List V → Hp → VK → Prop} {f : D → D → Option D} (hr : MtD Γ r f) (ha : EV Γ fr ta ma) (hb : EV Γ fr tb mb) : EV Γ fr (tM1 r ta tb) (eBinS f ma mb) := fun σ ρ G S c Q p => by
  refine ha.step c p fun dx ρ1 x G1 S1 _ c1 hx p1 => ?_
  have p2 : PostG (fun H v d => IsD Γ H v d) Γ fr σ G1 S1 Q (strK f mb ρ1 dx) := p1
  cases hx with
  | str a =>
    refine ⟨⟨a, rfl⟩, ?_⟩
    have p3 : PostG (fun H v d => IsD Γ H v d) Γ fr σ G1 S1 Q ((mb ρ1).bind fun b ρ2 => Rs.ofOpt (f (.str a) b) ρ2) := p2
    refine hb.step c1 p3 fun dy ρ2 y G2 S2 e2 c2 hy p4 => ?_
    obtain ⟨dz, hf, p5⟩ := PostG.giveO p4
    exact hr G2 S2 (.str a) y (.str a) dy dz c2.dom (.str a) hy hf Q fun v G3 e3 hv => p5.give (hide_ext e3) (c2.ext e3) hv
  | _ => exact p2.elim
theorem joinOf_of {a : Str} {l : List D} {dz : D} (e : joinOf a l = some dz) : ∃ ys, strsD l = some ys ∧ (ys.map (·.length)).sum + ys.length * a.length ≤ 1000000 ∧ dz = .str (Txt.join a ys) := by
  unfold joinOf at e
  cases h : strsD l with
  | none => rw [h] at e; cases e
  | some ys =>
    rw [h] at e
    have e' : (if (ys.map (·.length)).sum + ys.length * a.length ≤ 1000000 then some (D.str (Txt.join a ys)) else none) = some dz := e
    obtain ⟨h1, h2⟩ := ite_some e'
    exact ⟨ys, rfl, h1, h2⟩
theorem mtd_join : MtD Γ (fun x xs H Q => ∃ a p, ∃ ys : List Str, x = .str a ∧ xs = [.ref p] ∧ (SqL Γ.K H p (ys.map V.str) ∨ SqT Γ.K H p (ys.map V.str)) ∧ (ys.map (·.length)).sum + ys.length * a.length ≤ 16777216 ∧ Q (.str (Txt.join a ys)) H) dJoin := fun G S x y dx dy dz dom hx hy e Q q => by
  cases hx with
  | str a =>
    cases hy with
    | lst h1 h2 =>
      obtain ⟨ys, e1, e2, rfl⟩ := joinOf_of (a := a) e
      have := strsD_vs e1 h2
      subst this
      exact ⟨a, _, ys, rfl, rfl, .inl (SqL.of (hide_le _ _ h1)), by omega, q _ G (Same.refl _) (.str _)⟩
    | tup h1 h2 =>
      obtain ⟨ys, e1, e2, rfl⟩ := joinOf_of (a := a) e
      have := strsD_vs e1 h2
      subst this
      exact ⟨a, _, ys, rfl, rfl, .inr (sqT_mono hide_le h1), by omega, q _ G (Same.refl _) (.str _)⟩
    | _ => cases e
  | _ => cases e
theorem mtd_split : MtD Γ (fun x xs H Q => ∃ a b, x = .str a ∧ xs = [.str b] ∧ (b.length == 0) = false ∧ a.length + 2 ≤ sizeLine ∧ rNewStrs (Txt.split a b) H Q) dSplit := fun G S x y dx dy dz dom hx hy e Q q => by
  cases hx with
  | str a =>
    cases hy with
    | str b =>
      obtain ⟨⟨h1, h2⟩, rfl⟩ := ite_some e
      refine ⟨a, b, rfl, rfl, h1, Nat.le_trans (by omega) (size_ok (Nat.le_refl _)), fun p hp => ?_⟩
      exact q _ _ (same_upd hp) (.lst (hide_of (fun z => by obtain ⟨o, eo⟩ := dom p z; rw [hp] at eo; cases eo) upd_same) (isDs_strs _))
    | _ => cases e
  | _ => cases e
/-- str(i) -/
def dStrI : List D → Option D
  | [.int i] => if bits i < 1900 then some (.str (toString i)) else none
  | _ => none
theorem cad_strI : CaD Γ (fun xs H Q => ∃ i, xs = [V.int i] ∧ i.natAbs.log2 < 1920 ∧ Q (.str (toString i)) H) dStrI := fun G S xs ds dz dom hx e Q q => by
  cases hx with
  | nil => cases e
  | cons r t =>
    cases t with
    | cons _ _ => cases r <;> cases e
    | nil =>
      cases r with
      | int i =>
        obtain ⟨h1, rfl⟩ := ite_some e
        exact ⟨i, rfl, Nat.lt_trans h1 (by decide), q _ G (Same.refl _) (.str _)⟩
      | _ => cases e
/-! ### in -/
def flatD : D → Bool
  | .non => true
  | .bl _ => true
  | .int _ => true
  | .str _ => true
  | _ => false
def eqFD : D → D → Bool
  | .non, .non => true
  | .bl a, .bl b => a == b
  | .bl a, .int b => (if a then 1 else 0) == b
  | .int a, .bl b => a == (if b then 1 else 0)
  | .int a, .int b => a == b
  | .str a, .str b => a == b
  | _, _ => false
theorem flat_of {H : Hp} {v : V} {d : D} (h : IsD Γ H v d) (f : flatD d = true) : flatV v = true := by cases h <;> first | rfl | cases f
theorem eqF_of {H : Hp} {v u : V} {d e : D} (h : IsD Γ H v d) (k : IsD Γ H u e) (f : flatD d = true) (g : flatD e = true) : eqV v u = eqFD d e := by
  cases h <;> first | cases f; done | (cases k <;> first | rfl | (cases g; done))
theorem flats_of {H : Hp} {a : V} {da : D} (ha : IsD Γ H a da) (fa : flatD da = true) : ∀ {vs : List V} {l : List D}, IsDs Γ H vs l → l.all flatD = true → vs.all flatV = true ∧ inV a vs = l.any fun y => eqFD y da
  | _, _, .nil, _ => ⟨rfl, rfl⟩
  | _, _, .cons (v := v) (d := d) r t, h => by
    rw [List.all_cons, Bool.and_eq_true] at h
    obtain ⟨h1, h2⟩ := flats_of ha fa t h.2
    refine ⟨by rw [List.all_cons, flat_of r h.1, h1]; rfl, ?_⟩
    unfold inV at h2 ⊢
    rw [List.any_cons, List.any_cons, eqF_of r ha h.1 fa, h2]
def inSeqD (a : D) (l : List D) : Option D := if (flatD a && l.all flatD) = true then some (.bl (l.any fun y => eqFD y a)) else none
def inLstD (a : D) (l : List D) : Option D := if (flatD a && l.all flatD) = true then some (.bl (l.any fun y => eqFD y a)) else if (okD 20 a && okD 20 (.lst l)) = true then some (.bl (l.any fun y => eqvD y a)) else none
def inSign : List Nat → Str → Option D
  | [c], z => some (.bl (decide (c ∈ z.cps.toList)))
  | _, _ => none
def dIn : D → D → Option D
  | .str x, .str z => inSign x.cps.toList z
  | a, .lst l => inLstD a l
  | a, .tup l => inSeqD a l
  | _, _ => none
def notD : Option D → Option D
  | some (.bl b) => some (.bl !b)
  | _ => none
def dNotIn (a b : D) : Option D := notD (dIn a b)
def rInX (K : PySem.W.Frag) (neg : Bool) : R2 := fun x y H Q => (∃ p xs, y = .ref p ∧ (SqL K H p xs ∨ SqT K H p xs) ∧ flatV x = true ∧ xs.all flatV = true ∧ Q (.bl (if neg then !inV x xs else inV x xs)) H) ∨
  (∃ d ds, Dp K H x d ∧ Dp K H y (.list ds) ∧ SeqAt.shaped d = true ∧ SeqAt.shaped (.list ds) = true ∧ Q (.bl (if neg then !ds.any fun z => PyData.eqv z d else ds.any fun z => PyData.eqv z d)) H) ∨
  ∃ (c : Nat) (z : Str), x = .str ⟨#[c]⟩ ∧ y = .str z ∧ Q (.bl (if neg then !decide (c ∈ z.cps.toList) else decide (c ∈ z.cps.toList))) H
theorem op_inX {X : Cx} (hu : X.A.units + 65 < cLine) : OpR X (compareOp .In) (rInX X.K false) := by
  intro pins s σ H x y v u Q I rx ry h
  rcases h with h | h | h
  · exact op_in_seq pins s σ H x y v u Q I rx ry h
  · exact op_inD hu pins s σ H x y v u Q I rx ry h
  · exact op_in_sign pins s σ H x y v u Q I rx ry h
theorem op_notInX {X : Cx} (hu : X.A.units + 65 < cLine) : OpR X (compareOp .NotIn) (rInX X.K true) := by
  intro pins s σ H x y v u Q I rx ry h
  rcases h with h | h | h
  · exact op_notIn_seq pins s σ H x y v u Q I rx ry h
  · exact op_notInD hu pins s σ H x y v u Q I rx ry h
  · exact op_notIn_sign pins s σ H x y v u Q I rx ry h
theorem any_py {l : List D} {a : D} : (toPys l).any (fun z => PyData.eqv z (toPy a)) = l.any fun y => eqvD y a := by
  induction l with
  | nil => rfl
  | cons d r ih =>
    show (PyData.eqv (toPy d) (toPy a) || (toPys r).any fun z => PyData.eqv z (toPy a)) = _
    rw [ih]; rfl
theorem str_one {x : Str} {c : Nat} (h : x.cps.toList = [c]) : x = ⟨#[c]⟩ := by
  obtain ⟨⟨l⟩⟩ := x
  have : l = [c] := h
  rw [this]
theorem in_core {neg : Bool} {x y : V} {dx dy : D} {b : Bool} (dom : ∀ a, S a → ∃ o, G a = some o) (hx : IsD Γ (hide S G) x dx) (hy : IsD Γ (hide S G) y dy) (e : dIn dx dy = some (.bl b)) {Q : VK} (q : Q (.bl (if neg then !b else b)) G) : rInX Γ.K neg x y G Q := by
  have sign : ∀ {z w : Str}, dx = .str z → dy = .str w → rInX Γ.K neg x y G Q := fun {z w} e1 e2 => by
    subst e1 e2
    cases hx
    cases hy
    have e' : inSign z.cps.toList w = some (.bl b) := e
    generalize hz : z.cps.toList = k at e'
    match k, e', hz with
    | [], e', _ => cases e'
    | [c], e', hz =>
      cases e'
      rw [str_one hz]
      exact .inr (.inr ⟨c, w, rfl, rfl, q⟩)
    | _ :: _ :: _, e', _ => cases e'
  have flat : ∀ {p : Addr} {vs : List V} {l : List D}, y = .ref p → (SqL Γ.K G p vs ∨ SqT Γ.K G p vs) → IsDs Γ (hide S G) vs l → (flatD dx && l.all flatD) = true → b = (l.any fun y => eqFD y dx) → rInX Γ.K neg x y G Q := fun {p vs l} ey hs hv hf hb => by
    obtain ⟨f1, f2⟩ := ba hf
    obtain ⟨g1, g2⟩ := flats_of hx f1 hv f2
    refine .inl ⟨p, vs, ey, hs, flat_of hx f1, g1, ?_⟩
    rw [g2, ← hb]; exact q
  cases hy with
  | str w =>
    cases hx with
    | str z => exact sign rfl rfl
    | _ => cases e
  | @lst p vs l h1 h2 =>
    have e' : inLstD dx l = some (.bl b) := by cases dx <;> exact e
    unfold inLstD at e'
    by_cases hf : (flatD dx && l.all flatD) = true
    · rw [if_pos hf] at e'
      exact flat rfl (.inl (SqL.of (hide_le _ _ h1))) h2 hf (by cases e'; rfl)
    · rw [if_neg hf] at e'
      by_cases ho : (okD 20 dx && okD 20 (.lst l)) = true
      · rw [if_pos ho] at e'
        obtain ⟨o1, o2⟩ := ba ho
        refine .inr (.inl ⟨toPy dx, toPys l, dp_le hide_le (dp_of 20 _ _ o1 hx), ?_, shaped_of o1, ?_, ?_⟩)
        · have := dp_le (H' := G) hide_le (dp_of 20 (.lst l) _ o2 (.lst h1 h2))
          exact this
        · have := shaped_of o2
          exact this
        · rw [any_py]
          cases e'
          exact q
      · rw [if_neg ho] at e'
        cases e'
  | @tup p vs l h1 h2 =>
    have e' : inSeqD dx l = some (.bl b) := by cases dx <;> exact e
    unfold inSeqD at e'
    by_cases hf : (flatD dx && l.all flatD) = true
    · rw [if_pos hf] at e'
      exact flat rfl (.inr (sqT_mono hide_le h1)) h2 hf (by cases e'; rfl)
    · rw [if_neg hf] at e'
      cases e'
  | _ => cases dx <;> cases e
theorem inLst_bl {a : D} {l : List D} {d : D} (e : inLstD a l = some d) : ∃ b, d = .bl b := by
  unfold inLstD at e
  split at e
  · cases e; exact ⟨_, rfl⟩
  · exact ⟨_, (ite_some e).2⟩
theorem inSeq_bl {a : D} {l : List D} {d : D} (e : inSeqD a l = some d) : ∃ b, d = .bl b := ⟨_, (ite_some e).2⟩
theorem inSign_bl {k : List Nat} {z : Str} {d : D} (e : inSign k z = some d) : ∃ b, d = .bl b := by
  match k, e with
  | [], e => cases e
  | [c], e => cases e; exact ⟨_, rfl⟩
  | _ :: _ :: _, e => cases e
theorem dIn_bl {dx dy d : D} (e : dIn dx dy = some d) : ∃ b, d = .bl b := by
  cases dy with
  | lst l => exact inLst_bl (a := dx) (l := l) (by cases dx <;> exact e)
  | tup l => exact inSeq_bl (a := dx) (l := l) (by cases dx <;> exact e)
  | str z => cases dx with
    | str x => exact inSign_bl (k := x.cps.toList) (z := z) e
    | _ => cases e
  | _ => cases dx <;> cases e
theorem opd_in : OpD Γ (rInX Γ.K false) dIn := fun G S x y dx dy dz dom hx hy e Q q => by
  obtain ⟨b, rfl⟩ := dIn_bl e
  exact in_core dom hx hy e (q _ G (Same.refl _) (.bl _))
theorem opd_notIn : OpD Γ (rInX Γ.K true) dNotIn := fun G S x y dx dy dz dom hx hy e Q q => by
  unfold dNotIn at e
  cases h : dIn dx dy with
  | none => rw [h] at e; cases e
  | some d =>
    rw [h] at e
    obtain ⟨b, rfl⟩ := dIn_bl h
    cases e
    exact in_core dom hx hy h (q _ G (Same.refl _) (.bl _))
/-! ### f-strings -/
def fmtK (ρ : Env) : D → Rs D
  | .str y => if y.length ≤ 1000000 then .ok (.str y) ρ else .stuck
  | .int i => if bits i < 1900 then .ok (.str (toString i)) ρ else .stuck
  | _ => .stuck
def eFmt (m : Env → Rs D) : Env → Rs D := fun ρ => (m ρ).bind fun d ρ1 => fmtK ρ1 d
theorem ev_fmt (h : EV Γ fr te m) : EV Γ fr (tFmt te) (eFmt m) := fun σ ρ G S c Q p => by
  refine h.step c p fun d ρ1 x G1 S1 _ c1 hx p1 => ?_
  have p2 : PostG (fun H v d => IsD Γ H v d) Γ fr σ G1 S1 Q (fmtK ρ1 d) := p1
  cases hx with
  | str y =>
    have p3 : PostG (fun H v d => IsD Γ H v d) Γ fr σ G1 S1 Q (if y.length ≤ 1000000 then .ok (.str y) ρ1 else .stuck) := p2
    by_cases hl : y.length ≤ 1000000
    · rw [if_pos hl] at p3
      exact .inl ⟨y, rfl, size_ok hl, p3.give (Same.refl _) c1 (.str y)⟩
    · rw [if_neg hl] at p3; exact p3.elim
  | int i =>
    have p3 : PostG (fun H v d => IsD Γ H v d) Γ fr σ G1 S1 Q (if bits i < 1900 then .ok (.str (toString i)) ρ1 else .stuck) := p2
    by_cases hl : bits i < 1900
    · rw [if_pos hl] at p3
      exact .inr ⟨i, rfl, Nat.lt_trans hl (by decide), p3.give (Same.refl _) c1 (.str _)⟩
    · rw [if_neg hl] at p3; exact p3.elim
  | _ => exact p2.elim
def jsK (k : Str → Env → Rs D) (acc : Str) (ρ : Env) : D → Rs D
  | .str y => if (acc ++ y).length ≤ 1000000 then k (acc ++ y) ρ else .stuck
  | _ => .stuck
def eJs : List (Env → Rs D) → Str → Env → Rs D
  | [], acc, ρ => .ok (.str acc) ρ
  | m :: ms, acc, ρ => (m ρ).bind fun d ρ1 => jsK (eJs ms) acc ρ1 d
inductive JV (Γ : Gm) (fr : Frm) : List TE → List (Env → Rs D) → Prop
  | nil : JV Γ fr [] []
  | cons {t : TE} {m : Env → Rs D} {ts : List TE} {ms : List (Env → Rs D)} (h : EV Γ fr t m) (r : JV Γ fr ts ms) : JV Γ fr (t :: ts) (m :: ms)
theorem ev_js {ts : List TE} {ms : List (Env → Rs D)} (h : JV Γ fr ts ms) : ∀ (acc : Str), EV Γ fr (fun σ H Q => tJs ts acc σ H fun out H1 => Q (.str out) H1) (eJs ms acc) := by
  induction h with
  | nil => exact fun acc σ ρ G S c Q p => PostG.give (d := D.str acc) p (Same.refl _) c (.str acc)
  | @cons t m ts ms h r ih =>
    intro acc σ ρ G S c Q p
    refine h.step c p fun d ρ1 x G1 S1 _ c1 hx p1 => ?_
    have p2 : PostG (fun H v d => IsD Γ H v d) Γ fr σ G1 S1 Q (jsK (eJs ms) acc ρ1 d) := p1
    cases hx with
    | str y =>
      have p3 : PostG (fun H v d => IsD Γ H v d) Γ fr σ G1 S1 Q (if (acc ++ y).length ≤ 1000000 then eJs ms (acc ++ y) ρ1 else .stuck) := p2
      by_cases hl : (acc ++ y).length ≤ 1000000
      · rw [if_pos hl] at p3
        exact ⟨y, rfl, size_ok hl, ih (acc ++ y) σ ρ1 G1 S1 c1 Q p3⟩
      · rw [if_neg hl] at p3; exact p3.elim
    | _ => exact p2.elim
theorem ev_js0 {ts : List TE} {ms : List (Env → Rs D)} (h : JV Γ fr ts ms) : EV Γ fr (fun σ H Q => tJs ts Str.empty σ H fun out H1 => Q (.str out) H1) (eJs ms Str.empty) := ev_js h Str.empty
end
end Py

set_option Elab.async false
set_option linter.all false
set_option maxRecDepth 100000
set_option maxHeartbeats 2000000
namespace Py
open PySem L2 He
open PyProof.Rows (envOfC)
/-! ## 24. Own objects lent for a reading; defs that call themselves -/
def borV (i w : Bool) (o : Option D) : Option D := match i, w, o with
  | true, _, some (.shd d) => some (.shd d)
  | true, _, some (.lst l) => some (.shd (.lst l))
  | true, _, some (.ins c ns l) => some (.shd (.ins c ns l))
  | true, _, some (.dic ks vs) => some (.shd (.dic ks vs))
  | true, _, _ => none
  | false, true, _ => none
  | false, false, o => o
def borL (ow is : List Nat) : Nat → Env → Env
  | _, [] => []
  | j, o :: r => borV (is.contains j) (ow.contains j) o :: borL ow is (j + 1) r
def borK (ρ : Env) : Rs D → Rs D
  | .ok d _ => if flatD d = true then .ok d ρ else .stuck
  | _ => .stuck
/-- e, a plain value, in which the own objects in the slots is are read -/
def eBor (ow is : List Nat) (m : Env → Rs D) : Env → Rs D := fun ρ => borK ρ (m (borL ow is 0 ρ))
theorem borL_length (ow is : List Nat) : ∀ (j : Nat) (ρ : Env), (borL ow is j ρ).length = ρ.length
  | _, [] => rfl
  | j, _ :: r => congrArg (· + 1) (borL_length ow is (j + 1) r)
theorem borL_get (ow is : List Nat) : ∀ (j : Nat) (ρ : Env) (k : Nat), (borL ow is j ρ)[k]? = (ρ[k]?).map (borV (is.contains (j + k)) (ow.contains (j + k)))
  | _, [], k => by cases k <;> rfl
  | j, o :: r, 0 => rfl
  | j, o :: r, k + 1 => by
    show (borL ow is (j + 1) r)[k]? = (r[k]?).map _
    rw [borL_get ow is (j + 1) r k]
    have : j + 1 + k = j + (k + 1) := by omega
    rw [this]
def frB (is : List Nat) (hp : Addr) (G : Hp) : Frm := { ow := is, hd := false, hp := hp, B := G, S0 := fun _ => False, W := fun _ _ _ _ => False }
section
variable {Γ : Gm} {fr : Frm} {σ : L2.St} {ρ : Env} {G G' : Hp} {S S' : Addr → Prop} {ta tb te : TE} {ma mb m : Env → Rs D} {i n : Nat}
theorem flat_any {H H' : Hp} {v : V} {d : D} (h : IsD Γ H v d) (f : flatD d = true) : IsD Γ H' v d := by
  cases h <;> first | exact .non | exact .bl _ | exact .int _ | exact .str _ | cases f
theorem ev_bor {ow is : List Nat} (h : ∀ hp G, EV Γ (frB is hp G) te m) (how : fr.ow = ow := by rfl) (his : (is.all fun i => ow.contains i) = true := by rfl) : EV Γ fr te (eBor ow is m) := fun σ ρ G S c Q p => by
  subst how
  have inOw : ∀ {i : Nat}, is.contains i = true → i ∈ fr.ow := fun {i} hi => by
    have h1 := List.all_eq_true.mp his i (by simpa using hi)
    simpa using h1
  have le : Same (hide S G) (hide (fun a => S a ∧ ∀ i d, i ∈ is → ρ[i]? = some (some d) → d.isShd = false → σ[i]? ≠ some (some (.ref a))) G) := hide_less fun a h => h.1
  have get : ∀ {j : Nat} {d : D}, (borL fr.ow is 0 ρ)[j]? = some (some d) → ∃ o, ρ[j]? = some o ∧ borV (is.contains j) (fr.ow.contains j) o = some d := fun {j d} e => by
    rw [borL_get, Nat.zero_add] at e
    cases ho : ρ[j]? with
    | none => rw [ho] at e; cases e
    | some o =>
      rw [ho] at e
      exact ⟨o, rfl, Option.some.inj e⟩
  have shOf : ∀ {j : Nat} {d : D}, is.contains j = true → (borL fr.ow is 0 ρ)[j]? = some (some d) → ∃ d', d = .shd d' ∧ (ρ[j]? = some (some (.shd d')) ∨ (ρ[j]? = some (some d') ∧ d'.isShd = false)) := fun {j d} hj e => by
    obtain ⟨o, h1, h2⟩ := get e
    rw [hj] at h2
    rcases o with _ | d0
    · cases h2
    · cases d0 with
      | shd d1 => cases h2; exact ⟨d1, rfl, .inl h1⟩
      | lst l => cases h2; exact ⟨_, rfl, .inr ⟨h1, rfl⟩⟩
      | ins c ns l => cases h2; exact ⟨_, rfl, .inr ⟨h1, rfl⟩⟩
      | dic ks vs => cases h2; exact ⟨_, rfl, .inr ⟨h1, rfl⟩⟩
      | _ => cases h2
  have c2 : Co Γ (frB is fr.hp G) σ (borL fr.ow is 0 ρ) G (fun a => S a ∧ ∀ i d, i ∈ is → ρ[i]? = some (some d) → d.isShd = false → σ[i]? ≠ some (some (.ref a))) := {
    len := by rw [borL_length]; exact c.len
    dom := fun a h => c.dom a h.1
    sub := fun a h => h.elim
    keep := fun a o _ h => h
    pin := fun e => by cases e
    hs0 := fun e => by cases e
    xsl := fun q h => nomatch h
    sh := fun j d h1 h2 => by
      obtain ⟨o, e1, e2⟩ := get h2
      have n1 : is.contains j = false := by
        cases hc : is.contains j with
        | false => rfl
        | true => exact absurd (show j ∈ is by simpa using hc) h1
      rw [n1] at e2
      cases hw : fr.ow.contains j with
      | true => rw [hw] at e2; cases o <;> cases e2
      | false =>
        rw [hw] at e2
        have e3 : o = some d := by cases o <;> first | exact e2 | cases e2
        subst e3
        have hj : j ∉ fr.ow := fun z => by
          have : fr.ow.contains j = true := by simpa using z
          rw [hw] at this; cases this
        obtain ⟨v, h3, h4⟩ := c.sh j d hj e1
        exact ⟨v, h3, h4.le le⟩
    own := fun j d h1 h2 => by
      have hj : is.contains j = true := by simpa using (show j ∈ is from h1)
      obtain ⟨d', rfl, e⟩ := shOf hj h2
      rcases e with e | ⟨e, em⟩
      · rcases c.own j _ (inOw hj) e with ⟨d2, v, z, g4, g7⟩ | ⟨q, o, g4, g5, g6, g7, g8⟩
        · cases z
          exact .inl ⟨_, v, rfl, g4, g7.le le⟩
        · cases g7
      · rcases c.own j _ (inOw hj) e with ⟨d2, v, rfl, g4, g7⟩ | ⟨q, o, g4, g5, g6, g7, g8⟩
        · cases em
        · refine .inl ⟨_, .ref q, rfl, g4, ?_⟩
          have nq : ¬ (S q ∧ ∀ i d, i ∈ is → ρ[i]? = some (some d) → d.isShd = false → σ[i]? ≠ some (some (.ref q))) := fun z => z.2 j _ h1 e em g4
          cases g7 with
          | lst g => exact .lst (hide_of nq g6) (g.le le)
          | ins g0 g => exact .ins (hide_of nq g6) g0 (g.le le)
          | dic g0 g g' => exact .dic (hide_of nq g6) g0 (g.le le) (g'.le le)
    inj := fun j k d e p h1 h2 h3 h4 h5 h6 h7 => by
      have hj : is.contains j = true := by simpa using (show j ∈ is from h1)
      obtain ⟨d', rfl, _⟩ := shOf hj h4
      exact .inl rfl }
  refine h fr.hp G σ _ G _ c2 Q ?_
  unfold eBor at p
  generalize m (borL fr.ow is 0 ρ) = r at p ⊢
  cases r with
  | stuck => exact p.elim
  | exc _ _ => exact p.elim
  | ok d ρ' =>
    intro v G2 S2 e2 co2 hd
    have p2 : PostG (fun H v d => IsD Γ H v d) Γ fr σ G S Q (if flatD d = true then .ok d ρ else .stuck) := p
    by_cases hf : flatD d = true
    · rw [if_pos hf] at p2
      have e : Same G G2 := fun a o h => co2.keep a o (fun z => by cases z) h
      exact p2.give (hide_ext e) (c.ext e) (flat_any hd hf)
    · rw [if_neg hf] at p2
      exact p2.elim
end
/-- of a def nothing is said: it is never called -/
theorem okStuck {P : Program} {w : World} {Γ : Gm} {mg : Str → Option Value} {base : Heap} {dvs : List V} {x qual : Str} {st : Stmt} {f : Addr} {fd : FuncData} {N ps : List Str} {k : Nat} (F : FunD Γ.K x qual (defArgs st) (defBody st) (defScope st) dvs [] f fd) (S : FnScope N ps (defScope st)) :
    FnOk P w Γ.K mg base (L2.CX P w) (k + 1) f fd ps (spP Γ ps.length (fun _ => .stuck)) := by
  refine F.ok (CX := L2.CX P w) S (fun vs H Q E h => h.1) (fun cdv A outer s H vs Q E hr h => ?_)
  obtain ⟨hn, S0, ds, dom, hv, hq⟩ := h
  exact hq.elim
theorem hu65 {k : Nat} {A : Around} (hr : Room k A) : A.units + 65 < cLine := by
  have := hr.un
  omega
/-- f, to a depth -/
def recF (m : (List D → Rf D) → List D → Rf D) : Nat → List D → Rf D
  | 0 => fun _ => .stuck
  | n + 1 => m (recF m n)
end Py

set_option Elab.async false
set_option linter.all false
set_option maxRecDepth 100000
set_option maxHeartbeats 1000000
namespace Py
open PySem L2
/-! ## 20. The mirror by rewriting: one frame for each place that waits -/
section
variable {α β : Type}
def fBin2 (f : D → D → Option D) (a : D) : Rs D → Rs D
  | .ok b ρ => Rs.ofOpt (f a b) ρ
  | .exc e ρ => .exc e ρ
  | .stuck => .stuck
def fBin1 (f : D → D → Option D) (mb : Env → Rs D) : Rs D → Rs D
  | .ok a ρ => fBin2 f a (mb ρ)
  | .exc e ρ => .exc e ρ
  | .stuck => .stuck
def fUn (f : α → Option D) : Rs α → Rs D
  | .ok a ρ => Rs.ofOpt (f a) ρ
  | .exc e ρ => .exc e ρ
  | .stuck => .stuck
def fCons2 (a : D) : Rs (List D) → Rs (List D)
  | .ok b ρ => .ok (a :: b) ρ
  | .exc e ρ => .exc e ρ
  | .stuck => .stuck
def fCons1 (r : Env → Rs (List D)) : Rs D → Rs (List D)
  | .ok a ρ => fCons2 a (r ρ)
  | .exc e ρ => .exc e ρ
  | .stuck => .stuck
def fB : Rs D → Rs Bool
  | .ok (.bl b) ρ => .ok b ρ
  | .exc e ρ => .exc e ρ
  | _ => .stuck
def fT : Rs D → Rs Bool
  | .ok d ρ => Rs.ofOpt (truthD d) ρ
  | .exc e ρ => .exc e ρ
  | .stuck => .stuck
/-- a two-way choice by a Bool -/
def sel (x : Bool) (a b : Env → α) (ρ : Env) : α := match x with
  | true => a ρ
  | false => b ρ
def fIfR (a b : Env → Rs α) : Rs Bool → Rs α
  | .ok x ρ => sel x a b ρ
  | .exc e ρ => .exc e ρ
  | .stuck => .stuck
def rOk (x : α) : Env → Rs α := fun ρ => .ok x ρ
def fNotR : Rs Bool → Rs Bool
  | .ok x ρ => .ok (!x) ρ
  | .exc e ρ => .exc e ρ
  | .stuck => .stuck
def fEAnd (b : Env → Rs D) : Rs D → Rs D
  | .ok (.bl x) ρ => sel x b (rOk (.bl false)) ρ
  | .exc e ρ => .exc e ρ
  | _ => .stuck
def fEOr (b : Env → Rs D) : Rs D → Rs D
  | .ok (.bl x) ρ => sel x (rOk (.bl true)) b ρ
  | .exc e ρ => .exc e ρ
  | _ => .stuck
def fENot : Rs D → Rs D
  | .ok (.bl x) ρ => .ok (.bl !x) ρ
  | .exc e ρ => .exc e ρ
  | _ => .stuck
def selT (x : Bool) (r : Rs α) : Rs α := match x with
  | true => r
  | false => .stuck
def fCall (n : Nat) (m : List D → Rf D) (dd : List D) : Rs (List D) → Rs D
  | .ok ds ρ => selT (decide ((ds ++ dd).length = n)) ((m (ds ++ dd)).to ρ)
  | .exc e ρ => .exc e ρ
  | .stuck => .stuck
def toN : Rf D → Env → Rs D
  | .ok d, ρ => .ok d ρ
  | _, _ => .stuck
def fCallN (n : Nat) (m : List D → Rf D) (dd : List D) : Rs (List D) → Rs D
  | .ok ds ρ => selT (decide ((ds ++ dd).length = n)) (toN (m (ds ++ dd)) ρ)
  | .exc e ρ => .exc e ρ
  | .stuck => .stuck
def toH (i : Nat) : Rf (D × List D) → Env → Rs D
  | .ok (d, l'), ρ => .ok d (ρ.set i (some (.lst l')))
  | _, _ => .stuck
def fCallH2 (i : Nat) (m : List D → List D → Rf (D × List D)) (ds : List D) : Option (List D) → Env → Rs D
  | some l, ρ => toH i (m l ds) ρ
  | none, _ => .stuck
def fCallH1 (i n : Nat) (m : List D → List D → Rf (D × List D)) : Rs (List D) → Rs D
  | .ok ds ρ => selT (decide (ds.length + 1 = n)) (fCallH2 i m ds (ownL ρ i) ρ)
  | .exc e ρ => .exc e ρ
  | .stuck => .stuck
def ifOwn (o : Option (List D)) (r : Rs α) : Rs α := match o with
  | some _ => r
  | none => .stuck
def fIxO2 (k : D) (ρ : Env) : Option (List D) → Rs D
  | some l => Rs.ofOpt (dIx (.lst l) k) ρ
  | none => .stuck
def fIxO (i : Nat) : Rs D → Rs D
  | .ok k ρ => fIxO2 k ρ (ownL ρ i)
  | .exc e ρ => .exc e ρ
  | .stuck => .stuck
def fMove (i : Nat) (ρ : Env) : Option (List D) → Rs D
  | some l => .ok (.lst l) (ρ.set i none)
  | none => .stuck
def fOwnA (f : List D → Option D) (ρ : Env) : Option (List D) → Rs D
  | some l => Rs.ofOpt (f l) ρ
  | none => .stuck
def fOT (ρ : Env) : Option (List D) → Rs Bool
  | some l => .ok (!l.isEmpty) ρ
  | none => .stuck
def ownV : Option (Option D) → Option (List D)
  | some (some (.lst l)) => some l
  | _ => none
def varV (ρ : Env) : Option (Option D) → Rs D
  | some (some d) => .ok d ρ
  | _ => .stuck
/- statements -/
def fExpr : Rs D → Out
  | .ok _ ρ => .nx ρ
  | .exc e ρ => .exc e ρ
  | .stuck => .stuck
def fSet (i : Nat) : Rs D → Out
  | .ok d ρ => .nx (ρ.set i (some d))
  | .exc e ρ => .exc e ρ
  | .stuck => .stuck
def fRet : Rs D → Out
  | .ok d ρ => .ret d ρ
  | .exc e ρ => .exc e ρ
  | .stuck => .stuck
def fIfS (a b : Env → Out) : Rs Bool → Out
  | .ok x ρ => sel x a b ρ
  | .exc e ρ => .exc e ρ
  | .stuck => .stuck
def thenN (t : Env → Out) : Out → Out
  | .nx ρ => t ρ
  | _ => .stuck
def fAsg2 : Option Env → Out
  | some ρ => .nx ρ
  | none => .stuck
def fAsg (mg : D → Env → Option Env) : Rs D → Out
  | .ok d ρ => fAsg2 (mg d ρ)
  | .exc e ρ => .exc e ρ
  | .stuck => .stuck
def fPar (i j : Nat) : Rs (List D) → Out
  | .ok [x, y] ρ => .nx ((ρ.set i (some x)).set j (some y))
  | .exc e ρ => .exc e ρ
  | _ => .stuck
def fApp2 (i : Nat) (d : D) (ρ : Env) : Option (List D) → Out
  | some l => if l.length < 1000000 then .nx (ρ.set i (some (.lst (l ++ [d])))) else .stuck
  | none => .stuck
def fApp (i : Nat) : Rs D → Out
  | .ok d ρ => fApp2 i d ρ (ownL ρ i)
  | .exc e ρ => .exc e ρ
  | .stuck => .stuck
def ifOwnS (o : Option (List D)) (r : Out) : Out := match o with
  | some _ => r
  | none => .stuck
def fSI4 (i : Nat) (l : List D) (d : D) (ρ : Env) : Option Nat → Out
  | some j => .nx (ρ.set i (some (.lst (l.set j d))))
  | none => .stuck
def fSI3 (i : Nat) (d k : D) (ρ : Env) : Option (List D) → Out
  | some l => (match k with
    | .int n => fSI4 i l d ρ (ixN l.length n)
    | _ => .stuck)
  | none => .stuck
def fSI2 (i : Nat) (d : D) : Rs D → Out
  | .ok k ρ => fSI3 i d k ρ (ownL ρ i)
  | .exc e ρ => .exc e ρ
  | .stuck => .stuck
def fSI1 (i : Nat) (mk : Env → Rs D) : Rs D → Out
  | .ok d ρ => ifOwnS (ownL ρ i) (fSI2 i d (mk ρ))
  | .exc e ρ => .exc e ρ
  | .stuck => .stuck
def fFor (mg : D → Env → Option Env) (mb : Env → Out) : Rs (List D) → Out
  | .ok ds ρ => forL mg mb ds ρ
  | .exc e ρ => .exc e ρ
  | .stuck => .stuck
def fRng1 : Rs (List D) → Rs (List D)
  | .ok [.int j] ρ => if -(2 ^ 62) ≤ j ∧ j < 2 ^ 62 then .ok (rngD 0 j) ρ else .stuck
  | .exc e ρ => .exc e ρ
  | _ => .stuck
def fRng2 : Rs (List D) → Rs (List D)
  | .ok [.int i, .int j] ρ => if -(2 ^ 62) ≤ i ∧ i < 2 ^ 62 ∧ -(2 ^ 62) ≤ j ∧ j < 2 ^ 62 then .ok (rngD i j) ρ else .stuck
  | .exc e ρ => .exc e ρ
  | _ => .stuck
def fItems : Rs D → Rs (List D)
  | .ok d ρ => Rs.ofOpt (itemsD d) ρ
  | .exc e ρ => .exc e ρ
  | .stuck => .stuck
def fEnum : Rs (List D) → Rs (List D)
  | .ok [.lst l] ρ => .ok (enumD l) ρ
  | .ok [.tup l] ρ => .ok (enumD l) ρ
  | .ok [.scr l] ρ => .ok (enumD (l.map D.int)) ρ
  | .exc e ρ => .exc e ρ
  | _ => .stuck
def fZip : Rs (List D) → Rs (List D)
  | .ok [.lst l, .lst k] ρ => .ok (zipD l k) ρ
  | .ok [.tup l, .tup k] ρ => .ok (zipD l k) ρ
  | .ok [.lst l, .tup k] ρ => .ok (zipD l k) ρ
  | .ok [.tup l, .lst k] ρ => .ok (zipD l k) ρ
  | .exc e ρ => .exc e ρ
  | _ => .stuck
def fLc2 (ρ1 : Env) (vs : List Nat) : Rs (List D) → Rs D
  | .ok l ρ2 => .ok (.lst l) (restE ρ1 ρ2 vs)
  | _ => .stuck
def fLc (mg : D → Env → Option Env) (mt : Env → Rs Bool) (me : Env → Rs D) (vs : List Nat) : Rs (List D) → Rs D
  | .ok ds ρ => if ds.length ≤ 1000000 then fLc2 ρ vs (lcL mg mt me vs ds [] ρ) else .stuck
  | .exc e ρ => .exc e ρ
  | .stuck => .stuck
def fRun : Out → Rf D
  | .nx _ => .ok .non
  | .ret d _ => .ok d
  | .exc e _ => .exc e
  | _ => .stuck
def fRunN : Out → Rf D
  | .ret d _ => .ok d
  | _ => .stuck
def fRunH2 (d : D) : Option (List D) → Rf (D × List D)
  | some l => .ok (d, l)
  | none => .stuck
def fRunH : Out → Rf (D × List D)
  | .nx ρ => fRunH2 .non (ownL ρ 0)
  | .ret d ρ => fRunH2 d (ownL ρ 0)
  | _ => .stuck
def fR1 (c : Nat) (f : Str) : Rs D → Out
  | .ok d ρ => .exc (.ins c [f] [d]) ρ
  | .exc e ρ => .exc e ρ
  | .stuck => .stuck
def fR22 (c : Nat) (f g : Str) (d : D) : Rs D → Out
  | .ok e ρ => .exc (.ins c [g, f] [e, d]) ρ
  | .exc e ρ => .exc e ρ
  | .stuck => .stuck
def fR2 (c : Nat) (f g : Str) (m2 : Env → Rs D) : Rs D → Out
  | .ok d ρ => fR22 c f g d (m2 ρ)
  | .exc e ρ => .exc e ρ
  | .stuck => .stuck
def fTry2 (i : Nat) (mh : D → Env → Out) (e : D) (ρ : Env) : Option Bool → Out
  | some true => if i < ρ.length then behind i (mh e (ρ.set i none)) else .stuck
  | some false => .exc e ρ
  | none => .stuck
def fTry (i : Nat) (isa : Nat → Option Bool) (mh : D → Env → Out) : Out → Out
  | .exc e ρ => (match e with
    | .ins c ns l => fTry2 i mh (.ins c ns l) ρ (isa c)
    | _ => .stuck)
  | r => r
def fSl3 (d : D) (lo : Option Int) : Rs (Option Int) → Rs D
  | .ok hi ρ => (match d with
    | .lst l => .ok (.lst (cutD l lo hi)) ρ
    | .tup l => .ok (.tup (cutD l lo hi)) ρ
    | .str z => if z.length ≤ 1000000 then .ok (.str (cutS z lo hi)) ρ else .stuck
    | _ => .stuck)
  | .exc e ρ => .exc e ρ
  | .stuck => .stuck
def fSl2 (d : D) (b : Env → Rs (Option Int)) : Rs (Option Int) → Rs D
  | .ok lo ρ => fSl3 d lo (b ρ)
  | .exc e ρ => .exc e ρ
  | .stuck => .stuck
def fSl1 (a b : Env → Rs (Option Int)) : Rs D → Rs D
  | .ok d ρ => fSl2 d b (a ρ)
  | .exc e ρ => .exc e ρ
  | .stuck => .stuck
def fOSome : Rs D → Rs (Option Int)
  | .ok (.int i) ρ => .ok (some i) ρ
  | .exc e ρ => .exc e ρ
  | _ => .stuck
def fCh4 (f' : D → D → Option D) (b : D) : Rs D → Rs D
  | .ok c ρ => Rs.ofOpt (f' b c) ρ
  | .exc e ρ => .exc e ρ
  | .stuck => .stuck
def fCh3 (f' : D → D → Option D) (mc : Env → Rs D) (b : D) (ρ : Env) : Option D → Rs D
  | some (.bl x) => sel x (fun ρ => fCh4 f' b (mc ρ)) (rOk (.bl false)) ρ
  | _ => .stuck
def fCh2 (f f' : D → D → Option D) (mc : Env → Rs D) (a : D) : Rs D → Rs D
  | .ok b ρ => fCh3 f' mc b ρ (f a b)
  | .exc e ρ => .exc e ρ
  | .stuck => .stuck
def fCh1 (f f' : D → D → Option D) (mb mc : Env → Rs D) : Rs D → Rs D
  | .ok a ρ => fCh2 f f' mc a (mb ρ)
  | .exc e ρ => .exc e ρ
  | .stuck => .stuck
end
section
variable {ρ : Env} {a b c d e : D} {ma mb mc m : Env → Rs D} {ta tb : Env → Rs Bool} {la : Env → Rs (List D)} {s t : Env → Out} {i j n : Nat} {l ds dd : List D} {x : Bool}
theorem Op : eC d ρ = .ok d ρ := rfl
theorem Np : eVar i ρ = varV ρ ρ[i]? := by unfold eVar varV; rfl
theorem Jy : ownL ρ i = ownV ρ[i]? := by unfold ownL ownV; rfl
theorem Hk {f : D → D → Option D} : eBin f ma mb ρ = fBin1 f mb (ma ρ) := by
  unfold eBin fBin1
  cases ma ρ with
  | ok a ρ1 => show (mb ρ1).bind _ = fBin2 f a (mb ρ1); unfold fBin2; cases mb ρ1 <;> rfl
  | _ => rfl
theorem Cw {f : D → D → Option D} : fBin1 f mb (.ok a ρ) = fBin2 f a (mb ρ) := rfl
theorem Lb {f : D → D → Option D} : fBin1 f mb (.exc e ρ) = .exc e ρ := rfl
theorem Ll {f : D → D → Option D} : fBin2 f a (.ok b ρ) = Rs.ofOpt (f a b) ρ := rfl
theorem Ng {f : D → D → Option D} : fBin2 f a (.exc e ρ) = .exc e ρ := rfl
theorem Mm {α : Type} {y : α} : Rs.ofOpt (some y) ρ = .ok y ρ := rfl
theorem Ms {f : D → Option D} : eUn f ma ρ = fUn f (ma ρ) := by unfold eUn fUn; cases ma ρ <;> rfl
theorem Ib {α : Type} {y : α} {f : α → Option D} : fUn f (.ok y ρ) = Rs.ofOpt (f y) ρ := rfl
theorem Oc {α : Type} {f : α → Option D} : fUn f (.exc e ρ) = .exc e ρ := rfl
theorem Qm : aNil ρ = .ok [] ρ := rfl
theorem Mp : aCons ma la ρ = fCons1 la (ma ρ) := by
  unfold aCons fCons1
  cases ma ρ with
  | ok a ρ1 => show (la ρ1).bind _ = fCons2 a (la ρ1); unfold fCons2; cases la ρ1 <;> rfl
  | _ => rfl
theorem Kz : fCons1 la (.ok a ρ) = fCons2 a (la ρ) := rfl
theorem Cr : fCons1 la (.exc e ρ) = .exc e ρ := rfl
theorem Kp : fCons2 a (.ok l ρ) = .ok (a :: l) ρ := rfl
theorem Jo : fCons2 a (.exc e ρ) = .exc e ρ := rfl
theorem Qn {f : List D → Option D} : aF f la ρ = fUn f (la ρ) := by unfold aF fUn; cases la ρ <;> rfl
theorem Na : tfB ma ρ = fB (ma ρ) := by
  unfold tfB fB
  cases ma ρ with
  | ok d _ => cases d <;> rfl
  | _ => rfl
theorem Jt : fB (.ok (.bl x) ρ) = .ok x ρ := rfl
theorem Bx : fB (.exc e ρ) = .exc e ρ := rfl
theorem Dz : tfT ma ρ = fT (ma ρ) := by unfold tfT fT; cases ma ρ <;> rfl
theorem Ix : fT (.ok d ρ) = Rs.ofOpt (truthD d) ρ := rfl
theorem Ad : fT (.exc e ρ) = .exc e ρ := rfl
theorem Nl {α : Type} {y z : Env → α} : sel true y z ρ = y ρ := id rfl
theorem Gj {α : Type} {y z : Env → α} : sel false y z ρ = z ρ := id rfl
theorem Gu {α : Type} {y z : Env → Rs α} : fIfR y z (.ok x ρ) = sel x y z ρ := rfl
theorem Ab {α : Type} {y z : Env → Rs α} : fIfR y z (.exc e ρ) = .exc e ρ := rfl
theorem Gp {α : Type} {y : α} : rOk y ρ = .ok y ρ := rfl
theorem Pv : tfAnd ta tb ρ = fIfR tb (rOk false) (ta ρ) := by
  unfold tfAnd fIfR
  cases ta ρ with
  | ok x ρ1 => cases x <;> rfl
  | _ => rfl
theorem Fi : tfOr ta tb ρ = fIfR (rOk true) tb (ta ρ) := by
  unfold tfOr fIfR
  cases ta ρ with
  | ok x ρ1 => cases x <;> rfl
  | _ => rfl
theorem Ph : tfNot ta ρ = fNotR (ta ρ) := by unfold tfNot fNotR; cases ta ρ <;> rfl
theorem Hy : fNotR (.ok x ρ) = .ok (!x) ρ := rfl
theorem Qp : fNotR (.exc e ρ) = .exc e ρ := rfl
theorem Fr : eAnd ma mb ρ = fEAnd mb (ma ρ) := by
  unfold eAnd fEAnd
  cases ma ρ with
  | ok d ρ1 => cases d with
    | bl x => cases x <;> rfl
    | _ => rfl
  | _ => rfl
theorem Po : fEAnd mb (.ok (.bl x) ρ) = sel x mb (rOk (.bl false)) ρ := rfl
theorem Jv : fEAnd mb (.exc e ρ) = .exc e ρ := rfl
theorem Bs : eOr ma mb ρ = fEOr mb (ma ρ) := by
  unfold eOr fEOr
  cases ma ρ with
  | ok d ρ1 => cases d with
    | bl x => cases x <;> rfl
    | _ => rfl
  | _ => rfl
theorem Av : fEOr mb (.ok (.bl x) ρ) = sel x (rOk (.bl true)) mb ρ := rfl
theorem Fp : fEOr mb (.exc e ρ) = .exc e ρ := rfl
theorem Gr : eNot ma ρ = fENot (ma ρ) := by
  unfold eNot fENot
  cases ma ρ with
  | ok d _ => cases d <;> rfl
  | _ => rfl
theorem Ex : fENot (.ok (.bl x) ρ) = .ok (.bl !x) ρ := rfl
theorem Ky : fENot (.exc e ρ) = .exc e ρ := rfl
theorem Fd : eIf ta ma mb ρ = fIfR ma mb (ta ρ) := by
  unfold eIf fIfR
  cases ta ρ with
  | ok x ρ1 => cases x <;> rfl
  | _ => rfl
theorem Ig {α : Type} {r : Rs α} : selT true r = r := rfl
theorem Gy {f : List D → Rf D} : eCall n f dd la ρ = fCall n f dd (la ρ) := by
  unfold eCall fCall
  cases la ρ with
  | ok ds ρ1 =>
    show (if (ds ++ dd).length = n then _ else _) = selT (decide ((ds ++ dd).length = n)) _
    by_cases h : (ds ++ dd).length = n
    · rw [if_pos h, decide_eq_true h]; rfl
    · rw [if_neg h, decide_eq_false h]; rfl
  | _ => rfl
theorem Kq {f : List D → Rf D} : fCall n f dd (.ok ds ρ) = selT (decide ((ds ++ dd).length = n)) ((f (ds ++ dd)).to ρ) := rfl
theorem Md {f : List D → Rf D} : fCall n f dd (.exc e ρ) = .exc e ρ := rfl
theorem Bh : (Rf.ok d).to ρ = .ok d ρ := rfl
theorem Fe {α : Type} : (Rf.exc e : Rf α).to ρ = .exc e ρ := rfl
theorem Oe {f : List D → Rf D} : eCallN n f dd la ρ = fCallN n f dd (la ρ) := by
  unfold eCallN fCallN
  cases la ρ with
  | ok ds ρ1 =>
    show (if (ds ++ dd).length = n then _ else _) = selT (decide ((ds ++ dd).length = n)) _
    by_cases h : (ds ++ dd).length = n
    · rw [if_pos h, decide_eq_true h]; show _ = toN _ _; unfold toN; cases f (ds ++ dd) <;> rfl
    · rw [if_neg h, decide_eq_false h]; rfl
  | _ => rfl
theorem Hb {f : List D → Rf D} : fCallN n f dd (.ok ds ρ) = selT (decide ((ds ++ dd).length = n)) (toN (f (ds ++ dd)) ρ) := rfl
theorem Da : toN (.ok d) ρ = .ok d ρ := rfl
theorem Dv {f : List D → List D → Rf (D × List D)} : eCallH i n f la ρ = ifOwn (ownL ρ i) (fCallH1 i n f (la ρ)) := by
  unfold eCallH ifOwn fCallH1
  cases ownL ρ i with
  | none => rfl
  | some l0 =>
    cases la ρ with
    | ok ds ρ1 =>
      show (if ds.length + 1 = n then _ else _) = _
      by_cases h : ds.length + 1 = n
      · rw [if_pos h]
        show _ = selT (decide (ds.length + 1 = n)) _
        rw [decide_eq_true h]
        show _ = fCallH2 _ _ _ _ _
        unfold fCallH2
        cases ownL ρ1 i with
        | none => rfl
        | some l =>
          show (match f l ds with | .ok (d, l') => Rs.ok d (ρ1.set i (some (.lst l'))) | _ => .stuck) = toH i (f l ds) ρ1
          unfold toH
          cases f l ds <;> rfl
      · rw [if_neg h]
        show _ = selT (decide (ds.length + 1 = n)) _
        rw [decide_eq_false h]; rfl
    | _ => rfl
theorem Mr {α : Type} {r : Rs α} : ifOwn (some l) r = r := rfl
theorem Cu {f : List D → List D → Rf (D × List D)} : fCallH1 i n f (.ok ds ρ) = selT (decide (ds.length + 1 = n)) (fCallH2 i f ds (ownL ρ i) ρ) := rfl
theorem Mc {f : List D → List D → Rf (D × List D)} : fCallH2 i f ds (some l) ρ = toH i (f l ds) ρ := rfl
theorem Hx : toH i (.ok (d, l)) ρ = .ok d (ρ.set i (some (.lst l))) := rfl
theorem Iu : eIxOwn i ma ρ = ifOwn (ownL ρ i) (fIxO i (ma ρ)) := by
  unfold eIxOwn ifOwn fIxO
  cases ownL ρ i with
  | none => rfl
  | some l0 => cases ma ρ with
    | ok k ρ1 => show _ = fIxO2 _ _ _; unfold fIxO2; show (match ownL ρ1 i with | none => Rs.stuck | some l => Rs.ofOpt (dIx (.lst l) k) ρ1) = _; cases ownL ρ1 i <;> rfl
    | _ => rfl
theorem Px : fIxO i (.ok d ρ) = fIxO2 d ρ (ownL ρ i) := rfl
theorem Cb : fIxO2 d ρ (some l) = Rs.ofOpt (dIx (.lst l) d) ρ := rfl
theorem Cs : eMove i ρ = fMove i ρ (ownL ρ i) := by unfold eMove fMove; cases ownL ρ i <;> rfl
theorem Mg : fMove i ρ (some l) = .ok (.lst l) (ρ.set i none) := rfl
theorem Il {f : List D → Option D} : aOwn f i ρ = fOwnA f ρ (ownL ρ i) := by unfold aOwn fOwnA; cases ownL ρ i <;> rfl
theorem Dt {f : List D → Option D} : fOwnA f ρ (some l) = Rs.ofOpt (f l) ρ := rfl
theorem Ak : ownV (some (some (.lst l))) = some l := rfl
theorem Ek : varV ρ (some (some d)) = .ok d ρ := rfl
theorem Ob : sSeq s t ρ = thenO t (s ρ) := by unfold sSeq thenO; cases s ρ <;> rfl
theorem Mn : thenO t (.nx ρ) = t ρ := id rfl
theorem Gi : thenO t (.ret d ρ) = .ret d ρ := rfl
theorem Pf : thenO t (.exc d ρ) = .exc d ρ := rfl
theorem Nc : thenO t (.brk ρ) = .brk ρ := rfl
theorem Dj : thenO t (.ct ρ) = .ct ρ := rfl
theorem Jw : sSeqN s t ρ = thenN t (s ρ) := by unfold sSeqN thenN; cases s ρ <;> rfl
theorem Cy : thenN t (.nx ρ) = t ρ := id rfl
theorem Bp : sNext ρ = .nx ρ := rfl
theorem Fl : sBrk ρ = .brk ρ := rfl
theorem Ai : sCt ρ = .ct ρ := rfl
theorem Al : sExpr ma ρ = fExpr (ma ρ) := by unfold sExpr fExpr; cases ma ρ <;> rfl
theorem Fv : fExpr (.ok d ρ) = .nx ρ := rfl
theorem Jz : fExpr (.exc e ρ) = .exc e ρ := rfl
theorem Ds : sSet i ma ρ = fSet i (ma ρ) := by unfold sSet fSet; cases ma ρ <;> rfl
theorem Mu : fSet i (.ok d ρ) = .nx (ρ.set i (some d)) := rfl
theorem An : fSet i (.exc e ρ) = .exc e ρ := rfl
theorem Hq : sRet ma ρ = fRet (ma ρ) := by unfold sRet fRet; cases ma ρ <;> rfl
theorem Lu : fRet (.ok d ρ) = .ret d ρ := rfl
theorem Am : fRet (.exc e ρ) = .exc e ρ := rfl
theorem Ql : sRetN ρ = .ret .non ρ := rfl
theorem Ff : sIf ta s t ρ = fIfS s t (ta ρ) := by
  unfold sIf fIfS
  cases ta ρ with
  | ok x ρ1 => cases x <;> rfl
  | _ => rfl
theorem Fm : fIfS s t (.ok x ρ) = sel x s t ρ := rfl
theorem Bv : fIfS s t (.exc e ρ) = .exc e ρ := rfl
theorem Ge {mg : D → Env → Option Env} : sAsg mg ma ρ = fAsg mg (ma ρ) := by
  unfold sAsg fAsg
  cases ma ρ with
  | ok d ρ1 => show _ = fAsg2 _; unfold fAsg2; show (match mg d ρ1 with | some ρ2 => Out.nx ρ2 | none => Out.stuck) = _; cases mg d ρ1 <;> rfl
  | _ => rfl
theorem Ft {mg : D → Env → Option Env} : fAsg mg (.ok d ρ) = fAsg2 (mg d ρ) := rfl
theorem Er {mg : D → Env → Option Env} : fAsg mg (.exc e ρ) = .exc e ρ := rfl
theorem Fh : fAsg2 (some ρ) = .nx ρ := rfl
theorem Jm : nmG i d ρ = some (ρ.set i (some d)) := rfl
theorem Ec : nilG [] ρ = some ρ := rfl
theorem Oa {f : D → Env → Option Env} {g : List D → Env → Option Env} : consG f g (d :: l) ρ = (f d ρ).bind (g l) := rfl
theorem Jj {α β : Type} {y : α} {f : α → Option β} : (some y).bind f = f y := rfl
theorem Ny {g : List D → Env → Option Env} : tupG 2 g (.tup [a, b]) ρ = g [a, b] ρ := rfl
theorem Db {g : List D → Env → Option Env} : tupG 3 g (.tup [a, b, c]) ρ = g [a, b, c] ρ := rfl
theorem Bq {g : List D → Env → Option Env} : tupG 4 g (.tup [a, b, c, d]) ρ = g [a, b, c, d] ρ := rfl
theorem Gt : sPar i j la ρ = fPar i j (la ρ) := by
  unfold sPar fPar
  cases la ρ with
  | ok l ρ1 =>
    cases l with
    | nil => rfl
    | cons y l => cases l with
      | nil => rfl
      | cons z l => cases l <;> rfl
  | _ => rfl
theorem Dx : fPar i j (.ok [a, b] ρ) = .nx ((ρ.set i (some a)).set j (some b)) := rfl
theorem Ju : sApp i ma ρ = ifOwnS (ownL ρ i) (fApp i (ma ρ)) := by
  unfold sApp ifOwnS fApp
  cases ownL ρ i with
  | none => rfl
  | some l0 => cases ma ρ with
    | ok k ρ1 => show _ = fApp2 _ _ _ _; unfold fApp2; show (match ownL ρ1 i with | none => Out.stuck | some l => if l.length < 1000000 then .nx (ρ1.set i (some (.lst (l ++ [k])))) else .stuck) = _; cases ownL ρ1 i <;> rfl
    | _ => rfl
theorem Cc {r : Out} : ifOwnS (some l) r = r := rfl
theorem Lt : fApp i (.ok d ρ) = fApp2 i d ρ (ownL ρ i) := rfl
theorem Cd : fApp i (.exc d ρ) = .exc d ρ := rfl
theorem Cf : fApp2 i d ρ (some []) = .nx (ρ.set i (some (.lst [d]))) := rfl
theorem Nn (h : l.length < 1000000) : fApp2 i d ρ (some l) = .nx (ρ.set i (some (.lst (l ++ [d])))) := if_pos h
theorem Og : sSetIx i mb ma ρ = fSI1 i mb (ma ρ) := by
  unfold sSetIx fSI1
  cases ma ρ with
  | ok d ρ1 =>
    show (match ownL ρ1 i with | none => Out.stuck | some _ => (mb ρ1).out fun k ρ2 => match ownL ρ2 i, k with
      | some l, .int n => (match ixN l.length n with | some j => Out.nx (ρ2.set i (some (.lst (l.set j d)))) | none => .stuck)
      | _, _ => .stuck) = ifOwnS _ _
    unfold ifOwnS
    cases ownL ρ1 i with
    | none => rfl
    | some l0 =>
      show _ = fSI2 _ _ _
      unfold fSI2
      show (mb ρ1).out _ = _
      cases mb ρ1 with
      | ok k ρ2 =>
        show (match ownL ρ2 i, k with
          | some l, .int n => (match ixN l.length n with | some j => Out.nx (ρ2.set i (some (.lst (l.set j d)))) | none => .stuck)
          | _, _ => .stuck) = fSI3 _ _ _ _ _
        unfold fSI3
        cases ownL ρ2 i with
        | none => rfl
        | some l => cases k with
          | int n =>
            show _ = fSI4 _ _ _ _ _
            unfold fSI4
            show (match ixN l.length n with | some j => Out.nx (ρ2.set i (some (.lst (l.set j d)))) | none => .stuck) = _
            cases ixN l.length n <;> rfl
          | _ => rfl
      | _ => rfl
  | _ => rfl
theorem Pm : fSI1 i mb (.ok d ρ) = ifOwnS (ownL ρ i) (fSI2 i d (mb ρ)) := rfl
theorem Kt : fSI2 i d (.ok a ρ) = fSI3 i d a ρ (ownL ρ i) := rfl
theorem Bc {z : Int} : fSI3 i d (.int z) ρ (some l) = fSI4 i l d ρ (ixN l.length z) := rfl
theorem Nb : fSI4 i l d ρ (some j) = .nx (ρ.set i (some (.lst (l.set j d)))) := rfl
theorem Ko {mi : Env → Rs (List D)} {mg : D → Env → Option Env} : sFor mi mg s ρ = fFor mg s (mi ρ) := by unfold sFor fFor; cases mi ρ <;> rfl
theorem Gv {mg : D → Env → Option Env} : fFor mg s (.ok ds ρ) = forL mg s ds ρ := rfl
theorem Oy {mg : D → Env → Option Env} : fFor mg s (.exc e ρ) = .exc e ρ := rfl
theorem Kd : iSeqM ma ρ = fItems (ma ρ) := by unfold iSeqM fItems; cases ma ρ <;> rfl
theorem Qq : fItems (.ok d ρ) = Rs.ofOpt (itemsD d) ρ := rfl
theorem Pg : itemsD (.lst l) = some l := rfl
theorem Ld {ns : List Int} : itemsD (.scr ns) = some (ns.map D.int) := rfl
theorem Ax : itemsD (.tup l) = some l := rfl
theorem Cn : rng1M la ρ = fRng1 (la ρ) := by
  unfold rng1M fRng1
  cases la ρ with
  | ok l ρ1 =>
    cases l with
    | nil => rfl
    | cons y l => cases l with
      | nil => cases y <;> rfl
      | cons z l => cases y <;> rfl
  | _ => rfl
theorem Od {z : Int} (h : -(2 ^ 62) ≤ z) (h2 : z < 2 ^ 62) : fRng1 (.ok [.int z] ρ) = .ok (rngD 0 z) ρ := if_pos ⟨h, h2⟩
theorem Ed : rng2M la ρ = fRng2 (la ρ) := by
  unfold rng2M fRng2
  cases la ρ with
  | ok l ρ1 =>
    cases l with
    | nil => rfl
    | cons y l => cases l with
      | nil => cases y <;> rfl
      | cons z l => cases l with
        | nil => cases y <;> cases z <;> rfl
        | cons w l => cases y <;> cases z <;> rfl
  | _ => rfl
theorem Pd {y z : Int} (h : -(2 ^ 62) ≤ y) (h2 : y < 2 ^ 62) (h3 : -(2 ^ 62) ≤ z) (h4 : z < 2 ^ 62) : fRng2 (.ok [.int y, .int z] ρ) = .ok (rngD y z) ρ := if_pos ⟨h, h2, h3, h4⟩
theorem Pu {mi : Env → Rs (List D)} {mg : D → Env → Option Env} {vs : List Nat} : eLc mi mg ta ma vs ρ = fLc mg ta ma vs (mi ρ) := by
  unfold eLc fLc
  cases mi ρ with
  | ok ds ρ1 =>
    show (if ds.length ≤ 1000000 then (match lcL mg ta ma vs ds [] ρ1 with
    | .ok l ρ2 => Rs.ok (D.lst l) (restE ρ1 ρ2 vs)
    | _ => .stuck) else .stuck) = (if ds.length ≤ 1000000 then fLc2 ρ1 vs (lcL mg ta ma vs ds [] ρ1) else .stuck)
    unfold fLc2
    cases lcL mg ta ma vs ds [] ρ1 <;> rfl
  | _ => rfl
theorem Ox {mg : D → Env → Option Env} {vs : List Nat} (h : ds.length ≤ 1000000) : fLc mg ta ma vs (.ok ds ρ) = fLc2 ρ vs (lcL mg ta ma vs ds [] ρ) := if_pos h
theorem Eb {mg : D → Env → Option Env} {vs : List Nat} : fLc mg ta ma vs (.exc e ρ) = .exc e ρ := rfl
theorem Mw {vs : List Nat} {ρ1 : Env} : fLc2 ρ vs (.ok l ρ1) = .ok (.lst l) (restE ρ ρ1 vs) := rfl
theorem Cp {f : Env → Out} : runF n f ds = fRun (f (entry n ds)) := by unfold runF fRun; cases f (entry n ds) <;> rfl
theorem Oq : fRun (.ret d ρ) = .ok d := rfl
theorem Lg : fRun (.nx ρ) = .ok .non := rfl
theorem Ba : fRun (.exc d ρ) = .exc d := rfl
theorem Gb {f : Env → Out} : runN n f ds = fRunN (f (entry n ds)) := by unfold runN fRunN; cases f (entry n ds) <;> rfl
theorem Br : fRunN (.ret d ρ) = .ok d := rfl
theorem Kw {f : Env → Out} : runH n f l ds = fRunH (f (entry n (.lst l :: ds))) := by
  unfold runH fRunH
  cases f (entry n (.lst l :: ds)) with
  | nx ρ => show _ = fRunH2 _ _; unfold fRunH2; show (match ownL ρ 0 with | some l' => Rf.ok (D.non, l') | none => .stuck) = _; cases ownL ρ 0 <;> rfl
  | ret d ρ => show _ = fRunH2 _ _; unfold fRunH2; show (match ownL ρ 0 with | some l' => Rf.ok (d, l') | none => .stuck) = _; cases ownL ρ 0 <;> rfl
  | _ => rfl
theorem Ks : fRunH (.ret d ρ) = fRunH2 d (ownL ρ 0) := rfl
theorem Gf : fRunH (.nx ρ) = fRunH2 .non (ownL ρ 0) := rfl
theorem Qr : fRunH2 d (some l) = .ok (d, l) := rfl
theorem Kh {f : Str} : sRaise1 i f ma ρ = fR1 i f (ma ρ) := by unfold sRaise1 fR1; cases ma ρ <;> rfl
theorem Pn {f : Str} : fR1 i f (.ok d ρ) = .exc (.ins i [f] [d]) ρ := rfl
theorem Mo {f g : Str} : sRaise2 i f g ma mb ρ = fR2 i f g mb (ma ρ) := by
  unfold sRaise2 fR2
  cases ma ρ with
  | ok d ρ1 => show (mb ρ1).out _ = fR22 _ _ _ _ _; unfold fR22; cases mb ρ1 <;> rfl
  | _ => rfl
theorem Dd {f g : Str} : fR2 i f g mb (.ok d ρ) = fR22 i f g d (mb ρ) := rfl
theorem Mf {f g : Str} : fR22 i f g d (.ok e ρ) = .exc (.ins i [g, f] [e, d]) ρ := rfl
theorem Mv : sRaise0 i ρ = .exc (.ins i [] []) ρ := rfl
theorem Fz {isa : Nat → Option Bool} {mh : D → Env → Out} : sTry i isa s mh ρ = fTry i isa mh (s ρ) := by
  unfold sTry fTry
  cases s ρ with
  | exc e ρ1 => cases e with
    | ins c ns l =>
      show (match isa c with | some true => if i < ρ1.length then behind i (mh (.ins c ns l) (ρ1.set i none)) else .stuck | some false => .exc (.ins c ns l) ρ1 | none => .stuck) = fTry2 _ _ _ _ _
      unfold fTry2
      cases isa c with
      | none => rfl
      | some x => cases x <;> rfl
    | _ => rfl
  | _ => rfl
theorem Nh {isa : Nat → Option Bool} {mh : D → Env → Out} : fTry i isa mh (.nx ρ) = .nx ρ := rfl
theorem Fg {isa : Nat → Option Bool} {mh : D → Env → Out} : fTry i isa mh (.ret d ρ) = .ret d ρ := rfl
theorem Iq {isa : Nat → Option Bool} {mh : D → Env → Out} {ns : List Str} : fTry i isa mh (.exc (.ins j ns l) ρ) = fTry2 i mh (.ins j ns l) ρ (isa j) := rfl
theorem Ku {mh : D → Env → Out} (h : i < ρ.length) : fTry2 i mh e ρ (some true) = behind i (mh e (ρ.set i none)) := if_pos h
theorem Ac {mh : D → Env → Out} : fTry2 i mh e ρ (some false) = .exc e ρ := rfl
theorem Es : behind i (.nx ρ) = .nx (ρ.set i none) := rfl
theorem Hv : behind i (.ret d ρ) = .ret d (ρ.set i none) := rfl
theorem Jk : behind i (.brk ρ) = .brk (ρ.set i none) := rfl
theorem Pp : behind i (.ct ρ) = .ct (ρ.set i none) := rfl
theorem Ep {oa ob : Env → Rs (Option Int)} : eSl ma oa ob ρ = fSl1 oa ob (ma ρ) := by
  unfold eSl fSl1
  cases ma ρ with
  | ok d ρ1 =>
    show (oa ρ1).bind _ = fSl2 _ _ _
    unfold fSl2
    cases oa ρ1 with
    | ok lo ρ2 =>
      show (ob ρ2).bind _ = fSl3 _ _ _
      unfold fSl3
      cases ob ρ2 <;> cases d <;> rfl
    | _ => rfl
  | _ => rfl
theorem Lw {oa ob : Env → Rs (Option Int)} : fSl1 oa ob (.ok d ρ) = fSl2 d ob (oa ρ) := rfl
theorem Gc {ob : Env → Rs (Option Int)} {lo : Option Int} : fSl2 d ob (.ok lo ρ) = fSl3 d lo (ob ρ) := rfl
theorem Fj {lo hi : Option Int} : fSl3 (.lst l) lo (.ok hi ρ) = .ok (.lst (cutD l lo hi)) ρ := rfl
theorem Ct {lo hi : Option Int} : fSl3 (.tup l) lo (.ok hi ρ) = .ok (.tup (cutD l lo hi)) ρ := rfl
theorem Dh {lo hi : Option Int} {z : Str} (h : z.length ≤ 1000000) : fSl3 (.str z) lo (.ok hi ρ) = .ok (.str (cutS z lo hi)) ρ := if_pos h
theorem Lp : oNone ρ = .ok none ρ := rfl
theorem Ja : oSome ma ρ = fOSome (ma ρ) := by
  unfold oSome fOSome
  cases ma ρ with
  | ok d _ => cases d <;> rfl
  | _ => rfl
theorem Jq {z : Int} : fOSome (.ok (.int z) ρ) = .ok (some z) ρ := rfl
theorem Pt {f f' : D → D → Option D} : eChain f f' ma mb mc ρ = fCh1 f f' mb mc (ma ρ) := by
  unfold eChain fCh1
  cases ma ρ with
  | ok a ρ1 =>
    show (mb ρ1).bind _ = fCh2 _ _ _ _ _
    unfold fCh2
    cases mb ρ1 with
    | ok b ρ2 =>
      show (Rs.ofOpt (f a b) ρ2).bind (chK f' mc b) = fCh3 _ _ _ _ _
      unfold fCh3
      cases f a b with
      | none => rfl
      | some z => cases z with
        | bl x => cases x with
          | true =>
            show (mc ρ2).bind _ = fCh4 f' b (mc ρ2)
            unfold fCh4
            cases mc ρ2 <;> rfl
          | false => rfl
        | _ => rfl
    | _ => rfl
  | _ => rfl
theorem Jn {f f' : D → D → Option D} : fCh1 f f' mb mc (.ok a ρ) = fCh2 f f' mc a (mb ρ) := rfl
theorem Az {f f' : D → D → Option D} : fCh2 f f' mc a (.ok b ρ) = fCh3 f' mc b ρ (f a b) := rfl
theorem Lx {f' : D → D → Option D} : fCh3 f' mc b ρ (some (.bl true)) = fCh4 f' b (mc ρ) := rfl
theorem Mz {f' : D → D → Option D} : fCh3 f' mc b ρ (some (.bl false)) = .ok (.bl false) ρ := rfl
theorem Lj {f' : D → D → Option D} : fCh4 f' b (.ok c ρ) = Rs.ofOpt (f' b c) ρ := rfl
theorem Go : enumM la ρ = fEnum (la ρ) := by
  unfold enumM fEnum
  cases la ρ with
  | ok l ρ1 =>
    cases l with
    | nil => rfl
    | cons y l => cases l <;> cases y <;> rfl
  | _ => rfl
theorem Im : fEnum (.ok [.lst l] ρ) = .ok (enumD l) ρ := rfl
theorem Ka : fEnum (.ok [.tup l] ρ) = .ok (enumD l) ρ := rfl
theorem Kc : zipM la ρ = fZip (la ρ) := by
  unfold zipM fZip
  cases la ρ with
  | ok l ρ1 =>
    cases l with
    | nil => rfl
    | cons y l => cases l with
      | nil => cases y <;> rfl
      | cons z l => cases l with
        | nil => cases y <;> cases z <;> rfl
        | cons w l => cases y <;> cases z <;> rfl
  | _ => rfl
theorem Nf : fZip (.ok [.lst l, .lst ds] ρ) = .ok (zipD l ds) ρ := rfl
theorem Eh : fZip (.ok [.tup l, .tup ds] ρ) = .ok (zipD l ds) ρ := rfl
theorem Kr : fZip (.ok [.lst l, .tup ds] ρ) = .ok (zipD l ds) ρ := rfl
theorem Qs : fZip (.ok [.tup l, .lst ds] ρ) = .ok (zipD l ds) ρ := rfl
/- data -/
variable {y z : Int}
theorem Dy : dAdd (.int y) (.int z) = some (.int (y + z)) := rfl
theorem Ht : dSub (.int y) (.int z) = some (.int (y - z)) := rfl
theorem Qt : dNeg (.int y) = some (.int (-y)) := rfl
theorem Mi : dLt (.int y) (.int z) = some (.bl (decide (y < z))) := rfl
theorem Pj : dLe (.int y) (.int z) = some (.bl (decide (y ≤ z))) := rfl
theorem Gn : dGt (.int y) (.int z) = some (.bl (decide (z < y))) := rfl
theorem Lr : dGe (.int y) (.int z) = some (.bl (decide (z ≤ y))) := rfl
theorem Oi : dEq (.int y) (.int z) = some (.bl (decide (y = z))) := dEq_int y z
theorem Qj : dNe (.int y) (.int z) = some (.bl (!decide (y = z))) := dNe_int y z
theorem Hz (h : z ≠ 0) : dMod (.int y) (.int z) = some (.int (y.fmod z)) := dMod_of h
theorem Pr : truthD (.int y) = some (!decide (y = 0)) := truthD_int y
theorem Ce : truthD (.bl x) = some x := rfl
theorem Ef : truthD .non = some false := rfl
theorem Nu : truthD (.lst l) = some !l.isEmpty := rfl
theorem Bi : truthD (.tup l) = some !l.isEmpty := rfl
theorem Qk : dLen [.lst l] = some (.int l.length) := rfl
theorem Aq : dLen [.tup l] = some (.int l.length) := rfl
theorem Pa {ns : List Int} : dLen [.scr ns] = some (.int ns.length) := rfl
theorem Pi {ns : List Int} : dList [.scr ns] = some (.lst (ns.map D.int)) := rfl
theorem De : dInt [.bl x] = some (.int (if x then 1 else 0)) := rfl
theorem Cg : dInt [.int y] = some (.int y) := rfl
theorem Ck : dAbs [.int y] = some (.int (if y < 0 then -y else y)) := rfl
theorem Kb : dList [.lst l] = some (.lst l) := rfl
theorem Pl : dList [.tup l] = some (.lst l) := rfl
theorem Pe : dTuple [.lst l] = some (.tup l) := rfl
theorem Kj : dTuple [.tup l] = some (.tup l) := rfl
theorem Dc : dTup [] = some (.tup []) := rfl
theorem Ic {x0 : D} : dTup [x0] = some (.tup [x0]) := rfl
theorem Aj {x0 x1 : D} : dTup [x0, x1] = some (.tup [x0, x1]) := rfl
theorem Aa {x0 x1 x2 : D} : dTup [x0, x1, x2] = some (.tup [x0, x1, x2]) := rfl
theorem Ho {x0 x1 x2 x3 : D} : dTup [x0, x1, x2, x3] = some (.tup [x0, x1, x2, x3]) := rfl
theorem Mq {x0 x1 x2 x3 x4 : D} : dTup [x0, x1, x2, x3, x4] = some (.tup [x0, x1, x2, x3, x4]) := rfl
theorem Qi {x0 x1 x2 x3 x4 x5 : D} : dTup [x0, x1, x2, x3, x4, x5] = some (.tup [x0, x1, x2, x3, x4, x5]) := rfl
theorem Kv {x0 x1 x2 x3 x4 x5 x6 : D} : dTup [x0, x1, x2, x3, x4, x5, x6] = some (.tup [x0, x1, x2, x3, x4, x5, x6]) := rfl
theorem Gk {x0 x1 x2 x3 x4 x5 x6 x7 : D} : dTup [x0, x1, x2, x3, x4, x5, x6, x7] = some (.tup [x0, x1, x2, x3, x4, x5, x6, x7]) := rfl
theorem Me {x0 x1 x2 x3 x4 x5 x6 x7 x8 : D} : dTup [x0, x1, x2, x3, x4, x5, x6, x7, x8] = some (.tup [x0, x1, x2, x3, x4, x5, x6, x7, x8]) := rfl
theorem Nt {x0 x1 x2 x3 x4 x5 x6 x7 x8 x9 : D} : dTup [x0, x1, x2, x3, x4, x5, x6, x7, x8, x9] = some (.tup [x0, x1, x2, x3, x4, x5, x6, x7, x8, x9]) := rfl
theorem Hi {x0 x1 x2 x3 x4 x5 x6 x7 x8 x9 x10 : D} : dTup [x0, x1, x2, x3, x4, x5, x6, x7, x8, x9, x10] = some (.tup [x0, x1, x2, x3, x4, x5, x6, x7, x8, x9, x10]) := rfl
theorem Mh {x0 x1 x2 x3 x4 x5 x6 x7 x8 x9 x10 x11 : D} : dTup [x0, x1, x2, x3, x4, x5, x6, x7, x8, x9, x10, x11] = some (.tup [x0, x1, x2, x3, x4, x5, x6, x7, x8, x9, x10, x11]) := rfl
theorem Mx : dLst [] = some (.lst []) := rfl
theorem Qo {x0 : D} : dLst [x0] = some (.lst [x0]) := rfl
theorem Ji {x0 x1 : D} : dLst [x0, x1] = some (.lst [x0, x1]) := rfl
theorem Bt {x0 x1 x2 : D} : dLst [x0, x1, x2] = some (.lst [x0, x1, x2]) := rfl
theorem Os {x0 x1 x2 x3 : D} : dLst [x0, x1, x2, x3] = some (.lst [x0, x1, x2, x3]) := rfl
theorem Ar {x0 x1 x2 x3 x4 : D} : dLst [x0, x1, x2, x3, x4] = some (.lst [x0, x1, x2, x3, x4]) := rfl
theorem Pc {x0 x1 x2 x3 x4 x5 : D} : dLst [x0, x1, x2, x3, x4, x5] = some (.lst [x0, x1, x2, x3, x4, x5]) := rfl
theorem Ki {x0 x1 x2 x3 x4 x5 x6 : D} : dLst [x0, x1, x2, x3, x4, x5, x6] = some (.lst [x0, x1, x2, x3, x4, x5, x6]) := rfl
theorem Hj {x0 x1 x2 x3 x4 x5 x6 x7 : D} : dLst [x0, x1, x2, x3, x4, x5, x6, x7] = some (.lst [x0, x1, x2, x3, x4, x5, x6, x7]) := rfl
theorem Jc {x0 x1 x2 x3 x4 x5 x6 x7 x8 : D} : dLst [x0, x1, x2, x3, x4, x5, x6, x7, x8] = some (.lst [x0, x1, x2, x3, x4, x5, x6, x7, x8]) := rfl
theorem Bz {x0 x1 x2 x3 x4 x5 x6 x7 x8 x9 : D} : dLst [x0, x1, x2, x3, x4, x5, x6, x7, x8, x9] = some (.lst [x0, x1, x2, x3, x4, x5, x6, x7, x8, x9]) := rfl
theorem Iw {x0 x1 x2 x3 x4 x5 x6 x7 x8 x9 x10 : D} : dLst [x0, x1, x2, x3, x4, x5, x6, x7, x8, x9, x10] = some (.lst [x0, x1, x2, x3, x4, x5, x6, x7, x8, x9, x10]) := rfl
theorem Ez {x0 x1 x2 x3 x4 x5 x6 x7 x8 x9 x10 x11 : D} : dLst [x0, x1, x2, x3, x4, x5, x6, x7, x8, x9, x10, x11] = some (.lst [x0, x1, x2, x3, x4, x5, x6, x7, x8, x9, x10, x11]) := rfl
theorem Mb : dGcd [.int y, .int z] = some (.int (Nat.gcd y.natAbs z.natAbs : Nat)) := rfl
theorem Aw : dIsN .non = some (.bl true) := rfl
theorem Jl : dNotN .non = some (.bl false) := rfl
theorem Bb {x' : Bool} : dIsB (.bl x) (.bl x') = some (.bl (decide (x = x'))) := rfl
theorem Nv {x' : Bool} : dNotB (.bl x) (.bl x') = some (.bl (!decide (x = x'))) := rfl
theorem Lh : dIx (.lst l) (.int z) = atI l z := by first | rfl | (unfold dIx; rfl)
theorem Hl : dIx (.tup l) (.int z) = atI l z := by first | rfl | (unfold dIx; rfl)
theorem Ao {α : Type} {y : α} {l : List α} : atI (y :: l) 0 = some y := atI_of (n := 0) rfl rfl
theorem Eu {α : Type} {y1 y : α} {l : List α} : atI (y1 :: y :: l) 1 = some y := atI_of (n := 1) rfl rfl
theorem Hf {α : Type} {y1 y2 y : α} {l : List α} : atI (y1 :: y2 :: y :: l) 2 = some y := atI_of (n := 2) rfl rfl
theorem Fu {α : Type} {y1 y2 y3 y : α} {l : List α} : atI (y1 :: y2 :: y3 :: y :: l) 3 = some y := atI_of (n := 3) rfl rfl
theorem Be {α : Type} {y1 y2 y3 y4 y : α} {l : List α} : atI (y1 :: y2 :: y3 :: y4 :: y :: l) 4 = some y := atI_of (n := 4) rfl rfl
theorem Cj {α : Type} {y1 y2 y3 y4 y5 y : α} {l : List α} : atI (y1 :: y2 :: y3 :: y4 :: y5 :: y :: l) 5 = some y := atI_of (n := 5) rfl rfl
theorem Nq {x : Bool} {y : Int} {u : Str} {l : List D} {ns : List Int} : dIsi "int" .non = some (.bl false) := rfl
theorem Lq {x : Bool} {y : Int} {u : Str} {l : List D} {ns : List Int} : dIsi "int" (.bl x) = some (.bl true) := rfl
theorem Hu {x : Bool} {y : Int} {u : Str} {l : List D} {ns : List Int} : dIsi "int" (.int y) = some (.bl true) := rfl
theorem Qc {x : Bool} {y : Int} {u : Str} {l : List D} {ns : List Int} : dIsi "int" (.str u) = some (.bl false) := rfl
theorem Df {x : Bool} {y : Int} {u : Str} {l : List D} {ns : List Int} : dIsi "int" (.tup l) = some (.bl false) := rfl
theorem Bg {x : Bool} {y : Int} {u : Str} {l : List D} {ns : List Int} : dIsi "int" (.lst l) = some (.bl false) := rfl
theorem Oh {x : Bool} {y : Int} {u : Str} {l : List D} {ns : List Int} : dIsi "int" (.scr ns) = some (.bl false) := rfl
theorem Cm {x : Bool} {y : Int} {u : Str} {l : List D} {ns : List Int} : dIsi "bool" .non = some (.bl false) := rfl
theorem Ie {x : Bool} {y : Int} {u : Str} {l : List D} {ns : List Int} : dIsi "bool" (.bl x) = some (.bl true) := rfl
theorem Hr {x : Bool} {y : Int} {u : Str} {l : List D} {ns : List Int} : dIsi "bool" (.int y) = some (.bl false) := rfl
theorem Ay {x : Bool} {y : Int} {u : Str} {l : List D} {ns : List Int} : dIsi "bool" (.str u) = some (.bl false) := rfl
theorem Fn {x : Bool} {y : Int} {u : Str} {l : List D} {ns : List Int} : dIsi "bool" (.tup l) = some (.bl false) := rfl
theorem Oz {x : Bool} {y : Int} {u : Str} {l : List D} {ns : List Int} : dIsi "bool" (.lst l) = some (.bl false) := rfl
theorem Ia {x : Bool} {y : Int} {u : Str} {l : List D} {ns : List Int} : dIsi "bool" (.scr ns) = some (.bl false) := rfl
theorem Nw {x : Bool} {y : Int} {u : Str} {l : List D} {ns : List Int} : dIsi "str" .non = some (.bl false) := rfl
theorem Gq {x : Bool} {y : Int} {u : Str} {l : List D} {ns : List Int} : dIsi "str" (.bl x) = some (.bl false) := rfl
theorem Pw {x : Bool} {y : Int} {u : Str} {l : List D} {ns : List Int} : dIsi "str" (.int y) = some (.bl false) := rfl
theorem Qv {x : Bool} {y : Int} {u : Str} {l : List D} {ns : List Int} : dIsi "str" (.str u) = some (.bl true) := rfl
theorem Bf {x : Bool} {y : Int} {u : Str} {l : List D} {ns : List Int} : dIsi "str" (.tup l) = some (.bl false) := rfl
theorem Pq {x : Bool} {y : Int} {u : Str} {l : List D} {ns : List Int} : dIsi "str" (.lst l) = some (.bl false) := rfl
theorem Ow {x : Bool} {y : Int} {u : Str} {l : List D} {ns : List Int} : dIsi "str" (.scr ns) = some (.bl false) := rfl
theorem Lv {x : Bool} {y : Int} {u : Str} {l : List D} {ns : List Int} : dIsi "list" .non = some (.bl false) := rfl
theorem Lo {x : Bool} {y : Int} {u : Str} {l : List D} {ns : List Int} : dIsi "list" (.bl x) = some (.bl false) := rfl
theorem Pb {x : Bool} {y : Int} {u : Str} {l : List D} {ns : List Int} : dIsi "list" (.int y) = some (.bl false) := rfl
theorem Bl {x : Bool} {y : Int} {u : Str} {l : List D} {ns : List Int} : dIsi "list" (.str u) = some (.bl false) := rfl
theorem Ch {x : Bool} {y : Int} {u : Str} {l : List D} {ns : List Int} : dIsi "list" (.tup l) = some (.bl false) := rfl
theorem Ml {x : Bool} {y : Int} {u : Str} {l : List D} {ns : List Int} : dIsi "list" (.lst l) = some (.bl true) := rfl
theorem Ej {x : Bool} {y : Int} {u : Str} {l : List D} {ns : List Int} : dIsi "list" (.scr ns) = some (.bl true) := rfl
theorem En {x : Bool} {y : Int} {u : Str} {l : List D} {ns : List Int} : dIsi "tuple" .non = some (.bl false) := rfl
theorem Nd {x : Bool} {y : Int} {u : Str} {l : List D} {ns : List Int} : dIsi "tuple" (.bl x) = some (.bl false) := rfl
theorem Qe {x : Bool} {y : Int} {u : Str} {l : List D} {ns : List Int} : dIsi "tuple" (.int y) = some (.bl false) := rfl
theorem Hg {x : Bool} {y : Int} {u : Str} {l : List D} {ns : List Int} : dIsi "tuple" (.str u) = some (.bl false) := rfl
theorem Bw {x : Bool} {y : Int} {u : Str} {l : List D} {ns : List Int} : dIsi "tuple" (.tup l) = some (.bl true) := rfl
theorem Dg {x : Bool} {y : Int} {u : Str} {l : List D} {ns : List Int} : dIsi "tuple" (.lst l) = some (.bl false) := rfl
theorem Nj {x : Bool} {y : Int} {u : Str} {l : List D} {ns : List Int} : dIsi "tuple" (.scr ns) = some (.bl false) := rfl
theorem Eo {x : Bool} {y : Int} {u : Str} {l : List D} {ns : List Int} : dIsi2 "list" "tuple" .non = some (.bl false) := rfl
theorem Fw {x : Bool} {y : Int} {u : Str} {l : List D} {ns : List Int} : dIsi2 "list" "tuple" (.bl x) = some (.bl false) := rfl
theorem Nz {x : Bool} {y : Int} {u : Str} {l : List D} {ns : List Int} : dIsi2 "list" "tuple" (.int y) = some (.bl false) := rfl
theorem Ps {x : Bool} {y : Int} {u : Str} {l : List D} {ns : List Int} : dIsi2 "list" "tuple" (.str u) = some (.bl false) := rfl
theorem Hn {x : Bool} {y : Int} {u : Str} {l : List D} {ns : List Int} : dIsi2 "list" "tuple" (.tup l) = some (.bl true) := rfl
theorem Bn {x : Bool} {y : Int} {u : Str} {l : List D} {ns : List Int} : dIsi2 "list" "tuple" (.lst l) = some (.bl true) := rfl
theorem Ah {x : Bool} {y : Int} {u : Str} {l : List D} {ns : List Int} : dIsi2 "list" "tuple" (.scr ns) = some (.bl true) := rfl
theorem Ik {x : Bool} {y : Int} {u : Str} {l : List D} {ns : List Int} : dIsN (.bl x) = some (.bl false) := rfl
theorem Iz {x : Bool} {y : Int} {u : Str} {l : List D} {ns : List Int} : dNotN (.bl x) = some (.bl true) := rfl
theorem Kk {x : Bool} {y : Int} {u : Str} {l : List D} {ns : List Int} : dIsN (.int y) = some (.bl false) := rfl
theorem Ey {x : Bool} {y : Int} {u : Str} {l : List D} {ns : List Int} : dNotN (.int y) = some (.bl true) := rfl
theorem Fx {x : Bool} {y : Int} {u : Str} {l : List D} {ns : List Int} : dIsN (.str u) = some (.bl false) := rfl
theorem Ei {x : Bool} {y : Int} {u : Str} {l : List D} {ns : List Int} : dNotN (.str u) = some (.bl true) := rfl
theorem Jx {x : Bool} {y : Int} {u : Str} {l : List D} {ns : List Int} : dIsN (.tup l) = some (.bl false) := rfl
theorem Lm {x : Bool} {y : Int} {u : Str} {l : List D} {ns : List Int} : dNotN (.tup l) = some (.bl true) := rfl
theorem Cv {x : Bool} {y : Int} {u : Str} {l : List D} {ns : List Int} : dIsN (.lst l) = some (.bl false) := rfl
theorem Jp {x : Bool} {y : Int} {u : Str} {l : List D} {ns : List Int} : dNotN (.lst l) = some (.bl true) := rfl
theorem Nk {x : Bool} {y : Int} {u : Str} {l : List D} {ns : List Int} : dIsN (.scr ns) = some (.bl false) := rfl
theorem Qb {x : Bool} {y : Int} {u : Str} {l : List D} {ns : List Int} : dNotN (.scr ns) = some (.bl true) := rfl
theorem Kl {c : Nat} {b : Bool} {l : List (Nat × Bool)} : isaL ((c, b) :: l) c = some b := by unfold isaL; simp
theorem Jh {c k : Nat} {b : Bool} {l : List (Nat × Bool)} (h : c ≠ k) : isaL ((k, b) :: l) c = isaL l c := by
  unfold isaL
  have e : (c == k) = false := by simpa using h
  simp [List.lookup, e]
theorem Ha {α : Type} {f : Str} {y : α} {l : List (Str × α)} : List.lookup f ((f, y) :: l) = some y := by simp
theorem Au {c : Nat} {ns : List Str} {l : List D} {f : Str} {ρ : Env} : eXf (.ins c ns l) c f ρ = Rs.ofOpt ((ns.zip l).lookup f) ρ := if_pos rfl
theorem Iy {c : Nat} {ns : List Str} {l : List D} {cs : List Nat} {ρ : Env} (h : c ∈ cs) : eFam (.ins c ns l) cs ρ = .ok (.bl true) ρ := if_pos h
theorem Fc {a b : Int} (h1 : -(2 ^ 64) < a) (h2 : a < 2 ^ 64) (h3 : -(2 ^ 64) < b) (h4 : b < 2 ^ 64) : dMul (.int a) (.int b) = some (.int (a * b)) := dMul64 h1 h2 h3 h4
theorem Mt {a b : Int} (h0 : b ≠ 0) (h1 : -(2 ^ 64) < b) (h2 : b < 2 ^ 64) : dFdiv (.int a) (.int b) = some (.int (a.fdiv b)) := dFdiv64 h0 h1 h2
theorem Ma {n : Nat} {i : Int} (h1 : 0 ≤ i) (h2 : i.toNat < n) : ixN n i = some i.toNat := by
  unfold ixN
  rw [if_pos h1, if_pos (by omega)]
theorem Dm {p : Prop} [Decidable p] (h : p) : decide p = true := decide_eq_true h
theorem Qf {p : Prop} [Decidable p] (h : ¬ p) : decide p = false := decide_eq_false h
end
end Py

set_option Elab.async false
set_option linter.all false
set_option maxRecDepth 100000
set_option maxHeartbeats 1000000
namespace Py
open PySem L2
/-! ## 25. Further frames -/
def fMkF (c n : Nat) (m : List D → Rf (List Str × List D)) (dd : List D) : Rs (List D) → Rs D
  | .ok ds ρ => selT (decide ((ds ++ dd).length + 1 = n)) (toM c (m (ds ++ dd)) ρ)
  | .exc e ρ => .exc e ρ
  | .stuck => .stuck
def fFld (cs : List Nat) (f : Str) : Rs D → Rs D
  | .ok d ρ => fldE cs f ρ d
  | .exc e ρ => .exc e ρ
  | .stuck => .stuck
def fStrK (f : D → D → Option D) (mb : Env → Rs D) : Rs D → Rs D
  | .ok d ρ => strK f mb ρ d
  | .exc e ρ => .exc e ρ
  | .stuck => .stuck
def fFmt : Rs D → Rs D
  | .ok d ρ => fmtK ρ d
  | .exc e ρ => .exc e ρ
  | .stuck => .stuck
def fJs (k : Str → Env → Rs D) (acc : Str) : Rs D → Rs D
  | .ok d ρ => jsK k acc ρ d
  | .exc e ρ => .exc e ρ
  | .stuck => .stuck
def fFldS (i c : Nat) (f : Str) : Rs D → Out
  | .ok d ρ => fldO i c f d ρ ρ[i]?
  | .exc e ρ => .exc e ρ
  | .stuck => .stuck
def fRunC (c : Nat) : Out → Rf (List Str × List D)
  | .nx ρ => endC c ρ[0]?
  | .exc e _ => .exc e
  | _ => .stuck
section
variable {ρ : Env} {a b c d e : D} {ma mb mc m : Env → Rs D} {la : Env → Rs (List D)} {s t : Env → Out} {i j n k : Nat} {l ds dd : List D} {x : Bool} {f : Str} {cs ow is : List Nat} {ns : List Str}
theorem Lz : eFrz i ρ = frzV ρ i ρ[i]? := rfl
theorem Gg : frzV ρ i (some (some (.lst l))) = .ok (.lst l) (ρ.set i (some (.shd (.lst l)))) := rfl
theorem El : frzV ρ i (some (some (.shd d))) = .ok d ρ := rfl
theorem Hw : eBor ow is ma ρ = borK ρ (ma (borL ow is 0 ρ)) := rfl
theorem Oj : borL ow is j [] = [] := rfl
theorem Ot {o : Option D} : borL ow is j (o :: ρ) = borV (is.contains j) (ow.contains j) o :: borL ow is (j + 1) ρ := rfl
theorem Dk : borV true x (some (.lst l)) = some (.shd (.lst l)) := rfl
theorem Ae : borV true x (some (.shd d)) = some (.shd d) := rfl
theorem Et {o : Option D} : borV false true o = none := rfl
theorem Pk {o : Option D} : borV false false o = o := rfl
theorem Fy {z : Int} {ρ' : Env} : borK ρ (.ok (.int z) ρ') = .ok (.int z) ρ := rfl
theorem Kx {ρ' : Env} : borK ρ (.ok (.bl x) ρ') = .ok (.bl x) ρ := rfl
theorem Ee {u : Str} {ρ' : Env} : borK ρ (.ok (.str u) ρ') = .ok (.str u) ρ := rfl
theorem Hs {g : List D → Rf (List Str × List D)} : eMk k n g dd la ρ = fMkF k n g dd (la ρ) := by
  unfold eMk fMkF
  cases la ρ with
  | ok ds ρ1 =>
    show (if (ds ++ dd).length + 1 = n then _ else _) = selT (decide ((ds ++ dd).length + 1 = n)) _
    by_cases h : (ds ++ dd).length + 1 = n
    · rw [if_pos h, decide_eq_true h]; rfl
    · rw [if_neg h, decide_eq_false h]; rfl
  | _ => rfl
theorem Fq {g : List D → Rf (List Str × List D)} : fMkF k n g dd (.ok ds ρ) = selT (decide ((ds ++ dd).length + 1 = n)) (toM k (g (ds ++ dd)) ρ) := rfl
theorem Ov {g : List D → Rf (List Str × List D)} : fMkF k n g dd (.exc e ρ) = .exc e ρ := rfl
theorem Ke : toM k (.ok (ns, l)) ρ = .ok (.ins k ns l) ρ := rfl
theorem Bo : toM k (.exc e) ρ = .exc e ρ := rfl
theorem On : eFld cs f ma ρ = fFld cs f (ma ρ) := by unfold eFld fFld; cases ma ρ <;> rfl
theorem Hm : fFld cs f (.ok d ρ) = fldE cs f ρ d := rfl
theorem Ip : fFld cs f (.exc e ρ) = .exc e ρ := rfl
theorem Ni (h : k ∈ cs) : fldE cs f ρ (.ins k ns l) = Rs.ofOpt ((ns.zip l).lookup f) ρ := if_pos h
theorem My : eFldO cs f i ρ = fldEO cs f ρ ρ[i]? := rfl
theorem Du : fldEO cs f ρ (some (some d)) = fldE cs f ρ d := rfl
theorem Js : sFldO i k f ma ρ = fFldS i k f (ma ρ) := by unfold sFldO fFldS; cases ma ρ <;> rfl
theorem As : fFldS i k f (.ok d ρ) = fldO i k f d ρ ρ[i]? := rfl
theorem Mj : fFldS i k f (.exc e ρ) = .exc e ρ := rfl
theorem Ga (h : ns.length < 900) : fldO i k f d ρ (some (some (.ins k ns l))) = .nx (ρ.set i (some (.ins k (putNs f ns) (putVs f d ns l)))) := if_pos ⟨rfl, h⟩
theorem Cl {g : Env → Out} : runC k n g ds = fRunC k (g (entry n (.ins k [] [] :: ds))) := by unfold runC fRunC; cases g (entry n (.ins k [] [] :: ds)) <;> rfl
theorem Gd : fRunC k (.nx ρ) = endC k ρ[0]? := rfl
theorem Kn : fRunC k (.exc e ρ) = .exc e := rfl
theorem Fo : endC k (some (some (.ins k ns l))) = .ok (ns, l) := if_pos rfl
theorem Jr {g : D → D → Option D} : eBinS g ma mb ρ = fStrK g mb (ma ρ) := by unfold eBinS fStrK; cases ma ρ <;> rfl
theorem Ca {g : D → D → Option D} : fStrK g mb (.ok d ρ) = strK g mb ρ d := rfl
theorem Af {g : D → D → Option D} {u : Str} : strK g mb ρ (.str u) = fBin2 g (.str u) (mb ρ) := by unfold strK fBin2; cases mb ρ <;> rfl
theorem Ol : eFmt ma ρ = fFmt (ma ρ) := by unfold eFmt fFmt; cases ma ρ <;> rfl
theorem Ih : fFmt (.ok d ρ) = fmtK ρ d := rfl
theorem Jf {z : Int} (h : bits z < 1900) : fmtK ρ (.int z) = .ok (.str (toString z)) ρ := if_pos h
theorem Jd {u : Str} (h : u.length ≤ 1000000) : fmtK ρ (.str u) = .ok (.str u) ρ := if_pos h
theorem La {acc : Str} : eJs [] acc ρ = .ok (.str acc) ρ := rfl
theorem Ag {ms : List (Env → Rs D)} {acc : Str} : eJs (ma :: ms) acc ρ = fJs (eJs ms) acc (ma ρ) := by
  show (ma ρ).bind _ = _
  unfold fJs
  cases ma ρ <;> rfl
theorem Jb {g : Str → Env → Rs D} {acc : Str} : fJs g acc (.ok d ρ) = jsK g acc ρ d := rfl
theorem Om {g : Str → Env → Rs D} {acc u : Str} (h : (acc ++ u).length ≤ 1000000) : jsK g acc ρ (.str u) = g (acc ++ u) ρ := if_pos h
theorem Dn {z : Int} (h : bits z < 1900) : dStrI [.int z] = some (.str (toString z)) := if_pos h
theorem Eg {u : Str} (h : u.length ≤ 1000000) : dLen [.str u] = some (.int u.length) := if_pos h
theorem Bj {tb : List (Nat × Bool)} {z : Int} : dIsiC tb (.int z) = some (.bl false) := rfl
theorem Ev {tb : List (Nat × Bool)} : dIsiC tb (.lst l) = some (.bl false) := rfl
theorem Ir {tb : List (Nat × Bool)} : dIsiC tb (.ins k ns l) = (tb.lookup k).map fun b => .bl b := rfl
theorem Gx : (true && true) = true := rfl
end
end Py

set_option Elab.async false
set_option linter.all false
set_option maxRecDepth 100000
set_option maxHeartbeats 1000000
namespace Py
open PySem L2
/-! ## 26. Comprehensions and loops as lists -/
theorem wipeE_len (ρ : Env) : ∀ vs : List Nat, (wipeE ρ vs).length = ρ.length
  | [] => rfl
  | v :: vs => by
    show ((wipeE ρ vs).set v none).length = _
    rw [Rn]; exact wipeE_len ρ vs
theorem wipeE_out {ρ : Env} {i : Nat} : ∀ {vs : List Nat}, i ∉ vs → (wipeE ρ vs)[i]? = ρ[i]?
  | [], _ => rfl
  | v :: vs, h => by
    show ((wipeE ρ vs).set v none)[i]? = _
    rw [List.getElem?_set_ne (fun e => h (by rw [e]; exact List.mem_cons_self))]
    exact wipeE_out fun z => h (List.mem_cons_of_mem _ z)
theorem restE_len (ρ0 ρ : Env) : ∀ vs : List Nat, (restE ρ0 ρ vs).length = ρ.length
  | [] => rfl
  | v :: vs => by
    show ((restE ρ0 ρ vs).set v _).length = _
    rw [Rn]; exact restE_len ρ0 ρ vs
theorem restE_out {ρ0 ρ : Env} {i : Nat} : ∀ {vs : List Nat}, i ∉ vs → (restE ρ0 ρ vs)[i]? = ρ[i]?
  | [], _ => rfl
  | v :: vs, h => by
    show ((restE ρ0 ρ vs).set v _)[i]? = _
    rw [List.getElem?_set_ne (fun e => h (by rw [e]; exact List.mem_cons_self))]
    exact restE_out fun z => h (List.mem_cons_of_mem _ z)
theorem restE_in {ρ0 ρ : Env} {i : Nat} (hl : i < ρ.length) : ∀ {vs : List Nat}, i ∈ vs → (restE ρ0 ρ vs)[i]? = some ((ρ0[i]?).getD none)
  | [], h => by cases h
  | v :: vs, h => by
    show ((restE ρ0 ρ vs).set v _)[i]? = _
    by_cases e : v = i
    · subst e
      rw [List.getElem?_set_self (by rw [restE_len]; exact hl)]
    · rw [List.getElem?_set_ne e]
      refine restE_in hl ?_
      rcases List.mem_cons.mp h with z | z
      · exact absurd z.symm e
      · exact z
theorem restE_of {ρ ρ' : Env} {vs : List Nat} (h : wipeE ρ' vs = wipeE ρ vs) : restE ρ ρ' vs = ρ := by
  have hl : ρ'.length = ρ.length := by rw [← wipeE_len ρ' vs, h, wipeE_len]
  apply List.ext_getElem?
  intro i
  by_cases hi : i ∈ vs
  · by_cases hlt : i < ρ'.length
    · rw [restE_in hlt hi, List.getElem?_eq_getElem (by omega)]
      rfl
    · rw [List.getElem?_eq_none (by rw [restE_len]; omega), List.getElem?_eq_none (by omega)]
  · rw [restE_out hi, ← wipeE_out hi, h, wipeE_out hi]
section
variable {mi : Env → Rs (List D)} {mg : D → Env → Option Env} {mt : Env → Rs Bool} {me : Env → Rs D} {mb : Env → Out} {vs : List Nat} {ρ ρ1 ρ2 : Env} {ds : List D}
/-- one turn of a comprehension that changes nothing -/
def LcStep (mg : D → Env → Option Env) (mt : Env → Rs Bool) (me : Env → Rs D) (vs : List Nat) (ρw : Env) (d : D) (x : Bool) (y : D) : Prop :=
  ∃ ρg ρt, mg d ρw = some ρg ∧ mt ρg = .ok x ρt ∧ wipeE ρt vs = ρw ∧ (x = true → ∃ ρe, me ρt = .ok y ρe ∧ wipeE ρe vs = ρw)
theorem lcL_map (ρw : Env) (p : D → Bool) (g : D → D) : ∀ (ds acc : List D) (ρ : Env), wipeE ρ vs = ρw → (∀ d ∈ ds, LcStep mg mt me vs ρw d (p d) (g d)) → ∃ ρ', lcL mg mt me vs ds acc ρ = .ok (acc ++ (ds.filter p).map g) ρ' ∧ wipeE ρ' vs = ρw
  | [], acc, ρ, hw, _ => ⟨ρ, by simp [lcL], hw⟩
  | d :: ds, acc, ρ, hw, hs => by
    obtain ⟨ρg, ρt, h1, h2, h3, h4⟩ := hs d List.mem_cons_self
    have hs' := fun d hd => hs d (List.mem_cons_of_mem _ hd)
    cases hp : p d with
    | false =>
      obtain ⟨ρ', e1, e2⟩ := lcL_map ρw p g ds acc ρt h3 hs'
      refine ⟨ρ', ?_, e2⟩
      rw [hp] at h2
      rw [List.filter_cons_of_neg (by rw [hp]; decide), ← e1]
      conv => lhs; unfold lcL
      rw [hw, h1]
      show (match mt ρg with | .ok true ρ2 => _ | .ok false ρ2 => lcL mg mt me vs ds acc ρ2 | _ => _) = _
      rw [h2]
    | true =>
      obtain ⟨ρe, h5, h6⟩ := h4 hp
      obtain ⟨ρ', e1, e2⟩ := lcL_map ρw p g ds (acc ++ [g d]) ρe h6 hs'
      refine ⟨ρ', ?_, e2⟩
      rw [hp] at h2
      rw [List.filter_cons_of_pos hp, Rg]
      rw [show acc ++ g d :: (ds.filter p).map g = acc ++ [g d] ++ (ds.filter p).map g by simp, ← e1]
      conv => lhs; unfold lcL
      rw [hw, h1]
      show (match mt ρg with | .ok true ρ2 => (match me ρ2 with | .ok y ρ3 => lcL mg mt me vs ds (acc ++ [y]) ρ3 | _ => Rs.stuck) | .ok false ρ2 => lcL mg mt me vs ds acc ρ2 | _ => Rs.stuck) = _
      rw [h2]
      show (match me ρt with | .ok y ρ3 => lcL mg mt me vs ds (acc ++ [y]) ρ3 | _ => Rs.stuck) = _
      rw [h5]
theorem fLc_map (p : D → Bool) (g : D → D) (hl : ds.length ≤ 1000000) (hs : ∀ d ∈ ds, LcStep mg mt me vs (wipeE ρ vs) d (p d) (g d)) : fLc mg mt me vs (.ok ds ρ) = .ok (.lst ((ds.filter p).map g)) ρ := by
  obtain ⟨ρ', e1, e2⟩ := lcL_map (wipeE ρ vs) p g ds [] ρ rfl hs
  show (if ds.length ≤ 1000000 then fLc2 ρ vs (lcL mg mt me vs ds [] ρ) else .stuck) = _
  rw [if_pos hl, e1]
  show Rs.ok (D.lst _) (restE ρ ρ' vs) = _
  rw [restE_of e2]; rfl
/-- without an if -/
theorem fLc_all (g : D → D) (hl : ds.length ≤ 1000000) (hs : ∀ d ∈ ds, ∃ ρg ρe, mg d (wipeE ρ vs) = some ρg ∧ me ρg = .ok (g d) ρe ∧ wipeE ρg vs = wipeE ρ vs ∧ wipeE ρe vs = wipeE ρ vs) : fLc mg lYes me vs (.ok ds ρ) = .ok (.lst (ds.map g)) ρ := by
  have := fLc_map (mg := mg) (mt := lYes) (me := me) (vs := vs) (ρ := ρ) (fun _ => true) g hl (fun d hd => by
    obtain ⟨ρg, ρe, h1, h2, h3, h4⟩ := hs d hd
    exact ⟨ρg, ρg, h1, rfl, h3, fun _ => ⟨ρe, h2, h4⟩⟩)
  rw [this, List.filter_eq_self.mpr fun _ _ => rfl]
/-- a comprehension over made data: the items are f of the things of a list -/
theorem fLc_of {α : Type} (xs : List α) (f g : α → D) (hl : xs.length ≤ 1000000) (hs : ∀ x ∈ xs, ∃ ρg ρe, mg (f x) (wipeE ρ vs) = some ρg ∧ me ρg = .ok (g x) ρe ∧ wipeE ρg vs = wipeE ρ vs ∧ wipeE ρe vs = wipeE ρ vs) : fLc mg lYes me vs (.ok (xs.map f) ρ) = .ok (.lst (xs.map g)) ρ := by
  have key : ∀ (xs : List α) (acc : List D) (ρ1 : Env), wipeE ρ1 vs = wipeE ρ vs → (∀ x ∈ xs, ∃ ρg ρe, mg (f x) (wipeE ρ vs) = some ρg ∧ me ρg = .ok (g x) ρe ∧ wipeE ρg vs = wipeE ρ vs ∧ wipeE ρe vs = wipeE ρ vs) → ∃ ρ', lcL mg lYes me vs (xs.map f) acc ρ1 = .ok (acc ++ xs.map g) ρ' ∧ wipeE ρ' vs = wipeE ρ vs := by
    intro xs
    induction xs with
    | nil => exact fun acc ρ1 h _ => ⟨ρ1, by simp [lcL], h⟩
    | cons x xs ih =>
      intro acc ρ1 h hs
      obtain ⟨ρg, ρe, h1, h2, h3, h4⟩ := hs x List.mem_cons_self
      obtain ⟨ρ', e1, e2⟩ := ih (acc ++ [g x]) ρe h4 fun y hy => hs y (List.mem_cons_of_mem _ hy)
      refine ⟨ρ', ?_, e2⟩
      rw [Rg, Rg, lcL_go (by rw [h]; exact h1) h2, e1]
      simp
  obtain ⟨ρ', e1, e2⟩ := key xs [] ρ rfl hs
  show (if (xs.map f).length ≤ 1000000 then fLc2 ρ vs (lcL mg lYes me vs (xs.map f) [] ρ) else .stuck) = _
  rw [if_pos (by rw [Qy]; exact hl), e1]
  show Rs.ok (D.lst _) (restE ρ ρ' vs) = _
  rw [restE_of e2]; rfl
/-- .. with an if -/
theorem fLc_ofIf {α : Type} (xs : List α) (f g : α → D) (p : α → Bool) (hl : xs.length ≤ 1000000) (hs : ∀ x ∈ xs, LcStep mg mt me vs (wipeE ρ vs) (f x) (p x) (g x)) : fLc mg mt me vs (.ok (xs.map f) ρ) = .ok (.lst ((xs.filter p).map g)) ρ := by
  have key : ∀ (xs : List α) (acc : List D) (ρ1 : Env), wipeE ρ1 vs = wipeE ρ vs → (∀ x ∈ xs, LcStep mg mt me vs (wipeE ρ vs) (f x) (p x) (g x)) → ∃ ρ', lcL mg mt me vs (xs.map f) acc ρ1 = .ok (acc ++ (xs.filter p).map g) ρ' ∧ wipeE ρ' vs = wipeE ρ vs := by
    intro xs
    induction xs with
    | nil => exact fun acc ρ1 h _ => ⟨ρ1, by simp [lcL], h⟩
    | cons x xs ih =>
      intro acc ρ1 h hs
      obtain ⟨ρg, ρt, h1, h2, h3, h4⟩ := hs x List.mem_cons_self
      have hs' := fun y hy => hs y (List.mem_cons_of_mem _ hy)
      cases hp : p x with
      | false =>
        obtain ⟨ρ', e1, e2⟩ := ih acc ρt h3 hs'
        refine ⟨ρ', ?_, e2⟩
        rw [hp] at h2
        rw [List.filter_cons_of_neg (by rw [hp]; decide), ← e1, Rg]
        conv => lhs; unfold lcL
        rw [h, h1]
        show (match mt ρg with | .ok true ρ2 => _ | .ok false ρ2 => lcL mg mt me vs (xs.map f) acc ρ2 | _ => _) = _
        rw [h2]
      | true =>
        obtain ⟨ρe, h5, h6⟩ := h4 hp
        obtain ⟨ρ', e1, e2⟩ := ih (acc ++ [g x]) ρe h6 hs'
        refine ⟨ρ', ?_, e2⟩
        rw [hp] at h2
        rw [List.filter_cons_of_pos hp, Rg, Rg]
        rw [show acc ++ g x :: (xs.filter p).map g = acc ++ [g x] ++ (xs.filter p).map g by simp, ← e1]
        conv => lhs; unfold lcL
        rw [h, h1]
        show (match mt ρg with | .ok true ρ2 => (match me ρ2 with | .ok y ρ3 => lcL mg mt me vs (xs.map f) (acc ++ [y]) ρ3 | _ => Rs.stuck) | .ok false ρ2 => lcL mg mt me vs (xs.map f) acc ρ2 | _ => Rs.stuck) = _
        rw [h2]
        show (match me ρt with | .ok y ρ3 => lcL mg mt me vs (xs.map f) (acc ++ [y]) ρ3 | _ => Rs.stuck) = _
        rw [h5]
  obtain ⟨ρ', e1, e2⟩ := key xs [] ρ rfl hs
  show (if (xs.map f).length ≤ 1000000 then fLc2 ρ vs (lcL mg mt me vs (xs.map f) [] ρ) else .stuck) = _
  rw [if_pos (by rw [Qy]; exact hl), e1]
  show Rs.ok (D.lst _) (restE ρ ρ' vs) = _
  rw [restE_of e2]; rfl
end
/-! ### rows of ints -/
abbrev rowD (r : List Int) : D := .lst (r.map D.int)
abbrev matD (m : List (List Int)) : D := .lst (m.map rowD)
theorem atI_map {α β : Type} {f : α → β} {l : List α} {i : Int} {n : Nat} {x : α} (hi : i = n) (h : l[n]? = some x) : atI (l.map f) i = some (f x) := by
  refine atI_of hi ?_
  rw [List.getElem?_map, h]; rfl
theorem zipD_map {α β : Type} (f : α → D) (g : β → D) : ∀ (l : List α) (m : List β), zipD (l.map f) (m.map g) = (l.zip m).map fun p => .tup [f p.1, g p.2]
  | [], _ => rfl
  | _ :: _, [] => rfl
  | a :: l, b :: m => by
    show D.tup [f a, g b] :: zipD (l.map f) (m.map g) = _
    rw [zipD_map f g l m]; rfl
theorem enumD_map {α : Type} (f : α → D) (l : List α) : enumD (l.map f) = l.zipIdx.map fun p => .tup [.int p.2, f p.1] := by
  unfold enumD
  rw [List.zipIdx_map, List.map_map]
  rfl
end Py

set_option Elab.async false
set_option linter.all false
set_option maxRecDepth 100000
set_option maxHeartbeats 2000000
namespace Py
open PySem L2 He
open PyProof.Rows (envOfC)
/-! ## 27. Dicts whose keys are tuples -/
mutual
inductive KeyIs (K : PySem.W.Frag) (H : Hp) : NKey → V → Prop
  | non : KeyIs K H .none .non
  | bl (b : Bool) : KeyIs K H (.num (if b = true then 1 else 0)) (.bl b)
  | int (i : Int) : KeyIs K H (.num i) (.int i)
  | str (s : Str) : KeyIs K H (.text s) (.str s)
  | tup {a : Addr} {xs : List V} {ks : List NKey} : SqT K H a xs → KeyAll K H ks xs → KeyIs K H (.tup ks) (.ref a)
inductive KeyAll (K : PySem.W.Frag) (H : Hp) : List NKey → List V → Prop
  | nil : KeyAll K H [] []
  | cons {k : NKey} {ks : List NKey} {v : V} {vs : List V} : KeyIs K H k v → KeyAll K H ks vs → KeyAll K H (k :: ks) (v :: vs)
end
mutual
theorem keyIs_of {Γ : Gm} {H G : Hp} (le : Same H G) : ∀ (d : D) (v : V) (k : NKey), IsD Γ H v d → keyOf d = some k → KeyIs Γ.K G k v
  | .non, _, _, h, e => by cases h; cases e; exact .non
  | .bl b, _, _, h, e => by cases h; cases e; exact .bl b
  | .int i, _, _, h, e => by cases h; cases e; exact .int i
  | .str s, _, _, h, e => by cases h; cases e; exact .str s
  | .tup l, _, _, h, e => by
    have e' : (keysOf l).map NestedKey.tup = some _ := e
    obtain ⟨ks, h1, rfl⟩ := Option.map_eq_some_iff.mp e'
    cases h with
    | tup h2 h3 => exact .tup (sqT_mono le h2) (keyAll_of le l _ ks h3 h1)
  | .lst _, _, _, _, e => by cases e
  | .scr _, _, _, _, e => by cases e
  | .ins _ _ _, _, _, _, e => by cases e
  | .dic _ _, _, _, _, e => by cases e
  | .shd _, _, _, _, e => by cases e
  | .exv _ _ _, _, _, _, e => by cases e
theorem keyAll_of {Γ : Gm} {H G : Hp} (le : Same H G) : ∀ (l : List D) (vs : List V) (ks : List NKey), IsDs Γ H vs l → keysOf l = some ks → KeyAll Γ.K G ks vs
  | [], _, _, h, e => by cases h; cases e; exact .nil
  | d :: l, _, _, h, e => by
    cases h with
    | cons h1 h2 =>
      have e' : (match keyOf d, keysOf l with | some k, some ks => some (k :: ks) | _, _ => none) = some _ := e
      cases q1 : keyOf d with
      | none => rw [q1] at e'; cases e'
      | some k =>
        cases q2 : keysOf l with
        | none => rw [q1, q2] at e'; cases e'
        | some ks =>
          rw [q1, q2] at e'
          cases e'
          exact .cons (keyIs_of le d _ k h1 q1) (keyAll_of le l _ ks h2 q2)
end
mutual
theorem KeyIs.is {X : Cx} {pins : List (Addr × Obj)} {σ : L2.St} {H : Hp} {s : Shared} (I : Inv X pins σ H s) : ∀ (k : NKey) (v : V) (u : Value), KeyIs X.K H k v → RelV v u → NestedIs s.heap k u
  | .none, _, u, h, r => by
    cases h
    cases r
    exact .none
  | .num i, _, u, h, r => by
    cases h with
    | bl b =>
      cases r
      exact .bool rfl
    | int _ =>
      obtain ⟨t, rfl⟩ := r
      exact .int _ t
  | .text x, _, u, h, r => by
    cases h
    obtain ⟨t, rfl⟩ := r
    exact .text _ t
  | .tup ks, _, u, h, r => by
    cases h with
    | @tup a xs _ h1 h2 =>
      obtain rfl : u = Value.ref a := r
      obtain ⟨its, rv, ⟨o, ho, hc, n, hd⟩, hz⟩ := I.tuple h1
      exact .tup ho hc hd (by simpa using KeyAll.is I ks xs its h2 rv)
theorem KeyAll.is {X : Cx} {pins : List (Addr × Obj)} {σ : L2.St} {H : Hp} {s : Shared} (I : Inv X pins σ H s) : ∀ (ks : List NKey) (vs : List V) (us : List Value), KeyAll X.K H ks vs → Vals vs us → NestedAll s.heap ks us
  | [], _, us, h, r => by
    cases h
    cases r
    exact .nil
  | k :: ks, _, us, h, r => by
    cases h with
    | cons h1 h2 =>
      cases r with
      | cons r1 r2 => exact .cons (KeyIs.is I k _ _ h1 r1) (KeyAll.is I ks _ _ h2 r2)
end
/-! the entries -/
def valE (k : NKey) : List (NKey × Addr × V) → Option V
  | [] => none
  | e :: es => if e.1 = k then some e.2.2 else valE k es
def putE (k : NKey) (b : Addr) (v : V) : List (NKey × Addr × V) → List (NKey × Addr × V)
  | [] => [(k, b, v)]
  | e :: es => if e.1 = k then (e.1, e.2.1, v) :: es else e :: putE k b v es
def putX (k : NKey) (b : Addr) (v : Value) : List (NKey × Addr × Value) → List (NKey × Addr × Value)
  | [] => [(k, b, v)]
  | e :: es => if e.1 = k then (e.1, e.2.1, v) :: es else e :: putX k b v es
theorem atKey_cons (x : NKey × Addr × Value) (xs : List (NKey × Addr × Value)) (k : NKey) : atKey (x :: xs) k = if x.1 = k then some x.2 else atKey xs k := by
  by_cases h : x.1 = k <;> simp [atKey, h]
theorem atKey_out {k : NKey} : ∀ {xs : List (NKey × Addr × Value)}, k ∉ xs.map (·.1) → atKey xs k = none
  | [], _ => by simp [atKey]
  | x :: xs, h => by
    rw [Rg, List.mem_cons, not_or] at h
    rw [atKey_cons, if_neg (fun e => h.1 e.symm)]
    exact atKey_out h.2
theorem valE_rel {k : NKey} : ∀ {es : List (NKey × Addr × V)} {xs : List (NKey × Addr × Value)}, NRel es xs → RelO (valE k es) ((atKey xs k).map (·.2))
  | _, _, .nil => by simp [valE, atKey, RelO]
  | _, _, .cons (a := e) (b := x) h t => by
    rw [atKey_cons]
    unfold valE
    rw [h.1]
    by_cases q : x.1 = k
    · rw [if_pos q, if_pos q]; exact h.2.2
    · rw [if_neg q, if_neg q]; exact valE_rel t
theorem putAt_out {k : NKey} {v : Value} : ∀ {xs : List (NKey × Addr × Value)}, k ∉ xs.map (·.1) → xs.map (putAt k v) = xs
  | [], _ => rfl
  | x :: xs, h => by
    rw [Rg, List.mem_cons, not_or] at h
    rw [Rg, putAt_out h.2]
    unfold putAt
    rw [if_neg (fun e => h.1 e.symm)]
theorem storedH_rec {k : NKey} {b : Addr} {v : Value} : ∀ {xs : List (NKey × Addr × Value)}, (xs.map (·.1)).Nodup → storedH xs k b v = putX k b v xs
  | [], _ => by simp [storedH, putX, atKey]
  | x :: xs, h => by
    rw [Rg, List.nodup_cons] at h
    have ih := storedH_rec (k := k) (b := b) (v := v) h.2
    unfold storedH at ih ⊢
    unfold putX
    rw [atKey_cons]
    by_cases q : x.1 = k
    · rw [if_pos q, if_pos q]
      show (x :: xs).map (putAt k v) = _
      rw [Rg, putAt_out (by rw [← q]; exact h.1)]
      unfold putAt
      rw [if_pos q]
    · rw [if_neg q, if_neg q, ← ih]
      by_cases z : (atKey xs k).isSome = true
      · rw [if_pos z, if_pos z, Rg]
        congr 1
        unfold putAt
        rw [if_neg q]
      · rw [if_neg z, if_neg z]; rfl
theorem put_rel {k : NKey} {b : Addr} {v : V} {u : Value} (r : RelV v u) : ∀ {es : List (NKey × Addr × V)} {xs : List (NKey × Addr × Value)}, NRel es xs → NRel (putE k b v es) (putX k b u xs)
  | _, _, .nil => .cons ⟨rfl, rfl, r⟩ .nil
  | _, _, .cons (a := e) (b := x) h t => by
    unfold putE putX
    rw [h.1]
    by_cases q : x.1 = k
    · rw [if_pos q, if_pos q]; exact .cons ⟨rfl, h.2.1, r⟩ t
    · rw [if_neg q, if_neg q]; exact .cons h (put_rel r t)
theorem putE_mem {k : NKey} {b : Addr} {v : V} : ∀ {es : List (NKey × Addr × V)} {e : NKey × Addr × V}, e ∈ putE k b v es → (e.1 = k ∧ e.2.1 = b) ∨ ∃ e' ∈ es, e'.1 = e.1 ∧ e'.2.1 = e.2.1
  | [], e, h => by
    cases List.mem_singleton.mp h
    exact .inl ⟨rfl, rfl⟩
  | x :: es, e, h => by
    unfold putE at h
    by_cases q : x.1 = k
    · rw [if_pos q] at h
      rcases List.mem_cons.mp h with rfl | h
      · exact .inr ⟨x, List.mem_cons_self, rfl, rfl⟩
      · exact .inr ⟨e, List.mem_cons_of_mem _ h, rfl, rfl⟩
    · rw [if_neg q] at h
      rcases List.mem_cons.mp h with rfl | h
      · exact .inr ⟨e, List.mem_cons_self, rfl, rfl⟩
      · rcases putE_mem h with z | ⟨e', z1, z2⟩
        · exact .inl z
        · exact .inr ⟨e', List.mem_cons_of_mem _ z1, z2⟩
theorem putE_len {k : NKey} {b : Addr} {v : V} : ∀ (es : List (NKey × Addr × V)), (putE k b v es).length ≤ es.length + 1
  | [] => Nat.le_refl _
  | x :: es => by
    unfold putE
    have := putE_len (k := k) (b := b) (v := v) es
    split <;> simp only [Qz] <;> omega
theorem rel_mem {es : List (NKey × Addr × V)} {xs : List (NKey × Addr × Value)} (r : NRel es xs) : ∀ x ∈ xs, ∃ e ∈ es, e.1 = x.1 ∧ e.2.1 = x.2.1 := by
  intro x hx
  induction r with
  | nil => cases hx
  | @cons a b as bs h t ih =>
    rcases List.mem_cons.mp hx with rfl | hx
    · exact ⟨a, List.mem_cons_self, h.1, h.2.1⟩
    · obtain ⟨e, h1, h2⟩ := ih hx
      exact ⟨e, List.mem_cons_of_mem _ h1, h2⟩
theorem rel_len {es : List (NKey × Addr × V)} {xs : List (NKey × Addr × Value)} (r : NRel es xs) : es.length = xs.length := by
  induction r with
  | nil => rfl
  | cons _ _ ih => rw [Qz, Qz, ih]
/-- the keys of a dict, as they stand -/
def KeysAt (K : PySem.W.Frag) (H : Hp) (es : List (NKey × Addr × V)) : Prop := ∀ e ∈ es, KeyIs K H e.1 (.ref e.2.1)
section
variable {X : Cx} {pins : List (Addr × Obj)} {σ : L2.St} {H : Hp} {s : Shared} {a : Addr} {es : List (NKey × Addr × V)}
theorem nd_of (I : Inv X pins σ H s) (hd : H a = some (DicO X.w a es)) (hk : KeysAt X.K H es) : (a == sysModules) = false ∧ es.length ≤ sizeLine ∧ (∀ e ∈ es, e.1.depth ≤ 8) ∧ ∃ xs, NRel es xs ∧ s.heap.DictOfH (nestedKind X.prog X.w) a xs := by
  obtain ⟨⟨h1, h2, h3, xs, h4, o, es', ep, h5, h6, h7, h8, h9⟩, _, _⟩ := (I.hok a _ hd)
  refine ⟨h1, h2, h3, xs, h4, o, es', ep, h5, h6, h7, h8, fun x hx => ?_, h9⟩
  obtain ⟨e, q1, q2, q3⟩ := rel_mem h4 x hx
  exact ⟨KeyIs.is I _ (.ref e.2.1) _ (q2 ▸ hk e q1) (by rw [q3]; rfl), q2 ▸ h3 e q1⟩
theorem dicO_ok {P : Program} {w : World} {H : Hp} {h : Heap} {xs : List (NKey × Addr × Value)} (h1 : (a == sysModules) = false) (h2 : es.length ≤ sizeLine) (h3 : ∀ e ∈ es, e.1.depth ≤ 8) (r : NRel es xs) (d : DicRaw w h a xs) : ObjOk P w H h a (DicO w a es) := by
  refine ⟨⟨h1, h2, h3, xs, r, d⟩, ?_, fun h1' h2' p k => ?_⟩
  · obtain ⟨o, _, _, ho, _⟩ := d
    exact ⟨o, ho⟩
  · obtain ⟨p1, p2, p3, ys, p4, o, es', ep, p5, p6⟩ := p
    exact ⟨p1, p2, p3, ys, p4, o, es', ep, k o p5, p6⟩
theorem key_at {k : List NKey} {y : V} {u : Value} (I : Inv X pins σ H s) (h : KeyIs X.K H (.tup k) y) (hd : (NestedKey.tup k).depth ≤ 8) (r : RelV y u) : ∃ b, y = .ref b ∧ u = .ref b ∧ (nestedKind X.prog X.w).is s.heap (.tup k) b := by
  cases h with
  | @tup b xs _ h1 h2 =>
    obtain rfl : u = Value.ref b := r
    exact ⟨b, rfl, rfl, KeyIs.is I _ (.ref b) _ (.tup h1 h2) rfl, hd⟩
theorem room_n {A : Around} (hu : A.units + 65 < cLine) : (nestedKind X.prog X.w).room A.in1 := by show A.in1.units + 8 < cLine; rw [Around.in1_units]; omega
end
/-! ### the rules -/
def rIxD (w : World) (K : PySem.W.Frag) : R2 := fun x y H Q => ∃ a es k v, x = .ref a ∧ H a = some (DicO w a es) ∧ KeysAt K H es ∧ KeyIs K H (.tup k) y ∧ (NestedKey.tup k).depth ≤ 8 ∧ valE (.tup k) es = some v ∧ Q v H
def rInD (w : World) (K : PySem.W.Frag) (neg : Bool) : R2 := fun y x H Q => ∃ a es k, x = .ref a ∧ H a = some (DicO w a es) ∧ KeysAt K H es ∧ KeyIs K H (.tup k) y ∧ (NestedKey.tup k).depth ≤ 8 ∧ Q (.bl (if neg then !(valE (.tup k) es).isSome else (valE (.tup k) es).isSome)) H
def rSetD (w : World) (K : PySem.W.Frag) : TSet := fun o i v H Q => ∃ a es k b, o = .ref a ∧ H a = some (DicO w a es) ∧ KeysAt K H es ∧ i = .ref b ∧ KeyIs K H (.tup k) i ∧ (NestedKey.tup k).depth ≤ 8 ∧ es.length < sizeLine ∧ Q (upd H a (DicO w a (putE (.tup k) b v es)))
def rGetD (w : World) (K : PySem.W.Frag) (a : Addr) : V → V → Hp → VK → Prop := fun y z H Q => ∃ es k, H a = some (DicO w a es) ∧ KeysAt K H es ∧ KeyIs K H (.tup k) y ∧ (NestedKey.tup k).depth ≤ 8 ∧ Q ((valE (.tup k) es).getD z) H
section
variable {X : Cx}
theorem relO_some {v : V} {o : Option Value} (h : RelO (some v) o) : ∃ u, o = some u ∧ RelV v u := by
  cases o with
  | none => exact h.elim
  | some u => exact ⟨u, rfl, h⟩
theorem ix_dic (hu : X.A.units + 65 < cLine) : IxR X (rIxD X.w X.K) := by
  intro value slice pins s σ H x y v u Q I rx ry h hs
  obtain ⟨a, es, k, z, rfl, hd, hk, hy, hdep, hv, q⟩ := h
  obtain ⟨b, rfl, rfl, hkey⟩ := key_at I hy hdep ry
  obtain rfl : v = Value.ref a := rx
  obtain ⟨h1, h2, h3, xs, h4, h5⟩ := nd_of I hd hk
  have hr := valE_rel (k := .tup k) h4
  rw [hv] at hr
  obtain ⟨w', hw, rw'⟩ := relO_some hr
  obtain ⟨p, hp, hp2⟩ := Option.map_eq_some_iff.mp hw
  refine PyProof.Rows.tail_any h5.typeIs slot_dict_getitem.lookup (wpAny_getItem_heap (room_n hu) hkey h5 hp ?_) hs
  rw [hp2]
  exact ⟨z, H, I.tok _, rw', q⟩
theorem op_inD (hu : X.A.units + 65 < cLine) : OpR X (compareOp .In) (rInD X.w X.K false) := by
  intro pins s σ H y x v u Q I ry rx h
  obtain ⟨a, es, k, rfl, hd, hk, hy, hdep, q⟩ := h
  obtain ⟨b, rfl, rfl, hkey⟩ := key_at I hy hdep ry
  obtain rfl : u = Value.ref a := rx
  obtain ⟨h1, h2, h3, xs, h4, h5⟩ := nd_of I hd hk
  have hr := (valE_rel (k := .tup k) h4).isSome_eq
  rw [Option.isSome_map] at hr
  refine wpAny_in_heap (room_n hu) hkey h1 h5 ?_
  rw [← hr]
  exact ⟨.bl (valE (.tup k) es).isSome, H, I.tok _, rfl, q⟩
theorem op_notInD (hu : X.A.units + 65 < cLine) : OpR X (compareOp .NotIn) (rInD X.w X.K true) := by
  intro pins s σ H y x v u Q I ry rx h
  obtain ⟨a, es, k, rfl, hd, hk, hy, hdep, q⟩ := h
  obtain ⟨b, rfl, rfl, hkey⟩ := key_at I hy hdep ry
  obtain rfl : u = Value.ref a := rx
  obtain ⟨h1, h2, h3, xs, h4, h5⟩ := nd_of I hd hk
  have hr := (valE_rel (k := .tup k) h4).isSome_eq
  rw [Option.isSome_map] at hr
  refine PyProof.Rows.wpAny_notIn_heap (room_n hu) hkey h1 h5 ?_
  rw [← hr]
  exact ⟨.bl (!(valE (.tup k) es).isSome), H, I.tok _, rfl, q⟩
theorem set_dic (hu : X.A.units + 65 < cLine) : PSet X (rSetD X.w X.K) := by
  intro pins s σ H o i v ov iv u Q I ro ri rv h
  obtain ⟨a, es, k, b', rfl, hd, hk, rfl, hy, hdep, hl, q⟩ := h
  obtain ⟨b, e, rfl, hkey⟩ := key_at I hy hdep ri
  cases e
  obtain rfl : ov = Value.ref a := ro
  obtain ⟨h1, h2, h3, xs, h4, h5⟩ := nd_of I hd hk
  refine wpAny_setItem_heap (hsz := by rw [← rel_len h4]; exact h2) (room_n hu) hkey h5 fun h' dd' hs => ?_
  obtain ⟨oo, es', ep, g1, g2, g3, g4, _, g6⟩ := dd'
  have hnd : (xs.map (·.1)).Nodup := h5.nodup
  rw [storedH_rec hnd] at g4 g6
  have I2 := d_write (t' := s.toks + (nestedKind X.prog X.w).draws (.tup k)) (ob := DicO X.w a (putE (.tup k) b' v es)) I (by rw [hd]; exact True.intro) hs ⟨oo, g1⟩ (dicO_ok h1 (by have := putE_len (k := .tup k) (b := b') (v := v) es; omega) (fun e he => by
    rcases putE_mem he with ⟨z, _⟩ | ⟨e', z1, z2, _⟩
    · rw [z]; exact hdep
    · rw [← z2]; exact h3 e' z1) (put_rel rv h4) ⟨oo, es', ep, g1, g2, g3, g4, g6⟩)
  exact ⟨_, I2, q⟩
def tDNewN (w : World) : TE := fun _ H Q => ∀ p, H p = none → Q (.ref p) (upd H p (DicO w p []))
theorem pe_dnewN {pos : Pos} : PE X (.Dict [] [] pos) (tDNewN X.w) := ⟨fun pins s σ H Q I h =>
  wpAny_Dict_empty ⟨.ref s.heap.objs.size, _, I.laid (a := s.heap.objs.size) (o := DicO X.w s.heap.objs.size []) (t' := s.toks) (fun _ _ q => Heap.get?_push_of_some _ q) (Nat.le_refl _)
    (dicO_ok (beq_eq_false_iff_ne.mpr (Ne.symm (Nat.ne_of_lt I.big))) (Nat.zero_le _) (fun _ h => by cases h) .nil ⟨_, #[], 0, Heap.get?_push_size _ rfl, ⟨rfl, rfl, rfl⟩, rfl, rfl, List.nodup_nil⟩), rfl, h _ (I.hok.fresh (Nat.le_refl _))⟩⟩
/-- d.get(y, z) -/
def tGetN (w : World) (K : PySem.W.Frag) (td ty tx : TE) : TE := fun σ H Q => td σ H fun x H1 => ∃ a es0, x = .ref a ∧ H1 a = some (DicO w a es0) ∧ ty σ H1 fun y H2 => tx σ H2 fun z H3 => rGetD w K a y z H3 Q
theorem dicT {pins : List (Addr × Obj)} {σ : L2.St} {H : Hp} {s : Shared} {a : Addr} {es : List (NKey × Addr × V)} (I : Inv X pins σ H s) (hd : H a = some (DicO X.w a es)) : s.TypeIs (.ref a) "dict" ∧ (∀ b, Value.ref a = .ref b → ∃ ob, s.heap.get? b = some ob ∧ ob.dict = none) ∧ (a == sysModules) = false := by
  obtain ⟨⟨h1, h2, h3, xs, h4, o, es', ep, h5, h6, _⟩, _, _⟩ := (I.hok a _ hd)
  exact ⟨⟨o, h5, h6.1⟩, fun b q => by cases q; exact ⟨o, h5, h6.2.1⟩, h1⟩
theorem pe_dgetN {o e f : Expr} {apos cpos : Pos} {td ty tx : TE} (hu : X.A.units + 65 < cLine) (ho : PE X o td) (he : PE X e ty) (hf : PE X f tx) (m : M2 X o "get" apos e f cpos := by exact ⟨rfl, rfl, rfl, rfl⟩) : PE X (.Call (.Attribute o "get" apos) [e, f] [] cpos) (tGetN X.w X.K td ty tx) := by
  refine ⟨fun pins s σ H Q I h => ?_⟩
  refine wpAny_Call_method m.base m.few m.line PySem.F.plainAttrs_dict PySem.F.slot_dict_get PySem.F.type_dict_get (thn (ho.run pins s σ H _ I h) fun u s1 ⟨x, H1, I1, rx, a, es0, ex, hd0, q1⟩ => ?_)
  subst ex
  obtain rfl : u = Value.ref a := rx
  obtain ⟨t1, t2, _⟩ := dicT I1 hd0
  refine ⟨t1, t2, ?_⟩
  rw [m.trees]
  refine Calls.callWith_builtin rfl (Calls.evalArgs_plain (Calls.spliced_cons (thn (he.run pins s1 σ H1 _ I1 q1) fun iv s2 ⟨y, H2, I2, ry, q2⟩ =>
    Calls.spliced_cons (thn (hf.run pins s2 σ H2 _ I2 q2) fun fv s3 ⟨z, H3, I3, rz, es, k, hd, hk, hy, hdep, q3⟩ => Calls.spliced_nil ?_))))
  obtain ⟨b, rfl, rfl, hkey⟩ := key_at I3 hy hdep ry
  obtain ⟨h1, h2, h3, xs, h4, h5⟩ := nd_of I3 hd hk
  refine call_meetsIn PySem.F.slot_dict_get h5.typeIs PySem.F.entry_dict_get (PySem.F.args_dict_get_3 _ _ _) (meetsH_dict_get_default (nestedKind X.prog X.w) a b h1 fv) ⟨room_n hu, .tup k, xs, hkey, h5, ?_⟩
  exact ⟨_, H3, I3.tok _, (valE_rel (k := .tup k) h4).getD rz, q3⟩
/-- d.values() -/
def valuesO (p d : Addr) : HO := .ext fun h => h.IsValuesView p d
theorem valuesO_ok {P : Program} {w : World} {H : Hp} {h : Heap} {p d : Addr} (e : h.get? p = some { cls := .type "dict_values", data := .fields #[.ref d] }) : ObjOk P w H h p (valuesO p d) :=
  ⟨⟨_, e, rfl, rfl⟩, ⟨_, e⟩, fun h1 h2 x k => let ⟨o, ho, r⟩ := x; ⟨o, k o ho, r⟩⟩
def tValuesN (w : World) (to : TE) : TE := fun σ H Q => to σ H fun x H1 => ∃ a es, x = .ref a ∧ H1 a = some (DicO w a es) ∧ ∀ p, H1 p = none → Q (.ref p) (upd H1 p (valuesO p a))
theorem pe_valuesN {o : Expr} {apos cpos : Pos} {to : TE} (ho : PE X o to) (hbase : attributeBase o "values" X.env (eval o X.env) = eval o X.env := by rfl) (hline : (apos.endLine == cpos.line) = true := by rfl) : PE X (.Call (.Attribute o "values" apos) [] [] cpos) (tValuesN X.w to) := by
  refine ⟨fun pins s σ H Q I h => ?_⟩
  refine wpAny_Call_method0_late hbase hline (thn (ho.run pins s σ H _ I h) fun v s1 ⟨x, H1, I1, rx, a, es, ex, hd, q1⟩ => ?_)
  subst ex
  obtain rfl : v = Value.ref a := rx
  obtain ⟨t1, t2, t3⟩ := dicT I1 hd
  obtain ⟨⟨h1, h2, h3, xs, h4, oo, es', ep, h5, h6, h7, _⟩, _, _⟩ := (I1.hok a _ hd)
  refine ⟨"dict", "dict.values", PySem.F.plainAttrs_dict, PySem.F.slot_dict_values, PySem.F.type_dict_values, t1, t2, Calls.callWith_builtin rfl (PySem.evalArgs_none ?_)⟩
  refine call_meetsIn PySem.F.slot_dict_values t1 PySem.F.entry_dict_values (PySem.F.args_dict_values_1 _) (meets_dict_values_raw a t3) ⟨⟨es', ep, oo, h5, h6, h7⟩, ?_⟩
  exact ⟨.ref s1.heap.objs.size, upd H1 s1.heap.objs.size (valuesO s1.heap.objs.size a), I1.laid (t' := s1.toks) (fun b u e => Heap.get?_push_of_some _ e) (Nat.le_refl _) (valuesO_ok (Heap.get?_push_size _ rfl)), rfl, q1 _ (I1.hok.fresh (Nat.le_refl _))⟩
def rListV (w : World) : List V → Hp → VK → Prop := fun xs H Q => ∃ p a es, xs = [V.ref p] ∧ H p = some (valuesO p a) ∧ H a = some (DicO w a es) ∧ ∀ l, H l = none → Q (.ref l) (upd H l (.lst (es.map (·.2.2))))
theorem rel_vals : ∀ {es : List (NKey × Addr × V)} {xs : List (NKey × Addr × Value)}, NRel es xs → Vals (es.map (·.2.2)) (xs.map (·.2.2))
  | _, _, .nil => .nil
  | _, _, .cons h t => .cons h.2.2 (rel_vals t)
theorem cr_listV (hc : X.calm = true) : CallR X (.type "list") (rListV X.w) := by
  intro pins s σ H xs us Q I r h
  obtain ⟨p, a, es, rfl, hp, hd, q⟩ := h
  rw [Vals.ref1 r]
  have hv : s.heap.IsValuesView p a := (I.hok p _ hp).1
  obtain ⟨⟨h1, h2, h3, xs, h4, oo, es', ep, h5, h6, h7, h8, h9⟩, _, _⟩ := (I.hok a _ hd)
  have hsz : es'.size = xs.length := by rw [← Array.length_toList, h8, Qy]
  refine PySem.W.kdl_call (KdlSrc.rawValues (prog := X.prog) (w := X.w) (r := p) (d := a) (es := es') (ep := ep)) (I.ok.hd hc) ⟨hv, oo, h5, h6, h7⟩ (by rw [hsz, ← rel_len h4]; exact h2) fun h' tk acc' c' k g it => ?_
  have hacc : acc'.toList = xs.map (·.2.2) := by
    obtain ⟨z1, z2⟩ := it
    apply List.ext_getElem?
    intro i
    rw [Array.getElem?_toList]
    by_cases hi : i < es'.size
    · obtain ⟨hi2, e⟩ := z2 i acc'[i] (Array.getElem?_eq_getElem (by omega))
      rw [Array.getElem?_eq_getElem (by omega), e]
      have e2 : es'[i]? = some es'[i] := Array.getElem?_eq_getElem hi
      rw [← Array.getElem?_toList, h8, List.getElem?_map] at e2
      rw [List.getElem?_map]
      cases q3 : xs[i]? with
      | none => rw [q3] at e2; cases e2
      | some x =>
        rw [q3] at e2
        have e3 := Option.some.inj e2
        show some es'[i].val = some x.2.2
        rw [← e3]
    · rw [Array.getElem?_eq_none (by omega), List.getElem?_eq_none (by rw [Qy]; omega)]
  have hn : H s.heap.objs.size = none := I.hok.fresh (Nat.le_refl _)
  refine ⟨.ref s.heap.objs.size, upd H s.heap.objs.size (.lst (es.map (·.2.2))), I.laid (t' := tk) k (Nat.le_refl _) ⟨by rw [Qy]; exact h2, acc'.toList, c', by rw [hacc]; exact rel_vals h4, by simpa using g⟩, rfl, q _ hn⟩
end
end Py

set_option Elab.async false
set_option linter.all false
set_option maxRecDepth 100000
set_option maxHeartbeats 2000000
namespace Py
open PySem L2 He
/-! dicts as data -/
def keyB (d : D) : Option (List NKey) := match keyOf d with
  | some (.tup k) => if (NestedKey.tup k).depth ≤ 8 then some k else none
  | _ => none
def getD (k : NKey) : List D → List D → Option D
  | x :: ks, v :: vs => if keyOf x = some k then some v else getD k ks vs
  | _, _ => none
def putDk (k : NKey) (d : D) : List D → List D
  | [] => [d]
  | x :: ks => if keyOf x = some k then x :: ks else x :: putDk k d ks
def putDv (k : NKey) (v : D) : List D → List D → List D
  | [], _ => [v]
  | x :: ks, y :: vs => if keyOf x = some k then v :: vs else y :: putDv k v ks vs
  | _ :: _, [] => []
theorem keyB_of {d : D} {k : List NKey} (h : keyB d = some k) : keyOf d = some (.tup k) ∧ (NestedKey.tup k).depth ≤ 8 := by
  unfold keyB at h
  split at h
  · rename_i kk e
    by_cases hd : (NestedKey.tup kk).depth ≤ 8
    · rw [if_pos hd] at h
      cases h
      exact ⟨e, hd⟩
    · rw [if_neg hd] at h; cases h
  · cases h
section
variable {Γ : Gm} {H G : Hp}
theorem keys_at (le : Same H G) : ∀ {es : List (NKey × Addr × V)} {ks : List D}, ks.map keyOf = es.map (fun e => some e.1) → IsDs Γ H (es.map fun e => V.ref e.2.1) ks → KeysAt Γ.K G es
  | [], _, _, _ => fun e h => by cases h
  | e :: es, [], hk, _ => by cases hk
  | e :: es, k :: ks, hk, hd => by
    rw [Rg, Rg] at hk
    obtain ⟨h1, h2⟩ := List.cons.inj hk
    rw [Rg] at hd
    cases hd with
    | cons h3 h4 =>
      intro e' he
      rcases List.mem_cons.mp he with rfl | he
      · exact keyIs_of le k _ _ h3 h1
      · exact keys_at le h2 h4 e' he
theorem get_rel {k : NKey} : ∀ {es : List (NKey × Addr × V)} {ks vs : List D}, ks.map keyOf = es.map (fun e => some e.1) → IsDs Γ H (es.map fun e => e.2.2) vs → match getD k ks vs with
    | some d => ∃ v, valE k es = some v ∧ IsD Γ H v d
    | none => valE k es = none
  | [], [], vs, _, _ => by unfold getD; rfl
  | [], _ :: _, _, h, _ => by cases h
  | e :: es, [], _, h, _ => by cases h
  | e :: es, x :: ks, vs, hk, hv => by
    rw [Rg, Rg] at hk
    obtain ⟨h1, h2⟩ := List.cons.inj hk
    rw [Rg] at hv
    cases hv with
    | cons h3 h4 =>
      rename_i d ds
      unfold getD valE
      rw [h1]
      by_cases q : e.1 = k
      · rw [if_pos (congrArg some q), if_pos q]
        exact ⟨_, rfl, h3⟩
      · rw [if_neg (fun z => q (Option.some.inj z)), if_neg q]
        exact get_rel h2 h4
theorem put_relD {k : NKey} {b : Addr} {v : V} {dk dv : D} (hkd : keyOf dk = some k) (hb : IsD Γ H (.ref b) dk) (hv : IsD Γ H v dv) : ∀ {es : List (NKey × Addr × V)} {ks vs : List D}, ks.map keyOf = es.map (fun e => some e.1) → IsDs Γ H (es.map fun e => V.ref e.2.1) ks → IsDs Γ H (es.map fun e => e.2.2) vs →
    (putDk k dk ks).map keyOf = (putE k b v es).map (fun e => some e.1) ∧ IsDs Γ H ((putE k b v es).map fun e => V.ref e.2.1) (putDk k dk ks) ∧ IsDs Γ H ((putE k b v es).map fun e => e.2.2) (putDv k dv ks vs)
  | [], [], vs, _, _, _ => ⟨by unfold putDk putE; rw [Rg, Rg, hkd]; rfl, .cons hb .nil, by unfold putDv; exact .cons hv .nil⟩
  | [], _ :: _, _, h, _, _ => by cases h
  | e :: es, [], _, h, _, _ => by cases h
  | e :: es, x :: ks, vs, hk, hd, hvs => by
    rw [Rg, Rg] at hk
    obtain ⟨h1, h2⟩ := List.cons.inj hk
    rw [Rg] at hvs hd
    cases hvs with
    | cons h3 h4 =>
      cases hd with
      | cons h5 h6 =>
        unfold putDk putDv putE
        rw [h1]
        by_cases q : e.1 = k
        · rw [if_pos (congrArg some q), if_pos (congrArg some q), if_pos q]
          exact ⟨by rw [Rg, Rg, h1, h2], .cons h5 h6, .cons hv h4⟩
        · rw [if_neg (fun z => q (Option.some.inj z)), if_neg (fun z => q (Option.some.inj z)), if_neg q]
          obtain ⟨g1, g2, g3⟩ := put_relD hkd hb hv h2 h6 h4
          exact ⟨by rw [Rg, Rg, h1, g1], .cons h5 g2, .cons h3 g3⟩
end
/-- a[b], a dict, too -/
def dIxA : D → D → Option D
  | .dic ks vs, k => match keyB k with
    | some kk => getD (.tup kk) ks vs
    | none => none
  | a, b => dIx a b
def rIxA (w : World) (K : PySem.W.Frag) : R2 := fun x y H Q => rIx K x y H Q ∨ rIxD w K x y H Q
theorem ix_all {X : Cx} (hu : X.A.units + 65 < cLine) : IxR X (rIxA X.w X.K) := ix_seq.or (ix_dic hu)
theorem opd_ixA {Γ : Gm} : OpD Γ (rIxA Γ.w Γ.K) dIxA := fun G S x y dx dy dz dom hx hy e Q q => by
  by_cases hd : ∃ ks vs, dx = .dic ks vs
  · obtain ⟨ks, vs, rfl⟩ := hd
    have e' : (match keyB dy with | some kk => getD (.tup kk) ks vs | none => none) = some dz := e
    cases hk : keyB dy with
    | none => rw [hk] at e'; cases e'
    | some kk =>
      rw [hk] at e'
      obtain ⟨k1, k2⟩ := keyB_of hk
      cases hx with
      | dic h1 h2 h3 h4 =>
        have hr := get_rel (k := .tup kk) h2 h4
        have e2 : getD (.tup kk) ks vs = some dz := e'
        rw [e2] at hr
        obtain ⟨v, g1, g2⟩ := hr
        exact .inr ⟨_, _, kk, v, rfl, hide_le _ _ h1, keys_at hide_le h2 h3, keyIs_of hide_le dy y _ hy k1, k2, g1, q _ G (Same.refl _) g2⟩
  · have e' : dIx dx dy = some dz := by
      cases dx <;> first | exact e | exact absurd ⟨_, _, rfl⟩ hd
    exact .inl (opd_ix G S x y dx dy dz dom hx hy e' Q q)
def ownDv : Option (Option D) → Option (List D × List D)
  | some (some (.dic ks vs)) => some (ks, vs)
  | _ => none
def ownD (ρ : Env) (i : Nat) : Option (List D × List D) := ownDv ρ[i]?
theorem ownD_of {ρ : Env} {i : Nat} {ks vs : List D} (h : ownD ρ i = some (ks, vs)) : ρ[i]? = some (some (.dic ks vs)) := by
  unfold ownD ownDv at h
  split at h
  · rename_i k v e
    cases h
    exact e
  · cases h
section
variable {Γ : Gm} {fr : Frm} {σ σ' : L2.St} {ρ ρ' : Env} {G G' : Hp} {S S' : Addr → Prop} {i : Nat} {v : V} {d : D} {te tk tz : TE} {m mk mz : Env → Rs D}
theorem Co.dicAt (c : Co Γ fr σ ρ G S) (hi : i ∈ fr.ow) {ks vs : List D} (h : ownD ρ i = some (ks, vs)) : ∃ p es, σ[i]? = some (some (.ref p)) ∧ S p ∧ G p = some (DicO Γ.w p es) ∧ (ks.map keyOf = es.map (fun e => some e.1) ∧ IsDs Γ (hide S G) (es.map fun e => V.ref e.2.1) ks ∧ IsDs Γ (hide S G) (es.map fun e => e.2.2) vs) ∧ ((fr.hd = true ∧ i = 0 ∧ p = fr.hp) ∨ (fr.B p = none ∧ ¬ fr.S0 p)) := by
  rcases c.own i _ hi (ownD_of h) with ⟨d', v, z, _⟩ | ⟨p, o, h4, h5, h6, h7, h8⟩
  · cases z
  · obtain ⟨es, rfl, h9⟩ := h7.isDic
    exact ⟨p, es, h4, h5, h6, h9, h8⟩
/-- {} -/
def eDNew : Env → Rs D := fun ρ => .ok (.dic [] []) ρ
theorem evf_dnew : EVF Γ fr (tDNewN Γ.w) eDNew := fun σ ρ G S c Q p => by
  intro q hq
  obtain ⟨n1, n2, n3⟩ := c.newB hq
  exact p q _ _ (fun a => S a ∨ a = q) (hideMore_le hq) (c.hideMore hq) (.inr rfl) upd_same (.dic rfl .nil .nil) n1 n2 n3 (c.newOwn hq)
def inOF (neg : Bool) (k : D) (ρ : Env) : Option (List D × List D) → Rs D
  | some kv => (match keyB k with
    | some kk => .ok (.bl (if neg then !(getD (.tup kk) kv.1 kv.2).isSome else (getD (.tup kk) kv.1 kv.2).isSome)) ρ
    | none => .stuck)
  | none => .stuck
/-- k in x, x a dict of one's own -/
def eInO (neg : Bool) (i : Nat) (mk : Env → Rs D) : Env → Rs D := fun ρ => (mk ρ).bind fun k ρ1 => inOF neg k ρ1 (ownD ρ1 i)
theorem ev_inO {neg : Bool} (hk : EV Γ fr tk mk) (hi : fr.isOwn i = true := by rfl) : EV Γ fr (tOp (rInD Γ.w Γ.K neg) tk (tVar i)) (eInO neg i mk) := fun σ ρ G S c Q p => by
  have hi : i ∈ fr.ow := isown hi
  refine hk.step c p fun k ρ1 x G1 S1 _ c1 hx p1 => ?_
  have p2 : PostG (fun H v d => IsD Γ H v d) Γ fr σ G1 S1 Q (inOF neg k ρ1 (ownD ρ1 i)) := p1
  cases ho : ownD ρ1 i with
  | none => rw [ho] at p2; exact p2.elim
  | some kv =>
    obtain ⟨ks, vs⟩ := kv
    rw [ho] at p2
    unfold inOF at p2
    dsimp only at p2
    cases hkb : keyB k with
    | none => rw [hkb] at p2; exact p2.elim
    | some kk =>
      rw [hkb] at p2
      dsimp only at p2
      obtain ⟨k1, k2⟩ := keyB_of hkb
      obtain ⟨q, es, g1, g2, g3, ⟨g4, g5, g6⟩, _⟩ := c1.dicAt hi ho
      have hr := get_rel (k := .tup kk) g4 g6
      have he : (getD (.tup kk) ks vs).isSome = (valE (.tup kk) es).isSome := by
        cases hg : getD (.tup kk) ks vs with
        | none => rw [hg] at hr; rw [hr]; rfl
        | some d => rw [hg] at hr; obtain ⟨v, z, _⟩ := hr; rw [z]; rfl
      rw [he] at p2
      exact ⟨.ref q, g1, q, es, kk, rfl, g3, keys_at hide_le g4 g5, keyIs_of hide_le k x _ hx k1, k2, PostG.give (d := D.bl _) p2 (Same.refl _) c1 (.bl _)⟩
def getOF (k z : D) (ρ : Env) : Option (List D × List D) → Rs D
  | some kv => (match keyB k with
    | some kk => .ok ((getD (.tup kk) kv.1 kv.2).getD z) ρ
    | none => .stuck)
  | none => .stuck
/-- x.get(k, z), x a dict of one's own -/
def eGetO (i : Nat) (mk mz : Env → Rs D) : Env → Rs D := fun ρ => match ownD ρ i with
  | none => .stuck
  | some _ => (mk ρ).bind fun k ρ1 => (mz ρ1).bind fun z ρ2 => getOF k z ρ2 (ownD ρ2 i)
theorem ev_getO (hk : EV Γ fr tk mk) (hz : EV Γ fr tz mz) (hi : fr.isOwn i = true := by rfl) : EV Γ fr (tGetN Γ.w Γ.K (tVar i) tk tz) (eGetO i mk mz) := fun σ ρ G S c Q p => by
  have hi : i ∈ fr.ow := isown hi
  unfold eGetO at p
  cases ho0 : ownD ρ i with
  | none => rw [ho0] at p; exact p.elim
  | some kv0 =>
    obtain ⟨ks0, vs0⟩ := kv0
    rw [ho0] at p
    obtain ⟨q0, es0, f1, f2, f3, _, _⟩ := c.dicAt hi ho0
    refine ⟨.ref q0, f1, q0, es0, rfl, f3, ?_⟩
    refine hk.step c p fun k ρ1 x G1 S1 _ c1 hx p1 => ?_
    refine hz.step c1 p1 fun z ρ2 y G2 S2 e2 c2 hy p2 => ?_
    have hx2 := hx.le e2
    have p3 : PostG (fun H v d => IsD Γ H v d) Γ fr σ G2 S2 Q (getOF k z ρ2 (ownD ρ2 i)) := p2
    cases ho : ownD ρ2 i with
    | none => rw [ho] at p3; exact p3.elim
    | some kv =>
      obtain ⟨ks, vs⟩ := kv
      rw [ho] at p3
      unfold getOF at p3
      dsimp only at p3
      cases hkb : keyB k with
      | none => rw [hkb] at p3; exact p3.elim
      | some kk =>
        rw [hkb] at p3
        dsimp only at p3
        obtain ⟨k1, k2⟩ := keyB_of hkb
        obtain ⟨q, es, g1, g2, g3, ⟨g4, g5, g6⟩, _⟩ := c2.dicAt hi ho
        rw [f1] at g1
        cases g1
        have hr := get_rel (k := .tup kk) g4 g6
        refine ⟨es, kk, g3, keys_at hide_le g4 g5, keyIs_of hide_le k x _ hx2 k1, k2, ?_⟩
        cases hg : getD (.tup kk) ks vs with
        | none =>
          rw [hg] at hr p3
          have hr : valE (.tup kk) es = none := hr
          rw [hr]
          exact PostG.give (d := z) p3 (Same.refl _) c2 hy
        | some d =>
          rw [hg] at hr p3
          obtain ⟨v, z1, z2⟩ := hr
          rw [z1]
          exact PostG.give (d := d) p3 (Same.refl _) c2 z2
def setDF (i : Nat) (k d : D) (ρ : Env) : Option (List D × List D) → Out
  | some kv => (match keyB k with
    | some kk => if kv.1.length < 1000000 then .nx (ρ.set i (some (.dic (putDk (.tup kk) k kv.1) (putDv (.tup kk) d kv.1 kv.2)))) else .stuck
    | none => .stuck)
  | none => .stuck
/-- x[k] = e, x a dict of one's own -/
def sSetD (i : Nat) (mk m : Env → Rs D) : Env → Out := fun ρ => (m ρ).out fun d ρ1 => match ownD ρ1 i with
  | none => .stuck
  | some _ => (mk ρ1).out fun k ρ2 => setDF i k d ρ2 (ownD ρ2 i)
theorem sv_setD (h : EV Γ fr te m) (hk : EV Γ fr tk mk) (hi : fr.isOwn i = true := by rfl) : SV Γ fr (tAsg te (gSub (tVar i) tk (rSetD Γ.w Γ.K))) (sSetD i mk m) := fun σ ρ G S c E p => by
  have hi : i ∈ fr.ow := isown hi
  refine h.stepS c p fun d ρ1 x G1 S1 _ c1 hx p1 => ?_
  have p1 : PostS Γ fr G1 S1 E (match ownD ρ1 i with | none => .stuck | some _ => (mk ρ1).out fun k ρ2 => setDF i k d ρ2 (ownD ρ2 i)) := p1
  cases ho : ownD ρ1 i with
  | none => rw [ho] at p1; exact p1.elim
  | some kv0 =>
    obtain ⟨ks0, vs0⟩ := kv0
    rw [ho] at p1
    obtain ⟨q0, es0, f1, f2, f3, _, _⟩ := c1.dicAt hi ho
    refine ⟨.ref q0, f1, ?_⟩
    refine hk.stepS c1 p1 fun k ρ2 y G2 S2 e2 c2 hy p2 => ?_
    have hx2 := hx.le e2
    cases ho2 : ownD ρ2 i with
    | none =>
      have p3 : PostS Γ fr G2 S2 E (setDF i k d ρ2 (ownD ρ2 i)) := p2
      rw [ho2] at p3; exact p3.elim
    | some kv =>
      obtain ⟨ks, vs⟩ := kv
      have p3 : PostS Γ fr G2 S2 E (setDF i k d ρ2 (ownD ρ2 i)) := p2
      rw [ho2] at p3
      unfold setDF at p3
      dsimp only at p3
      cases hkb : keyB k with
      | none => rw [hkb] at p3; exact p3.elim
      | some kk =>
        rw [hkb] at p3
        dsimp only at p3
        obtain ⟨k1, k2⟩ := keyB_of hkb
        by_cases hl : ks.length < 1000000
        · rw [if_pos hl] at p3
          obtain ⟨q, es, g1, g2, g3, ⟨g4, g5, g6⟩, g7⟩ := c2.dicAt hi ho2
          rw [f1] at g1
          cases g1
          have hlen : es.length = ks.length := by
            have := congrArg List.length g4
            rw [Qy, Qy] at this
            exact this.symm
          have hkey := keyIs_of (hide_le (S := S2) (G := G2)) k y _ hy k1
          obtain ⟨b, rfl⟩ : ∃ b, y = V.ref b := by
            cases hkey with
            | tup _ _ => exact ⟨_, rfl⟩
          refine ⟨q0, es, kk, b, rfl, g3, keys_at hide_le g4 g5, rfl, hkey, k2, Nat.lt_of_lt_of_le (by rw [hlen]; exact hl) (size_ok (Nat.le_refl _)), ?_⟩
          obtain ⟨c3, eh⟩ := c2.writeO (o' := DicO Γ.w q0 (putE (.tup kk) b x es)) (d' := .dic (putDk (.tup kk) k ks) (putDv (.tup kk) d ks vs)) hi (ownD_of ho2) rfl f1 g2 (by
            obtain ⟨z1, z2, z3⟩ := put_relD k1 hy hx2 g4 g5 g6
            exact .dic z1 z2 z3) g7
          exact p3 σ _ S2 (by rw [eh]; exact Same.refl _) c3
        · rw [if_neg hl] at p3
          exact p3.elim
def valsOF (ρ : Env) : Option (List D × List D) → Rs D
  | some kv => .ok (.lst kv.2) ρ
  | none => .stuck
/-- list(x.values()), x a dict of one's own -/
def eValsO (i : Nat) : Env → Rs D := fun ρ => valsOF ρ (ownD ρ i)
theorem evf_valsO (hi : fr.isOwn i = true := by rfl) : EVF Γ fr (tCB (rListV Γ.w) (tCons (tValuesN Γ.w (tVar i)) tNil)) (eValsO i) := fun σ ρ G S c Q p => by
  have hi : i ∈ fr.ow := isown hi
  unfold eValsO at p
  cases ho : ownD ρ i with
  | none => rw [ho] at p; exact p.elim
  | some kv =>
    obtain ⟨ks, vs⟩ := kv
    rw [ho] at p
    obtain ⟨q, es, g1, g2, g3, ⟨g4, g5, g6⟩, _⟩ := c.dicAt hi ho
    refine ⟨.ref q, g1, q, es, rfl, g3, fun pv hv => ?_⟩
    have c1 := c.ext (same_upd (o := valuesO pv q) hv)
    have e1 := hide_ext (S := S) (same_upd (o := valuesO pv q) hv)
    refine ⟨pv, q, es, rfl, upd_same, by rw [upd_ne (ne_of_none g3 hv)]; exact g3, fun l hl => ?_⟩
    obtain ⟨n1, n2, n3⟩ := c1.newB hl
    exact p l _ _ (fun a => S a ∨ a = l) (e1.trans (hideMore_le hl)) (c1.hideMore hl) (.inr rfl) upd_same (.lst ((g6.le e1).le (hideMore_le hl))) n1 n2 n3 (c1.newOwn hl)
end
end Py

set_option Elab.async false
set_option linter.all false
set_option maxRecDepth 100000
set_option maxHeartbeats 2000000
namespace Py
open PySem L2 He
open PySem.Sem (wp)
/-! dict(zip(a, b)) of two tuples -/
section
variable {prog : Program} {w : World} {A : Around} {E : Value → Shared → Prop} {s : Shared}
theorem tt_at {g g' : Heap} {a : Addr} {its : Array Value} (h : g.IsTuple a its) (k : ∀ o, g.get? a = some o → g'.get? a = some o) : g'.IsTuple a its := let ⟨o, e, r⟩ := h; ⟨o, k o e, r⟩
theorem ti_at {g g' : Heap} {a t : Addr} {i : Nat} (h : g.IsTupleIter a t i) (k : ∀ o, g.get? a = some o → g'.get? a = some o) : g'.IsTupleIter a t i := let ⟨o, e, r⟩ := h; ⟨o, k o e, r⟩
theorem zt_item {z TI TO T j1 j2 m1 m2 : Addr} {f : Bool} {oT : Obj} {n1 n2 : Nat} {us vs : Array Value} {u v : Value} {Q : Value → Shared → Prop} (D : ZipApart z TI TO j1 j2 m1 m2)
    (gz : IsZipHeld s.heap z TI TO T f) (gT : s.heap.get? T = some oT) (gI : IsPair s.heap TI (.ref j1) (.ref j2))
    (g1 : s.heap.IsTupleIter j1 m1 n1) (g2 : s.heap.IsTupleIter j2 m2 n2) (q1 : s.heap.IsTuple m1 us) (q2 : s.heap.IsTuple m2 vs) (gu : us[n1]? = some u) (gv : vs[n2]? = some v)
    (fin : ∀ g, IsZipHeld g z TI TO T true → g.IsTupleIter j1 m1 (n1 + 1) → g.IsTupleIter j2 m2 (n2 + 1) → IsPair g s.heap.objs.size u v → g.objs.size = s.heap.objs.size + 1 →
      (∀ c o, c ≠ z → c ≠ j1 → c ≠ j2 → s.heap.get? c = some o → g.get? c = some o) → Q (.ref s.heap.objs.size) { s with heap := g }) :
    wpAny (model prog w) A (Builtin.«zip.__next__» ⟨[.ref z], []⟩) (fun fin s' => ∃ v, fin = .done (.ret v) ∧ Q v s') E s := by
  show wpAny _ _ (field (.ref z) 2 >>= _) _ _ _; refine wpAny_bind (wpAny_field gz rfl (x := .bool false) rfl ?_)
  show wpAny _ _ (field (.ref z) 3 >>= _) _ _ _; refine wpAny_bind (wpAny_field gz rfl (x := .ref TI) rfl ?_); refine wpAny_bind (wpAny_seqItems gI rfl ?_)
  show wpAny _ _ (Builtin.SmallTypes.ownedTupleIsFree (.ref z) >>= _) _ _ _; refine wpAny_bind (wpAny_tupleHeld_zip gz gT fun ha za ka => ?_)
  simp only [Bool.false_eq_true, if_false]; refine wpAny_bind ?_; rw [← Array.forIn_toList]
  simp only [List.forIn_cons, List.forIn_nil]; refine wpAny_bind (wpAny_bind (wpAny_holding ?_))
  show wpAny _ _ (Builtin.SmallTypes.nextOf (.ref j1) >>= _) _ _ _; refine wpAny_bind (RZ.nextOf_tuple_item (s := { s with heap := ha }) (g1.extBut ka.extBut D.i1z) (q1.extBut ka.extBut D.l1z) gu fun hb tb kb => wpAny_pure ?_)
  refine wpAny_pure ?_; refine wpAny_bind (wpAny_bind (wpAny_holding ?_))
  show wpAny _ _ (Builtin.SmallTypes.nextOf (.ref j2) >>= _) _ _ _; refine wpAny_bind (RZ.nextOf_tuple_item (s := { s with heap := hb }) ((g2.extBut ka.extBut D.i2z).extBut kb.extBut D.i12.symm) ((q2.extBut ka.extBut D.l2z).extBut kb.extBut D.l2i1) gv fun hd td kd => wpAny_pure ?_)
  refine wpAny_pure (wpAny_pure ?_); show wpAny _ _ (newTuple [u, v] >>= _) _ _ _; refine wpAny_bind (wpAny_newTuple ?_)
  have sz : hd.objs.size = s.heap.objs.size := by rw [kd.1, kb.1, ka.1]
  have zd : IsZipHeld hd z TI TO T true := kd.extBut _ _ D.i2z.symm (kb.extBut _ _ D.i1z.symm za)
  have kk : ∀ c o, c ≠ z → c ≠ j1 → c ≠ j2 → s.heap.get? c = some o → hd.get? c = some o := fun c o c1 c2 c3 e => kd.extBut _ _ c3 (kb.extBut _ _ c2 (ka.extBut _ _ c1 e))
  refine wpAny_pure ⟨_, rfl, ?_⟩; show Q (.ref hd.objs.size) _
  have pp : IsPair (hd.push { cls := .type "tuple", data := .seq #[u, v] }) hd.objs.size u v := Heap.get?_push_size _ rfl
  have s4 : (hd.push { cls := .type "tuple", data := .seq #[u, v] }).objs.size = hd.objs.size + 1 := Heap.size_push ..
  rw [sz] at pp s4 ⊢
  exact fin _ (Heap.get?_push_of_some _ zd) (ti_at (tb.extBut kd.extBut D.i12) fun o e => Heap.get?_push_of_some _ e) (ti_at td fun o e => Heap.get?_push_of_some _ e) pp s4 fun c o c1 c2 c3 e => Heap.get?_push_of_some _ (kk c o c1 c2 c3 e)
theorem zt_end {z TI TO T j1 j2 m1 m2 : Addr} {f : Bool} {oT : Obj} {n1 n2 : Nat} {us vs : Array Value} {Q : Fin → Shared → Prop} (hh : A.handled = none) (D : ZipApart z TI TO j1 j2 m1 m2)
    (gz : IsZipHeld s.heap z TI TO T f) (gT : s.heap.get? T = some oT) (gI : IsPair s.heap TI (.ref j1) (.ref j2))
    (g1 : s.heap.IsTupleIter j1 m1 n1) (g2 : s.heap.IsTupleIter j2 m2 n2) (q1 : s.heap.IsTuple m1 us) (q2 : s.heap.IsTuple m2 vs) (stop : us[n1]? = none ∨ vs[n2]? = none)
    (fin : ∀ g e, (∀ c o, c ≠ z → c ≠ j1 → c ≠ j2 → s.heap.get? c = some o → g.get? c = some o) → (∃ o, g.get? e = some o ∧ o.cls = .type "StopIteration") → E (.ref e) { s with heap := g }) :
    wpAny (model prog w) A (Builtin.«zip.__next__» ⟨[.ref z], []⟩) Q E s := by
  show wpAny _ _ (field (.ref z) 2 >>= _) _ _ _; refine wpAny_bind (wpAny_field gz rfl (x := .bool false) rfl ?_)
  show wpAny _ _ (field (.ref z) 3 >>= _) _ _ _; refine wpAny_bind (wpAny_field gz rfl (x := .ref TI) rfl ?_); refine wpAny_bind (wpAny_seqItems gI rfl ?_)
  show wpAny _ _ (Builtin.SmallTypes.ownedTupleIsFree (.ref z) >>= _) _ _ _; refine wpAny_bind (wpAny_tupleHeld_zip gz gT fun ha za ka => ?_)
  simp only [Bool.false_eq_true, if_false]; refine wpAny_bind ?_; rw [← Array.forIn_toList]
  simp only [List.forIn_cons, List.forIn_nil]; refine wpAny_bind (wpAny_bind (wpAny_holding ?_))
  show wpAny _ _ (Builtin.SmallTypes.nextOf (.ref j1) >>= _) _ _ _
  cases gu : us[n1]? with
  | none =>
    refine wpAny_bind (RZ.nextOf_tuple_end (s := { s with heap := ha }) hh (g1.extBut ka.extBut D.i1z) (q1.extBut ka.extBut D.l1z) gu fun hb e kb he => ?_)
    exact fin hb e (fun c o c1 c2 _ x => kb _ _ c2 (ka.extBut _ _ c1 x)) he
  | some u =>
    have gv : vs[n2]? = none := by rcases stop with h | h; rw [gu] at h; cases h; exact h
    refine wpAny_bind (RZ.nextOf_tuple_item (s := { s with heap := ha }) (g1.extBut ka.extBut D.i1z) (q1.extBut ka.extBut D.l1z) gu fun hb tb kb => wpAny_pure ?_)
    refine wpAny_pure ?_; refine wpAny_bind (wpAny_bind (wpAny_holding ?_))
    show wpAny _ _ (Builtin.SmallTypes.nextOf (.ref j2) >>= _) _ _ _; refine wpAny_bind (RZ.nextOf_tuple_end (s := { s with heap := hb }) hh ((g2.extBut ka.extBut D.i2z).extBut kb.extBut D.i12.symm) ((q2.extBut ka.extBut D.l2z).extBut kb.extBut D.l2i1) gv fun hd e kd he => ?_)
    exact fin hd e (fun c o c1 c2 c3 x => kd _ _ c3 (kb.extBut _ _ c2 (ka.extBut _ _ c1 x))) he
theorem zt_pyItem {z TI TO T j1 j2 m1 m2 : Addr} {f : Bool} {oT : Obj} {n1 n2 : Nat} {us vs : Array Value} {u v : Value} {Q : Option Value → Shared → Prop} (D : ZipApart z TI TO j1 j2 m1 m2)
    (gz : IsZipHeld s.heap z TI TO T f) (gT : s.heap.get? T = some oT) (gI : IsPair s.heap TI (.ref j1) (.ref j2))
    (g1 : s.heap.IsTupleIter j1 m1 n1) (g2 : s.heap.IsTupleIter j2 m2 n2) (q1 : s.heap.IsTuple m1 us) (q2 : s.heap.IsTuple m2 vs) (gu : us[n1]? = some u) (gv : vs[n2]? = some v)
    (fin : ∀ g, IsZipHeld g z TI TO T true → g.IsTupleIter j1 m1 (n1 + 1) → g.IsTupleIter j2 m2 (n2 + 1) → IsPair g s.heap.objs.size u v → g.objs.size = s.heap.objs.size + 1 →
      (∀ c o, c ≠ z → c ≠ j1 → c ≠ j2 → s.heap.get? c = some o → g.get? c = some o) → Q (some (.ref s.heap.objs.size)) { s with heap := g }) :
    wpAny (model prog w) A (pyNext (.ref z)) Q E s := by
  have ty : s.TypeIs (.ref z) "zip" := ⟨_, gz, rfl⟩
  unfold pyNext; exact wpAny_bind (wpAny_attempt (wpAny_callSpecial?_slot (name := Str.ofString "__next__") ty F.slot_zip_next
    (wpAny_call_entry F.slot_zip_next ty F.entry_zip_next (zt_item D gz gT gI g1 g2 q1 q2 gu gv fun g a1 a3 a4 a5 a6 a7 => wpAny_pure (fin g a1 a3 a4 a5 a6 a7)) (F.args_zip_next_1 _))))
theorem zt_pyEnd {z TI TO T j1 j2 m1 m2 : Addr} {f : Bool} {oT : Obj} {n1 n2 : Nat} {us vs : Array Value} {Q : Option Value → Shared → Prop} (hh : A.handled = none) (D : ZipApart z TI TO j1 j2 m1 m2)
    (gz : IsZipHeld s.heap z TI TO T f) (gT : s.heap.get? T = some oT) (gI : IsPair s.heap TI (.ref j1) (.ref j2))
    (g1 : s.heap.IsTupleIter j1 m1 n1) (g2 : s.heap.IsTupleIter j2 m2 n2) (q1 : s.heap.IsTuple m1 us) (q2 : s.heap.IsTuple m2 vs) (stop : us[n1]? = none ∨ vs[n2]? = none)
    (fin : ∀ g, (∀ c o, c ≠ z → c ≠ j1 → c ≠ j2 → s.heap.get? c = some o → g.get? c = some o) → Q none { s with heap := g }) : wpAny (model prog w) A (pyNext (.ref z)) Q E s := by
  have ty : s.TypeIs (.ref z) "zip" := ⟨_, gz, rfl⟩
  unfold pyNext; refine wpAny_bind (wpAny_attempt (wpAny_callSpecial?_slot (name := Str.ofString "__next__") ty F.slot_zip_next
    (wpAny_call_entry F.slot_zip_next ty F.entry_zip_next (zt_end hh D gz gT gI g1 g2 q1 q2 stop fun g e hk he => ?_) (F.args_zip_next_1 _))))
  obtain ⟨o, ho, hc⟩ := he; refine wpAny_bind (wpAny_isInstance (T := "StopIteration") (b := true) ⟨o, ho, hc⟩ isSubtype_stop ?_)
  exact wpAny_pure (fin _ hk)
theorem zt_arg (z TI TO j1 j2 m1 m2 : Addr) (D : ZipApart z TI TO j1 j2 m1 m2) (us vs : Array Value) :
    PairArg prog w "zip" z [z, TI, TO, j1, j2, m1, m2] [z, TO, j1, j2] (min us.size vs.size) (fun i k v => us[i]? = some k ∧ vs[i]? = some v)
      (fun g => IsZip g z TI TO .none ∧ IsPair g TI (.ref j1) (.ref j2) ∧ (∃ a b, IsPair g TO a b) ∧ g.IsTupleIter j1 m1 0 ∧ g.IsTupleIter j2 m2 0 ∧ g.IsTuple m1 us ∧ g.IsTuple m2 vs) where
  type := fun s ok => ⟨_, ok.1, rfl⟩
  notDict := by decide
  keep := fun g g' ok k => by
    obtain ⟨gz, gI, ⟨a, b, gO⟩, g1, g2, q1, q2⟩ := ok
    exact ⟨k _ _ gz, k _ _ gI, ⟨a, b, k _ _ gO⟩, ti_at g1 (k _), ti_at g2 (k _), tt_at q1 (k _), tt_at q2 (k _)⟩
  there := fun g ok b hb => by
    obtain ⟨gz, gI, ⟨a, c, gO⟩, ⟨o1, e1, _⟩, ⟨o2, e2, _⟩, ⟨o3, e3, _⟩, ⟨o4, e4, _⟩⟩ := ok
    have hb' : b = z ∨ b = TI ∨ b = TO ∨ b = j1 ∨ b = j2 ∨ b = m1 ∨ b = m2 := by simpa using hb
    rcases hb' with rfl | rfl | rfl | rfl | rfl | rfl | rfl
    · exact ⟨_, gz⟩
    · exact ⟨_, gI⟩
    · exact ⟨_, gO⟩
    · exact ⟨_, e1⟩
    · exact ⟨_, e2⟩
    · exact ⟨_, e3⟩
    · exact ⟨_, e4⟩
  sub := fun b hb => by
    have hb' : b = z ∨ b = TO ∨ b = j1 ∨ b = j2 := by simpa using hb
    rcases hb' with rfl | rfl | rfl | rfl <;> simp
  noKeys := fun A s Q E hA ok h => getAttrOr_miss_zip ok.1 rfl rfl rfl zip_no_keys (by decide +kernel) hA h
  iter := fun A s d Q E hA ok hd hf h => by
    obtain ⟨gz, gI, ⟨a, b, gO⟩, g1, g2, q1, q2⟩ := ok
    have hf' : d ≠ z ∧ d ≠ TI ∧ d ≠ TO ∧ d ≠ j1 ∧ d ≠ j2 ∧ d ≠ m1 ∧ d ≠ m2 := by simpa using hf
    obtain ⟨dz, dI, dO, d1, d2, dm1, dm2⟩ := hf'
    refine wpAny_pyIter_zip gz (h z [z, TO, j1, j2] (fun i g => IsPair g TI (.ref j1) (.ref j2) ∧ g.IsTupleIter j1 m1 i ∧ g.IsTupleIter j2 m2 i ∧ g.IsTuple m1 us ∧ g.IsTuple m2 vs ∧
      ((IsZip g z TI TO .none ∧ ∃ a b, IsPair g TO a b) ∨ ∃ T f oT, IsZipHeld g z TI TO T f ∧ g.get? T = some oT ∧ T ≠ z ∧ T ≠ j1 ∧ T ≠ j2 ∧ T ≠ d)) s.heap s.toks ?_
      ⟨gI, g1, g2, q1, q2, .inl ⟨gz, a, b, gO⟩⟩ (fun _ _ e => e) fun b hb => .inl hb)
    exact {
      off := fun hm => by
        have hm' : d = z ∨ d = TO ∨ d = j1 ∨ d = j2 := by simpa using hm
        rcases hm' with e | e | e | e
        · exact dz e
        · exact dO e
        · exact d1 e
        · exact d2 e
      frame := fun i g g' st k => by
        obtain ⟨gI, g1, g2, q1, q2, gz⟩ := st
        refine ⟨k _ _ (Ne.symm dI) gI, ti_at g1 fun o => k _ o (Ne.symm d1), ti_at g2 fun o => k _ o (Ne.symm d2), tt_at q1 fun o => k _ o (Ne.symm dm1), tt_at q2 fun o => k _ o (Ne.symm dm2), ?_⟩
        rcases gz with ⟨gz, a, b, gO⟩ | ⟨T, f, oT, gz, gT, r1, r2, r3, r4⟩
        · exact .inl ⟨k _ _ (Ne.symm dz) gz, a, b, k _ _ (Ne.symm dO) gO⟩
        · exact .inr ⟨T, f, oT, k _ _ (Ne.symm dz) gz, k _ _ r4 gT, r1, r2, r3, r4⟩
      item := fun i sa Qa Ea hi st hds hQ => by
        obtain ⟨gI, g1, g2, q1, q2, gz⟩ := st
        have ex := Array.getElem?_eq_getElem (Nat.lt_of_lt_of_le hi (Nat.min_le_left us.size vs.size))
        have ey := Array.getElem?_eq_getElem (Nat.lt_of_lt_of_le hi (Nat.min_le_right us.size vs.size))
        have lt : ∀ {c o}, sa.heap.get? c = some o → sa.heap.objs.size ≠ c := fun e => Nat.ne_of_gt (Heap.lt_size e)
        have n1 : sa.heap.objs.size ≠ j1 := let ⟨_, e, _⟩ := g1; lt e
        have n2 : sa.heap.objs.size ≠ j2 := let ⟨_, e, _⟩ := g2; lt e
        rcases gz with ⟨gz, a, b, gO⟩ | ⟨T, f, oT, gz, gT, r1, r2, r3, r4⟩
        · refine RZ.pyNext_zipT_item D gz gI gO g1 g2 q1 q2 ex ey fun g a1 a2 a3 a4 a5 a6 k => ?_
          exact hQ sa.heap.objs.size _ _ g sa.toks ⟨ex, ey⟩ (.inl ⟨_, a5, rfl, _, rfl⟩)
            ⟨k _ _ D.TIz D.TITO D.TIi1 D.TIi2 gI, a3, a4, tt_at q1 fun o => k _ o D.l1z D.l1TO D.l1i1 D.l1i2, tt_at q2 fun o => k _ o D.l2z D.l2TO D.l2i1 D.l2i2,
              .inr ⟨sa.heap.objs.size, false, _, a1, a5, lt gz, n1, n2, Nat.ne_of_gt hds⟩⟩
            fun c o hc e => k c o (fun y => hc (by simp [y])) (fun y => hc (by simp [y])) (fun y => hc (by simp [y])) (fun y => hc (by simp [y])) e
        · refine zt_pyItem D gz gT gI g1 g2 q1 q2 ex ey fun g a1 a3 a4 a5 a6 k => ?_
          exact hQ sa.heap.objs.size _ _ g sa.toks ⟨ex, ey⟩ (.inl ⟨_, a5, rfl, _, rfl⟩)
            ⟨k _ _ D.TIz D.TIi1 D.TIi2 gI, a3, a4, tt_at q1 fun o => k _ o D.l1z D.l1i1 D.l1i2, tt_at q2 fun o => k _ o D.l2z D.l2i1 D.l2i2,
              .inr ⟨T, true, oT, a1, k _ _ r1 r2 r3 gT, r1, r2, r3, r4⟩⟩
            fun c o hc e => k c o (fun y => hc (by simp [y])) (fun y => hc (by simp [y])) (fun y => hc (by simp [y])) e
      done := fun sa Qa Ea st hQ => by
        obtain ⟨gI, g1, g2, q1, q2, gz⟩ := st
        have stop : us[min us.size vs.size]? = none ∨ vs[min us.size vs.size]? = none := by
          rcases Nat.le_total us.size vs.size with h | h
          · exact .inl (Array.getElem?_eq_none (by rw [Nat.min_eq_left h]; exact Nat.le_refl _))
          · exact .inr (Array.getElem?_eq_none (by rw [Nat.min_eq_right h]; exact Nat.le_refl _))
        rcases gz with ⟨gz, a, b, gO⟩ | ⟨T, f, oT, gz, gT, r1, r2, r3, r4⟩
        · exact RZ.pyNext_zipT_end hA D gz gI gO g1 g2 q1 q2 stop fun g k => hQ g sa.toks fun c o hc e => k c o (fun y => hc (by simp [y])) (fun y => hc (by simp [y])) (fun y => hc (by simp [y])) (fun y => hc (by simp [y])) e
        · exact zt_pyEnd hA D gz gT gI g1 g2 q1 q2 stop fun g k => hQ g sa.toks fun c o hc e => k c o (fun y => hc (by simp [y])) (fun y => hc (by simp [y])) (fun y => hc (by simp [y])) e }
end
theorem storedAll_new : ∀ (ps xs : List (NKey × Addr × Value)), ((xs ++ ps).map (·.1)).Nodup → storedAllH xs ps = xs ++ ps
  | [], xs, _ => by rw [Ro]; rfl
  | p :: ps, xs, h => by
    have e : xs ++ p :: ps = (xs ++ [p]) ++ ps := by rw [List.append_assoc]; rfl
    rw [e] at h ⊢
    have hp : p.1 ∉ xs.map (·.1) := by
      rw [List.map_append, List.map_append] at h
      have h1 := (List.nodup_append.mp (List.nodup_append.mp h).1).2.2
      exact fun hm => h1 _ hm p.1 (by simp) rfl
    have e2 : storedH xs p.1 p.2.1 p.2.2 = xs ++ [p] := by
      unfold storedH
      rw [atKey_out hp]
      rfl
    show storedAllH (storedH xs p.1 p.2.1 p.2.2) ps = _
    rw [e2]
    exact storedAll_new ps _ h
theorem notin4 {n c : Nat} (h : c < n) : c ∉ [n + 4, n + 3, n, n + 1] := by simp; omega
theorem rel_make : ∀ {ps : List (NKey × Addr × V)} {us : List Value}, Vals (ps.map (·.2.2)) us → ∃ xs, NRel ps xs ∧ xs.map (·.2.2) = us
  | [], _, h => by cases h; exact ⟨[], .nil, rfl⟩
  | p :: ps, _, h => by
    cases h with
    | cons r t =>
      obtain ⟨xs, h1, h2⟩ := rel_make t
      exact ⟨(p.1, p.2.1, _) :: xs, .cons ⟨rfl, rfl, r⟩ h1, by rw [Rg, h2]⟩
theorem rel_keys : ∀ {ps : List (NKey × Addr × V)} {xs : List (NKey × Addr × Value)}, NRel ps xs → xs.map (·.1) = ps.map (·.1) ∧ xs.map (·.2.1) = ps.map (·.2.1)
  | _, _, .nil => ⟨rfl, rfl⟩
  | _, _, .cons h t => by
    obtain ⟨h1, h2⟩ := rel_keys t
    exact ⟨by rw [Rg, Rg, h1, h.1], by rw [Rg, Rg, h2, h.2.1]⟩
theorem vals_refs : ∀ {as : List Addr} {us : List Value}, Vals (as.map V.ref) us → us = as.map Value.ref
  | [], _, h => by cases h; rfl
  | a :: as, _, h => by
    cases h with
    | cons r t =>
      cases r
      rw [vals_refs t]; rfl
def tDictZip (w : World) (K : PySem.W.Frag) (ta : TA) : TE := fun σ H Q => ta σ H fun vs H1 => ∃ a b ps, vs = [.ref a, .ref b] ∧ SqT K H1 a (ps.map fun p : NKey × Addr × V => V.ref p.2.1) ∧ SqT K H1 b (ps.map fun p => p.2.2) ∧ (∀ p ∈ ps, KeyIs K H1 p.1 (.ref p.2.1) ∧ p.1.depth ≤ 8) ∧ (ps.map (·.1)).Nodup ∧
  ∀ d, H1 d = none → Q (.ref d) (upd H1 d (DicO w d ps))
theorem pe_dictZip {X : Cx} {e e2 : Expr} {ta : TA} {p p2 q pos : Pos} (hc : X.calm = true) (hu : X.A.units + 65 < cLine) (hg : Gl X "dict") (hm : X.mg "dict" = none) (hv : bootBuiltins "dict" = some (.type "dict")) (hgz : Gl X "zip") (hmz : X.mg "zip" = none) (ha : PA X [e, e2] ta)
    (hs : starEach [e, e2] X.env = (false, eval e X.env) :: starEach [e2] X.env := by rfl) (hpl : (backTo q (starEach [e2] X.env)).any (·.1) = false := by rfl) :
    PE X (.Call (.Name "dict" p) [.Call (.Name "zip" p2) [e, e2] [] q] [] pos) (tDictZip X.w X.K ta) := by
  refine ⟨fun pins s σ H Q I h => ?_⟩
  refine PyProof.Rows.Call_ (ld_blt I hg hm hv ?_)
  refine PyProof.Rows.callWith_type1 (PyProof.Rows.args_cons ?_ rfl) rfl rfl
  refine PyProof.Rows.Call_ (ld_blt I hgz hmz PyProof.Rows.boot_zip (PyProof.Rows.callWith_type1 (thn (ha.run q pins s σ H _ I h) fun us s1 ⟨vs, H1, I1, r1, q1⟩ => ?_) hs hpl))
  obtain ⟨a, b, ps, rfl, ht1, ht2, hk, hn, q2⟩ := q1
  obtain ⟨u1, u2, rfl, ra, rb⟩ := vals2 r1
  obtain rfl : u1 = Value.ref a := ra
  obtain rfl : u2 = Value.ref b := rb
  obtain ⟨its, rv, t1, z1⟩ := I1.tuple ht1
  obtain ⟨its2, rv2, t2, z2⟩ := I1.tuple ht2
  obtain ⟨o1, ho1, _⟩ := id t1
  obtain ⟨o2, ho2, _⟩ := id t2
  obtain ⟨xs, hx, hx2⟩ := rel_make rv2
  obtain ⟨kx1, kx2⟩ := rel_keys hx
  have hits : its = xs.map fun x => Value.ref x.2.1 := by
    have e1 : Vals ((ps.map (·.2.1)).map V.ref) its := by rw [List.map_map]; exact rv
    rw [vals_refs e1, ← kx2, List.map_map]; rfl
  have hlen : xs.length ≤ sizeLine := by rw [← rel_len hx]; rw [Qy] at z1; exact z1
  refine RZ.call_zipT (show s1.heap.IsTuple a its.toArray from t1) (show s1.heap.IsTuple b its2.toArray from t2) fun g gz gI gO g1 g2 gsz gk => PyProof.Rows.args_nil ?_
  have D := PySem.W.ktu_apart s1.heap.objs.size a b (Heap.lt_size ho1) (Heap.lt_size ho2)
  have hkey : ∀ x ∈ xs, (nestedKind X.prog X.w).is s1.heap x.1 x.2.1 := fun x hxm => by
    obtain ⟨e, m1, m2, m3⟩ := rel_mem hx x hxm
    obtain ⟨f1, f2⟩ := hk e m1
    exact ⟨KeyIs.is I1 _ (.ref e.2.1) _ (m2 ▸ f1) (by rw [m3]; rfl), m2 ▸ f2⟩
  have old : ∀ c o, s1.heap.get? c = some o → c ∉ [s1.heap.objs.size + 4, s1.heap.objs.size + 3, s1.heap.objs.size, s1.heap.objs.size + 1] := fun c o ec => notin4 (Heap.lt_size ec)
  refine call_dict_pairsH (s := { s1 with heap := g }) (knd := nestedKind X.prog X.w) (ps := xs) (zt_arg (s1.heap.objs.size + 4) (s1.heap.objs.size + 2) (s1.heap.objs.size + 3) s1.heap.objs.size (s1.heap.objs.size + 1) a b D its.toArray its2.toArray) (I1.ok.hd hc) (by show X.A.in1.in1.units + 8 < cLine; rw [Around.in1_units, Around.in1_units]; omega)
    ⟨gz, gI, ⟨_, _, gO⟩, g1, g2, tt_at t1 (gk a), tt_at t2 (gk b)⟩ ⟨?_, fun i key v hr => ?_⟩ (fun h' kk x hxm => ?_) ?_ fun h' tk dd kk => ?_
  · rw [List.size_toArray, List.size_toArray, hits, ← hx2, Qy, Qy, Nat.min_self]
  · obtain ⟨hr1, hr2⟩ := hr
    have f1 : its[i]? = some key := by simpa using hr1
    have f2 : its2[i]? = some v := by simpa using hr2
    rw [hits, List.getElem?_map] at f1
    rw [← hx2, List.getElem?_map] at f2
    cases q3 : xs[i]? with
    | none => rw [q3] at f1; cases f1
    | some x =>
      rw [q3] at f1 f2
      cases f1
      cases f2
      exact ⟨x.1, x.2.1, rfl, rfl⟩
  · obtain ⟨f1, f2⟩ := hkey x hxm
    refine ⟨NestedIs.at (fun c o ys n ec _ => kk c o ?_ (old c o ec) (gk c o ec)) _ _ f1, f2⟩
    exact Nat.ne_of_lt (Nat.lt_of_lt_of_le (Heap.lt_size ec) (by rw [gsz]; exact Nat.le_add_right _ _))
  · rw [List.size_toArray, List.size_toArray, hits, ← hx2, Qy, Qy, Nat.min_self]; exact hlen
  · have hnd : ((([] : List (NKey × Addr × Value)) ++ xs).map (fun z => z.1)).Nodup := by rw [Rq, kx1]; exact hn
    rw [storedAll_new xs [] hnd, Rq] at dd
    obtain ⟨o, es', ep, d1, d2, d3, d4, _, d6⟩ := dd
    have hle : s1.heap.objs.size ≤ g.objs.size := by rw [gsz]; exact Nat.le_add_right _ _
    have hfr : H1 g.objs.size = none := I1.hok.fresh hle
    have I2 : Inv X pins σ H1 { s1 with heap := g } := I1.kept (t' := s1.toks) gk
    have keep : ∀ c o, s1.heap.get? c = some o → h'.get? c = some o := fun c o ec => kk c o (old c o ec) (gk c o ec)
    refine ⟨.ref g.objs.size, upd H1 g.objs.size (DicO X.w g.objs.size ps), I1.laid (t' := tk) keep hle (dicO_ok (es := ps) ?_ (by rw [rel_len hx]; exact hlen) (fun e he => (hk e he).2) hx ⟨o, es', ep, d1, d2, d3, d4, d6⟩), rfl, q2 _ hfr⟩
    exact beq_eq_false_iff_ne.mpr (Ne.symm (Nat.ne_of_lt (Nat.lt_of_lt_of_le I1.big (by rw [gsz]; exact Nat.le_add_right _ _))))
end Py

set_option Elab.async false
set_option linter.all false
set_option maxRecDepth 100000
set_option maxHeartbeats 2000000
namespace Py
open PySem L2 He
open PyProof.Rows (sortedHeap sortedHeap_at sortedHeap_old seqObj)
/-! sorted of a set of tuples of ints, sorted of at most one item -/
section
variable {prog : Program} {w : World} {A : Around} {E : Value → Shared → Prop} {s : Shared}
theorem sort_few {a : Addr} {vs : List Value} {n : Nat} {Q : Value → Shared → Prop} (ho : s.heap.get? a = some (seqObj "list" vs.toArray n)) (hf : vs.length ≤ 1) (h : Q .none { s with heap := sortedHeap s.heap a vs vs.toArray }) :
    wpAny (model prog w) A (call (.builtin "list.sort") [.ref a]) Q E s := by
  refine wpAny_call_entry PyProof.Rows.slot_list_sort ⟨_, ho, rfl⟩ PyProof.Rows.entry_list_sort (SK.plain_sort (r := fun _ => 0) ho (by omega) (fun h2 => by omega) fun ps out h1 h2 _ => ⟨.none, rfl, ?_⟩) (PyProof.Rows.args_list_sort _)
  have e : out = vs.toArray := by
    have e1 : out.toList = vs := by
      rw [h1]
      have z := h2.map Prod.snd
      rw [List.map_snd_zip (Nat.le_refl _)] at z
      match vs, hf, z with
      | [], _, z => exact z.eq_nil
      | [v], _, z => exact List.perm_singleton.mp z
    rw [← e1]
  rw [e]
  exact h
end
theorem perm_map {α β : Type} (f : α → β) : ∀ {l k : List β}, l.Perm k → ∀ m : List α, k = m.map f → ∃ m' : List α, m'.Perm m ∧ l = m'.map f := by
  intro l k h
  induction h with
  | nil =>
    intro m e
    cases m with
    | nil => exact ⟨[], .nil, rfl⟩
    | cons _ _ => cases e
  | @cons x l1 l2 h ih =>
    intro m e
    cases m with
    | nil => cases e
    | cons y m =>
      obtain ⟨rfl, e2⟩ := List.cons.inj e
      obtain ⟨m', h1, h2⟩ := ih m e2
      exact ⟨y :: m', h1.cons y, by rw [h2]; rfl⟩
  | @swap x y l =>
    intro m e
    cases m with
    | nil => cases e
    | cons z m =>
      cases m with
      | nil => cases e
      | cons z2 m =>
        obtain ⟨rfl, e2⟩ := List.cons.inj e
        obtain ⟨rfl, rfl⟩ := List.cons.inj e2
        exact ⟨z2 :: z :: m, List.Perm.swap _ _ _, rfl⟩
  | trans h1 h2 ih1 ih2 =>
    intro m e
    obtain ⟨m1, p1, e1⟩ := ih2 m e
    obtain ⟨m2, p2, e2⟩ := ih1 m1 e1
    exact ⟨m2, p2.trans p1, e2⟩
def encT (q : Addr × List Int) : PyData := .tuple (q.2.map .int)
def leT (p q : Addr × List Int) : Bool := PySem.W.dataLe false encT p q
theorem leT_eq (p q : Addr × List Int) : leT p q = decide (p.2 ≤ q.2) := by
  show (!PySem.W.dataLt (.tuple (q.2.map .int)) (.tuple (p.2.map .int))) = _
  rw [PySem.W.dataLt_tuple]
  show (!PySem.W.rowLt (q.2.map .int) (p.2.map .int)) = _
  rw [PySem.W.dataLt_ints]
  by_cases h : q.2 < p.2
  · rw [decide_eq_true h, decide_eq_false (fun r => List.not_lt.mpr r h)]; rfl
  · rw [decide_eq_false h, decide_eq_true (List.not_lt.mp h)]; rfl
def rSortSet (K : PySem.W.Frag) (P : Program) (w : World) : List V → Hp → VK → Prop := fun vs H Q => ∃ (a : Addr) (L : List (Addr × List Int)), vs = [V.ref a] ∧ H a = some (SetTO P w a L) ∧ (∀ p ∈ L, SqT K H p.1 (p.2.map V.int)) ∧ ((L.map (·.2)).Nodup → L.length ≤ 1 ∨ ∀ p ∈ L, p.2 ≠ []) ∧
  ((L.map (·.2)).Nodup → ∀ (L1 : List (Addr × List Int)) (p : Addr), L1.Perm L → H p = none → Q (.ref p) (upd H p (.lst ((L1.mergeSort leT).map fun q => V.ref q.1))))
theorem reads_ints {P : Program} {w : World} {h : Heap} {k : List Int} {vs : List Value} (x : ItemsAre (intKind P w) k vs) : ReadsAll h vs (k.map .int) [] := by
  induction x with
  | nil => exact .nil
  | @cons k0 v ks vs h1 _ ih =>
    obtain ⟨t, rfl⟩ := Value.isInt_shape h1
    exact .cons (as := []) (bs := []) (.int _ _) ih
theorem isT_keep2 {P : Program} {w : World} {h h' : Heap} {k : List Int} {b : Addr} (x : IsT P w h k b) (hk : ∀ c o, h.get? c = some o → h'.get? c = some o) : IsT P w h' k b := isT_keep x hk
theorem each_refs {h : Heap} {P : Program} {w : World} : ∀ {L : List (Addr × List Int)}, (∀ p ∈ L, IsT P w h p.2 p.1) → PySem.W.EachIs (fun v b => ∃ as, Reads h v (encT b) as ∧ as = []) (L.map fun q => Value.ref q.1) L
  | [], _ => .nil
  | p :: L, hp => by
    obtain ⟨o, items, n, ho, hc, hd, hi⟩ := hp p List.mem_cons_self
    exact .cons ⟨[], .tuple ho hc hd (reads_ints hi), rfl⟩ (each_refs fun q hq => hp q (List.mem_cons_of_mem _ hq))
theorem each_self : ∀ (L : List (Addr × List Int)), PySem.W.EachIs (fun (v : Value) (b : Addr × List Int) => v = Value.ref b.1) (L.map fun q => Value.ref q.1) L
  | [] => .nil
  | p :: L => .cons rfl (each_self L)
theorem each_out : ∀ {us : List Value} {L : List (Addr × List Int)}, PySem.W.EachIs (fun (v : Value) (b : Addr × List Int) => v = Value.ref b.1) us L → us = L.map fun q => Value.ref q.1
  | _, _, .nil => rfl
  | _, _, .cons h t => by rw [h, each_out t]; rfl
theorem alike_T (L : List (Addr × List Int)) : PySem.W.AllAlike (L.map encT) := PySem.W.AllAlike.of fun b b' => by
  unfold encT
  simp only [PySem.W.alike]
  exact PySem.W.alike_ints _ _
theorem depth_T (b : Addr × List Int) : (encT b).depth ≤ 1 := by
  unfold encT
  rw [PyData.depth, PySem.W.depth_ints]
  exact Nat.le_refl _
section
variable {X : Cx}
theorem cr_sortSet (hc : X.calm = true) (hu : X.A.units + 65 < cLine) : CallR X (.builtin "sorted") (rSortSet X.K X.prog X.w) := by
  intro pins s σ H vs us Q I r h
  obtain ⟨a, L, rfl, ha, hk, hs, q⟩ := h
  have R0 : SetT0 X.prog X.w s.heap a L := (I.hok a _ ha).1
  obtain ⟨es, ep, t, R⟩ := R0.full fun p hp => I.isT (hk p hp)
  rw [Vals.ref1 r]
  obtain ⟨o, ho, hex, hd⟩ := R.ob
  have hsz := R.size
  have hfew := R.few
  refine Calls.call_function_entry PyProof.Rows.kind_sorted PyProof.Rows.plain_sorted PyProof.Rows.entry_sorted (PyProof.Rows.args_sorted1 _) ?_
  unfold Builtin.«sorted»
  refine wpAny_bind (m := checkCount "sorted" 1 1 _) (wpAny_pure ?_)
  refine wpAny_bind (collect_set (A := X.A.in1) (I.ok.hd hc) ⟨o, ho, hex.1, hd⟩ R.fits (by unfold scanBound; omega) R.tab.ris R.led fun s1 out k1 hz g1 o1 pm => ?_)
  have hrow : es.toList.map (·.2) = L.map fun p => Value.ref p.1 := by
    rw [R.rows]
    unfold rowsOf
    rw [List.map_map]; rfl
  rw [hrow] at pm
  obtain ⟨L1, hp1, rfl⟩ := perm_map _ pm L rfl
  have hlen : L1.length = L.length := hp1.length_eq
  refine wpAny_bind (wpAny_newList ?_ (by rw [Qy, sizeLine_eq]; omega))
  have hoL : (s1.heap.push (seqObj "list" (L1.map fun p => Value.ref p.1).toArray 0)).get? s1.heap.objs.size = some (seqObj "list" (L1.map fun p => Value.ref p.1).toArray 0) := Heap.get?_push_size _ rfl
  have hkey : ∀ p ∈ L1, IsT X.prog X.w (s1.heap.push (seqObj "list" (L1.map fun p => Value.ref p.1).toArray 0)) p.2 p.1 := fun p hp => isT_keep2 (I.isT (hk p (hp1.mem_iff.mp hp))) fun c u ec => Heap.get?_push_of_some _ (k1 c u ec)
  have fin : ∀ us' : List Value, us' = (L1.mergeSort leT).map (fun q => Value.ref q.1) → wpAny (model X.prog X.w) X.A.in1 (pure (f := Sem) (Fin.done (.ret (.ref s1.heap.objs.size)))) (fun fin s' => ∃ v, fin = .done (.ret v) ∧ EP X pins σ Q v s') X.xe { s1 with heap := sortedHeap (s1.heap.push (seqObj "list" (L1.map fun p => Value.ref p.1).toArray 0)) s1.heap.objs.size (L1.map fun p => Value.ref p.1) us'.toArray } := fun us' eu => by
    refine wpAny_pure ⟨_, rfl, ?_⟩
    obtain ⟨c, hcc⟩ := sortedHeap_at (vs := L1.map fun p => Value.ref p.1) (out := us'.toArray) hoL
    have kk : ∀ b u, s.heap.get? b = some u → (sortedHeap (s1.heap.push (seqObj "list" (L1.map fun p => Value.ref p.1).toArray 0)) s1.heap.objs.size (L1.map fun p => Value.ref p.1) us'.toArray).get? b = some u := fun b u eb => by
      have e1 := k1 b u eb
      have hlt := Heap.lt_size e1
      rw [sortedHeap_old (Nat.ne_of_lt hlt) (by rw [PyProof.Rows.size_push']; exact Nat.lt_succ_of_lt hlt)]
      exact Heap.get?_push_of_some _ e1
    have hn : H s1.heap.objs.size = none := I.hok.fresh hz
    have hvals : Vals ((L1.mergeSort leT).map fun q => V.ref q.1) us' := by rw [eu]; exact vals_of_refs _
    have hl2 : ((L1.mergeSort leT).map fun q => V.ref q.1).length ≤ sizeLine := by rw [Qy, List.length_mergeSort, sizeLine_eq]; omega
    have J : Inv X pins σ (upd H s1.heap.objs.size (.lst ((L1.mergeSort leT).map fun q => V.ref q.1))) { s with heap := sortedHeap (s1.heap.push (seqObj "list" (L1.map fun p => Value.ref p.1).toArray 0)) s1.heap.objs.size (L1.map fun p => Value.ref p.1) us'.toArray, gens := s1.gens, drawn := s1.drawn, toks := s1.toks } :=
      I.call (ch := []) (Un.laid kk hz hn) (I.hok.laid kk hz ⟨hl2, us', c, hvals, hcc⟩) (by rw [g1]; exact I.bare) (fun _ z => nomatch z)
    have es1 : ({ s1 with heap := sortedHeap (s1.heap.push (seqObj "list" (L1.map fun p => Value.ref p.1).toArray 0)) s1.heap.objs.size (L1.map fun p => Value.ref p.1) us'.toArray } : Shared) = { s with heap := sortedHeap (s1.heap.push (seqObj "list" (L1.map fun p => Value.ref p.1).toArray 0)) s1.heap.objs.size (L1.map fun p => Value.ref p.1) us'.toArray, gens := s1.gens, drawn := s1.drawn, toks := s1.toks } := by
      cases s1
      cases s
      cases o1
      rfl
    rw [es1]
    exact ⟨.ref s1.heap.objs.size, _, J, rfl, q R.nd L1 _ hp1 hn⟩
  rcases hs R.nd with hs | hs
  · refine wpAny_bind (wpAny_holding (sort_few (s := { s1 with heap := s1.heap.push (seqObj "list" (L1.map fun p => Value.ref p.1).toArray 0) }) hoL (by rw [Qy]; omega) ?_))
    refine fin _ ?_
    have : L1.mergeSort leT = L1 := by
      match L1, (show L1.length ≤ 1 by omega) with
      | [], _ => simp
      | [x], _ => simp
    rw [this]
  · refine wpAny_bind (wpAny_holding (PySem.W.list_sort_data (s := { s1 with heap := s1.heap.push (seqObj "list" (L1.map fun p => Value.ref p.1).toArray 0) }) (enc := encT) (R := fun v b => v = Value.ref b.1) hoL (each_self L1) ((each_refs hkey).mono fun v b ⟨as, z, za⟩ => ⟨[], za ▸ z, by simp⟩) (alike_T L1) (.inl fun d hd => ?_) (by rw [sizeLine_eq]; omega) (fun b hb => ?_) fun out' ho' eo => ?_))
    · obtain ⟨b, hb, rfl⟩ := List.mem_map.mp hd
      have hne := hs b (hp1.mem_iff.mp hb)
      unfold encT
      cases hb2 : b.2 with
      | nil => exact absurd hb2 hne
      | cons x r => exact ⟨.int x, r.map .int, rfl⟩
    · have := depth_T b
      rw [Around.in1_units]
      omega
    · exact fin out' (each_out eo)
end
end Py

set_option Elab.async false
set_option linter.all false
set_option maxRecDepth 100000
set_option maxHeartbeats 2000000
namespace Py
open PySem L2 He
/-! ## 28. dict(zip(..)), sorted(set(..)), min and max of two, [::-1], index, properties -/
def zipB (ks vs : List D) : Bool := decide (ks.length = vs.length) && ((ks.all fun k => (keyB k).isSome) && decide ((ks.map keyOf).Nodup))
def dDictZip : List D → Option D
  | [.tup ks, .tup vs] => if zipB ks vs = true then some (.dic ks vs) else none
  | _ => none
theorem zip_make {Γ : Gm} {H G : Hp} (le : Same H G) : ∀ {ks vs : List D} {xs ys : List V}, IsDs Γ H xs ks → IsDs Γ H ys vs → ks.length = vs.length → (ks.all fun k => (keyB k).isSome) = true →
    ∃ ps : List (NKey × Addr × V), xs = ps.map (fun p => V.ref p.2.1) ∧ ys = ps.map (fun p => p.2.2) ∧ ks.map keyOf = ps.map (fun p => some p.1) ∧ ∀ p ∈ ps, KeyIs Γ.K G p.1 (.ref p.2.1) ∧ p.1.depth ≤ 8
  | [], [], _, _, h1, h2, _, _ => by cases h1; cases h2; exact ⟨[], rfl, rfl, rfl, fun p h => by cases h⟩
  | [], _ :: _, _, _, _, _, h, _ => by cases h
  | _ :: _, [], _, _, _, _, h, _ => by cases h
  | k :: ks, v :: vs, _, _, h1, h2, hl, ha => by
    rw [List.all_cons, Bool.and_eq_true] at ha
    cases h1 with
    | cons r1 t1 =>
      cases h2 with
      | cons r2 t2 =>
        obtain ⟨ps, e1, e2, e3, e4⟩ := zip_make le t1 t2 (by simpa using hl) ha.2
        obtain ⟨kk, hk⟩ := Option.isSome_iff_exists.mp ha.1
        obtain ⟨k1, k2⟩ := keyB_of hk
        have hkey := keyIs_of le k _ _ r1 k1
        rename_i x0 xs0 y0 ys0
        obtain ⟨b, rfl⟩ : ∃ b, x0 = V.ref b := by
          cases hkey with
          | tup _ _ => exact ⟨_, rfl⟩
        refine ⟨(.tup kk, b, y0) :: ps, by rw [e1]; rfl, by rw [e2]; rfl, by rw [Rg, Rg, e3, k1], fun p hp => ?_⟩
        rcases List.mem_cons.mp hp with rfl | hp
        · exact ⟨hkey, k2⟩
        · exact e4 p hp
def intTup : D → Option (List Int)
  | .tup l => intsD l
  | _ => none
def intTups : List D → Option (List (List Int))
  | [] => some []
  | d :: l => match intTup d, intTups l with
    | some n, some ns => some (n :: ns)
    | _, _ => none
def tupI (r : List Int) : D := .tup (r.map D.int)
theorem intTup_eq {d : D} {r : List Int} (h : intTup d = some r) : d = tupI r := by
  cases d <;> first | (cases h; done) | skip
  rename_i l
  have h' : intsD l = some r := h
  unfold tupI
  rw [intsD_eq h']
theorem intTups_eq : ∀ {l : List D} {ns : List (List Int)}, intTups l = some ns → l = ns.map tupI
  | [], _, h => by cases h; rfl
  | d :: l, ns, h => by
    have h' : (match intTup d, intTups l with | some n, some ns => some (n :: ns) | _, _ => none) = some ns := h
    cases q1 : intTup d with
    | none => rw [q1] at h'; cases h'
    | some n =>
      cases q2 : intTups l with
      | none => rw [q1, q2] at h'; cases h'
      | some ms =>
        rw [q1, q2] at h'
        cases h'
        rw [Rg, ← intTup_eq q1, ← intTups_eq q2]
/-- without what comes again -/
def uniq : List (List Int) → List (List Int)
  | [] => []
  | x :: xs => if x ∈ xs then uniq xs else x :: uniq xs
theorem mem_uniq {y : List Int} : ∀ {l : List (List Int)}, y ∈ uniq l ↔ y ∈ l
  | [] => Iff.rfl
  | x :: xs => by
    unfold uniq
    by_cases h : x ∈ xs
    · rw [if_pos h, mem_uniq, List.mem_cons]
      exact ⟨.inr, fun z => z.elim (fun e => e ▸ h) id⟩
    · rw [if_neg h, List.mem_cons, List.mem_cons, mem_uniq]
theorem nodup_uniq : ∀ (l : List (List Int)), (uniq l).Nodup
  | [] => List.nodup_nil
  | x :: xs => by
    unfold uniq
    by_cases h : x ∈ xs
    · rw [if_pos h]; exact nodup_uniq xs
    · rw [if_neg h, List.nodup_cons]; exact ⟨fun z => h (mem_uniq.mp z), nodup_uniq xs⟩
def leI (a b : List Int) : Bool := decide (a ≤ b)
theorem leI_trans (a b c : List Int) (h1 : leI a b = true) (h2 : leI b c = true) : leI a c = true := decide_eq_true (List.le_trans (of_decide_eq_true h1) (of_decide_eq_true h2))
theorem leI_total (a b : List Int) : (leI a b || leI b a) = true := by
  rcases List.le_total a b with h | h
  · rw [show leI a b = true from decide_eq_true h]; rfl
  · rw [show leI b a = true from decide_eq_true h, Sb]
/-- two sorted lists of the same things without doubles are one -/
theorem sorted_one {l m : List (List Int)} (p : l.Perm m) : l.mergeSort leI = m.mergeSort leI := by
  refine List.Perm.eq_of_pairwise (le := fun a b => leI a b = true) (fun a b _ _ h1 h2 => List.le_antisymm (of_decide_eq_true h1) (of_decide_eq_true h2)) (List.pairwise_mergeSort leI_trans leI_total l) (List.pairwise_mergeSort leI_trans leI_total m) ?_
  exact ((List.mergeSort_perm l leI).trans p).trans (List.mergeSort_perm m leI).symm
theorem sortT_snd (L : List (Addr × List Int)) : (L.mergeSort leT).map (·.2) = (L.map (·.2)).mergeSort leI := by
  rw [PySem.W.sort_maps (r := leT) (s := leI) (fun p : Addr × List Int => p.2) (fun a _ b _ => leT_eq a b)]
def dSortSet : List D → Option D
  | [.lst l] => match intTups l with
    | some ns => if l.length < 64 ∧ ((uniq ns).length ≤ 1 ∨ [] ∉ ns) then some (.lst (((uniq ns).mergeSort leI).map tupI)) else none
    | none => none
  | _ => none
def dMin2 : List D → Option D
  | [.int i, .int j] => some (.int (if j < i then j else i))
  | _ => none
def dMax2 : List D → Option D
  | [.int i, .int j] => some (.int (if j > i then j else i))
  | _ => none
def dRev : D → Option D
  | .lst l => some (.lst l.reverse)
  | _ => none
def dIndex : D → D → Option D
  | .lst l, x => if (okD 20 (.lst l) && okD 20 x) = true then (l.findIdx? fun y => eqvD y x).map fun j => .int (j : Nat) else none
  | _, _ => none
section
variable {Γ : Gm} {fr : Frm} {σ σ' : L2.St} {ρ ρ' : Env} {G G' : Hp} {S S' : Addr → Prop} {i : Nat} {v : V} {d : D} {te tk tz : TE} {m mk mz : Env → Rs D} {ta : TA} {ma : Env → Rs (List D)}
theorem ev_dictZip (ha : EA Γ fr ta ma) : EV Γ fr (tDictZip Γ.w Γ.K ta) (aF dDictZip ma) := fun σ ρ G S c Q p => by
  refine ha.step c p fun ds ρ1 xs G1 S1 _ c1 hx p1 => ?_
  obtain ⟨dz, hf, p3⟩ := p1.giveO
  match ds, hx, hf with
  | [.tup ks, .tup vs], .cons (.tup (a := a) (xs := us) h1 h2) (.cons (.tup (a := b) (xs := ws) h3 h4) .nil), hf =>
    obtain ⟨hz, rfl⟩ := ite_some hf
    obtain ⟨z1, hz2⟩ := ba hz
    obtain ⟨z2, z3⟩ := ba hz2
    obtain ⟨ps, e1, e2, e3, e4⟩ := zip_make (hide_le (S := S1) (G := G1)) h2 h4 (of_decide_eq_true z1) z2
    have hnd : (ps.map (·.1)).Nodup := by
      have := of_decide_eq_true z3
      rw [e3] at this
      have e5 : ps.map (fun p => some p.1) = (ps.map (·.1)).map some := by rw [List.map_map]; rfl
      rw [e5] at this
      exact (List.pairwise_map.mp this).imp fun hne e => hne (congrArg some e)
    refine ⟨a, b, ps, rfl, e1 ▸ sqT_mono hide_le h1, e2 ▸ sqT_mono hide_le h3, e4, hnd, fun q hq => ?_⟩
    have le := hide_ext (S := S1) (same_upd (o := DicO Γ.w q ps) hq)
    exact p3.give le (c1.ext (same_upd hq)) (.dic (hide_of (c1.fresh hq) upd_same) e3 (e1 ▸ h2.le le) (e2 ▸ h4.le le))
/-- sorted(set(x)), x a list of tuples of ints -/
theorem ev_sortSet {P : Program} (h : EV Γ fr te m) : EV Γ fr (tCB (rSortSet Γ.K P Γ.w) (tCons (tCB (rSetOfT Γ.K P Γ.w) (tCons te tNil)) tNil)) (aF dSortSet (aCons m aNil)) := fun σ ρ G S c Q p => by
  have hh : aF dSortSet (aCons m aNil) ρ = (m ρ).bind fun d ρ1 => Rs.ofOpt (dSortSet [d]) ρ1 := by
    unfold aF aCons aNil
    cases m ρ <;> rfl
  rw [hh] at p
  show te σ G _
  refine h.step c p fun d ρ1 x G1 S1 _ c1 hx p1 => ?_
  obtain ⟨dz, hf, p3⟩ := PostG.giveO p1
  match d, hx, hf with
  | .lst l, .lst (a := a) (xs := us) h1 h2, hf =>
    have hf' : (match intTups l with | some ns => if l.length < 64 ∧ ((uniq ns).length ≤ 1 ∨ [] ∉ ns) then some (D.lst (((uniq ns).mergeSort leI).map tupI)) else none | none => none) = some dz := hf
    cases hn : intTups l with
    | none => rw [hn] at hf'; cases hf'
    | some ns =>
      rw [hn] at hf'
      obtain ⟨⟨hl, hs⟩, rfl⟩ := ite_some hf'
      have el := intTups_eq hn
      subst el
      -- the addresses of the tuples
      have mk : ∀ {ns : List (List Int)} {us : List V}, IsDs Γ (hide S1 G1) us (ns.map tupI) → ∃ ks : List (Addr × List Int), us = ks.map (fun p => V.ref p.1) ∧ ns = ks.map (·.2) ∧ ∀ p ∈ ks, SqT Γ.K (hide S1 G1) p.1 (p.2.map V.int) := by
        intro ns
        induction ns with
        | nil => intro us h; cases h; exact ⟨[], rfl, rfl, fun p h => by cases h⟩
        | cons n ns ih =>
          intro us h
          rw [Rg] at h
          cases h with
          | cons r t =>
            obtain ⟨ks, e1, e2, e3⟩ := ih t
            cases r with
            | @tup b ws _ q1 q2 =>
              rw [q2.ints] at q1
              refine ⟨(b, n) :: ks, by rw [e1]; rfl, by rw [e2]; rfl, fun p hp => ?_⟩
              rcases List.mem_cons.mp hp with rfl | hp
              · exact q1
              · exact e3 p hp
      obtain ⟨ks, e1, e2, e3⟩ := mk h2
      have hkl : ks.length < 64 := by rw [Qy] at hl; rw [e2, Qy] at hl; exact hl
      refine ⟨a, ks, rfl, e1 ▸ SqL.of (hide_le _ _ h1), fun p hp => sqT_mono hide_le (e3 p hp), hkl, fun b L hb hsub hall => ?_⟩
      have le := hide_ext (S := S1) (same_upd (o := SetTO P Γ.w b L) hb)
      have memL : ∀ y, y ∈ L.map (·.2) ↔ y ∈ uniq ns := fun y => by
        rw [mem_uniq, e2]
        refine ⟨fun hy => ?_, fun hy => ?_⟩
        · obtain ⟨p, hp, rfl⟩ := List.mem_map.mp hy
          exact List.mem_map.mpr ⟨p, hsub p hp, rfl⟩
        · obtain ⟨p, hp, rfl⟩ := List.mem_map.mp hy
          exact hall p hp
      refine ⟨b, L, rfl, upd_same, fun p hp => sqT_mono (hide_le.trans (same_upd hb)) (e3 p (hsub p hp)), fun hnd => ?_, fun hnd L1 q hp1 hq => ?_⟩
      · rcases hs with hs | hs
        · left
          have := ((List.perm_ext_iff_of_nodup hnd (nodup_uniq ns)).mpr memL).length_eq
          rw [Qy] at this
          omega
        · exact .inr fun p hp e => hs (by rw [e2]; exact List.mem_map.mpr ⟨p, hsub p hp, e⟩)
      · have pm : (L1.map (·.2)).Perm (uniq ns) := (hp1.map (·.2)).trans ((List.perm_ext_iff_of_nodup hnd (nodup_uniq ns)).mpr memL)
        have es : (L1.mergeSort leT).map (·.2) = (uniq ns).mergeSort leI := by rw [sortT_snd]; exact sorted_one pm
        have le2 := hide_ext (S := S1) (same_upd (o := .lst ((L1.mergeSort leT).map fun q => V.ref q.1)) hq)
        have c2 := c1.ext (same_upd (o := SetTO P Γ.w b L) hb)
        refine p3.give (le.trans le2) (c2.ext (same_upd hq)) (.lst (hide_of (c2.fresh hq) upd_same) ?_)
        rw [← es, List.map_map]
        have mk2 : ∀ (M : List (Addr × List Int)), (∀ p ∈ M, p ∈ ks) → IsDs Γ (hide S1 G1) (M.map fun q => V.ref q.1) (M.map (tupI ∘ fun q => q.2)) := by
          intro M
          induction M with
          | nil => exact fun _ => .nil
          | cons p M ih => exact fun hm => .cons (.tup (e3 p (hm p List.mem_cons_self)) (isDs_ints _)) (ih fun q hq => hm q (List.mem_cons_of_mem _ hq))
        exact (mk2 _ fun p hp => hsub p (hp1.mem_iff.mp (List.mem_mergeSort.mp hp))).le (le.trans le2)
theorem cad_min2 : CaD Γ (fun xs H Q => ∃ i j, xs = [V.int i, V.int j] ∧ Q (.int (if j < i then j else i)) H) dMin2 := fun G S xs ds dz dom hx e Q q => by
  match ds, hx, e with
  | [.int i, .int j], .cons (.int _) (.cons (.int _) .nil), e => cases e; exact ⟨i, j, rfl, q _ G (Same.refl _) (.int _)⟩
theorem cad_max2 : CaD Γ (fun xs H Q => ∃ i j, xs = [V.int i, V.int j] ∧ Q (.int (if j > i then j else i)) H) dMax2 := fun G S xs ds dz dom hx e Q q => by
  match ds, hx, e with
  | [.int i, .int j], .cons (.int _) (.cons (.int _) .nil), e => cases e; exact ⟨i, j, rfl, q _ G (Same.refl _) (.int _)⟩
theorem isDs_rev {H : Hp} {xs : List V} {l : List D} (h : IsDs Γ H xs l) : IsDs Γ H xs.reverse l.reverse := by
  have : ∀ {l : List D} {xs : List V}, IsDs Γ H xs l → IsDs Γ H xs.reverse l.reverse := by
    intro l
    induction l with
    | nil => intro xs h; cases h; exact .nil
    | cons d l ih =>
      intro xs h
      cases h with
      | cons r t => rw [List.reverse_cons, List.reverse_cons]; exact (ih t).append (.cons r .nil)
  exact this h
theorem evf_rev (h : EV Γ fr te m) : EVF Γ fr (tRevL Γ.K te) (eUn dRev m) := fun σ ρ G S c Q p => by
  refine h.stepF c p fun d ρ1 x G1 S1 _ c1 hx p1 => ?_
  have p2 : PostF Γ fr σ G1 S1 Q (Rs.ofOpt (dRev d) ρ1) := p1
  cases hx with
  | lst h1 h2 =>
    refine ⟨_, _, rfl, SqL.of (hide_le _ _ h1), fun q hq => ?_⟩
    obtain ⟨n1, n2, n3⟩ := c1.newB hq
    exact p2 q _ _ (fun a => S1 a ∨ a = q) (hideMore_le hq) (c1.hideMore hq) (.inr rfl) upd_same (.lst ((isDs_rev h2).le (hideMore_le hq))) n1 n2 n3 (c1.newOwn hq)
  | _ => exact p2.elim
def idxF (k : Env → Rs D) (ρ : Env) : D → Rs D
  | .lst l => (k ρ).bind fun x ρ1 => Rs.ofOpt (dIndex (.lst l) x) ρ1
  | _ => .stuck
/-- e.index(x) -/
def eIndex (m mk : Env → Rs D) : Env → Rs D := fun ρ => (m ρ).bind fun d ρ1 => idxF mk ρ1 d
theorem toPys_get : ∀ (l : List D) (j : Nat), (toPys l)[j]? = (l[j]?).map toPy
  | [], j => by simp [toPys]
  | d :: l, 0 => by simp [toPys]
  | d :: l, j + 1 => by simp [toPys, toPys_get l j]
theorem ev_index (h : EV Γ fr te m) (hk : EV Γ fr tk mk) : EV Γ fr (tBM Γ.K "list" (rIndexD Γ.K) te (tCons tk tNil)) (eIndex m mk) := fun σ ρ G S c Q p => by
  refine h.step c p fun d ρ1 x G1 S1 _ c1 hx p1 => ?_
  have p2 : PostG (fun H v d => IsD Γ H v d) Γ fr σ G1 S1 Q (idxF mk ρ1 d) := p1
  cases hx with
  | @lst a xs l h1 h2 =>
    refine ⟨.inl ⟨rfl, _, SqL.of (hide_le _ _ h1)⟩, ?_⟩
    refine hk.step c1 p2 fun k ρ2 y G2 S2 e2 c2 hy p3 => ?_
    obtain ⟨dz, hf, p4⟩ := PostG.giveO p3
    have hf' : (if (okD 20 (.lst l) && okD 20 k) = true then (l.findIdx? fun y => eqvD y k).map fun j => D.int (j : Nat) else none) = some dz := hf
    by_cases ho : (okD 20 (.lst l) && okD 20 k) = true
    · rw [if_pos ho] at hf'
      obtain ⟨j, hj, rfl⟩ := Option.map_eq_some_iff.mp hf'
      obtain ⟨o1, o2⟩ := ba ho
      have hl : IsD Γ (hide S2 G2) (.ref a) (.lst l) := (IsD.lst h1 h2).le e2
      obtain ⟨hlt, g1, g2⟩ := List.findIdx?_eq_some_iff_getElem.mp hj
      refine ⟨a, y, toPy k, toPys l, j, toPy l[j], rfl, rfl, dp_le hide_le (dp_of 20 _ _ o1 hl), dp_le hide_le (dp_of 20 _ _ o2 hy), shaped_of o1, shaped_of o2, ?_, g1, fun n z hn hz => ?_, p4.give (Same.refl _) c2 (.int _)⟩
      · rw [toPys_get, List.getElem?_eq_getElem hlt]; rfl
      · rw [toPys_get, List.getElem?_eq_getElem (Nat.lt_trans hn hlt)] at hz
        cases hz
        have := g2 n hn
        simpa [eqvD] using this
    · rw [if_neg ho] at hf'; cases hf'
  | _ => exact p2.elim
end
/-! ### properties -/
def OkPr (P : Program) (w : World) (K : PySem.W.Frag) (mg : Str → Option Value) (base : Heap) (C : Addr) (f : Str) (k : Nat) (sp : Sp) : Prop :=
  ∃ p g fd ps, Cls K C ∧ PropOf K C f p g ∧ FnOk P w K mg base (L2.CX P w) k g fd ps sp ∧ Binds K fd ps []
def noE : XK := fun _ _ _ => False
theorem passes_no {X : Cx} {P : Program} {w : World} : Passes (L2.CX P w) X noE := fun pins σ H s e s' I h => by
  obtain ⟨_, _, _, _, _, _, _, _, _, _, _, _, z⟩ := h
  exact z.elim
theorem pe_propX {X : Cx} {C : Addr} {f : Str} {k : Nat} {sp : Sp} {e : Expr} {pos : Pos} {ta : TE} (F : OkPr X.prog X.w X.K X.mg X.base C f k sp) (hr : Room (k + 1) X.A) (he : PE X e ta) (hab : attributeBase e f X.env (eval e X.env) = eval e X.env := by rfl) : PE X (.Attribute e f pos) (tProp C sp [] noE ta) := by
  obtain ⟨p, g, fd, ps, c, hp, F, hb⟩ := F
  exact pe_prop he c hp F hr hb .nil passes_no hab
def propE (c : Nat) (f : List D → Rf D) (ρ : Env) : D → Rs D
  | .ins c' ns l => if c' = c then (match f [.ins c' ns l] with
    | .ok d => .ok d ρ
    | _ => .stuck) else .stuck
  | _ => .stuck
/-- e.f, a property of the class c -/
def eProp (c : Nat) (f : List D → Rf D) (m : Env → Rs D) : Env → Rs D := fun ρ => (m ρ).bind fun d ρ1 => propE c f ρ1 d
theorem ev_prop {Γ : Gm} {fr : Frm} {te : TE} {m : Env → Rs D} {c : Nat} {f : List D → Rf D} (h : EV Γ fr te m) : EV Γ fr (tProp (Γ.cl c) (spP Γ 1 f) [] noE te) (eProp c f m) := fun σ ρ G S co Q p => by
  refine h.step co p fun d ρ1 x G1 S1 _ c1 hx p1 => ?_
  have p2 : PostG (fun H v d => IsD Γ H v d) Γ fr σ G1 S1 Q (propE c f ρ1 d) := p1
  cases hx with
  | @ins a dx c' ns xs l h1 h2 h3 =>
    unfold propE at p2
    dsimp only at p2
    by_cases hc : c' = c
    · rw [if_pos hc] at p2
      subst hc
      refine ⟨a, dx, _, rfl, hide_le _ _ h1, rfl, S1, [.ins c' ns l], c1.dom, .cons (.ins h1 h2 h3) .nil, ?_⟩
      generalize f [.ins c' ns l] = r at p2 ⊢
      cases r with
      | ok d => exact fun v G2 e hd => PostG.give (d := d) p2 (hide_ext e) (c1.ext e) hd
      | exc _ => exact p2.elim
      | stuck => exact p2.elim
    · rw [if_neg hc] at p2
      exact p2.elim
  | _ => exact p2.elim
theorem fProp_ok {K : PySem.W.Frag} {x f : Str} (h : fProp x f K = true) : PropOf K (ga K x) f (ppa K x f) (pga K x f) := by
  obtain ⟨h1, h⟩ := ba h
  obtain ⟨h2, h⟩ := ba h
  obtain ⟨h3, h4⟩ := ba h
  refine ⟨eqO_ok h1, eqO_ok h2, of_decide_eq_true h3, ?_⟩
  unfold pga
  split at h4
  · rename_i g r e
    rw [e]
    exact ⟨r, rfl⟩
  · cases h4
end Py

set_option Elab.async false
set_option linter.all false
set_option maxRecDepth 100000
set_option maxHeartbeats 2000000
namespace Py
open PySem L2 He
theorem bt_set : bootBuiltins "set" = some (.type "set") := by decide +kernel
theorem bt_dict : bootBuiltins "dict" = some (.type "dict") := by decide +kernel
theorem few_perm {α : Type} : ∀ {l m : List α}, l.Perm m → m.length ≤ 1 → l = m
  | l, [], h, _ => h.eq_nil
  | l, [v], h, _ => List.perm_singleton.mp h
  | _, _ :: _ :: _, _, h => by simp at h
/-! sorted of at most one item, whatever it is -/
def rFew (K : PySem.W.Frag) : List V → Hp → VK → Prop := fun vs H Q => ∃ (a : Addr) (xs : List V), vs = [V.ref a] ∧ SqL K H a xs ∧ xs.length ≤ 1 ∧ ∀ p, H p = none → Q (.ref p) (upd H p (.lst xs))
def rSortedX (K : PySem.W.Frag) : List V → Hp → VK → Prop := fun vs H Q => rFew K vs H Q ∨ rSortedD K vs H Q
theorem sorted_few {prog : Program} {w : World} {A : Around} {E : Value → Shared → Prop} {s : Shared} {l : Addr} {vs : List Value} {Q : Value → Shared → Prop} (hl : s.heap.IsList l vs.toArray) (hf : vs.length ≤ 1) (hz : vs.length ≤ sizeLine) (h : Q (.ref (s.heap.objs.size + 1)) { s with heap := PyProof.Rows.sortedAll s.heap vs vs.toArray }) :
    wpAny (model prog w) A (call (.builtin "sorted") [.ref l]) Q E s := by
  refine PySem.W.sorted_of_sort hl hz (PyProof.Rows.args_sorted1 _) (fun _ => PyProof.Rows.args_list_sort _) fun E' => ?_
  refine SK.plain_sort (s := { s with heap := PySem.W.copyHeap s.heap vs }) (r := fun _ => 0) (PySem.W.copyHeap_at s.heap vs) (by omega) (fun h2 => by omega) fun ps out h1 h2 _ => ⟨rfl, ?_⟩
  have z := h2.map Prod.snd
  rw [List.map_snd_zip (Nat.le_refl _)] at z
  have e : out = vs.toArray := by rw [← few_perm z hf, ← h1]
  rw [e]
  exact h
section
variable {X : Cx}
theorem cr_few : CallR X (.builtin "sorted") (rFew X.K) := by
  intro pins s σ H vs us Q I r h
  obtain ⟨a, xs, rfl, hs, hf, q⟩ := h
  obtain ⟨its, rv, hl, hz⟩ := I.list hs
  rw [Vals.ref1 r]
  have hlen : its.length ≤ 1 := by rw [← rv.length]; exact hf
  refine sorted_few hl.isList hlen (by rw [← rv.length]; exact hz) ?_
  obtain ⟨n, hn⟩ := PyProof.Rows.sortedAll_at s.heap its its.toArray
  have hfr : H (s.heap.objs.size + 1) = none := I.hok.fresh (Nat.le_succ _)
  exact ⟨.ref (s.heap.objs.size + 1), upd H (s.heap.objs.size + 1) (.lst xs), I.laid (t' := s.toks) (fun _ _ => PyProof.Rows.sortedAll_old) (Nat.le_succ _) ⟨hz, its, n, rv, hn⟩, rfl, q _ hfr⟩
theorem cr_sortedX (hu : X.A.units + 64 < cLine) : CallR X (.builtin "sorted") (rSortedX X.K) := by
  intro pins s σ H vs us Q I r h
  rcases h with h | h
  · exact cr_few pins s σ H vs us Q I r h
  · exact cr_sortedD hu pins s σ H vs us Q I r h
end
def dSortedA : List D → Option D
  | [.lst l] => if l.length ≤ 1 then some (.lst l) else dSorted [.lst l]
  | _ => none
theorem cad_sortedX {Γ : Gm} : CaD Γ (rSortedX Γ.K) dSortedA := fun G S xs ds dz dom hx e Q q => by
  match ds, hx, e with
  | [.lst l], .cons (.lst (a := a) (xs := us) h1 h2) .nil, e =>
    have e' : (if l.length ≤ 1 then some (.lst l) else dSorted [.lst l]) = some dz := e
    by_cases hl : l.length ≤ 1
    · rw [if_pos hl] at e'
      cases e'
      refine .inl ⟨a, us, rfl, SqL.of (hide_le _ _ h1), by rw [h2.length]; exact hl, fun p hp => q _ _ (same_upd hp) (.lst (hide_of (fun z => ?_) upd_same) (h2.le (hide_ext (same_upd hp))))⟩
      obtain ⟨o, eo⟩ := dom p z
      rw [hp] at eo; cases eo
    · rw [if_neg hl] at e'
      exact .inr (cad_sorted G S _ [.lst l] dz dom (.cons (.lst h1 h2) .nil) e' Q q)
theorem ix_seqK {X : Cx} {K : PySem.W.Frag} (h : X.K = K) : IxR X (rIx K) := h ▸ ix_seq
end Py

set_option Elab.async false
set_option linter.all false
set_option maxRecDepth 100000
set_option maxHeartbeats 1000000
namespace Py
open PySem L2
/-! ## 29. Frames of dicts, of comprehensions over own lists, of index and properties -/
def fInO (neg : Bool) (i : Nat) : Rs D → Rs D
  | .ok k ρ => inOF neg k ρ (ownD ρ i)
  | .exc e ρ => .exc e ρ
  | .stuck => .stuck
def dInD (neg : Bool) (k : D) (ks vs : List D) : Option D := match keyB k with
  | some kk => some (.bl (if neg then !(getD (.tup kk) ks vs).isSome else (getD (.tup kk) ks vs).isSome))
  | none => none
def fGet2 (i : Nat) (k : D) : Rs D → Rs D
  | .ok z ρ => getOF k z ρ (ownD ρ i)
  | .exc e ρ => .exc e ρ
  | .stuck => .stuck
def fGet1 (i : Nat) (mz : Env → Rs D) : Rs D → Rs D
  | .ok k ρ => fGet2 i k (mz ρ)
  | .exc e ρ => .exc e ρ
  | .stuck => .stuck
def fGet0 (i : Nat) (mk mz : Env → Rs D) (ρ : Env) : Option (List D × List D) → Rs D
  | some _ => fGet1 i mz (mk ρ)
  | none => .stuck
def dGetD (k z : D) (ks vs : List D) : Option D := match keyB k with
  | some kk => some ((getD (.tup kk) ks vs).getD z)
  | none => none
def fSet2 (i : Nat) (d : D) : Rs D → Out
  | .ok k ρ => setDF i k d ρ (ownD ρ i)
  | .exc e ρ => .exc e ρ
  | .stuck => .stuck
def fSet1 (i : Nat) (mk : Env → Rs D) (d : D) (ρ : Env) : Option (List D × List D) → Out
  | some _ => fSet2 i d (mk ρ)
  | none => .stuck
def fSet0 (i : Nat) (mk : Env → Rs D) : Rs D → Out
  | .ok d ρ => fSet1 i mk d ρ (ownD ρ i)
  | .exc e ρ => .exc e ρ
  | .stuck => .stuck
def dSetD (k d : D) (ks vs : List D) : Option D := match keyB k with
  | some kk => if ks.length < 1000000 then some (.dic (putDk (.tup kk) k ks) (putDv (.tup kk) d ks vs)) else none
  | none => none
def fSetZ (i : Nat) (ρ : Env) : Option D → Out
  | some d => .nx (ρ.set i (some d))
  | none => .stuck
def fIdx1 (mk : Env → Rs D) : Rs D → Rs D
  | .ok d ρ => idxF mk ρ d
  | .exc e ρ => .exc e ρ
  | .stuck => .stuck
def fIdx2 (l : List D) : Rs D → Rs D
  | .ok x ρ => Rs.ofOpt (dIndex (.lst l) x) ρ
  | .exc e ρ => .exc e ρ
  | .stuck => .stuck
def fPrp (c : Nat) (f : List D → Rf D) : Rs D → Rs D
  | .ok d ρ => propE c f ρ d
  | .exc e ρ => .exc e ρ
  | .stuck => .stuck
section
variable {ρ : Env} {a b c d e : D} {ma mb mc mk mz m : Env → Rs D} {i j n k : Nat} {l ks vs : List D} {neg : Bool}
theorem Qh : eDNew ρ = .ok (.dic [] []) ρ := rfl
theorem Dr : ownD ρ i = ownDv ρ[i]? := rfl
theorem Kf : ownDv (some (some (.dic ks vs))) = some (ks, vs) := rfl
theorem Lc : eInO neg i mk ρ = fInO neg i (mk ρ) := by unfold eInO fInO; cases mk ρ <;> rfl
theorem Ly : fInO neg i (.ok d ρ) = inOF neg d ρ (ownD ρ i) := rfl
theorem Le : inOF neg d ρ (some (ks, vs)) = Rs.ofOpt (dInD neg d ks vs) ρ := by
  unfold inOF dInD
  cases keyB d <;> rfl
theorem Gs : eGetO i mk mz ρ = fGet0 i mk mz ρ (ownD ρ i) := by
  unfold eGetO fGet0
  cases ownD ρ i with
  | none => rfl
  | some p =>
    show (mk ρ).bind _ = fGet1 i mz (mk ρ)
    unfold fGet1
    cases mk ρ with
    | ok k ρ1 =>
      show (mz ρ1).bind _ = fGet2 i k (mz ρ1)
      unfold fGet2
      cases mz ρ1 <;> rfl
    | _ => rfl
theorem Qu {p : List D × List D} : fGet0 i mk mz ρ (some p) = fGet1 i mz (mk ρ) := rfl
theorem Cq : fGet1 i mz (.ok d ρ) = fGet2 i d (mz ρ) := rfl
theorem Fk : fGet2 i d (.ok a ρ) = getOF d a ρ (ownD ρ i) := rfl
theorem Bu : getOF d a ρ (some (ks, vs)) = Rs.ofOpt (dGetD d a ks vs) ρ := by
  unfold getOF dGetD
  cases keyB d <;> rfl
theorem Ln : sSetD i mk m ρ = fSet0 i mk (m ρ) := by
  unfold sSetD fSet0
  cases m ρ with
  | ok d ρ1 =>
    show (match ownD ρ1 i with | none => .stuck | some _ => (mk ρ1).out fun k ρ2 => setDF i k d ρ2 (ownD ρ2 i)) = fSet1 i mk d ρ1 (ownD ρ1 i)
    unfold fSet1
    cases ownD ρ1 i with
    | none => rfl
    | some p =>
      show ((mk ρ1).out fun k ρ2 => setDF i k d ρ2 (ownD ρ2 i)) = fSet2 i d (mk ρ1)
      unfold fSet2
      cases mk ρ1 <;> rfl
  | _ => rfl
theorem Di : fSet0 i mk (.ok d ρ) = fSet1 i mk d ρ (ownD ρ i) := rfl
theorem Iv {p : List D × List D} : fSet1 i mk d ρ (some p) = fSet2 i d (mk ρ) := rfl
theorem Ii : fSet2 i d (.ok a ρ) = setDF i a d ρ (ownD ρ i) := rfl
theorem Lk : setDF i a d ρ (some (ks, vs)) = fSetZ i ρ (dSetD a d ks vs) := by
  unfold setDF dSetD
  cases keyB a with
  | none => rfl
  | some kk =>
    show (if ks.length < 1000000 then Out.nx _ else .stuck) = fSetZ i ρ (if ks.length < 1000000 then some _ else none)
    by_cases h : ks.length < 1000000
    · rw [if_pos h, if_pos h]; rfl
    · rw [if_neg h, if_neg h]; rfl
theorem Ij : fSetZ i ρ (some d) = .nx (ρ.set i (some d)) := rfl
theorem Km : eValsO i ρ = valsOF ρ (ownD ρ i) := rfl
theorem Dw : valsOF ρ (some (ks, vs)) = .ok (.lst vs) ρ := rfl
theorem Cz : eIndex m mk ρ = fIdx1 mk (m ρ) := by unfold eIndex fIdx1; cases m ρ <;> rfl
theorem Ou : fIdx1 mk (.ok (.lst l) ρ) = fIdx2 l (mk ρ) := by
  show (mk ρ).bind _ = _
  unfold fIdx2; cases mk ρ <;> rfl
theorem Nr : fIdx2 l (.ok d ρ) = Rs.ofOpt (dIndex (.lst l) d) ρ := rfl
theorem Bm {f : List D → Rf D} : eProp n f m ρ = fPrp n f (m ρ) := by unfold eProp fPrp; cases m ρ <;> rfl
theorem Lf {f : List D → Rf D} : fPrp n f (.ok d ρ) = propE n f ρ d := rfl
theorem Li {f : List D → Rf D} {ns : List Str} : propE n f ρ (.ins n ns l) = toN (f [.ins n ns l]) ρ := by
  show (if n = n then (match f [.ins n ns l] with | .ok d => Rs.ok d ρ | _ => .stuck) else .stuck) = _
  rw [if_pos rfl]
  cases f [.ins n ns l] <;> rfl
theorem Jg {mg : D → Env → Option Env} {mt : Env → Rs Bool} {me : Env → Rs D} {is : List Nat} : eLcO i mg mt me is ρ = lcO1 i mg mt me is ρ (ownL ρ i) := rfl
theorem Dq {x y : Int} : dMin2 [.int x, .int y] = some (.int (if y < x then y else x)) := rfl
theorem Qg : dRev (.lst l) = some (.lst l.reverse) := rfl
end
/-! ### dicts by rows of ints -/
theorem keysOf_ints : ∀ r : List Int, keysOf (r.map D.int) = some (r.map NestedKey.num)
  | [] => rfl
  | x :: r => by
    show (match keyOf (.int x), keysOf (r.map D.int) with | some k, some ks => some (k :: ks) | _, _ => none) = _
    rw [keysOf_ints r]; rfl
theorem keyOf_tupI (r : List Int) : keyOf (tupI r) = some (.tup (r.map .num)) := by
  show (keysOf (r.map D.int)).map NestedKey.tup = _
  rw [keysOf_ints]; rfl
theorem numList_depth (r : List Int) : (NestedKey.tup (r.map .num)).depth ≤ 8 := by
  have key : ∀ r : List Int, NestedKey.depthAll (r.map .num) = 0 := by
    intro r
    induction r with
    | nil => rfl
    | cons x r ih =>
      show max (NestedKey.depth (.num x)) (NestedKey.depthAll (r.map .num)) = 0
      rw [ih]; rfl
  show NestedKey.depthAll (r.map .num) + 1 ≤ 8
  rw [key]; decide
theorem keyB_tupI (r : List Int) : keyB (tupI r) = some (r.map .num) := by
  unfold keyB
  rw [keyOf_tupI]
  exact if_pos (numList_depth r)
theorem num_inj {r s : List Int} : (r.map NestedKey.num = s.map NestedKey.num) ↔ r = s := by
  refine ⟨fun h => ?_, fun h => by rw [h]⟩
  induction r generalizing s with
  | nil => cases s with
    | nil => rfl
    | cons _ _ => cases h
  | cons x r ih => cases s with
    | nil => cases h
    | cons y s =>
      rw [Rg, Rg, List.cons.injEq, NestedKey.num.injEq] at h
      rw [h.1, ih h.2]
theorem keyOf_eqI (r s : List Int) : (keyOf (tupI r) = some (.tup (s.map .num))) ↔ r = s := by
  rw [keyOf_tupI, Option.some.injEq, NestedKey.tup.injEq, num_inj]
/-- what stands at a row -/
def rowV (r : List Int) : List (List Int) → List D → Option D
  | x :: ks, v :: vs => if x = r then some v else rowV r ks vs
  | _, _ => none
theorem getD_rows (r : List Int) : ∀ (ks : List (List Int)) (vs : List D), getD (.tup (r.map .num)) (ks.map tupI) vs = rowV r ks vs
  | [], _ => by simp [getD, rowV]
  | x :: ks, [] => by simp [getD, rowV]
  | x :: ks, v :: vs => by
    show (if keyOf (tupI x) = some (.tup (r.map .num)) then some v else getD (.tup (r.map .num)) (ks.map tupI) vs) = (if x = r then some v else rowV r ks vs)
    rw [getD_rows r ks vs]
    by_cases h : x = r
    · rw [if_pos h, if_pos ((keyOf_eqI x r).mpr h)]
    · rw [if_neg h, if_neg (fun z => h ((keyOf_eqI x r).mp z))]
theorem putDk_rows (r : List Int) : ∀ (ks : List (List Int)), putDk (.tup (r.map .num)) (tupI r) (ks.map tupI) = (if r ∈ ks then ks else ks ++ [r]).map tupI
  | [] => by simp [putDk]
  | x :: ks => by
    show (if keyOf (tupI x) = some (.tup (r.map .num)) then tupI x :: ks.map tupI else tupI x :: putDk (.tup (r.map .num)) (tupI r) (ks.map tupI)) = _
    rw [putDk_rows r ks]
    by_cases h : x = r
    · rw [if_pos ((keyOf_eqI x r).mpr h), if_pos (by rw [h]; exact List.mem_cons_self)]; rfl
    · rw [if_neg (fun z => h ((keyOf_eqI x r).mp z))]
      by_cases h2 : r ∈ ks
      · rw [if_pos h2, if_pos (List.mem_cons_of_mem _ h2)]; rfl
      · rw [if_neg h2, if_neg (fun z => by rcases List.mem_cons.mp z with e | e; exact h e.symm; exact h2 e)]; rfl
theorem rowV_none {r : List Int} : ∀ {ks : List (List Int)} {vs : List D}, r ∉ ks → rowV r ks vs = none
  | [], _, _ => by simp [rowV]
  | x :: ks, [], _ => by simp [rowV]
  | x :: ks, v :: vs, h => by
    show (if x = r then some v else rowV r ks vs) = none
    rw [if_neg (fun e => h (by rw [e]; exact List.mem_cons_self)), rowV_none fun z => h (List.mem_cons_of_mem _ z)]
theorem rowV_some {r : List Int} : ∀ {ks : List (List Int)} {vs : List D}, r ∈ ks → ks.length = vs.length → (rowV r ks vs).isSome = true
  | [], _, h, _ => by cases h
  | x :: ks, [], _, h => by simp at h
  | x :: ks, v :: vs, h, hl => by
    show (if x = r then some v else rowV r ks vs).isSome = true
    by_cases e : x = r
    · rw [if_pos e]; rfl
    · rw [if_neg e]
      rcases List.mem_cons.mp h with z | z
      · exact absurd z.symm e
      · exact rowV_some z (by simpa using hl)
theorem dIn_rows {r : List Int} {ks : List (List Int)} {vs : List D} (hl : ks.length = vs.length) : dInD false (tupI r) (ks.map tupI) vs = some (.bl (decide (r ∈ ks))) := by
  unfold dInD
  rw [keyB_tupI]
  show some (D.bl (getD (.tup (r.map .num)) (ks.map tupI) vs).isSome) = _
  rw [getD_rows]
  by_cases h : r ∈ ks
  · rw [rowV_some h hl, decide_eq_true h]
  · rw [rowV_none h, decide_eq_false h]; rfl
theorem dGet_rows {r : List Int} {ks : List (List Int)} {vs : List D} {z : D} : dGetD (tupI r) z (ks.map tupI) vs = some ((rowV r ks vs).getD z) := by
  unfold dGetD
  rw [keyB_tupI]
  show some ((getD (.tup (r.map .num)) (ks.map tupI) vs).getD z) = _
  rw [getD_rows]
theorem dIxA_rows {r : List Int} {ks : List (List Int)} {vs : List D} : dIxA (.dic (ks.map tupI) vs) (tupI r) = rowV r ks vs := by
  show (match keyB (tupI r) with | some kk => getD (.tup kk) (ks.map tupI) vs | none => none) = _
  rw [keyB_tupI]
  exact getD_rows r ks vs
theorem dSet_rows {r : List Int} {d : D} {ks : List (List Int)} {vs : List D} (h : ks.length < 1000000) : dSetD (tupI r) d (ks.map tupI) vs = some (.dic ((if r ∈ ks then ks else ks ++ [r]).map tupI) (putDv (.tup (r.map .num)) d (ks.map tupI) vs)) := by
  unfold dSetD
  rw [keyB_tupI]
  show (if (ks.map tupI).length < 1000000 then some _ else none) = _
  rw [if_pos (by rw [Qy]; exact h), putDk_rows]
theorem putDv_new {r : List Int} {d : D} : ∀ {ks : List (List Int)} {vs : List D}, r ∉ ks → ks.length = vs.length → putDv (.tup (r.map .num)) d (ks.map tupI) vs = vs ++ [d]
  | [], [], _, _ => rfl
  | [], _ :: _, _, h => by simp at h
  | x :: ks, [], _, h => by simp at h
  | x :: ks, v :: vs, h, hl => by
    show (if keyOf (tupI x) = some (.tup (r.map .num)) then d :: vs else v :: putDv (.tup (r.map .num)) d (ks.map tupI) vs) = _
    rw [if_neg (fun z => h (by rw [(keyOf_eqI x r).mp z]; exact List.mem_cons_self)), putDv_new (fun z => h (List.mem_cons_of_mem _ z)) (by simpa using hl)]; rfl
/-- counts by rows -/
def bump (r : List Int) (n : Int) : List (List Int × Int) → List (List Int × Int)
  | [] => [(r, n)]
  | (x, m) :: t => if x = r then (x, m + n) :: t else (x, m) :: bump r n t
def cntOf (r : List Int) : List (List Int × Int) → Int
  | [] => 0
  | (x, m) :: t => if x = r then m else cntOf r t
theorem rowV_cnt (r : List Int) : ∀ cs : List (List Int × Int), (rowV r (cs.map (·.1)) (cs.map fun c => D.int c.2)).getD (.int 0) = .int (cntOf r cs)
  | [] => rfl
  | (x, m) :: t => by
    show (if x = r then some (D.int m) else rowV r (t.map (·.1)) (t.map fun c => D.int c.2)).getD (.int 0) = .int (if x = r then m else cntOf r t)
    by_cases h : x = r
    · rw [if_pos h, if_pos h]; rfl
    · rw [if_neg h, if_neg h, rowV_cnt r t]
theorem bump_keys (r : List Int) (n : Int) : ∀ cs : List (List Int × Int), (bump r n cs).map (·.1) = if r ∈ cs.map (·.1) then cs.map (·.1) else cs.map (·.1) ++ [r]
  | [] => rfl
  | (x, m) :: t => by
    show (if x = r then (x, m + n) :: t else (x, m) :: bump r n t).map (·.1) = if r ∈ x :: t.map (·.1) then x :: t.map (·.1) else (x :: t.map (·.1)) ++ [r]
    by_cases h : x = r
    · rw [if_pos h, if_pos (by rw [← h]; exact List.mem_cons_self)]; rfl
    · rw [if_neg h, Rg, bump_keys r n t]
      by_cases h2 : r ∈ t.map (·.1)
      · rw [if_pos h2, if_pos (List.mem_cons_of_mem _ h2)]
      · rw [if_neg h2, if_neg (fun z => by rcases List.mem_cons.mp z with e | e; exact h e.symm; exact h2 e)]; rfl
theorem bump_vals (r : List Int) (n : Int) : ∀ cs : List (List Int × Int), putDv (.tup (r.map .num)) (.int (cntOf r cs + n)) ((cs.map (·.1)).map tupI) (cs.map fun c => D.int c.2) = (bump r n cs).map fun c => D.int c.2
  | [] => by
    show [D.int (0 + n)] = [D.int n]
    rw [Int.zero_add]
  | (x, m) :: t => by
    show (if keyOf (tupI x) = some (.tup (r.map .num)) then D.int ((if x = r then m else cntOf r t) + n) :: t.map (fun c => D.int c.2) else D.int m :: putDv (.tup (r.map .num)) (.int ((if x = r then m else cntOf r t) + n)) ((t.map (·.1)).map tupI) (t.map fun c => D.int c.2)) = (if x = r then (x, m + n) :: t else (x, m) :: bump r n t).map fun c => D.int c.2
    by_cases h : x = r
    · rw [if_pos ((keyOf_eqI x r).mpr h), if_pos h, if_pos h]; rfl
    · rw [if_neg (fun z => h ((keyOf_eqI x r).mp z)), if_neg h, if_neg h, bump_vals r n t]; rfl
theorem dSet_bump {r : List Int} {n : Int} {cs : List (List Int × Int)} (h : cs.length < 1000000) : dSetD (tupI r) (.int (cntOf r cs + n)) ((cs.map (·.1)).map tupI) (cs.map fun c => D.int c.2) = some (.dic (((bump r n cs).map (·.1)).map tupI) ((bump r n cs).map fun c => D.int c.2)) := by
  rw [dSet_rows (by rw [Qy]; exact h), bump_vals, bump_keys]
theorem dGet_cnt {r : List Int} {cs : List (List Int × Int)} : dGetD (tupI r) (.int 0) ((cs.map (·.1)).map tupI) (cs.map fun c => D.int c.2) = some (.int (cntOf r cs)) := by
  rw [dGet_rows, rowV_cnt]
theorem dDictZip_rows {ks : List (List Int)} {vs : List D} (hl : ks.length = vs.length) (hn : ks.Nodup) : dDictZip [.tup (ks.map tupI), .tup vs] = some (.dic (ks.map tupI) vs) := by
  refine if_pos ?_
  unfold zipB
  rw [Bool.and_eq_true, Bool.and_eq_true]
  refine ⟨decide_eq_true (by rw [Qy]; exact hl), ?_, decide_eq_true ?_⟩
  · rw [List.all_eq_true]
    intro d hd
    obtain ⟨r, _, rfl⟩ := List.mem_map.mp hd
    rw [keyB_tupI]; rfl
  · rw [List.map_map, List.nodup_iff_pairwise_ne, List.pairwise_map]
    refine List.Pairwise.imp (fun {a b} h z => h ?_) (List.nodup_iff_pairwise_ne.mp hn)
    have z : keyOf (tupI a) = keyOf (tupI b) := z
    rw [keyOf_tupI b] at z
    exact (keyOf_eqI a b).mp z
theorem intTups_map : ∀ ns : List (List Int), intTups (ns.map tupI) = some ns
  | [] => rfl
  | n :: ns => by
    have h1 : intTup (tupI n) = some n := by
      show intsD (n.map D.int) = some n
      induction n with
      | nil => rfl
      | cons x n ih => show (intsD (n.map D.int)).map (x :: ·) = _; rw [ih]; rfl
    show (match intTup (tupI n), intTups (ns.map tupI) with | some n, some ns => some (n :: ns) | _, _ => none) = _
    rw [h1, intTups_map ns]
theorem dSortSet_rows {ns : List (List Int)} (h1 : ns.length < 64) (h2 : (uniq ns).length ≤ 1 ∨ [] ∉ ns) : dSortSet [.lst (ns.map tupI)] = some (.lst (((uniq ns).mergeSort leI).map tupI)) := by
  show (match intTups (ns.map tupI) with | some ns' => if (ns.map tupI).length < 64 ∧ ((uniq ns').length ≤ 1 ∨ [] ∉ ns') then some (D.lst (((uniq ns').mergeSort leI).map tupI)) else none | none => none) = _
  rw [intTups_map]
  exact if_pos ⟨by rw [Qy]; exact h1, h2⟩
end Py

set_option Elab.async false
set_option linter.all false
set_option maxRecDepth 100000
set_option maxHeartbeats 2000000
namespace Py
open PySem L2 He
/-! ## 30. x + y by the __add__ of an own class -/
section
variable {prog : Program} {w : World} {A : Around} {E : Value → Shared → Prop} {s : Shared} {K : PySem.W.Frag} {a C g : Addr} {ox : Obj} {od : Option Obj}
theorem own_op {op : Operator} {b : Value} {Q : Value → Shared → Prop} (X : K.In s.heap) (I : PySem.W.InstAt s.heap a ox C od) (hb : PySem.W.Looks (model prog w) s.heap (typeOf b) (.ref C)) (hc : PySem.W.selfFirst K C = true)
    (hs : PySem.W.findIn K (.ref C) (PySem.dunder op.info.2) = some (some (.ref g))) (hf : PySem.W.isFn K (.ref g) = true) (h : wpAny (model prog w) A (call (.ref g) [.ref a, b]) (PySem.W.CmpBack Q) E s) : wpAny (model prog w) A (binaryOp op (.ref a) b) Q E s := by
  obtain ⟨cd, hcd, hm⟩ := PySem.W.any_some hc
  obtain ⟨rest, hm⟩ : ∃ rest, cd.mro = .ref C :: rest := by
    rcases q : cd.mro with _ | ⟨z, r⟩
    · rw [q] at hm; cases hm
    · rw [q, List.head?_cons] at hm; cases (beq_iff_eq.mp hm); exact ⟨r, rfl⟩
  unfold binaryOp; refine wpAny_holding (wpAny_bind ?_); unfold binaryOp1
  refine wpAny_bind (I.type.here (wpAny_bind (hb.here (wpAny_bind ((PySem.W.fills_K X hcd hm hs).here ?_))))); simp only [beq_self_eq_true, if_true]
  refine wpAny_bind (wpAny_pure ?_); simp only [Rt, Bool.false_eq_true, if_false, Ru]
  refine wpAny_bind (wpAny_pure ?_); simp only [Bool.false_eq_true, if_false]
  refine wpAny_bind (m := tryMethod (.ref a) _ b) ?_; unfold tryMethod
  refine wpAny_bind (PySem.W.special_fn X I hs (beq_iff_eq.mp hf) (wpAny_mono h (fun v s' hv => ?_) fun _ _ e => e))
  cases v <;> first | exact hv.elim | exact wpAny_pure (wpAny_pure (wpAny_pure hv))
end
def OkAd (P : Program) (w : World) (K : PySem.W.Frag) (mg : Str → Option Value) (base : Heap) (C : Addr) (k : Nat) (sp : Sp) : Prop :=
  ∃ g fd ps, PySem.W.selfFirst K C = true ∧ PySem.W.findIn K (.ref C) "__add__" = some (some (.ref g)) ∧ PySem.W.isFn K (.ref g) = true ∧ FnOk P w K mg base (L2.CX P w) k g fd ps sp ∧ Binds K fd ps []
def rAddO (C : Addr) (sp : Sp) : R2 := fun x y H Q => ∃ a b dx dy fs gs, x = .ref a ∧ y = .ref b ∧ H a = some (.ins C dx fs) ∧ H b = some (.ins C dy gs) ∧ sp [.ref a, .ref b] H Q noE
theorem op_addO {X : Cx} {C : Addr} {k : Nat} {sp : Sp} (F : OkAd X.prog X.w X.K X.mg X.base C k sp) (hr : Room k X.A) : OpR X (binaryOp .Add) (rAddO C sp) := by
  intro pins s σ H x y v u Q I rx ry h
  obtain ⟨a, b, dx, dy, fs, gs, rfl, rfl, ha, hb, q⟩ := h
  obtain rfl : v = Value.ref a := rx
  obtain rfl : u = Value.ref b := ry
  obtain ⟨g, fd, ps, hc, hs, hf, F, hbd⟩ := F
  obtain ⟨m1, O1, _, _, _, _⟩ := ins_get I.hok ha
  obtain ⟨o1, J1, _⟩ := O1.look
  obtain ⟨m2, O2, _, _, _, _⟩ := ins_get I.hok hb
  obtain ⟨o2, J2, _⟩ := O2.look
  refine own_op (op := .Add) I.kIn J1 J2.type hc hs hf (wpAny_mono (run_fn (vs := [.ref a, .ref b]) F hr hbd .nil passes_no I (.cons rfl (.cons rfl .nil)) q) (fun r s' hr => ?_) fun _ _ e => e)
  obtain ⟨z, H', I', rz, q'⟩ := hr
  cases r <;> first | exact ⟨z, H', I', rz, q'⟩ | (exfalso; cases z <;> first | (cases rz; done) | (obtain ⟨_, rz⟩ := rz; cases rz; done) | exact rz.elim)
def addE (c : Nat) (f : List D → Rf D) (ρ : Env) (d : D) : D → Rs D
  | .ins c' ns l => match d with
    | .ins c2 ns2 l2 => if c2 = c ∧ c' = c then (match f [.ins c2 ns2 l2, .ins c' ns l] with
      | .ok d => .ok d ρ
      | _ => .stuck) else .stuck
    | _ => .stuck
  | _ => .stuck
/-- e + e', both of the class c -/
def eAddO (c : Nat) (f : List D → Rf D) (m m' : Env → Rs D) : Env → Rs D := fun ρ => (m ρ).bind fun d ρ1 => (m' ρ1).bind fun d' ρ2 => addE c f ρ2 d d'
theorem ev_addO {Γ : Gm} {fr : Frm} {te te' : TE} {m m' : Env → Rs D} {c : Nat} {f : List D → Rf D} (h : EV Γ fr te m) (h' : EV Γ fr te' m') : EV Γ fr (tOp (rAddO (Γ.cl c) (spP Γ 2 f)) te te') (eAddO c f m m') := fun σ ρ G S co Q p => by
  refine h.step co p fun d ρ1 x G1 S1 e1 c1 hx p1 => ?_
  refine h'.step c1 p1 fun d' ρ2 y G2 S2 e2 c2 hy p2 => ?_
  have p3 : PostG (fun H v d => IsD Γ H v d) Γ fr σ G2 S2 Q (addE c f ρ2 d d') := p2
  have hx2 := hx.le e2
  cases hy with
  | @ins b dy c' ns' ys l' k1 k2 k3 =>
    cases hx2 with
    | @ins a dx c2 ns xs l h1 h2 h3 =>
      have p4 : PostG (fun H v d => IsD Γ H v d) Γ fr σ G2 S2 Q (if c2 = c ∧ c' = c then (match f [.ins c2 ns l, .ins c' ns' l'] with | .ok d => Rs.ok d ρ2 | _ => .stuck) else .stuck) := p3
      by_cases hc : c2 = c ∧ c' = c
      · rw [if_pos hc] at p4
        obtain ⟨rfl, rfl⟩ := hc
        refine ⟨a, b, dx, dy, _, _, rfl, rfl, hide_le _ _ h1, hide_le _ _ k1, rfl, S2, [.ins c' ns l, .ins c' ns' l'], c2.dom, .cons (.ins h1 h2 h3) (.cons (.ins k1 k2 k3) .nil), ?_⟩
        generalize f [.ins c' ns l, .ins c' ns' l'] = r at p4 ⊢
        cases r with
        | ok d => exact fun v G3 e hd => PostG.give (d := d) p4 (hide_ext e) (c2.ext e) hd
        | exc _ => exact p4.elim
        | stuck => exact p4.elim
      · rw [if_neg hc] at p4
        exact p4.elim
    | _ => exact p3.elim
  | _ => cases hx2 <;> exact p3.elim
/-- what is never reached -/
def tNo : TE := fun _ _ _ => False
theorem pe_no {X : Cx} {e : Expr} : PE X e tNo := ⟨fun _ _ _ _ _ _ h => h.elim⟩
def eNo : Env → Rs D := fun _ => .stuck
theorem ev_no {Γ : Gm} {fr : Frm} : EV Γ fr tNo eNo := fun σ ρ G S co Q p => p.elim
theorem fAdd_ok {P : Program} {w : World} {K : PySem.W.Frag} {mg : Str → Option Value} {base : Heap} {x : Str} {k : Nat} {sp : Sp} {fd : FuncData} {ps : List Str} (h : fAdd x K = true) (F : FnOk P w K mg base (L2.CX P w) k (ma K (ga K x) "__add__") fd ps sp) (hb : Binds K fd ps []) : OkAd P w K mg base (ga K x) k sp := by
  obtain ⟨h1, h⟩ := ba h
  obtain ⟨h2, h3⟩ := ba h
  exact ⟨_, _, _, h1, eqO_ok h2, h3, F, hb⟩
/-! ### sum of a tuple of ints -/
def rSumT (K : PySem.W.Frag) : List V → Hp → VK → Prop := fun vs H Q => ∃ (a : Addr) (ns : List Int), vs = [V.ref a] ∧ SqT K H a (ns.map V.int) ∧ Q (.int ns.sum) H
theorem cr_sumT {X : Cx} (hc : X.calm = true) : CallR X (.builtin "sum") (rSumT X.K) := by
  intro pins s σ H vs us Q I r h
  obtain ⟨a, ns, rfl, hs, q⟩ := h
  obtain ⟨its, rv, hl, _⟩ := I.tuple hs
  rw [Vals.ref1 r]
  have hi := rv.ints
  obtain ⟨xs, hx⟩ := hi.allInts.items
  have hl : s.heap.IsTuple a its.toArray := hl
  have hn : PySem.numsOf its.toArray.toList = ns := by
    rw [show its.toArray.toList = its from rfl]
    exact hi.numsOf
  rw [hx] at hl hn
  rw [PySem.nums_intItems] at hn
  refine PySem.W.ktm_sumG (I.ok.hd hc) hl fun h' tk t' hk => ⟨.int ns.sum, H, I.kept hk, ⟨t', ?_⟩, q⟩
  rw [PySem.preSum_eq, List.take_of_length_le (by simp), hn]
def dSumT : List D → Option D
  | [.tup l] => (intsD l).map fun ns => .int ns.sum
  | _ => none
theorem cad_sumT {Γ : Gm} : CaD Γ (rSumT Γ.K) dSumT := fun G S xs ds dz dom hx e Q q => by
  match ds, hx, e with
  | [.tup l], .cons (.tup (a := a) (xs := us) h1 h2) .nil, e =>
    obtain ⟨ns, hn, rfl⟩ := Option.map_eq_some_iff.mp (show (intsD l).map (fun ns => D.int ns.sum) = some dz from e)
    rw [intsD_eq hn] at h2
    rw [h2.ints] at h1
    exact ⟨a, ns, rfl, sqT_mono hide_le h1, q _ G (Same.refl _) (.int _)⟩
end Py

set_option Elab.async false
set_option linter.all false
set_option maxRecDepth 100000
set_option maxHeartbeats 1000000
namespace Py
open PySem L2
def fAddO2 (c : Nat) (f : List D → Rf D) (a : D) : Rs D → Rs D
  | .ok b ρ => addE c f ρ a b
  | .exc e ρ => .exc e ρ
  | .stuck => .stuck
def fAddO1 (c : Nat) (f : List D → Rf D) (mb : Env → Rs D) : Rs D → Rs D
  | .ok a ρ => fAddO2 c f a (mb ρ)
  | .exc e ρ => .exc e ρ
  | .stuck => .stuck
section
variable {ρ : Env} {a b d : D} {ma mb : Env → Rs D} {n : Nat} {l l' : List D} {ns ns' : List Str} {f : List D → Rf D}
theorem Ew : eAddO n f ma mb ρ = fAddO1 n f mb (ma ρ) := by
  unfold eAddO fAddO1
  cases ma ρ with
  | ok a ρ1 =>
    show (mb ρ1).bind _ = fAddO2 n f a (mb ρ1)
    unfold fAddO2
    cases mb ρ1 <;> rfl
  | _ => rfl
theorem Ci : fAddO1 n f mb (.ok a ρ) = fAddO2 n f a (mb ρ) := rfl
theorem Ap : fAddO2 n f a (.ok b ρ) = addE n f ρ a b := rfl
theorem Pz : addE n f ρ (.ins n ns l) (.ins n ns' l') = toN (f [.ins n ns l, .ins n ns' l']) ρ := by
  show (if n = n ∧ n = n then (match f [.ins n ns l, .ins n ns' l'] with | .ok d => Rs.ok d ρ | _ => .stuck) else .stuck) = _
  rw [if_pos ⟨rfl, rfl⟩]
  cases f [.ins n ns l, .ins n ns' l'] <;> rfl
end
end Py

set_option Elab.async false
set_option linter.all false
set_option maxRecDepth 100000
set_option maxHeartbeats 1000000
namespace Py
open PySem L2
def fMkV1 (c : Nat) (f : Str) : Rs D → Rs D
  | .ok d ρ => .ok (.exv c [f] [d]) ρ
  | .exc e ρ => .exc e ρ
  | .stuck => .stuck
def fXv (cs : List Nat) (f : Str) : Rs D → Rs D
  | .ok d ρ => xvE cs f ρ d
  | .exc e ρ => .exc e ρ
  | .stuck => .stuck
section
variable {ρ : Env} {a b d e : D} {ma mb : Env → Rs D} {c : Nat} {l : List D} {ns : List Str} {f g : Str} {cs : List Nat}
theorem Hc : eMkP c ρ = .ok (.exv c [] []) ρ := rfl
theorem Em : eMk1 c f ma ρ = fMkV1 c f (ma ρ) := by unfold eMk1 fMkV1; cases ma ρ <;> rfl
theorem Gh : fMkV1 c f (.ok d ρ) = .ok (.exv c [f] [d]) ρ := rfl
theorem Je : eMk2 c f g ma mb ρ = (ma ρ).bind fun d ρ1 => (mb ρ1).bind fun e ρ2 => .ok (.exv c [g, f] [e, d]) ρ2 := rfl
theorem Kg {α β : Type} {x : α} {k : α → Env → Rs β} : Rs.bind (.ok x ρ) k = k x ρ := rfl
theorem Nm : eXv cs f ma ρ = fXv cs f (ma ρ) := by unfold eXv fXv; cases ma ρ <;> rfl
theorem Hh : fXv cs f (.ok d ρ) = xvE cs f ρ d := rfl
theorem Oo (h : c ∈ cs) : xvE cs f ρ (.exv c ns l) = Rs.ofOpt ((ns.zip l).lookup f) ρ := if_pos h
end
end Py

set_option Elab.async false
set_option linter.all false
set_option maxRecDepth 100000
set_option maxHeartbeats 4000000
noncomputable section
namespace Law
open PySem L2 Py
open PyProof.Rows (envOfC)
/-! ## the text by places -/
structure Tx (Γ : Gm) (mg : Str → Option Value) : Prop where
  c_AlreadyMissed : mg "AlreadyMissed" = some (.ref (Γ.cl 51))
  c_BadArray : mg "BadArray" = some (.ref (Γ.cl 6))
  c_BadBag : mg "BadBag" = some (.ref (Γ.cl 14))
  c_BadBasis : mg "BadBasis" = some (.ref (Γ.cl 23))
  c_BadBody : mg "BadBody" = some (.ref (Γ.cl 3))
  c_BadBox : mg "BadBox" = some (.ref (Γ.cl 38))
  c_BadChain : mg "BadChain" = some (.ref (Γ.cl 22))
  c_BadChange : mg "BadChange" = some (.ref (Γ.cl 47))
  c_BadCounts : mg "BadCounts" = some (.ref (Γ.cl 16))
  c_BadDemands : mg "BadDemands" = some (.ref (Γ.cl 21))
  c_BadEdit : mg "BadEdit" = some (.ref (Γ.cl 48))
  c_BadGoal : mg "BadGoal" = some (.ref (Γ.cl 49))
  c_BadKeeping : mg "BadKeeping" = some (.ref (Γ.cl 33))
  c_BadKind : mg "BadKind" = some (.ref (Γ.cl 11))
  c_BadKinds : mg "BadKinds" = some (.ref (Γ.cl 18))
  c_BadLength : mg "BadLength" = some (.ref (Γ.cl 42))
  c_BadLengths : mg "BadLengths" = some (.ref (Γ.cl 41))
  c_BadLetter : mg "BadLetter" = some (.ref (Γ.cl 43))
  c_BadLetters : mg "BadLetters" = some (.ref (Γ.cl 2))
  c_BadLimits : mg "BadLimits" = some (.ref (Γ.cl 44))
  c_BadNest : mg "BadNest" = some (.ref (Γ.cl 5))
  c_BadNumbers : mg "BadNumbers" = some (.ref (Γ.cl 25))
  c_BadOrder : mg "BadOrder" = some (.ref (Γ.cl 7))
  c_BadPool : mg "BadPool" = some (.ref (Γ.cl 50))
  c_BadPrices : mg "BadPrices" = some (.ref (Γ.cl 17))
  c_BadRank : mg "BadRank" = some (.ref (Γ.cl 9))
  c_BadRatio : mg "BadRatio" = some (.ref (Γ.cl 1))
  c_BadRoom : mg "BadRoom" = some (.ref (Γ.cl 30))
  c_BadRun : mg "BadRun" = some (.ref (Γ.cl 40))
  c_BadScale : mg "BadScale" = some (.ref (Γ.cl 26))
  c_BadSize : mg "BadSize" = some (.ref (Γ.cl 32))
  c_BadSpace : mg "BadSpace" = some (.ref (Γ.cl 4))
  c_BadSpots : mg "BadSpots" = some (.ref (Γ.cl 35))
  c_BadStops : mg "BadStops" = some (.ref (Γ.cl 37))
  c_BadStretch : mg "BadStretch" = some (.ref (Γ.cl 36))
  c_BadText : mg "BadText" = some (.ref (Γ.cl 8))
  c_BadTile : mg "BadTile" = some (.ref (Γ.cl 24))
  c_BadUses : mg "BadUses" = some (.ref (Γ.cl 46))
  c_BadValues : mg "BadValues" = some (.ref (Γ.cl 39))
  c_BadWeights : mg "BadWeights" = some (.ref (Γ.cl 12))
  c_BadWorths : mg "BadWorths" = some (.ref (Γ.cl 15))
  c_NestError : mg "NestError" = some (.ref (Γ.cl 0))
  c_NoPlane : mg "NoPlane" = some (.ref (Γ.cl 10))
  c_NoSum : mg "NoSum" = some (.ref (Γ.cl 29))
  c_NotAlong : mg "NotAlong" = some (.ref (Γ.cl 27))
  c_NotCover : mg "NotCover" = some (.ref (Γ.cl 31))
  c_NotRight : mg "NotRight" = some (.ref (Γ.cl 13))
  c_NothingPut : mg "NothingPut" = some (.ref (Γ.cl 52))
  c_TooGreat : mg "TooGreat" = some (.ref (Γ.cl 28))
  c_TooLong : mg "TooLong" = some (.ref (Γ.cl 45))
  c_TooMany : mg "TooMany" = some (.ref (Γ.cl 19))
  c_TooSmall : mg "TooSmall" = some (.ref (Γ.cl 34))
  c_Unlike : mg "Unlike" = some (.ref (Γ.cl 20))
  i_NestError : ∀ p ∈ [(0, true), (1, true), (2, true), (3, true), (4, true), (5, true), (6, true), (7, true), (8, true), (9, true), (10, true), (11, true), (12, true), (13, true), (14, true), (15, true), (16, true), (17, true), (18, true), (19, true), (20, true), (21, true), (22, true), (23, true), (24, true), (25, true), (26, true), (27, true), (28, true), (29, true), (30, true), (31, true), (32, true), (33, true), (34, true), (35, true), (36, true), (37, true), (38, true), (39, true), (40, true), (41, true), (42, true), (43, true), (44, true), (45, true), (46, true), (47, true), (48, true), (49, true), (50, true), (51, true), (52, true)], PySem.W.exmOne Γ.K (.ref (Γ.cl p.1)) (.ref (Γ.cl 0)) = some p.2
  is_NestError_BadSpace : ∀ c ∈ [4], PySem.W.kitOne Γ.K (.ref (Γ.cl c)) (.ref (Γ.cl 4)) = some true
  is_NestError_TooSmall : ∀ c ∈ [34], PySem.W.kitOne Γ.K (.ref (Γ.cl c)) (.ref (Γ.cl 34)) = some true
  ix_AlreadyMissed : ∀ p ∈ tx_AlreadyMissed, ExcC Γ.K (Γ.cl p.1) ∧ PySem.W.kitOne Γ.K (.ref (Γ.cl p.1)) (.ref (Γ.cl 51)) = some p.2
  ix_BadArray : ∀ p ∈ tx_BadArray, ExcC Γ.K (Γ.cl p.1) ∧ PySem.W.kitOne Γ.K (.ref (Γ.cl p.1)) (.ref (Γ.cl 6)) = some p.2
  ix_BadBag : ∀ p ∈ tx_BadBag, ExcC Γ.K (Γ.cl p.1) ∧ PySem.W.kitOne Γ.K (.ref (Γ.cl p.1)) (.ref (Γ.cl 14)) = some p.2
  ix_BadBasis : ∀ p ∈ tx_BadBasis, ExcC Γ.K (Γ.cl p.1) ∧ PySem.W.kitOne Γ.K (.ref (Γ.cl p.1)) (.ref (Γ.cl 23)) = some p.2
  ix_BadBody : ∀ p ∈ tx_BadBody, ExcC Γ.K (Γ.cl p.1) ∧ PySem.W.kitOne Γ.K (.ref (Γ.cl p.1)) (.ref (Γ.cl 3)) = some p.2
  ix_BadBox : ∀ p ∈ tx_BadBox, ExcC Γ.K (Γ.cl p.1) ∧ PySem.W.kitOne Γ.K (.ref (Γ.cl p.1)) (.ref (Γ.cl 38)) = some p.2
  ix_BadChain : ∀ p ∈ tx_BadChain, ExcC Γ.K (Γ.cl p.1) ∧ PySem.W.kitOne Γ.K (.ref (Γ.cl p.1)) (.ref (Γ.cl 22)) = some p.2
  ix_BadChange : ∀ p ∈ tx_BadChange, ExcC Γ.K (Γ.cl p.1) ∧ PySem.W.kitOne Γ.K (.ref (Γ.cl p.1)) (.ref (Γ.cl 47)) = some p.2
  ix_BadCounts : ∀ p ∈ tx_BadCounts, ExcC Γ.K (Γ.cl p.1) ∧ PySem.W.kitOne Γ.K (.ref (Γ.cl p.1)) (.ref (Γ.cl 16)) = some p.2
  ix_BadDemands : ∀ p ∈ tx_BadDemands, ExcC Γ.K (Γ.cl p.1) ∧ PySem.W.kitOne Γ.K (.ref (Γ.cl p.1)) (.ref (Γ.cl 21)) = some p.2
  ix_BadEdit : ∀ p ∈ tx_BadEdit, ExcC Γ.K (Γ.cl p.1) ∧ PySem.W.kitOne Γ.K (.ref (Γ.cl p.1)) (.ref (Γ.cl 48)) = some p.2
  ix_BadGoal : ∀ p ∈ tx_BadGoal, ExcC Γ.K (Γ.cl p.1) ∧ PySem.W.kitOne Γ.K (.ref (Γ.cl p.1)) (.ref (Γ.cl 49)) = some p.2
  ix_BadKeeping : ∀ p ∈ tx_BadKeeping, ExcC Γ.K (Γ.cl p.1) ∧ PySem.W.kitOne Γ.K (.ref (Γ.cl p.1)) (.ref (Γ.cl 33)) = some p.2
  ix_BadKind : ∀ p ∈ tx_BadKind, ExcC Γ.K (Γ.cl p.1) ∧ PySem.W.kitOne Γ.K (.ref (Γ.cl p.1)) (.ref (Γ.cl 11)) = some p.2
  ix_BadKinds : ∀ p ∈ tx_BadKinds, ExcC Γ.K (Γ.cl p.1) ∧ PySem.W.kitOne Γ.K (.ref (Γ.cl p.1)) (.ref (Γ.cl 18)) = some p.2
  ix_BadLength : ∀ p ∈ tx_BadLength, ExcC Γ.K (Γ.cl p.1) ∧ PySem.W.kitOne Γ.K (.ref (Γ.cl p.1)) (.ref (Γ.cl 42)) = some p.2
  ix_BadLengths : ∀ p ∈ tx_BadLengths, ExcC Γ.K (Γ.cl p.1) ∧ PySem.W.kitOne Γ.K (.ref (Γ.cl p.1)) (.ref (Γ.cl 41)) = some p.2
  ix_BadLetter : ∀ p ∈ tx_BadLetter, ExcC Γ.K (Γ.cl p.1) ∧ PySem.W.kitOne Γ.K (.ref (Γ.cl p.1)) (.ref (Γ.cl 43)) = some p.2
  ix_BadLetters : ∀ p ∈ tx_BadLetters, ExcC Γ.K (Γ.cl p.1) ∧ PySem.W.kitOne Γ.K (.ref (Γ.cl p.1)) (.ref (Γ.cl 2)) = some p.2
  ix_BadLimits : ∀ p ∈ tx_BadLimits, ExcC Γ.K (Γ.cl p.1) ∧ PySem.W.kitOne Γ.K (.ref (Γ.cl p.1)) (.ref (Γ.cl 44)) = some p.2
  ix_BadNest : ∀ p ∈ tx_BadNest, ExcC Γ.K (Γ.cl p.1) ∧ PySem.W.kitOne Γ.K (.ref (Γ.cl p.1)) (.ref (Γ.cl 5)) = some p.2
  ix_BadNumbers : ∀ p ∈ tx_BadNumbers, ExcC Γ.K (Γ.cl p.1) ∧ PySem.W.kitOne Γ.K (.ref (Γ.cl p.1)) (.ref (Γ.cl 25)) = some p.2
  ix_BadOrder : ∀ p ∈ tx_BadOrder, ExcC Γ.K (Γ.cl p.1) ∧ PySem.W.kitOne Γ.K (.ref (Γ.cl p.1)) (.ref (Γ.cl 7)) = some p.2
  ix_BadPool : ∀ p ∈ tx_BadPool, ExcC Γ.K (Γ.cl p.1) ∧ PySem.W.kitOne Γ.K (.ref (Γ.cl p.1)) (.ref (Γ.cl 50)) = some p.2
  ix_BadPrices : ∀ p ∈ tx_BadPrices, ExcC Γ.K (Γ.cl p.1) ∧ PySem.W.kitOne Γ.K (.ref (Γ.cl p.1)) (.ref (Γ.cl 17)) = some p.2
  ix_BadRank : ∀ p ∈ tx_BadRank, ExcC Γ.K (Γ.cl p.1) ∧ PySem.W.kitOne Γ.K (.ref (Γ.cl p.1)) (.ref (Γ.cl 9)) = some p.2
  ix_BadRatio : ∀ p ∈ tx_BadRatio, ExcC Γ.K (Γ.cl p.1) ∧ PySem.W.kitOne Γ.K (.ref (Γ.cl p.1)) (.ref (Γ.cl 1)) = some p.2
  ix_BadRoom : ∀ p ∈ tx_BadRoom, ExcC Γ.K (Γ.cl p.1) ∧ PySem.W.kitOne Γ.K (.ref (Γ.cl p.1)) (.ref (Γ.cl 30)) = some p.2
  ix_BadRun : ∀ p ∈ tx_BadRun, ExcC Γ.K (Γ.cl p.1) ∧ PySem.W.kitOne Γ.K (.ref (Γ.cl p.1)) (.ref (Γ.cl 40)) = some p.2
  ix_BadScale : ∀ p ∈ tx_BadScale, ExcC Γ.K (Γ.cl p.1) ∧ PySem.W.kitOne Γ.K (.ref (Γ.cl p.1)) (.ref (Γ.cl 26)) = some p.2
  ix_BadSize : ∀ p ∈ tx_BadSize, ExcC Γ.K (Γ.cl p.1) ∧ PySem.W.kitOne Γ.K (.ref (Γ.cl p.1)) (.ref (Γ.cl 32)) = some p.2
  ix_BadSpace : ∀ p ∈ tx_BadSpace, ExcC Γ.K (Γ.cl p.1) ∧ PySem.W.kitOne Γ.K (.ref (Γ.cl p.1)) (.ref (Γ.cl 4)) = some p.2
  ix_BadSpots : ∀ p ∈ tx_BadSpots, ExcC Γ.K (Γ.cl p.1) ∧ PySem.W.kitOne Γ.K (.ref (Γ.cl p.1)) (.ref (Γ.cl 35)) = some p.2
  ix_BadStops : ∀ p ∈ tx_BadStops, ExcC Γ.K (Γ.cl p.1) ∧ PySem.W.kitOne Γ.K (.ref (Γ.cl p.1)) (.ref (Γ.cl 37)) = some p.2
  ix_BadStretch : ∀ p ∈ tx_BadStretch, ExcC Γ.K (Γ.cl p.1) ∧ PySem.W.kitOne Γ.K (.ref (Γ.cl p.1)) (.ref (Γ.cl 36)) = some p.2
  ix_BadText : ∀ p ∈ tx_BadText, ExcC Γ.K (Γ.cl p.1) ∧ PySem.W.kitOne Γ.K (.ref (Γ.cl p.1)) (.ref (Γ.cl 8)) = some p.2
  ix_BadTile : ∀ p ∈ tx_BadTile, ExcC Γ.K (Γ.cl p.1) ∧ PySem.W.kitOne Γ.K (.ref (Γ.cl p.1)) (.ref (Γ.cl 24)) = some p.2
  ix_BadUses : ∀ p ∈ tx_BadUses, ExcC Γ.K (Γ.cl p.1) ∧ PySem.W.kitOne Γ.K (.ref (Γ.cl p.1)) (.ref (Γ.cl 46)) = some p.2
  ix_BadValues : ∀ p ∈ tx_BadValues, ExcC Γ.K (Γ.cl p.1) ∧ PySem.W.kitOne Γ.K (.ref (Γ.cl p.1)) (.ref (Γ.cl 39)) = some p.2
  ix_BadWeights : ∀ p ∈ tx_BadWeights, ExcC Γ.K (Γ.cl p.1) ∧ PySem.W.kitOne Γ.K (.ref (Γ.cl p.1)) (.ref (Γ.cl 12)) = some p.2
  ix_BadWorths : ∀ p ∈ tx_BadWorths, ExcC Γ.K (Γ.cl p.1) ∧ PySem.W.kitOne Γ.K (.ref (Γ.cl p.1)) (.ref (Γ.cl 15)) = some p.2
  ix_NestError : ∀ p ∈ tx_NestError, ExcC Γ.K (Γ.cl p.1) ∧ PySem.W.kitOne Γ.K (.ref (Γ.cl p.1)) (.ref (Γ.cl 0)) = some p.2
  ix_NoPlane : ∀ p ∈ tx_NoPlane, ExcC Γ.K (Γ.cl p.1) ∧ PySem.W.kitOne Γ.K (.ref (Γ.cl p.1)) (.ref (Γ.cl 10)) = some p.2
  ix_NoSum : ∀ p ∈ tx_NoSum, ExcC Γ.K (Γ.cl p.1) ∧ PySem.W.kitOne Γ.K (.ref (Γ.cl p.1)) (.ref (Γ.cl 29)) = some p.2
  ix_NotAlong : ∀ p ∈ tx_NotAlong, ExcC Γ.K (Γ.cl p.1) ∧ PySem.W.kitOne Γ.K (.ref (Γ.cl p.1)) (.ref (Γ.cl 27)) = some p.2
  ix_NotCover : ∀ p ∈ tx_NotCover, ExcC Γ.K (Γ.cl p.1) ∧ PySem.W.kitOne Γ.K (.ref (Γ.cl p.1)) (.ref (Γ.cl 31)) = some p.2
  ix_NotRight : ∀ p ∈ tx_NotRight, ExcC Γ.K (Γ.cl p.1) ∧ PySem.W.kitOne Γ.K (.ref (Γ.cl p.1)) (.ref (Γ.cl 13)) = some p.2
  ix_NothingPut : ∀ p ∈ tx_NothingPut, ExcC Γ.K (Γ.cl p.1) ∧ PySem.W.kitOne Γ.K (.ref (Γ.cl p.1)) (.ref (Γ.cl 52)) = some p.2
  ix_TooGreat : ∀ p ∈ tx_TooGreat, ExcC Γ.K (Γ.cl p.1) ∧ PySem.W.kitOne Γ.K (.ref (Γ.cl p.1)) (.ref (Γ.cl 28)) = some p.2
  ix_TooLong : ∀ p ∈ tx_TooLong, ExcC Γ.K (Γ.cl p.1) ∧ PySem.W.kitOne Γ.K (.ref (Γ.cl p.1)) (.ref (Γ.cl 45)) = some p.2
  ix_TooMany : ∀ p ∈ tx_TooMany, ExcC Γ.K (Γ.cl p.1) ∧ PySem.W.kitOne Γ.K (.ref (Γ.cl p.1)) (.ref (Γ.cl 19)) = some p.2
  ix_TooSmall : ∀ p ∈ tx_TooSmall, ExcC Γ.K (Γ.cl p.1) ∧ PySem.W.kitOne Γ.K (.ref (Γ.cl p.1)) (.ref (Γ.cl 34)) = some p.2
  ix_Unlike : ∀ p ∈ tx_Unlike, ExcC Γ.K (Γ.cl p.1) ∧ PySem.W.kitOne Γ.K (.ref (Γ.cl p.1)) (.ref (Γ.cl 20)) = some p.2
  ix_ValueError : ∀ p ∈ tx_ValueError, ExcC Γ.K (Γ.cl p.1) ∧ PySem.W.kitOne Γ.K (.ref (Γ.cl p.1)) (.type "ValueError") = some p.2
  n_ValueError : mg "ValueError" = none
  n_abs : mg "abs" = none
  n_bool : mg "bool" = none
  n_int : mg "int" = none
  n_isinstance : mg "isinstance" = none
  n_len : mg "len" = none
  n_range : mg "range" = none
  no_AlreadyMissed_index : PySem.W.findIn Γ.K (.ref (Γ.cl 51)) "index" = some none
  no_BadArray_array : PySem.W.findIn Γ.K (.ref (Γ.cl 6)) "array" = some none
  no_BadBag_index : PySem.W.findIn Γ.K (.ref (Γ.cl 14)) "index" = some none
  no_BadBag_what : PySem.W.findIn Γ.K (.ref (Γ.cl 14)) "what" = some none
  no_BadBody_index : PySem.W.findIn Γ.K (.ref (Γ.cl 3)) "index" = some none
  no_BadBox_index : PySem.W.findIn Γ.K (.ref (Γ.cl 38)) "index" = some none
  no_BadChain_index : PySem.W.findIn Γ.K (.ref (Γ.cl 22)) "index" = some none
  no_BadCounts_array : PySem.W.findIn Γ.K (.ref (Γ.cl 16)) "array" = some none
  no_BadDemands_index : PySem.W.findIn Γ.K (.ref (Γ.cl 21)) "index" = some none
  no_BadEdit_index : PySem.W.findIn Γ.K (.ref (Γ.cl 48)) "index" = some none
  no_BadGoal_index : PySem.W.findIn Γ.K (.ref (Γ.cl 49)) "index" = some none
  no_BadKinds_index : PySem.W.findIn Γ.K (.ref (Γ.cl 18)) "index" = some none
  no_BadLengths_index : PySem.W.findIn Γ.K (.ref (Γ.cl 41)) "index" = some none
  no_BadLetter_letter : PySem.W.findIn Γ.K (.ref (Γ.cl 43)) "letter" = some none
  no_BadLimits_index : PySem.W.findIn Γ.K (.ref (Γ.cl 44)) "index" = some none
  no_BadNest_array : PySem.W.findIn Γ.K (.ref (Γ.cl 5)) "array" = some none
  no_BadNest_what : PySem.W.findIn Γ.K (.ref (Γ.cl 5)) "what" = some none
  no_BadPool_index : PySem.W.findIn Γ.K (.ref (Γ.cl 50)) "index" = some none
  no_BadPrices_index : PySem.W.findIn Γ.K (.ref (Γ.cl 17)) "index" = some none
  no_BadRank_rank : PySem.W.findIn Γ.K (.ref (Γ.cl 9)) "rank" = some none
  no_BadRatio_what : PySem.W.findIn Γ.K (.ref (Γ.cl 1)) "what" = some none
  no_BadRun_what : PySem.W.findIn Γ.K (.ref (Γ.cl 40)) "what" = some none
  no_BadSize_size : PySem.W.findIn Γ.K (.ref (Γ.cl 32)) "size" = some none
  no_BadSpace_index : PySem.W.findIn Γ.K (.ref (Γ.cl 4)) "index" = some none
  no_BadSpots_index : PySem.W.findIn Γ.K (.ref (Γ.cl 35)) "index" = some none
  no_BadStops_index : PySem.W.findIn Γ.K (.ref (Γ.cl 37)) "index" = some none
  no_BadText_index : PySem.W.findIn Γ.K (.ref (Γ.cl 8)) "index" = some none
  no_BadTile_what : PySem.W.findIn Γ.K (.ref (Γ.cl 24)) "what" = some none
  no_BadUses_index : PySem.W.findIn Γ.K (.ref (Γ.cl 46)) "index" = some none
  no_BadUses_what : PySem.W.findIn Γ.K (.ref (Γ.cl 46)) "what" = some none
  no_BadValues_array : PySem.W.findIn Γ.K (.ref (Γ.cl 39)) "array" = some none
  no_BadWeights_index : PySem.W.findIn Γ.K (.ref (Γ.cl 12)) "index" = some none
  no_BadWeights_what : PySem.W.findIn Γ.K (.ref (Γ.cl 12)) "what" = some none
  no_BadWorths_array : PySem.W.findIn Γ.K (.ref (Γ.cl 15)) "array" = some none
  no_NoSum_body : PySem.W.findIn Γ.K (.ref (Γ.cl 29)) "body" = some none
  no_NotRight_space : PySem.W.findIn Γ.K (.ref (Γ.cl 13)) "space" = some none
  no_TooLong_letter : PySem.W.findIn Γ.K (.ref (Γ.cl 45)) "letter" = some none
  no_TooMany_count : PySem.W.findIn Γ.K (.ref (Γ.cl 19)) "count" = some none
  xf_AlreadyMissed : XfC Γ.K (Γ.cl 51)
  xf_BadArray : XfC Γ.K (Γ.cl 6)
  xf_BadBag : XfC Γ.K (Γ.cl 14)
  xf_BadBody : XfC Γ.K (Γ.cl 3)
  xf_BadBox : XfC Γ.K (Γ.cl 38)
  xf_BadChain : XfC Γ.K (Γ.cl 22)
  xf_BadCounts : XfC Γ.K (Γ.cl 16)
  xf_BadDemands : XfC Γ.K (Γ.cl 21)
  xf_BadEdit : XfC Γ.K (Γ.cl 48)
  xf_BadGoal : XfC Γ.K (Γ.cl 49)
  xf_BadKinds : XfC Γ.K (Γ.cl 18)
  xf_BadLengths : XfC Γ.K (Γ.cl 41)
  xf_BadLetter : XfC Γ.K (Γ.cl 43)
  xf_BadLimits : XfC Γ.K (Γ.cl 44)
  xf_BadNest : XfC Γ.K (Γ.cl 5)
  xf_BadPool : XfC Γ.K (Γ.cl 50)
  xf_BadPrices : XfC Γ.K (Γ.cl 17)
  xf_BadRank : XfC Γ.K (Γ.cl 9)
  xf_BadRatio : XfC Γ.K (Γ.cl 1)
  xf_BadRun : XfC Γ.K (Γ.cl 40)
  xf_BadSize : XfC Γ.K (Γ.cl 32)
  xf_BadSpace : XfC Γ.K (Γ.cl 4)
  xf_BadSpots : XfC Γ.K (Γ.cl 35)
  xf_BadStops : XfC Γ.K (Γ.cl 37)
  xf_BadText : XfC Γ.K (Γ.cl 8)
  xf_BadTile : XfC Γ.K (Γ.cl 24)
  xf_BadUses : XfC Γ.K (Γ.cl 46)
  xf_BadValues : XfC Γ.K (Γ.cl 39)
  xf_BadWeights : XfC Γ.K (Γ.cl 12)
  xf_BadWorths : XfC Γ.K (Γ.cl 15)
  xf_NoSum : XfC Γ.K (Γ.cl 29)
  xf_NotRight : XfC Γ.K (Γ.cl 13)
  xf_TooLong : XfC Γ.K (Γ.cl 45)
  xf_TooMany : XfC Γ.K (Γ.cl 19)
/-! _law_hand -/
def l1__law_hand : Py.Env → Out :=
  (sSeq ((sSet 1 ((eBin dMod ((aF dInt ((aCons ((eBin dAdd ((eBin dMul (eVar 1) (eC (.int 1723)))) ((aF dInt ((aCons (eVar 3) aNil)))))) aNil)))) (eC (.int 2147483549)))))) ((sApp 2 ((aF dAbs ((aCons ((aF dInt ((aCons (eVar 3) aNil)))) aNil)))))))
def m__law_hand : Py.Env → Out :=
  (sSeqN ((sSet 1 ((eBin dAdd ((aF dLen ((aCons (eVar 0) aNil)))) (eC (.int 41)))))) ((sSeqN ((sSet 2 ((aF dLst (aNil))))) ((sSeqN ((sFor (iSeqM (eVar 0)) (nmG 3) (l1__law_hand))) ((sRet (aF dLst ((aCons (eFrz 2) (aCons (eC (.int 0)) (aCons (eC (.int 0)) (aCons (eVar 1) aNil)))))))))))))
def f__law_hand : List D → Rf D := runN 4 m__law_hand
theorem sc__law_hand : FnScope ["script", "total", "cells", "cell"] ["script"] (defScope st__law_hand) := ⟨rfl, rfl, rfl, by decide +kernel, rfl, by decide +kernel, by decide +kernel⟩
theorem d__law_hand {P : Program} {Γ : Gm} {mg : Str → Option Value} {base : Heap} {f : Addr} {fd : FuncData} (F : FunD Γ.K "_law_hand" "_law_hand" (defArgs st__law_hand) (defBody st__law_hand) (defScope st__law_hand) [] [] f fd) (T : Tx Γ mg) :
    FnOk P Γ.w Γ.K mg base (L2.CX P Γ.w) 1 f fd ["script"] (spN Γ 1 f__law_hand) :=
  okN (dvs := []) (N := ["script", "total", "cells", "cell"]) (ps := ["script"]) (k := 0) (st := st__law_hand) (x := "_law_hand") (qual := "_law_hand") [2] m__law_hand F sc__law_hand (by decide) (fun cdv A outer s H E S0 hr => by
    exact ⟨_, (pss_cons (ps_set (i := 1) sc__law_hand.nd rfl (by first | exact Or.inl rfl | exact Or.inr rfl) (pe_op opx_add (pe_callB call_len rfl T.n_len bt_len (pa_cons (pv 0) pa_nil)) pe_int)) (pss_cons (ps_set (i := 2) sc__law_hand.nd rfl (by first | exact Or.inl rfl | exact Or.inr rfl) (pe_lst pa_nil)) (pss_cons (ps_for (passes_of rfl) rfl (pi_seq (pv 0)) (pg_name (i := 3) sc__law_hand.nd rfl (by first | exact Or.inl rfl | exact Or.inr rfl)) (pss_cons (ps_set (i := 1) sc__law_hand.nd rfl (by first | exact Or.inl rfl | exact Or.inr rfl) (pe_op op_modN (pe_callTy call_intX rfl T.n_int bt_int (pa_cons (pe_op opx_add (pe_op opx_mul (pv 1) pe_int) (pe_callTy call_intX rfl T.n_int bt_int (pa_cons (pv 3) pa_nil))) pa_nil)) pe_int)) (pss_one (ps_expr (pe_bm PySem.F.plainAttrs_list PySem.F.slot_list_append PySem.F.type_list_append mt_append (pv 2) (pa_cons (pe_callB call_abs rfl T.n_abs bt_abs (pa_cons (pe_callTy call_intX rfl T.n_int bt_int (pa_cons (pv 3) pa_nil)) pa_nil)) pa_nil)))))) (pss_one (ps_ret (pe_lst (pa_cons (pv 2) (pa_cons pe_int (pa_cons pe_int (pa_cons (pv 1) pa_nil)))))))))),
      (sn_seq (sv_set (ev_op opd_add (ev_cb cad_len (ea_cons ev_var ea_nil)) (ev_int _))) (sn_seq (sv_own (evf_lst ea_nil)) (sn_seq (sv_for (iv_seq ev_var) gv_name (sv_seq (sv_set (ev_op opd_mod (ev_cb cad_int (ea_cons (ev_op opd_add (ev_op opd_mul ev_var (ev_int _)) (ev_cb cad_int (ea_cons ev_var ea_nil))) ea_nil)) (ev_int _))) (sv_app (ev_cb cad_abs (ea_cons (ev_cb cad_int (ea_cons ev_var ea_nil)) ea_nil))))) (sn_ret (evf_lst (ea_cons ev_frz (ea_cons (ev_int _) (ea_cons (ev_int _) (ea_cons ev_var ea_nil)))))))))⟩)
/-! _law_mixed -/
def m__law_mixed : Py.Env → Out :=
  (sSeq ((sSet 2 ((eBin dMod ((aF dInt ((aCons ((eBin dAdd ((eBin dAdd ((eBin dMul (eVar 0) (eC (.int 48271)))) ((eBin dMul (eVar 1) (eC (.int 7919)))))) (eC (.int 30011)))) aNil)))) (eC (.int 2147483399)))))) ((sSeq ((sSet 3 ((eBin dMod ((aF dInt ((aCons ((eBin dAdd ((eBin dAdd ((eBin dMul (eVar 2) (eVar 2))) ((eBin dMul (eVar 1) (eC (.int 92821)))))) ((eBin dFdiv (eVar 2) (eC (.int 131)))))) aNil)))) (eC (.int 2147483629)))))) ((sRet ((eBin dFdiv ((aF dInt ((aCons ((eBin dMod ((aF dInt ((aCons ((eBin dAdd ((eBin dMul (eVar 3) (eC (.int 69621)))) ((eBin dFdiv (eVar 2) (eC (.int 13)))))) aNil)))) (eC (.int 2147483587)))) aNil)))) (eC (.int 32)))))))))
def f__law_mixed : List D → Rf D := runF 4 m__law_mixed
theorem sc__law_mixed : FnScope ["number", "turn", "once", "twice"] ["number", "turn"] (defScope st__law_mixed) := ⟨rfl, rfl, rfl, by decide +kernel, rfl, by decide +kernel, by decide +kernel⟩
theorem d__law_mixed {P : Program} {Γ : Gm} {mg : Str → Option Value} {base : Heap} {f : Addr} {fd : FuncData} (F : FunD Γ.K "_law_mixed" "_law_mixed" (defArgs st__law_mixed) (defBody st__law_mixed) (defScope st__law_mixed) [] [] f fd) (T : Tx Γ mg) :
    FnOk P Γ.w Γ.K mg base (L2.CX P Γ.w) 1 f fd ["number", "turn"] (spP Γ 2 f__law_mixed) :=
  okP (dvs := []) (N := ["number", "turn", "once", "twice"]) (ps := ["number", "turn"]) (k := 0) (st := st__law_mixed) (x := "_law_mixed") (qual := "_law_mixed") [] m__law_mixed F sc__law_mixed (by decide) (fun cdv A outer s H E S0 hr => by
    exact ⟨_, (pss_cons (ps_set (i := 2) sc__law_mixed.nd rfl (by first | exact Or.inl rfl | exact Or.inr rfl) (pe_op op_modN (pe_callTy call_intX rfl T.n_int bt_int (pa_cons (pe_op opx_add (pe_op opx_add (pe_op opx_mul (pv 0) pe_int) (pe_op opx_mul (pv 1) pe_int)) pe_int) pa_nil)) pe_int)) (pss_cons (ps_set (i := 3) sc__law_mixed.nd rfl (by first | exact Or.inl rfl | exact Or.inr rfl) (pe_op op_modN (pe_callTy call_intX rfl T.n_int bt_int (pa_cons (pe_op opx_add (pe_op opx_add (pe_op opx_mul (pv 2) (pv 2)) (pe_op opx_mul (pv 1) pe_int)) (pe_op opx_fdiv (pv 2) pe_int)) pa_nil)) pe_int)) (pss_one (ps_ret (pe_op opx_fdiv (pe_callTy call_intX rfl T.n_int bt_int (pa_cons (pe_op op_modN (pe_callTy call_intX rfl T.n_int bt_int (pa_cons (pe_op opx_add (pe_op opx_mul (pv 3) pe_int) (pe_op opx_fdiv (pv 2) pe_int)) pa_nil)) pe_int) pa_nil)) pe_int))))),
      (sv_seq (sv_set (ev_op opd_mod (ev_cb cad_int (ea_cons (ev_op opd_add (ev_op opd_add (ev_op opd_mul ev_var (ev_int _)) (ev_op opd_mul ev_var (ev_int _))) (ev_int _)) ea_nil)) (ev_int _))) (sv_seq (sv_set (ev_op opd_mod (ev_cb cad_int (ea_cons (ev_op opd_add (ev_op opd_add (ev_op opd_mul ev_var ev_var) (ev_op opd_mul ev_var (ev_int _))) (ev_op opd_fdiv ev_var (ev_int _))) ea_nil)) (ev_int _))) (sv_ret (ev_op opd_fdiv (ev_cb cad_int (ea_cons (ev_op opd_mod (ev_cb cad_int (ea_cons (ev_op opd_add (ev_op opd_mul ev_var (ev_int _)) (ev_op opd_fdiv ev_var (ev_int _))) ea_nil)) (ev_int _)) ea_nil)) (ev_int _)))))⟩)
/-! _law_take -/
def m__law_take : Py.Env → Out :=
  (sSeq ((sIf ((tfAnd ((tfB (eBin dEq ((eIxOwn 0 (eC (.int 2)))) (eC (.int 0))))) ((tfB (eBin dLt ((eIxOwn 0 (eC (.int 1)))) ((aF dLen ((aCons ((eIxOwn 0 (eC (.int 0)))) aNil))))))))) ((sSeq ((sSet 2 ((eBin dIx ((eIxOwn 0 (eC (.int 0)))) ((eIxOwn 0 (eC (.int 1)))))))) ((sSeq ((sSetIx 0 (eC (.int 1)) ((eBin dAdd ((eIxOwn 0 (eC (.int 1)))) (eC (.int 1)))))) ((sSeq ((sIf ((tfB (eBin dLt (eVar 2) ((eBin dPow (eC (.int 10)) (eC (.int 18))))))) ((sRet ((eBin dMod ((aF dInt ((aCons ((eCall 2 f__law_mixed [] ((aCons ((eBin dMod ((aF dInt ((aCons (eVar 2) aNil)))) (eC (.int 2147483399)))) (aCons ((eIxOwn 0 (eC (.int 1)))) aNil))))) aNil)))) (eVar 1))))) (sNext))) ((sSetIx 0 (eC (.int 2)) (eVar 2))))))))) (sNext))) ((sSeq ((sIf ((tfB (eBin dGt ((eIxOwn 0 (eC (.int 2)))) (eC (.int 0))))) ((sSeq ((sSet 3 ((eIxOwn 0 (eC (.int 2)))))) ((sSeq ((sSetIx 0 (eC (.int 2)) ((eBin dFdiv ((aF dInt ((aCons (eVar 3) aNil)))) (eVar 1))))) ((sRet ((eBin dMod ((aF dInt ((aCons (eVar 3) aNil)))) (eVar 1))))))))) (sNext))) ((sSeq ((sSetIx 0 (eC (.int 3)) ((eBin dMod ((aF dInt ((aCons ((eBin dAdd ((eIxOwn 0 (eC (.int 3)))) (eC (.int 1)))) aNil)))) (eC (.int 2147483549)))))) ((sRet ((eBin dMod ((aF dInt ((aCons ((eCall 2 f__law_mixed [] ((aCons ((eIxOwn 0 (eC (.int 3)))) (aCons ((eIxOwn 0 (eC (.int 1)))) aNil))))) aNil)))) (eVar 1))))))))))
def f__law_take : List D → List D → Rf (D × List D) := runH 4 m__law_take
theorem sc__law_take : FnScope ["hand", "many", "cell", "rest"] ["hand", "many"] (defScope st__law_take) := ⟨rfl, rfl, rfl, by decide +kernel, rfl, by decide +kernel, by decide +kernel⟩
theorem d__law_take {P : Program} {Γ : Gm} {mg : Str → Option Value} {base : Heap} {f : Addr} {fd : FuncData} (F : FunD Γ.K "_law_take" "_law_take" (defArgs st__law_take) (defBody st__law_take) (defScope st__law_take) [] [] f fd) (T : Tx Γ mg) (c__law_mixed_2 : OkC P Γ.w Γ.K mg base "_law_mixed" [] 1 (spP Γ 2 f__law_mixed)) :
    FnOk P Γ.w Γ.K mg base (L2.CX P Γ.w) 2 f fd ["hand", "many"] (spH Γ 2 f__law_take) :=
  okH (dvs := []) (N := ["hand", "many", "cell", "rest"]) (ps := ["hand", "many"]) (k := 1) (st := st__law_take) (x := "_law_take") (qual := "_law_take") [0] m__law_take F sc__law_take (by decide) (by decide) (fun cdv A outer s H E S0 p hr => by
    have hr1 : Room 1 _ := hr.mono (by decide)
    exact ⟨_, (pss_cons (ps_if (PW.pt (pw_and (pt_cmpR (op_eqD (hu64 hr)) (pe_ix (ix_seqK (K := Γ.K) (by rfl)) (pv 0) pe_int (fun _ _ => rfl)) pe_int (nomark _)) (pw_and1 (pt_cmpR op_lt (pe_ix (ix_seqK (K := Γ.K) (by rfl)) (pv 0) pe_int (fun _ _ => rfl)) (pe_callB call_len rfl T.n_len bt_len (pa_cons (pe_ix (ix_seqK (K := Γ.K) (by rfl)) (pv 0) pe_int (fun _ _ => rfl)) pa_nil)) (nomark _))))) (pss_cons (ps_set (i := 2) sc__law_take.nd rfl (by first | exact Or.inl rfl | exact Or.inr rfl) (pe_ix (ix_seqK (K := Γ.K) (by rfl)) (pe_ix (ix_seqK (K := Γ.K) (by rfl)) (pv 0) pe_int (fun _ _ => rfl)) (pe_ix (ix_seqK (K := Γ.K) (by rfl)) (pv 0) pe_int (fun _ _ => rfl)) (fun _ _ => rfl))) (pss_cons (ps_asg (pe_op opx_add (pe_ix (ix_seqK (K := Γ.K) (by rfl)) (pv 0) pe_int (fun _ _ => rfl)) pe_int) (pg_sub (pv 0) pe_int set_list)) (pss_cons (ps_if (pt_cmpR op_lt (pv 2) (pe_op opx_pow pe_int pe_int) (nomark _)) (pss_one (ps_ret (pe_op op_modN (pe_callTy call_intX rfl T.n_int bt_int (pa_cons (pe_callX c__law_mixed_2 hr1 (takes_of rfl rfl rfl rfl) (pa_cons (pe_op op_modN (pe_callTy call_intX rfl T.n_int bt_int (pa_cons (pv 2) pa_nil)) pe_int) (pa_cons (pe_ix (ix_seqK (K := Γ.K) (by rfl)) (pv 0) pe_int (fun _ _ => rfl)) pa_nil))) pa_nil)) (pv 1)))) pss_nil) (pss_one (ps_asg (pv 2) (pg_sub (pv 0) pe_int set_list)))))) pss_nil) (pss_cons (ps_if (pt_cmpR op_gt (pe_ix (ix_seqK (K := Γ.K) (by rfl)) (pv 0) pe_int (fun _ _ => rfl)) pe_int (nomark _)) (pss_cons (ps_set (i := 3) sc__law_take.nd rfl (by first | exact Or.inl rfl | exact Or.inr rfl) (pe_ix (ix_seqK (K := Γ.K) (by rfl)) (pv 0) pe_int (fun _ _ => rfl))) (pss_cons (ps_asg (pe_op opx_fdiv (pe_callTy call_intX rfl T.n_int bt_int (pa_cons (pv 3) pa_nil)) (pv 1)) (pg_sub (pv 0) pe_int set_list)) (pss_one (ps_ret (pe_op op_modN (pe_callTy call_intX rfl T.n_int bt_int (pa_cons (pv 3) pa_nil)) (pv 1)))))) pss_nil) (pss_cons (ps_asg (pe_op op_modN (pe_callTy call_intX rfl T.n_int bt_int (pa_cons (pe_op opx_add (pe_ix (ix_seqK (K := Γ.K) (by rfl)) (pv 0) pe_int (fun _ _ => rfl)) pe_int) pa_nil)) pe_int) (pg_sub (pv 0) pe_int set_list)) (pss_one (ps_ret (pe_op op_modN (pe_callTy call_intX rfl T.n_int bt_int (pa_cons (pe_callX c__law_mixed_2 hr1 (takes_of rfl rfl rfl rfl) (pa_cons (pe_ix (ix_seqK (K := Γ.K) (by rfl)) (pv 0) pe_int (fun _ _ => rfl)) (pa_cons (pe_ix (ix_seqK (K := Γ.K) (by rfl)) (pv 0) pe_int (fun _ _ => rfl)) pa_nil))) pa_nil)) (pv 1))))))),
      (sv_seq (sv_if (et_and (et_test (ev_op opd_eq (ev_ixOwn (ev_int _)) (ev_int _))) (et_test (ev_op opd_lt (ev_ixOwn (ev_int _)) (ev_cb cad_len (ea_cons (ev_ixOwn (ev_int _)) ea_nil))))) (sv_seq (sv_set (ev_op opd_ix (ev_ixOwn (ev_int _)) (ev_ixOwn (ev_int _)))) (sv_seq (sv_setIx (ev_op opd_add (ev_ixOwn (ev_int _)) (ev_int _)) (ev_int _)) (sv_seq (sv_if (et_test (ev_op opd_lt ev_var (ev_op opd_pow (ev_int _) (ev_int _)))) (sv_ret (ev_op opd_mod (ev_cb cad_int (ea_cons (ev_call (ea_cons (ev_op opd_mod (ev_cb cad_int (ea_cons ev_var ea_nil)) (ev_int _)) (ea_cons (ev_ixOwn (ev_int _)) ea_nil)) nil_ds) ea_nil)) ev_var)) sv_next) (sv_setIx ev_var (ev_int _))))) sv_next) (sv_seq (sv_if (et_test (ev_op opd_gt (ev_ixOwn (ev_int _)) (ev_int _))) (sv_seq (sv_set (ev_ixOwn (ev_int _))) (sv_seq (sv_setIx (ev_op opd_fdiv (ev_cb cad_int (ea_cons ev_var ea_nil)) ev_var) (ev_int _)) (sv_ret (ev_op opd_mod (ev_cb cad_int (ea_cons ev_var ea_nil)) ev_var)))) sv_next) (sv_seq (sv_setIx (ev_op opd_mod (ev_cb cad_int (ea_cons (ev_op opd_add (ev_ixOwn (ev_int _)) (ev_int _)) ea_nil)) (ev_int _)) (ev_int _)) (sv_ret (ev_op opd_mod (ev_cb cad_int (ea_cons (ev_call (ea_cons (ev_ixOwn (ev_int _)) (ea_cons (ev_ixOwn (ev_int _)) ea_nil)) nil_ds) ea_nil)) ev_var)))))⟩)
/-! _law_thing -/
def m__law_thing : Py.Env → Out :=
  (sSeq ((sSet 1 ((eBin dSub ((eCallH 0 2 f__law_take ((aCons ((eBin dPow (eC (.int 10)) (eC (.int 9)))) aNil)))) ((eBin dMul (eC (.int 5)) ((eBin dPow (eC (.int 10)) (eC (.int 8)))))))))) ((sRet ((eBin dIx ((aF dTup ((aCons (eVar 1) (aCons (eC (.str "rows")) (aCons ((aF dTup ((aCons (eVar 1) (aCons (eC (.int 2)) aNil))))) (aCons ((aF dTup ((aCons ((aF dTup ((aCons (eC (.int 1)) (aCons (eC (.int 0)) aNil))))) (aCons ((aF dTup ((aCons (eC (.int 0)) (aCons (eVar 1) aNil))))) aNil))))) (aCons (eC .non) (aCons (eC (.bl true)) (aCons (eC (.str "")) (aCons (eC (.int 0)) aNil))))))))))) ((eCallH 0 2 f__law_take ((aCons (eC (.int 8)) aNil)))))))))
def f__law_thing : List D → List D → Rf (D × List D) := runH 2 m__law_thing
theorem sc__law_thing : FnScope ["hand", "number"] ["hand"] (defScope st__law_thing) := ⟨rfl, rfl, rfl, by decide +kernel, rfl, by decide +kernel, by decide +kernel⟩
theorem d__law_thing {P : Program} {Γ : Gm} {mg : Str → Option Value} {base : Heap} {f : Addr} {fd : FuncData} (F : FunD Γ.K "_law_thing" "_law_thing" (defArgs st__law_thing) (defBody st__law_thing) (defScope st__law_thing) [] [] f fd) (T : Tx Γ mg) (c__law_take_2 : OkC P Γ.w Γ.K mg base "_law_take" [] 2 (spH Γ 2 f__law_take)) :
    FnOk P Γ.w Γ.K mg base (L2.CX P Γ.w) 3 f fd ["hand"] (spH Γ 1 f__law_thing) :=
  okH (dvs := []) (N := ["hand", "number"]) (ps := ["hand"]) (k := 2) (st := st__law_thing) (x := "_law_thing") (qual := "_law_thing") [0] m__law_thing F sc__law_thing (by decide) (by decide) (fun cdv A outer s H E S0 p hr => by
    have hr2 : Room 2 _ := hr.mono (by decide)
    exact ⟨_, (pss_cons (ps_set (i := 1) sc__law_thing.nd rfl (by first | exact Or.inl rfl | exact Or.inr rfl) (pe_op op_sub (pe_callX c__law_take_2 hr2 (takes_of rfl rfl rfl rfl) (pa_cons (pv 0) (pa_cons (pe_op opx_pow pe_int pe_int) pa_nil))) (pe_op opx_mul pe_int (pe_op opx_pow pe_int pe_int)))) (pss_one (ps_ret (pe_ix (ix_seqK (K := Γ.K) (by rfl)) (pe_tup (pa_cons (pv 1) (pa_cons pe_str (pa_cons (pe_tup (pa_cons (pv 1) (pa_cons pe_int pa_nil))) (pa_cons (pe_tup (pa_cons (pe_tup (pa_cons pe_int (pa_cons pe_int pa_nil))) (pa_cons (pe_tup (pa_cons pe_int (pa_cons (pv 1) pa_nil))) pa_nil))) (pa_cons pe_non (pa_cons pe_bl (pa_cons pe_str (pa_cons pe_int pa_nil))))))))) (pe_callX c__law_take_2 hr2 (takes_of rfl rfl rfl rfl) (pa_cons (pv 0) (pa_cons pe_int pa_nil))) (fun _ _ => rfl))))),
      (sv_seq (sv_set (ev_op opd_sub (ev_callH (ea_cons (ev_op opd_pow (ev_int _) (ev_int _)) ea_nil)) (ev_op opd_mul (ev_int _) (ev_op opd_pow (ev_int _) (ev_int _))))) (sv_ret (ev_op opd_ix (ev_tup (ea_cons ev_var (ea_cons (ev_str _) (ea_cons (ev_tup (ea_cons ev_var (ea_cons (ev_int _) ea_nil))) (ea_cons (ev_tup (ea_cons (ev_tup (ea_cons (ev_int _) (ea_cons (ev_int _) ea_nil))) (ea_cons (ev_tup (ea_cons (ev_int _) (ea_cons ev_var ea_nil))) ea_nil))) (ea_cons ev_non (ea_cons (ev_bl _) (ea_cons (ev_str _) (ea_cons (ev_int _) ea_nil))))))))) (ev_callH (ea_cons (ev_int _) ea_nil)))))⟩)
/-! _law_plain -/
def m__law_plain : Py.Env → Out :=
  (sRet ((aF dLst ((aCons ((eMkP 2)) (aCons ((eMkP 7)) (aCons ((eMkP 10)) (aCons ((eMkP 11)) (aCons ((eMkP 20)) (aCons ((eMkP 23)) (aCons ((eMkP 25)) (aCons ((eMkP 26)) (aCons ((eMkP 27)) (aCons ((eMkP 28)) (aCons ((eMkP 30)) (aCons ((eMkP 31)) (aCons ((eMkP 33)) (aCons ((eMkP 34)) (aCons ((eMkP 36)) (aCons ((eMkP 42)) (aCons ((eMkP 47)) (aCons ((eMkP 52)) aNil))))))))))))))))))))))
def f__law_plain : List D → Rf D := runF 0 m__law_plain
theorem sc__law_plain : FnScope [] [] (defScope st__law_plain) := ⟨rfl, rfl, rfl, by decide +kernel, rfl, by decide +kernel, by decide +kernel⟩
theorem d__law_plain {P : Program} {Γ : Gm} {mg : Str → Option Value} {base : Heap} {f : Addr} {fd : FuncData} (F : FunD Γ.K "_law_plain" "_law_plain" (defArgs st__law_plain) (defBody st__law_plain) (defScope st__law_plain) [] [] f fd) (T : Tx Γ mg) (x_NoPlane : ExcI P Γ.w Γ.K mg base "NoPlane" (Γ.cl 10) (spI0 (Γ.cl 10))) (x_BadKind : ExcI P Γ.w Γ.K mg base "BadKind" (Γ.cl 11) (spI0 (Γ.cl 11))) (x_Unlike : ExcI P Γ.w Γ.K mg base "Unlike" (Γ.cl 20) (spI0 (Γ.cl 20))) (x_BadBasis : ExcI P Γ.w Γ.K mg base "BadBasis" (Γ.cl 23) (spI0 (Γ.cl 23))) (y_BadLetters : ExcP Γ.K mg "BadLetters" (Γ.cl 2)) (y_BadOrder : ExcP Γ.K mg "BadOrder" (Γ.cl 7)) (y_BadNumbers : ExcP Γ.K mg "BadNumbers" (Γ.cl 25)) (y_BadScale : ExcP Γ.K mg "BadScale" (Γ.cl 26)) (y_NotAlong : ExcP Γ.K mg "NotAlong" (Γ.cl 27)) (y_TooGreat : ExcP Γ.K mg "TooGreat" (Γ.cl 28)) (y_BadRoom : ExcP Γ.K mg "BadRoom" (Γ.cl 30)) (y_NotCover : ExcP Γ.K mg "NotCover" (Γ.cl 31)) (y_BadKeeping : ExcP Γ.K mg "BadKeeping" (Γ.cl 33)) (y_TooSmall : ExcP Γ.K mg "TooSmall" (Γ.cl 34)) (y_BadStretch : ExcP Γ.K mg "BadStretch" (Γ.cl 36)) (y_BadLength : ExcP Γ.K mg "BadLength" (Γ.cl 42)) (y_BadChange : ExcP Γ.K mg "BadChange" (Γ.cl 47)) (y_NothingPut : ExcP Γ.K mg "NothingPut" (Γ.cl 52)) :
    FnOk P Γ.w Γ.K mg base (L2.CX P Γ.w) 3 f fd [] (spP Γ 0 f__law_plain) :=
  okP (dvs := []) (N := []) (ps := []) (k := 2) (st := st__law_plain) (x := "_law_plain") (qual := "_law_plain") [] m__law_plain F sc__law_plain (by decide) (fun cdv A outer s H E S0 hr => by
    have hr2 : Room 2 _ := hr.mono (by decide)
    exact ⟨_, (pss_one (ps_ret (pe_lst (pa_cons (pe_mkP y_BadLetters) (pa_cons (pe_mkP y_BadOrder) (pa_cons (pe_mkV0 x_NoPlane hr2 passL) (pa_cons (pe_mkV0 x_BadKind hr2 passL) (pa_cons (pe_mkV0 x_Unlike hr2 passL) (pa_cons (pe_mkV0 x_BadBasis hr2 passL) (pa_cons (pe_mkP y_BadNumbers) (pa_cons (pe_mkP y_BadScale) (pa_cons (pe_mkP y_NotAlong) (pa_cons (pe_mkP y_TooGreat) (pa_cons (pe_mkP y_BadRoom) (pa_cons (pe_mkP y_NotCover) (pa_cons (pe_mkP y_BadKeeping) (pa_cons (pe_mkP y_TooSmall) (pa_cons (pe_mkP y_BadStretch) (pa_cons (pe_mkP y_BadLength) (pa_cons (pe_mkP y_BadChange) (pa_cons (pe_mkP y_NothingPut) pa_nil))))))))))))))))))))),
      (sv_ret (ev_lst (ea_cons ev_mkP (ea_cons ev_mkP (ea_cons ev_mk0 (ea_cons ev_mk0 (ea_cons ev_mk0 (ea_cons ev_mk0 (ea_cons ev_mkP (ea_cons ev_mkP (ea_cons ev_mkP (ea_cons ev_mkP (ea_cons ev_mkP (ea_cons ev_mkP (ea_cons ev_mkP (ea_cons ev_mkP (ea_cons ev_mkP (ea_cons ev_mkP (ea_cons ev_mkP (ea_cons ev_mkP ea_nil))))))))))))))))))))⟩)
/-! _law_single -/
def m__law_single : Py.Env → Out :=
  (sRet ((aF dLst ((aCons ((eMk1 1 "what" (eVar 0))) (aCons ((eMk1 3 "index" (eVar 0))) (aCons ((eMk1 4 "index" (eVar 0))) (aCons ((eMk1 6 "array" (eVar 0))) (aCons ((eMk1 8 "index" (eVar 0))) (aCons ((eMk1 9 "rank" (eVar 0))) (aCons ((eMk1 13 "space" (eVar 0))) (aCons ((eMk1 15 "array" (eVar 0))) (aCons ((eMk1 16 "array" (eVar 0))) (aCons ((eMk1 17 "index" (eVar 0))) (aCons ((eMk1 18 "index" (eVar 0))) (aCons ((eMk1 19 "count" (eVar 0))) (aCons ((eMk1 21 "index" (eVar 0))) (aCons ((eMk1 22 "index" (eVar 0))) (aCons ((eMk1 24 "what" (eVar 0))) (aCons ((eMk1 29 "body" (eVar 0))) (aCons ((eMk1 32 "size" (eVar 0))) (aCons ((eMk1 35 "index" (eVar 0))) (aCons ((eMk1 37 "index" (eVar 0))) (aCons ((eMk1 38 "index" (eVar 0))) (aCons ((eMk1 39 "array" (eVar 0))) (aCons ((eMk1 40 "what" (eVar 0))) (aCons ((eMk1 41 "index" (eVar 0))) (aCons ((eMk1 43 "letter" (eVar 0))) (aCons ((eMk1 44 "index" (eVar 0))) (aCons ((eMk1 45 "letter" (eVar 0))) (aCons ((eMk1 48 "index" (eVar 0))) (aCons ((eMk1 49 "index" (eVar 0))) (aCons ((eMk1 50 "index" (eVar 0))) (aCons ((eMk1 51 "index" (eVar 0))) aNil))))))))))))))))))))))))))))))))))
def f__law_single : List D → Rf D := runF 1 m__law_single
theorem sc__law_single : FnScope ["one"] ["one"] (defScope st__law_single) := ⟨rfl, rfl, rfl, by decide +kernel, rfl, by decide +kernel, by decide +kernel⟩
theorem d__law_single {P : Program} {Γ : Gm} {mg : Str → Option Value} {base : Heap} {f : Addr} {fd : FuncData} (F : FunD Γ.K "_law_single" "_law_single" (defArgs st__law_single) (defBody st__law_single) (defScope st__law_single) [] [] f fd) (T : Tx Γ mg) (x_BadRatio : ExcI P Γ.w Γ.K mg base "BadRatio" (Γ.cl 1) (spI1 (Γ.cl 1) "what")) (x_BadBody : ExcI P Γ.w Γ.K mg base "BadBody" (Γ.cl 3) (spI1 (Γ.cl 3) "index")) (x_BadSpace : ExcI P Γ.w Γ.K mg base "BadSpace" (Γ.cl 4) (spI1 (Γ.cl 4) "index")) (x_BadArray : ExcI P Γ.w Γ.K mg base "BadArray" (Γ.cl 6) (spI1 (Γ.cl 6) "array")) (x_BadText : ExcI P Γ.w Γ.K mg base "BadText" (Γ.cl 8) (spI1 (Γ.cl 8) "index")) (x_BadRank : ExcI P Γ.w Γ.K mg base "BadRank" (Γ.cl 9) (spI1 (Γ.cl 9) "rank")) (x_NotRight : ExcI P Γ.w Γ.K mg base "NotRight" (Γ.cl 13) (spI1 (Γ.cl 13) "space")) (x_BadWorths : ExcI P Γ.w Γ.K mg base "BadWorths" (Γ.cl 15) (spI1 (Γ.cl 15) "array")) (x_BadCounts : ExcI P Γ.w Γ.K mg base "BadCounts" (Γ.cl 16) (spI1 (Γ.cl 16) "array")) (x_BadPrices : ExcI P Γ.w Γ.K mg base "BadPrices" (Γ.cl 17) (spI1 (Γ.cl 17) "index")) (x_BadKinds : ExcI P Γ.w Γ.K mg base "BadKinds" (Γ.cl 18) (spI1 (Γ.cl 18) "index")) (x_TooMany : ExcI P Γ.w Γ.K mg base "TooMany" (Γ.cl 19) (spI1 (Γ.cl 19) "count")) (x_BadDemands : ExcI P Γ.w Γ.K mg base "BadDemands" (Γ.cl 21) (spI1 (Γ.cl 21) "index")) (x_BadChain : ExcI P Γ.w Γ.K mg base "BadChain" (Γ.cl 22) (spI1 (Γ.cl 22) "index")) (x_BadTile : ExcI P Γ.w Γ.K mg base "BadTile" (Γ.cl 24) (spI1 (Γ.cl 24) "what")) (x_NoSum : ExcI P Γ.w Γ.K mg base "NoSum" (Γ.cl 29) (spI1 (Γ.cl 29) "body")) (x_BadSize : ExcI P Γ.w Γ.K mg base "BadSize" (Γ.cl 32) (spI1 (Γ.cl 32) "size")) (x_BadSpots : ExcI P Γ.w Γ.K mg base "BadSpots" (Γ.cl 35) (spI1 (Γ.cl 35) "index")) (x_BadStops : ExcI P Γ.w Γ.K mg base "BadStops" (Γ.cl 37) (spI1 (Γ.cl 37) "index")) (x_BadBox : ExcI P Γ.w Γ.K mg base "BadBox" (Γ.cl 38) (spI1 (Γ.cl 38) "index")) (x_BadValues : ExcI P Γ.w Γ.K mg base "BadValues" (Γ.cl 39) (spI1 (Γ.cl 39) "array")) (x_BadRun : ExcI P Γ.w Γ.K mg base "BadRun" (Γ.cl 40) (spI1 (Γ.cl 40) "what")) (x_BadLengths : ExcI P Γ.w Γ.K mg base "BadLengths" (Γ.cl 41) (spI1 (Γ.cl 41) "index")) (x_BadLetter : ExcI P Γ.w Γ.K mg base "BadLetter" (Γ.cl 43) (spI1 (Γ.cl 43) "letter")) (x_BadLimits : ExcI P Γ.w Γ.K mg base "BadLimits" (Γ.cl 44) (spI1 (Γ.cl 44) "index")) (x_TooLong : ExcI P Γ.w Γ.K mg base "TooLong" (Γ.cl 45) (spI1 (Γ.cl 45) "letter")) (x_BadEdit : ExcI P Γ.w Γ.K mg base "BadEdit" (Γ.cl 48) (spI1 (Γ.cl 48) "index")) (x_BadGoal : ExcI P Γ.w Γ.K mg base "BadGoal" (Γ.cl 49) (spI1 (Γ.cl 49) "index")) (x_BadPool : ExcI P Γ.w Γ.K mg base "BadPool" (Γ.cl 50) (spI1 (Γ.cl 50) "index")) (x_AlreadyMissed : ExcI P Γ.w Γ.K mg base "AlreadyMissed" (Γ.cl 51) (spI1 (Γ.cl 51) "index")) :
    FnOk P Γ.w Γ.K mg base (L2.CX P Γ.w) 3 f fd ["one"] (spP Γ 1 f__law_single) :=
  okP (dvs := []) (N := ["one"]) (ps := ["one"]) (k := 2) (st := st__law_single) (x := "_law_single") (qual := "_law_single") [] m__law_single F sc__law_single (by decide) (fun cdv A outer s H E S0 hr => by
    have hr2 : Room 2 _ := hr.mono (by decide)
    exact ⟨_, (pss_one (ps_ret (pe_lst (pa_cons (pe_mkV x_BadRatio hr2 passL (pa_cons (pv 0) pa_nil)) (pa_cons (pe_mkV x_BadBody hr2 passL (pa_cons (pv 0) pa_nil)) (pa_cons (pe_mkV x_BadSpace hr2 passL (pa_cons (pv 0) pa_nil)) (pa_cons (pe_mkV x_BadArray hr2 passL (pa_cons (pv 0) pa_nil)) (pa_cons (pe_mkV x_BadText hr2 passL (pa_cons (pv 0) pa_nil)) (pa_cons (pe_mkV x_BadRank hr2 passL (pa_cons (pv 0) pa_nil)) (pa_cons (pe_mkV x_NotRight hr2 passL (pa_cons (pv 0) pa_nil)) (pa_cons (pe_mkV x_BadWorths hr2 passL (pa_cons (pv 0) pa_nil)) (pa_cons (pe_mkV x_BadCounts hr2 passL (pa_cons (pv 0) pa_nil)) (pa_cons (pe_mkV x_BadPrices hr2 passL (pa_cons (pv 0) pa_nil)) (pa_cons (pe_mkV x_BadKinds hr2 passL (pa_cons (pv 0) pa_nil)) (pa_cons (pe_mkV x_TooMany hr2 passL (pa_cons (pv 0) pa_nil)) (pa_cons (pe_mkV x_BadDemands hr2 passL (pa_cons (pv 0) pa_nil)) (pa_cons (pe_mkV x_BadChain hr2 passL (pa_cons (pv 0) pa_nil)) (pa_cons (pe_mkV x_BadTile hr2 passL (pa_cons (pv 0) pa_nil)) (pa_cons (pe_mkV x_NoSum hr2 passL (pa_cons (pv 0) pa_nil)) (pa_cons (pe_mkV x_BadSize hr2 passL (pa_cons (pv 0) pa_nil)) (pa_cons (pe_mkV x_BadSpots hr2 passL (pa_cons (pv 0) pa_nil)) (pa_cons (pe_mkV x_BadStops hr2 passL (pa_cons (pv 0) pa_nil)) (pa_cons (pe_mkV x_BadBox hr2 passL (pa_cons (pv 0) pa_nil)) (pa_cons (pe_mkV x_BadValues hr2 passL (pa_cons (pv 0) pa_nil)) (pa_cons (pe_mkV x_BadRun hr2 passL (pa_cons (pv 0) pa_nil)) (pa_cons (pe_mkV x_BadLengths hr2 passL (pa_cons (pv 0) pa_nil)) (pa_cons (pe_mkV x_BadLetter hr2 passL (pa_cons (pv 0) pa_nil)) (pa_cons (pe_mkV x_BadLimits hr2 passL (pa_cons (pv 0) pa_nil)) (pa_cons (pe_mkV x_TooLong hr2 passL (pa_cons (pv 0) pa_nil)) (pa_cons (pe_mkV x_BadEdit hr2 passL (pa_cons (pv 0) pa_nil)) (pa_cons (pe_mkV x_BadGoal hr2 passL (pa_cons (pv 0) pa_nil)) (pa_cons (pe_mkV x_BadPool hr2 passL (pa_cons (pv 0) pa_nil)) (pa_cons (pe_mkV x_AlreadyMissed hr2 passL (pa_cons (pv 0) pa_nil)) pa_nil))))))))))))))))))))))))))))))))),
      (sv_ret (ev_lst (ea_cons (ev_mk1 ev_var) (ea_cons (ev_mk1 ev_var) (ea_cons (ev_mk1 ev_var) (ea_cons (ev_mk1 ev_var) (ea_cons (ev_mk1 ev_var) (ea_cons (ev_mk1 ev_var) (ea_cons (ev_mk1 ev_var) (ea_cons (ev_mk1 ev_var) (ea_cons (ev_mk1 ev_var) (ea_cons (ev_mk1 ev_var) (ea_cons (ev_mk1 ev_var) (ea_cons (ev_mk1 ev_var) (ea_cons (ev_mk1 ev_var) (ea_cons (ev_mk1 ev_var) (ea_cons (ev_mk1 ev_var) (ea_cons (ev_mk1 ev_var) (ea_cons (ev_mk1 ev_var) (ea_cons (ev_mk1 ev_var) (ea_cons (ev_mk1 ev_var) (ea_cons (ev_mk1 ev_var) (ea_cons (ev_mk1 ev_var) (ea_cons (ev_mk1 ev_var) (ea_cons (ev_mk1 ev_var) (ea_cons (ev_mk1 ev_var) (ea_cons (ev_mk1 ev_var) (ea_cons (ev_mk1 ev_var) (ea_cons (ev_mk1 ev_var) (ea_cons (ev_mk1 ev_var) (ea_cons (ev_mk1 ev_var) (ea_cons (ev_mk1 ev_var) ea_nil))))))))))))))))))))))))))))))))⟩)
/-! _law_double -/
def m__law_double : Py.Env → Out :=
  (sRet ((aF dLst ((aCons ((eMk2 5 "what" "array" (eVar 0) (eVar 1))) (aCons ((eMk2 12 "index" "what" (eVar 0) (eVar 1))) (aCons ((eMk2 14 "index" "what" (eVar 0) (eVar 1))) (aCons ((eMk2 46 "index" "what" (eVar 0) (eVar 1))) aNil))))))))
def f__law_double : List D → Rf D := runF 2 m__law_double
theorem sc__law_double : FnScope ["one", "other"] ["one", "other"] (defScope st__law_double) := ⟨rfl, rfl, rfl, by decide +kernel, rfl, by decide +kernel, by decide +kernel⟩
theorem d__law_double {P : Program} {Γ : Gm} {mg : Str → Option Value} {base : Heap} {f : Addr} {fd : FuncData} (F : FunD Γ.K "_law_double" "_law_double" (defArgs st__law_double) (defBody st__law_double) (defScope st__law_double) [] [] f fd) (T : Tx Γ mg) (x_BadNest : ExcI P Γ.w Γ.K mg base "BadNest" (Γ.cl 5) (spI2 (Γ.cl 5) "what" "array")) (x_BadWeights : ExcI P Γ.w Γ.K mg base "BadWeights" (Γ.cl 12) (spI2 (Γ.cl 12) "index" "what")) (x_BadBag : ExcI P Γ.w Γ.K mg base "BadBag" (Γ.cl 14) (spI2 (Γ.cl 14) "index" "what")) (x_BadUses : ExcI P Γ.w Γ.K mg base "BadUses" (Γ.cl 46) (spI2 (Γ.cl 46) "index" "what")) :
    FnOk P Γ.w Γ.K mg base (L2.CX P Γ.w) 3 f fd ["one", "other"] (spP Γ 2 f__law_double) :=
  okP (dvs := []) (N := ["one", "other"]) (ps := ["one", "other"]) (k := 2) (st := st__law_double) (x := "_law_double") (qual := "_law_double") [] m__law_double F sc__law_double (by decide) (fun cdv A outer s H E S0 hr => by
    have hr2 : Room 2 _ := hr.mono (by decide)
    exact ⟨_, (pss_one (ps_ret (pe_lst (pa_cons (pe_mkV x_BadNest hr2 passL (pa_cons (pv 0) (pa_cons (pv 1) pa_nil))) (pa_cons (pe_mkV x_BadWeights hr2 passL (pa_cons (pv 0) (pa_cons (pv 1) pa_nil))) (pa_cons (pe_mkV x_BadBag hr2 passL (pa_cons (pv 0) (pa_cons (pv 1) pa_nil))) (pa_cons (pe_mkV x_BadUses hr2 passL (pa_cons (pv 0) (pa_cons (pv 1) pa_nil))) pa_nil))))))),
      (sv_ret (ev_lst (ea_cons (ev_mk2 ev_var ev_var) (ea_cons (ev_mk2 ev_var ev_var) (ea_cons (ev_mk2 ev_var ev_var) (ea_cons (ev_mk2 ev_var ev_var) ea_nil))))))⟩)
/-! _law_plain_kinds -/
def m__law_plain_kinds : Py.Env → Out :=
  (sRet ((aF dLst ((aCons ((eUn (dIsiX tx_BadLetters) (eVar 0))) (aCons ((eUn (dIsiX tx_BadOrder) (eVar 0))) (aCons ((eUn (dIsiX tx_NoPlane) (eVar 0))) (aCons ((eUn (dIsiX tx_BadKind) (eVar 0))) (aCons ((eUn (dIsiX tx_Unlike) (eVar 0))) (aCons ((eUn (dIsiX tx_BadBasis) (eVar 0))) (aCons ((eUn (dIsiX tx_BadNumbers) (eVar 0))) (aCons ((eUn (dIsiX tx_BadScale) (eVar 0))) (aCons ((eUn (dIsiX tx_NotAlong) (eVar 0))) (aCons ((eUn (dIsiX tx_TooGreat) (eVar 0))) (aCons ((eUn (dIsiX tx_BadRoom) (eVar 0))) (aCons ((eUn (dIsiX tx_NotCover) (eVar 0))) (aCons ((eUn (dIsiX tx_BadKeeping) (eVar 0))) (aCons ((eUn (dIsiX tx_TooSmall) (eVar 0))) (aCons ((eUn (dIsiX tx_BadStretch) (eVar 0))) (aCons ((eUn (dIsiX tx_BadLength) (eVar 0))) (aCons ((eUn (dIsiX tx_BadChange) (eVar 0))) (aCons ((eUn (dIsiX tx_NothingPut) (eVar 0))) aNil))))))))))))))))))))))
def f__law_plain_kinds : List D → Rf D := runF 1 m__law_plain_kinds
theorem sc__law_plain_kinds : FnScope ["x"] ["x"] (defScope st__law_plain_kinds) := ⟨rfl, rfl, rfl, by decide +kernel, rfl, by decide +kernel, by decide +kernel⟩
theorem d__law_plain_kinds {P : Program} {Γ : Gm} {mg : Str → Option Value} {base : Heap} {f : Addr} {fd : FuncData} (F : FunD Γ.K "_law_plain_kinds" "_law_plain_kinds" (defArgs st__law_plain_kinds) (defBody st__law_plain_kinds) (defScope st__law_plain_kinds) [] [] f fd) (T : Tx Γ mg) :
    FnOk P Γ.w Γ.K mg base (L2.CX P Γ.w) 1 f fd ["x"] (spP Γ 1 f__law_plain_kinds) :=
  okP (dvs := []) (N := ["x"]) (ps := ["x"]) (k := 0) (st := st__law_plain_kinds) (x := "_law_plain_kinds") (qual := "_law_plain_kinds") [] m__law_plain_kinds F sc__law_plain_kinds (by decide) (fun cdv A outer s H E S0 hr => by
    exact ⟨_, (pss_one (ps_ret (pe_lst (pa_cons (pe_callB call_isV rfl T.n_isinstance bt_isinstance (pa_cons (pv 0) (pa_cons (pe_glob (v := .ref (Γ.cl 2)) rfl T.c_BadLetters rfl) pa_nil))) (pa_cons (pe_callB call_isV rfl T.n_isinstance bt_isinstance (pa_cons (pv 0) (pa_cons (pe_glob (v := .ref (Γ.cl 7)) rfl T.c_BadOrder rfl) pa_nil))) (pa_cons (pe_callB call_isV rfl T.n_isinstance bt_isinstance (pa_cons (pv 0) (pa_cons (pe_glob (v := .ref (Γ.cl 10)) rfl T.c_NoPlane rfl) pa_nil))) (pa_cons (pe_callB call_isV rfl T.n_isinstance bt_isinstance (pa_cons (pv 0) (pa_cons (pe_glob (v := .ref (Γ.cl 11)) rfl T.c_BadKind rfl) pa_nil))) (pa_cons (pe_callB call_isV rfl T.n_isinstance bt_isinstance (pa_cons (pv 0) (pa_cons (pe_glob (v := .ref (Γ.cl 20)) rfl T.c_Unlike rfl) pa_nil))) (pa_cons (pe_callB call_isV rfl T.n_isinstance bt_isinstance (pa_cons (pv 0) (pa_cons (pe_glob (v := .ref (Γ.cl 23)) rfl T.c_BadBasis rfl) pa_nil))) (pa_cons (pe_callB call_isV rfl T.n_isinstance bt_isinstance (pa_cons (pv 0) (pa_cons (pe_glob (v := .ref (Γ.cl 25)) rfl T.c_BadNumbers rfl) pa_nil))) (pa_cons (pe_callB call_isV rfl T.n_isinstance bt_isinstance (pa_cons (pv 0) (pa_cons (pe_glob (v := .ref (Γ.cl 26)) rfl T.c_BadScale rfl) pa_nil))) (pa_cons (pe_callB call_isV rfl T.n_isinstance bt_isinstance (pa_cons (pv 0) (pa_cons (pe_glob (v := .ref (Γ.cl 27)) rfl T.c_NotAlong rfl) pa_nil))) (pa_cons (pe_callB call_isV rfl T.n_isinstance bt_isinstance (pa_cons (pv 0) (pa_cons (pe_glob (v := .ref (Γ.cl 28)) rfl T.c_TooGreat rfl) pa_nil))) (pa_cons (pe_callB call_isV rfl T.n_isinstance bt_isinstance (pa_cons (pv 0) (pa_cons (pe_glob (v := .ref (Γ.cl 30)) rfl T.c_BadRoom rfl) pa_nil))) (pa_cons (pe_callB call_isV rfl T.n_isinstance bt_isinstance (pa_cons (pv 0) (pa_cons (pe_glob (v := .ref (Γ.cl 31)) rfl T.c_NotCover rfl) pa_nil))) (pa_cons (pe_callB call_isV rfl T.n_isinstance bt_isinstance (pa_cons (pv 0) (pa_cons (pe_glob (v := .ref (Γ.cl 33)) rfl T.c_BadKeeping rfl) pa_nil))) (pa_cons (pe_callB call_isV rfl T.n_isinstance bt_isinstance (pa_cons (pv 0) (pa_cons (pe_glob (v := .ref (Γ.cl 34)) rfl T.c_TooSmall rfl) pa_nil))) (pa_cons (pe_callB call_isV rfl T.n_isinstance bt_isinstance (pa_cons (pv 0) (pa_cons (pe_glob (v := .ref (Γ.cl 36)) rfl T.c_BadStretch rfl) pa_nil))) (pa_cons (pe_callB call_isV rfl T.n_isinstance bt_isinstance (pa_cons (pv 0) (pa_cons (pe_glob (v := .ref (Γ.cl 42)) rfl T.c_BadLength rfl) pa_nil))) (pa_cons (pe_callB call_isV rfl T.n_isinstance bt_isinstance (pa_cons (pv 0) (pa_cons (pe_glob (v := .ref (Γ.cl 47)) rfl T.c_BadChange rfl) pa_nil))) (pa_cons (pe_callB call_isV rfl T.n_isinstance bt_isinstance (pa_cons (pv 0) (pa_cons (pe_glob (v := .ref (Γ.cl 52)) rfl T.c_NothingPut rfl) pa_nil))) pa_nil))))))))))))))))))))),
      (sv_ret (ev_lst (ea_cons (ev_isiX ev_var (.own _) T.ix_BadLetters) (ea_cons (ev_isiX ev_var (.own _) T.ix_BadOrder) (ea_cons (ev_isiX ev_var (.own _) T.ix_NoPlane) (ea_cons (ev_isiX ev_var (.own _) T.ix_BadKind) (ea_cons (ev_isiX ev_var (.own _) T.ix_Unlike) (ea_cons (ev_isiX ev_var (.own _) T.ix_BadBasis) (ea_cons (ev_isiX ev_var (.own _) T.ix_BadNumbers) (ea_cons (ev_isiX ev_var (.own _) T.ix_BadScale) (ea_cons (ev_isiX ev_var (.own _) T.ix_NotAlong) (ea_cons (ev_isiX ev_var (.own _) T.ix_TooGreat) (ea_cons (ev_isiX ev_var (.own _) T.ix_BadRoom) (ea_cons (ev_isiX ev_var (.own _) T.ix_NotCover) (ea_cons (ev_isiX ev_var (.own _) T.ix_BadKeeping) (ea_cons (ev_isiX ev_var (.own _) T.ix_TooSmall) (ea_cons (ev_isiX ev_var (.own _) T.ix_BadStretch) (ea_cons (ev_isiX ev_var (.own _) T.ix_BadLength) (ea_cons (ev_isiX ev_var (.own _) T.ix_BadChange) (ea_cons (ev_isiX ev_var (.own _) T.ix_NothingPut) ea_nil))))))))))))))))))))⟩)
/-! _law_single_kinds -/
def m__law_single_kinds : Py.Env → Out :=
  (sRet ((aF dLst ((aCons ((eUn (dIsiX tx_BadRatio) (eVar 0))) (aCons ((eUn (dIsiX tx_BadBody) (eVar 0))) (aCons ((eUn (dIsiX tx_BadSpace) (eVar 0))) (aCons ((eUn (dIsiX tx_BadArray) (eVar 0))) (aCons ((eUn (dIsiX tx_BadText) (eVar 0))) (aCons ((eUn (dIsiX tx_BadRank) (eVar 0))) (aCons ((eUn (dIsiX tx_NotRight) (eVar 0))) (aCons ((eUn (dIsiX tx_BadWorths) (eVar 0))) (aCons ((eUn (dIsiX tx_BadCounts) (eVar 0))) (aCons ((eUn (dIsiX tx_BadPrices) (eVar 0))) (aCons ((eUn (dIsiX tx_BadKinds) (eVar 0))) (aCons ((eUn (dIsiX tx_TooMany) (eVar 0))) (aCons ((eUn (dIsiX tx_BadDemands) (eVar 0))) (aCons ((eUn (dIsiX tx_BadChain) (eVar 0))) (aCons ((eUn (dIsiX tx_BadTile) (eVar 0))) (aCons ((eUn (dIsiX tx_NoSum) (eVar 0))) (aCons ((eUn (dIsiX tx_BadSize) (eVar 0))) (aCons ((eUn (dIsiX tx_BadSpots) (eVar 0))) (aCons ((eUn (dIsiX tx_BadStops) (eVar 0))) (aCons ((eUn (dIsiX tx_BadBox) (eVar 0))) (aCons ((eUn (dIsiX tx_BadValues) (eVar 0))) (aCons ((eUn (dIsiX tx_BadRun) (eVar 0))) (aCons ((eUn (dIsiX tx_BadLengths) (eVar 0))) (aCons ((eUn (dIsiX tx_BadLetter) (eVar 0))) (aCons ((eUn (dIsiX tx_BadLimits) (eVar 0))) (aCons ((eUn (dIsiX tx_TooLong) (eVar 0))) (aCons ((eUn (dIsiX tx_BadEdit) (eVar 0))) (aCons ((eUn (dIsiX tx_BadGoal) (eVar 0))) (aCons ((eUn (dIsiX tx_BadPool) (eVar 0))) (aCons ((eUn (dIsiX tx_AlreadyMissed) (eVar 0))) aNil))))))))))))))))))))))))))))))))))
def f__law_single_kinds : List D → Rf D := runF 1 m__law_single_kinds
theorem sc__law_single_kinds : FnScope ["x"] ["x"] (defScope st__law_single_kinds) := ⟨rfl, rfl, rfl, by decide +kernel, rfl, by decide +kernel, by decide +kernel⟩
theorem d__law_single_kinds {P : Program} {Γ : Gm} {mg : Str → Option Value} {base : Heap} {f : Addr} {fd : FuncData} (F : FunD Γ.K "_law_single_kinds" "_law_single_kinds" (defArgs st__law_single_kinds) (defBody st__law_single_kinds) (defScope st__law_single_kinds) [] [] f fd) (T : Tx Γ mg) :
    FnOk P Γ.w Γ.K mg base (L2.CX P Γ.w) 1 f fd ["x"] (spP Γ 1 f__law_single_kinds) :=
  okP (dvs := []) (N := ["x"]) (ps := ["x"]) (k := 0) (st := st__law_single_kinds) (x := "_law_single_kinds") (qual := "_law_single_kinds") [] m__law_single_kinds F sc__law_single_kinds (by decide) (fun cdv A outer s H E S0 hr => by
    exact ⟨_, (pss_one (ps_ret (pe_lst (pa_cons (pe_callB call_isV rfl T.n_isinstance bt_isinstance (pa_cons (pv 0) (pa_cons (pe_glob (v := .ref (Γ.cl 1)) rfl T.c_BadRatio rfl) pa_nil))) (pa_cons (pe_callB call_isV rfl T.n_isinstance bt_isinstance (pa_cons (pv 0) (pa_cons (pe_glob (v := .ref (Γ.cl 3)) rfl T.c_BadBody rfl) pa_nil))) (pa_cons (pe_callB call_isV rfl T.n_isinstance bt_isinstance (pa_cons (pv 0) (pa_cons (pe_glob (v := .ref (Γ.cl 4)) rfl T.c_BadSpace rfl) pa_nil))) (pa_cons (pe_callB call_isV rfl T.n_isinstance bt_isinstance (pa_cons (pv 0) (pa_cons (pe_glob (v := .ref (Γ.cl 6)) rfl T.c_BadArray rfl) pa_nil))) (pa_cons (pe_callB call_isV rfl T.n_isinstance bt_isinstance (pa_cons (pv 0) (pa_cons (pe_glob (v := .ref (Γ.cl 8)) rfl T.c_BadText rfl) pa_nil))) (pa_cons (pe_callB call_isV rfl T.n_isinstance bt_isinstance (pa_cons (pv 0) (pa_cons (pe_glob (v := .ref (Γ.cl 9)) rfl T.c_BadRank rfl) pa_nil))) (pa_cons (pe_callB call_isV rfl T.n_isinstance bt_isinstance (pa_cons (pv 0) (pa_cons (pe_glob (v := .ref (Γ.cl 13)) rfl T.c_NotRight rfl) pa_nil))) (pa_cons (pe_callB call_isV rfl T.n_isinstance bt_isinstance (pa_cons (pv 0) (pa_cons (pe_glob (v := .ref (Γ.cl 15)) rfl T.c_BadWorths rfl) pa_nil))) (pa_cons (pe_callB call_isV rfl T.n_isinstance bt_isinstance (pa_cons (pv 0) (pa_cons (pe_glob (v := .ref (Γ.cl 16)) rfl T.c_BadCounts rfl) pa_nil))) (pa_cons (pe_callB call_isV rfl T.n_isinstance bt_isinstance (pa_cons (pv 0) (pa_cons (pe_glob (v := .ref (Γ.cl 17)) rfl T.c_BadPrices rfl) pa_nil))) (pa_cons (pe_callB call_isV rfl T.n_isinstance bt_isinstance (pa_cons (pv 0) (pa_cons (pe_glob (v := .ref (Γ.cl 18)) rfl T.c_BadKinds rfl) pa_nil))) (pa_cons (pe_callB call_isV rfl T.n_isinstance bt_isinstance (pa_cons (pv 0) (pa_cons (pe_glob (v := .ref (Γ.cl 19)) rfl T.c_TooMany rfl) pa_nil))) (pa_cons (pe_callB call_isV rfl T.n_isinstance bt_isinstance (pa_cons (pv 0) (pa_cons (pe_glob (v := .ref (Γ.cl 21)) rfl T.c_BadDemands rfl) pa_nil))) (pa_cons (pe_callB call_isV rfl T.n_isinstance bt_isinstance (pa_cons (pv 0) (pa_cons (pe_glob (v := .ref (Γ.cl 22)) rfl T.c_BadChain rfl) pa_nil))) (pa_cons (pe_callB call_isV rfl T.n_isinstance bt_isinstance (pa_cons (pv 0) (pa_cons (pe_glob (v := .ref (Γ.cl 24)) rfl T.c_BadTile rfl) pa_nil))) (pa_cons (pe_callB call_isV rfl T.n_isinstance bt_isinstance (pa_cons (pv 0) (pa_cons (pe_glob (v := .ref (Γ.cl 29)) rfl T.c_NoSum rfl) pa_nil))) (pa_cons (pe_callB call_isV rfl T.n_isinstance bt_isinstance (pa_cons (pv 0) (pa_cons (pe_glob (v := .ref (Γ.cl 32)) rfl T.c_BadSize rfl) pa_nil))) (pa_cons (pe_callB call_isV rfl T.n_isinstance bt_isinstance (pa_cons (pv 0) (pa_cons (pe_glob (v := .ref (Γ.cl 35)) rfl T.c_BadSpots rfl) pa_nil))) (pa_cons (pe_callB call_isV rfl T.n_isinstance bt_isinstance (pa_cons (pv 0) (pa_cons (pe_glob (v := .ref (Γ.cl 37)) rfl T.c_BadStops rfl) pa_nil))) (pa_cons (pe_callB call_isV rfl T.n_isinstance bt_isinstance (pa_cons (pv 0) (pa_cons (pe_glob (v := .ref (Γ.cl 38)) rfl T.c_BadBox rfl) pa_nil))) (pa_cons (pe_callB call_isV rfl T.n_isinstance bt_isinstance (pa_cons (pv 0) (pa_cons (pe_glob (v := .ref (Γ.cl 39)) rfl T.c_BadValues rfl) pa_nil))) (pa_cons (pe_callB call_isV rfl T.n_isinstance bt_isinstance (pa_cons (pv 0) (pa_cons (pe_glob (v := .ref (Γ.cl 40)) rfl T.c_BadRun rfl) pa_nil))) (pa_cons (pe_callB call_isV rfl T.n_isinstance bt_isinstance (pa_cons (pv 0) (pa_cons (pe_glob (v := .ref (Γ.cl 41)) rfl T.c_BadLengths rfl) pa_nil))) (pa_cons (pe_callB call_isV rfl T.n_isinstance bt_isinstance (pa_cons (pv 0) (pa_cons (pe_glob (v := .ref (Γ.cl 43)) rfl T.c_BadLetter rfl) pa_nil))) (pa_cons (pe_callB call_isV rfl T.n_isinstance bt_isinstance (pa_cons (pv 0) (pa_cons (pe_glob (v := .ref (Γ.cl 44)) rfl T.c_BadLimits rfl) pa_nil))) (pa_cons (pe_callB call_isV rfl T.n_isinstance bt_isinstance (pa_cons (pv 0) (pa_cons (pe_glob (v := .ref (Γ.cl 45)) rfl T.c_TooLong rfl) pa_nil))) (pa_cons (pe_callB call_isV rfl T.n_isinstance bt_isinstance (pa_cons (pv 0) (pa_cons (pe_glob (v := .ref (Γ.cl 48)) rfl T.c_BadEdit rfl) pa_nil))) (pa_cons (pe_callB call_isV rfl T.n_isinstance bt_isinstance (pa_cons (pv 0) (pa_cons (pe_glob (v := .ref (Γ.cl 49)) rfl T.c_BadGoal rfl) pa_nil))) (pa_cons (pe_callB call_isV rfl T.n_isinstance bt_isinstance (pa_cons (pv 0) (pa_cons (pe_glob (v := .ref (Γ.cl 50)) rfl T.c_BadPool rfl) pa_nil))) (pa_cons (pe_callB call_isV rfl T.n_isinstance bt_isinstance (pa_cons (pv 0) (pa_cons (pe_glob (v := .ref (Γ.cl 51)) rfl T.c_AlreadyMissed rfl) pa_nil))) pa_nil))))))))))))))))))))))))))))))))),
      (sv_ret (ev_lst (ea_cons (ev_isiX ev_var (.own _) T.ix_BadRatio) (ea_cons (ev_isiX ev_var (.own _) T.ix_BadBody) (ea_cons (ev_isiX ev_var (.own _) T.ix_BadSpace) (ea_cons (ev_isiX ev_var (.own _) T.ix_BadArray) (ea_cons (ev_isiX ev_var (.own _) T.ix_BadText) (ea_cons (ev_isiX ev_var (.own _) T.ix_BadRank) (ea_cons (ev_isiX ev_var (.own _) T.ix_NotRight) (ea_cons (ev_isiX ev_var (.own _) T.ix_BadWorths) (ea_cons (ev_isiX ev_var (.own _) T.ix_BadCounts) (ea_cons (ev_isiX ev_var (.own _) T.ix_BadPrices) (ea_cons (ev_isiX ev_var (.own _) T.ix_BadKinds) (ea_cons (ev_isiX ev_var (.own _) T.ix_TooMany) (ea_cons (ev_isiX ev_var (.own _) T.ix_BadDemands) (ea_cons (ev_isiX ev_var (.own _) T.ix_BadChain) (ea_cons (ev_isiX ev_var (.own _) T.ix_BadTile) (ea_cons (ev_isiX ev_var (.own _) T.ix_NoSum) (ea_cons (ev_isiX ev_var (.own _) T.ix_BadSize) (ea_cons (ev_isiX ev_var (.own _) T.ix_BadSpots) (ea_cons (ev_isiX ev_var (.own _) T.ix_BadStops) (ea_cons (ev_isiX ev_var (.own _) T.ix_BadBox) (ea_cons (ev_isiX ev_var (.own _) T.ix_BadValues) (ea_cons (ev_isiX ev_var (.own _) T.ix_BadRun) (ea_cons (ev_isiX ev_var (.own _) T.ix_BadLengths) (ea_cons (ev_isiX ev_var (.own _) T.ix_BadLetter) (ea_cons (ev_isiX ev_var (.own _) T.ix_BadLimits) (ea_cons (ev_isiX ev_var (.own _) T.ix_TooLong) (ea_cons (ev_isiX ev_var (.own _) T.ix_BadEdit) (ea_cons (ev_isiX ev_var (.own _) T.ix_BadGoal) (ea_cons (ev_isiX ev_var (.own _) T.ix_BadPool) (ea_cons (ev_isiX ev_var (.own _) T.ix_AlreadyMissed) ea_nil))))))))))))))))))))))))))))))))⟩)
/-! _law_double_kinds -/
def m__law_double_kinds : Py.Env → Out :=
  (sRet ((aF dLst ((aCons ((eUn (dIsiX tx_BadNest) (eVar 0))) (aCons ((eUn (dIsiX tx_BadWeights) (eVar 0))) (aCons ((eUn (dIsiX tx_BadBag) (eVar 0))) (aCons ((eUn (dIsiX tx_BadUses) (eVar 0))) aNil))))))))
def f__law_double_kinds : List D → Rf D := runF 1 m__law_double_kinds
theorem sc__law_double_kinds : FnScope ["x"] ["x"] (defScope st__law_double_kinds) := ⟨rfl, rfl, rfl, by decide +kernel, rfl, by decide +kernel, by decide +kernel⟩
theorem d__law_double_kinds {P : Program} {Γ : Gm} {mg : Str → Option Value} {base : Heap} {f : Addr} {fd : FuncData} (F : FunD Γ.K "_law_double_kinds" "_law_double_kinds" (defArgs st__law_double_kinds) (defBody st__law_double_kinds) (defScope st__law_double_kinds) [] [] f fd) (T : Tx Γ mg) :
    FnOk P Γ.w Γ.K mg base (L2.CX P Γ.w) 1 f fd ["x"] (spP Γ 1 f__law_double_kinds) :=
  okP (dvs := []) (N := ["x"]) (ps := ["x"]) (k := 0) (st := st__law_double_kinds) (x := "_law_double_kinds") (qual := "_law_double_kinds") [] m__law_double_kinds F sc__law_double_kinds (by decide) (fun cdv A outer s H E S0 hr => by
    exact ⟨_, (pss_one (ps_ret (pe_lst (pa_cons (pe_callB call_isV rfl T.n_isinstance bt_isinstance (pa_cons (pv 0) (pa_cons (pe_glob (v := .ref (Γ.cl 5)) rfl T.c_BadNest rfl) pa_nil))) (pa_cons (pe_callB call_isV rfl T.n_isinstance bt_isinstance (pa_cons (pv 0) (pa_cons (pe_glob (v := .ref (Γ.cl 12)) rfl T.c_BadWeights rfl) pa_nil))) (pa_cons (pe_callB call_isV rfl T.n_isinstance bt_isinstance (pa_cons (pv 0) (pa_cons (pe_glob (v := .ref (Γ.cl 14)) rfl T.c_BadBag rfl) pa_nil))) (pa_cons (pe_callB call_isV rfl T.n_isinstance bt_isinstance (pa_cons (pv 0) (pa_cons (pe_glob (v := .ref (Γ.cl 46)) rfl T.c_BadUses rfl) pa_nil))) pa_nil))))))),
      (sv_ret (ev_lst (ea_cons (ev_isiX ev_var (.own _) T.ix_BadNest) (ea_cons (ev_isiX ev_var (.own _) T.ix_BadWeights) (ea_cons (ev_isiX ev_var (.own _) T.ix_BadBag) (ea_cons (ev_isiX ev_var (.own _) T.ix_BadUses) ea_nil))))))⟩)
/-! _law_told -/
def m__law_told : Py.Env → Out :=
  (sRet ((aF dLst ((aCons ((eXv [1] "what" ((eMk1 1 "what" (eVar 0))))) (aCons ((eXv [3] "index" ((eMk1 3 "index" (eVar 0))))) (aCons ((eXv [4] "index" ((eMk1 4 "index" (eVar 0))))) (aCons ((eXv [6] "array" ((eMk1 6 "array" (eVar 0))))) (aCons ((eXv [8] "index" ((eMk1 8 "index" (eVar 0))))) (aCons ((eXv [9] "rank" ((eMk1 9 "rank" (eVar 0))))) (aCons ((eXv [13] "space" ((eMk1 13 "space" (eVar 0))))) (aCons ((eXv [15] "array" ((eMk1 15 "array" (eVar 0))))) (aCons ((eXv [16] "array" ((eMk1 16 "array" (eVar 0))))) (aCons ((eXv [17] "index" ((eMk1 17 "index" (eVar 0))))) (aCons ((eXv [18] "index" ((eMk1 18 "index" (eVar 0))))) (aCons ((eXv [19] "count" ((eMk1 19 "count" (eVar 0))))) (aCons ((eXv [21] "index" ((eMk1 21 "index" (eVar 0))))) (aCons ((eXv [22] "index" ((eMk1 22 "index" (eVar 0))))) (aCons ((eXv [24] "what" ((eMk1 24 "what" (eVar 0))))) (aCons ((eXv [29] "body" ((eMk1 29 "body" (eVar 0))))) (aCons ((eXv [32] "size" ((eMk1 32 "size" (eVar 0))))) (aCons ((eXv [35] "index" ((eMk1 35 "index" (eVar 0))))) (aCons ((eXv [37] "index" ((eMk1 37 "index" (eVar 0))))) (aCons ((eXv [38] "index" ((eMk1 38 "index" (eVar 0))))) (aCons ((eXv [39] "array" ((eMk1 39 "array" (eVar 0))))) (aCons ((eXv [40] "what" ((eMk1 40 "what" (eVar 0))))) (aCons ((eXv [41] "index" ((eMk1 41 "index" (eVar 0))))) (aCons ((eXv [43] "letter" ((eMk1 43 "letter" (eVar 0))))) (aCons ((eXv [44] "index" ((eMk1 44 "index" (eVar 0))))) (aCons ((eXv [45] "letter" ((eMk1 45 "letter" (eVar 0))))) (aCons ((eXv [48] "index" ((eMk1 48 "index" (eVar 0))))) (aCons ((eXv [49] "index" ((eMk1 49 "index" (eVar 0))))) (aCons ((eXv [50] "index" ((eMk1 50 "index" (eVar 0))))) (aCons ((eXv [51] "index" ((eMk1 51 "index" (eVar 0))))) aNil))))))))))))))))))))))))))))))))))
def f__law_told : List D → Rf D := runF 1 m__law_told
theorem sc__law_told : FnScope ["one"] ["one"] (defScope st__law_told) := ⟨rfl, rfl, rfl, by decide +kernel, rfl, by decide +kernel, by decide +kernel⟩
theorem d__law_told {P : Program} {Γ : Gm} {mg : Str → Option Value} {base : Heap} {f : Addr} {fd : FuncData} (F : FunD Γ.K "_law_told" "_law_told" (defArgs st__law_told) (defBody st__law_told) (defScope st__law_told) [] [] f fd) (T : Tx Γ mg) (x_BadRatio : ExcI P Γ.w Γ.K mg base "BadRatio" (Γ.cl 1) (spI1 (Γ.cl 1) "what")) (x_BadBody : ExcI P Γ.w Γ.K mg base "BadBody" (Γ.cl 3) (spI1 (Γ.cl 3) "index")) (x_BadSpace : ExcI P Γ.w Γ.K mg base "BadSpace" (Γ.cl 4) (spI1 (Γ.cl 4) "index")) (x_BadArray : ExcI P Γ.w Γ.K mg base "BadArray" (Γ.cl 6) (spI1 (Γ.cl 6) "array")) (x_BadText : ExcI P Γ.w Γ.K mg base "BadText" (Γ.cl 8) (spI1 (Γ.cl 8) "index")) (x_BadRank : ExcI P Γ.w Γ.K mg base "BadRank" (Γ.cl 9) (spI1 (Γ.cl 9) "rank")) (x_NotRight : ExcI P Γ.w Γ.K mg base "NotRight" (Γ.cl 13) (spI1 (Γ.cl 13) "space")) (x_BadWorths : ExcI P Γ.w Γ.K mg base "BadWorths" (Γ.cl 15) (spI1 (Γ.cl 15) "array")) (x_BadCounts : ExcI P Γ.w Γ.K mg base "BadCounts" (Γ.cl 16) (spI1 (Γ.cl 16) "array")) (x_BadPrices : ExcI P Γ.w Γ.K mg base "BadPrices" (Γ.cl 17) (spI1 (Γ.cl 17) "index")) (x_BadKinds : ExcI P Γ.w Γ.K mg base "BadKinds" (Γ.cl 18) (spI1 (Γ.cl 18) "index")) (x_TooMany : ExcI P Γ.w Γ.K mg base "TooMany" (Γ.cl 19) (spI1 (Γ.cl 19) "count")) (x_BadDemands : ExcI P Γ.w Γ.K mg base "BadDemands" (Γ.cl 21) (spI1 (Γ.cl 21) "index")) (x_BadChain : ExcI P Γ.w Γ.K mg base "BadChain" (Γ.cl 22) (spI1 (Γ.cl 22) "index")) (x_BadTile : ExcI P Γ.w Γ.K mg base "BadTile" (Γ.cl 24) (spI1 (Γ.cl 24) "what")) (x_NoSum : ExcI P Γ.w Γ.K mg base "NoSum" (Γ.cl 29) (spI1 (Γ.cl 29) "body")) (x_BadSize : ExcI P Γ.w Γ.K mg base "BadSize" (Γ.cl 32) (spI1 (Γ.cl 32) "size")) (x_BadSpots : ExcI P Γ.w Γ.K mg base "BadSpots" (Γ.cl 35) (spI1 (Γ.cl 35) "index")) (x_BadStops : ExcI P Γ.w Γ.K mg base "BadStops" (Γ.cl 37) (spI1 (Γ.cl 37) "index")) (x_BadBox : ExcI P Γ.w Γ.K mg base "BadBox" (Γ.cl 38) (spI1 (Γ.cl 38) "index")) (x_BadValues : ExcI P Γ.w Γ.K mg base "BadValues" (Γ.cl 39) (spI1 (Γ.cl 39) "array")) (x_BadRun : ExcI P Γ.w Γ.K mg base "BadRun" (Γ.cl 40) (spI1 (Γ.cl 40) "what")) (x_BadLengths : ExcI P Γ.w Γ.K mg base "BadLengths" (Γ.cl 41) (spI1 (Γ.cl 41) "index")) (x_BadLetter : ExcI P Γ.w Γ.K mg base "BadLetter" (Γ.cl 43) (spI1 (Γ.cl 43) "letter")) (x_BadLimits : ExcI P Γ.w Γ.K mg base "BadLimits" (Γ.cl 44) (spI1 (Γ.cl 44) "index")) (x_TooLong : ExcI P Γ.w Γ.K mg base "TooLong" (Γ.cl 45) (spI1 (Γ.cl 45) "letter")) (x_BadEdit : ExcI P Γ.w Γ.K mg base "BadEdit" (Γ.cl 48) (spI1 (Γ.cl 48) "index")) (x_BadGoal : ExcI P Γ.w Γ.K mg base "BadGoal" (Γ.cl 49) (spI1 (Γ.cl 49) "index")) (x_BadPool : ExcI P Γ.w Γ.K mg base "BadPool" (Γ.cl 50) (spI1 (Γ.cl 50) "index")) (x_AlreadyMissed : ExcI P Γ.w Γ.K mg base "AlreadyMissed" (Γ.cl 51) (spI1 (Γ.cl 51) "index")) :
    FnOk P Γ.w Γ.K mg base (L2.CX P Γ.w) 3 f fd ["one"] (spP Γ 1 f__law_told) :=
  okP (dvs := []) (N := ["one"]) (ps := ["one"]) (k := 2) (st := st__law_told) (x := "_law_told") (qual := "_law_told") [] m__law_told F sc__law_told (by decide) (fun cdv A outer s H E S0 hr => by
    have hr2 : Room 2 _ := hr.mono (by decide)
    exact ⟨_, (pss_one (ps_ret (pe_lst (pa_cons (pe_xv (pe_mkV x_BadRatio hr2 passL (pa_cons (pv 0) pa_nil))) (pa_cons (pe_xv (pe_mkV x_BadBody hr2 passL (pa_cons (pv 0) pa_nil))) (pa_cons (pe_xv (pe_mkV x_BadSpace hr2 passL (pa_cons (pv 0) pa_nil))) (pa_cons (pe_xv (pe_mkV x_BadArray hr2 passL (pa_cons (pv 0) pa_nil))) (pa_cons (pe_xv (pe_mkV x_BadText hr2 passL (pa_cons (pv 0) pa_nil))) (pa_cons (pe_xv (pe_mkV x_BadRank hr2 passL (pa_cons (pv 0) pa_nil))) (pa_cons (pe_xv (pe_mkV x_NotRight hr2 passL (pa_cons (pv 0) pa_nil))) (pa_cons (pe_xv (pe_mkV x_BadWorths hr2 passL (pa_cons (pv 0) pa_nil))) (pa_cons (pe_xv (pe_mkV x_BadCounts hr2 passL (pa_cons (pv 0) pa_nil))) (pa_cons (pe_xv (pe_mkV x_BadPrices hr2 passL (pa_cons (pv 0) pa_nil))) (pa_cons (pe_xv (pe_mkV x_BadKinds hr2 passL (pa_cons (pv 0) pa_nil))) (pa_cons (pe_xv (pe_mkV x_TooMany hr2 passL (pa_cons (pv 0) pa_nil))) (pa_cons (pe_xv (pe_mkV x_BadDemands hr2 passL (pa_cons (pv 0) pa_nil))) (pa_cons (pe_xv (pe_mkV x_BadChain hr2 passL (pa_cons (pv 0) pa_nil))) (pa_cons (pe_xv (pe_mkV x_BadTile hr2 passL (pa_cons (pv 0) pa_nil))) (pa_cons (pe_xv (pe_mkV x_NoSum hr2 passL (pa_cons (pv 0) pa_nil))) (pa_cons (pe_xv (pe_mkV x_BadSize hr2 passL (pa_cons (pv 0) pa_nil))) (pa_cons (pe_xv (pe_mkV x_BadSpots hr2 passL (pa_cons (pv 0) pa_nil))) (pa_cons (pe_xv (pe_mkV x_BadStops hr2 passL (pa_cons (pv 0) pa_nil))) (pa_cons (pe_xv (pe_mkV x_BadBox hr2 passL (pa_cons (pv 0) pa_nil))) (pa_cons (pe_xv (pe_mkV x_BadValues hr2 passL (pa_cons (pv 0) pa_nil))) (pa_cons (pe_xv (pe_mkV x_BadRun hr2 passL (pa_cons (pv 0) pa_nil))) (pa_cons (pe_xv (pe_mkV x_BadLengths hr2 passL (pa_cons (pv 0) pa_nil))) (pa_cons (pe_xv (pe_mkV x_BadLetter hr2 passL (pa_cons (pv 0) pa_nil))) (pa_cons (pe_xv (pe_mkV x_BadLimits hr2 passL (pa_cons (pv 0) pa_nil))) (pa_cons (pe_xv (pe_mkV x_TooLong hr2 passL (pa_cons (pv 0) pa_nil))) (pa_cons (pe_xv (pe_mkV x_BadEdit hr2 passL (pa_cons (pv 0) pa_nil))) (pa_cons (pe_xv (pe_mkV x_BadGoal hr2 passL (pa_cons (pv 0) pa_nil))) (pa_cons (pe_xv (pe_mkV x_BadPool hr2 passL (pa_cons (pv 0) pa_nil))) (pa_cons (pe_xv (pe_mkV x_AlreadyMissed hr2 passL (pa_cons (pv 0) pa_nil))) pa_nil))))))))))))))))))))))))))))))))),
      (sv_ret (ev_lst (ea_cons (ev_xv (ev_mk1 ev_var) (List.forall_mem_cons.mpr ⟨⟨T.xf_BadRatio, T.no_BadRatio_what⟩, List.forall_mem_nil _⟩)) (ea_cons (ev_xv (ev_mk1 ev_var) (List.forall_mem_cons.mpr ⟨⟨T.xf_BadBody, T.no_BadBody_index⟩, List.forall_mem_nil _⟩)) (ea_cons (ev_xv (ev_mk1 ev_var) (List.forall_mem_cons.mpr ⟨⟨T.xf_BadSpace, T.no_BadSpace_index⟩, List.forall_mem_nil _⟩)) (ea_cons (ev_xv (ev_mk1 ev_var) (List.forall_mem_cons.mpr ⟨⟨T.xf_BadArray, T.no_BadArray_array⟩, List.forall_mem_nil _⟩)) (ea_cons (ev_xv (ev_mk1 ev_var) (List.forall_mem_cons.mpr ⟨⟨T.xf_BadText, T.no_BadText_index⟩, List.forall_mem_nil _⟩)) (ea_cons (ev_xv (ev_mk1 ev_var) (List.forall_mem_cons.mpr ⟨⟨T.xf_BadRank, T.no_BadRank_rank⟩, List.forall_mem_nil _⟩)) (ea_cons (ev_xv (ev_mk1 ev_var) (List.forall_mem_cons.mpr ⟨⟨T.xf_NotRight, T.no_NotRight_space⟩, List.forall_mem_nil _⟩)) (ea_cons (ev_xv (ev_mk1 ev_var) (List.forall_mem_cons.mpr ⟨⟨T.xf_BadWorths, T.no_BadWorths_array⟩, List.forall_mem_nil _⟩)) (ea_cons (ev_xv (ev_mk1 ev_var) (List.forall_mem_cons.mpr ⟨⟨T.xf_BadCounts, T.no_BadCounts_array⟩, List.forall_mem_nil _⟩)) (ea_cons (ev_xv (ev_mk1 ev_var) (List.forall_mem_cons.mpr ⟨⟨T.xf_BadPrices, T.no_BadPrices_index⟩, List.forall_mem_nil _⟩)) (ea_cons (ev_xv (ev_mk1 ev_var) (List.forall_mem_cons.mpr ⟨⟨T.xf_BadKinds, T.no_BadKinds_index⟩, List.forall_mem_nil _⟩)) (ea_cons (ev_xv (ev_mk1 ev_var) (List.forall_mem_cons.mpr ⟨⟨T.xf_TooMany, T.no_TooMany_count⟩, List.forall_mem_nil _⟩)) (ea_cons (ev_xv (ev_mk1 ev_var) (List.forall_mem_cons.mpr ⟨⟨T.xf_BadDemands, T.no_BadDemands_index⟩, List.forall_mem_nil _⟩)) (ea_cons (ev_xv (ev_mk1 ev_var) (List.forall_mem_cons.mpr ⟨⟨T.xf_BadChain, T.no_BadChain_index⟩, List.forall_mem_nil _⟩)) (ea_cons (ev_xv (ev_mk1 ev_var) (List.forall_mem_cons.mpr ⟨⟨T.xf_BadTile, T.no_BadTile_what⟩, List.forall_mem_nil _⟩)) (ea_cons (ev_xv (ev_mk1 ev_var) (List.forall_mem_cons.mpr ⟨⟨T.xf_NoSum, T.no_NoSum_body⟩, List.forall_mem_nil _⟩)) (ea_cons (ev_xv (ev_mk1 ev_var) (List.forall_mem_cons.mpr ⟨⟨T.xf_BadSize, T.no_BadSize_size⟩, List.forall_mem_nil _⟩)) (ea_cons (ev_xv (ev_mk1 ev_var) (List.forall_mem_cons.mpr ⟨⟨T.xf_BadSpots, T.no_BadSpots_index⟩, List.forall_mem_nil _⟩)) (ea_cons (ev_xv (ev_mk1 ev_var) (List.forall_mem_cons.mpr ⟨⟨T.xf_BadStops, T.no_BadStops_index⟩, List.forall_mem_nil _⟩)) (ea_cons (ev_xv (ev_mk1 ev_var) (List.forall_mem_cons.mpr ⟨⟨T.xf_BadBox, T.no_BadBox_index⟩, List.forall_mem_nil _⟩)) (ea_cons (ev_xv (ev_mk1 ev_var) (List.forall_mem_cons.mpr ⟨⟨T.xf_BadValues, T.no_BadValues_array⟩, List.forall_mem_nil _⟩)) (ea_cons (ev_xv (ev_mk1 ev_var) (List.forall_mem_cons.mpr ⟨⟨T.xf_BadRun, T.no_BadRun_what⟩, List.forall_mem_nil _⟩)) (ea_cons (ev_xv (ev_mk1 ev_var) (List.forall_mem_cons.mpr ⟨⟨T.xf_BadLengths, T.no_BadLengths_index⟩, List.forall_mem_nil _⟩)) (ea_cons (ev_xv (ev_mk1 ev_var) (List.forall_mem_cons.mpr ⟨⟨T.xf_BadLetter, T.no_BadLetter_letter⟩, List.forall_mem_nil _⟩)) (ea_cons (ev_xv (ev_mk1 ev_var) (List.forall_mem_cons.mpr ⟨⟨T.xf_BadLimits, T.no_BadLimits_index⟩, List.forall_mem_nil _⟩)) (ea_cons (ev_xv (ev_mk1 ev_var) (List.forall_mem_cons.mpr ⟨⟨T.xf_TooLong, T.no_TooLong_letter⟩, List.forall_mem_nil _⟩)) (ea_cons (ev_xv (ev_mk1 ev_var) (List.forall_mem_cons.mpr ⟨⟨T.xf_BadEdit, T.no_BadEdit_index⟩, List.forall_mem_nil _⟩)) (ea_cons (ev_xv (ev_mk1 ev_var) (List.forall_mem_cons.mpr ⟨⟨T.xf_BadGoal, T.no_BadGoal_index⟩, List.forall_mem_nil _⟩)) (ea_cons (ev_xv (ev_mk1 ev_var) (List.forall_mem_cons.mpr ⟨⟨T.xf_BadPool, T.no_BadPool_index⟩, List.forall_mem_nil _⟩)) (ea_cons (ev_xv (ev_mk1 ev_var) (List.forall_mem_cons.mpr ⟨⟨T.xf_AlreadyMissed, T.no_AlreadyMissed_index⟩, List.forall_mem_nil _⟩)) ea_nil))))))))))))))))))))))))))))))))⟩)
/-! _law_told_both -/
def m__law_told_both : Py.Env → Out :=
  (sRet ((aF dLst ((aCons ((aF dTup ((aCons ((eXv [5] "what" ((eMk2 5 "what" "array" (eVar 0) (eVar 1))))) (aCons ((eXv [5] "array" ((eMk2 5 "what" "array" (eVar 0) (eVar 1))))) aNil))))) (aCons ((aF dTup ((aCons ((eXv [12] "what" ((eMk2 12 "index" "what" (eVar 1) (eVar 0))))) (aCons ((eXv [12] "index" ((eMk2 12 "index" "what" (eVar 1) (eVar 0))))) aNil))))) (aCons ((aF dTup ((aCons ((eXv [14] "what" ((eMk2 14 "index" "what" (eVar 1) (eVar 0))))) (aCons ((eXv [14] "index" ((eMk2 14 "index" "what" (eVar 1) (eVar 0))))) aNil))))) (aCons ((aF dTup ((aCons ((eXv [46] "what" ((eMk2 46 "index" "what" (eVar 1) (eVar 0))))) (aCons ((eXv [46] "index" ((eMk2 46 "index" "what" (eVar 1) (eVar 0))))) aNil))))) aNil))))))))
def f__law_told_both : List D → Rf D := runF 2 m__law_told_both
theorem sc__law_told_both : FnScope ["one", "other"] ["one", "other"] (defScope st__law_told_both) := ⟨rfl, rfl, rfl, by decide +kernel, rfl, by decide +kernel, by decide +kernel⟩
theorem d__law_told_both {P : Program} {Γ : Gm} {mg : Str → Option Value} {base : Heap} {f : Addr} {fd : FuncData} (F : FunD Γ.K "_law_told_both" "_law_told_both" (defArgs st__law_told_both) (defBody st__law_told_both) (defScope st__law_told_both) [] [] f fd) (T : Tx Γ mg) (x_BadNest : ExcI P Γ.w Γ.K mg base "BadNest" (Γ.cl 5) (spI2 (Γ.cl 5) "what" "array")) (x_BadWeights : ExcI P Γ.w Γ.K mg base "BadWeights" (Γ.cl 12) (spI2 (Γ.cl 12) "index" "what")) (x_BadBag : ExcI P Γ.w Γ.K mg base "BadBag" (Γ.cl 14) (spI2 (Γ.cl 14) "index" "what")) (x_BadUses : ExcI P Γ.w Γ.K mg base "BadUses" (Γ.cl 46) (spI2 (Γ.cl 46) "index" "what")) :
    FnOk P Γ.w Γ.K mg base (L2.CX P Γ.w) 3 f fd ["one", "other"] (spP Γ 2 f__law_told_both) :=
  okP (dvs := []) (N := ["one", "other"]) (ps := ["one", "other"]) (k := 2) (st := st__law_told_both) (x := "_law_told_both") (qual := "_law_told_both") [] m__law_told_both F sc__law_told_both (by decide) (fun cdv A outer s H E S0 hr => by
    have hr2 : Room 2 _ := hr.mono (by decide)
    exact ⟨_, (pss_one (ps_ret (pe_lst (pa_cons (pe_tup (pa_cons (pe_xv (pe_mkV x_BadNest hr2 passL (pa_cons (pv 0) (pa_cons (pv 1) pa_nil)))) (pa_cons (pe_xv (pe_mkV x_BadNest hr2 passL (pa_cons (pv 0) (pa_cons (pv 1) pa_nil)))) pa_nil))) (pa_cons (pe_tup (pa_cons (pe_xv (pe_mkV x_BadWeights hr2 passL (pa_cons (pv 1) (pa_cons (pv 0) pa_nil)))) (pa_cons (pe_xv (pe_mkV x_BadWeights hr2 passL (pa_cons (pv 1) (pa_cons (pv 0) pa_nil)))) pa_nil))) (pa_cons (pe_tup (pa_cons (pe_xv (pe_mkV x_BadBag hr2 passL (pa_cons (pv 1) (pa_cons (pv 0) pa_nil)))) (pa_cons (pe_xv (pe_mkV x_BadBag hr2 passL (pa_cons (pv 1) (pa_cons (pv 0) pa_nil)))) pa_nil))) (pa_cons (pe_tup (pa_cons (pe_xv (pe_mkV x_BadUses hr2 passL (pa_cons (pv 1) (pa_cons (pv 0) pa_nil)))) (pa_cons (pe_xv (pe_mkV x_BadUses hr2 passL (pa_cons (pv 1) (pa_cons (pv 0) pa_nil)))) pa_nil))) pa_nil))))))),
      (sv_ret (ev_lst (ea_cons (ev_tup (ea_cons (ev_xv (ev_mk2 ev_var ev_var) (List.forall_mem_cons.mpr ⟨⟨T.xf_BadNest, T.no_BadNest_what⟩, List.forall_mem_nil _⟩)) (ea_cons (ev_xv (ev_mk2 ev_var ev_var) (List.forall_mem_cons.mpr ⟨⟨T.xf_BadNest, T.no_BadNest_array⟩, List.forall_mem_nil _⟩)) ea_nil))) (ea_cons (ev_tup (ea_cons (ev_xv (ev_mk2 ev_var ev_var) (List.forall_mem_cons.mpr ⟨⟨T.xf_BadWeights, T.no_BadWeights_what⟩, List.forall_mem_nil _⟩)) (ea_cons (ev_xv (ev_mk2 ev_var ev_var) (List.forall_mem_cons.mpr ⟨⟨T.xf_BadWeights, T.no_BadWeights_index⟩, List.forall_mem_nil _⟩)) ea_nil))) (ea_cons (ev_tup (ea_cons (ev_xv (ev_mk2 ev_var ev_var) (List.forall_mem_cons.mpr ⟨⟨T.xf_BadBag, T.no_BadBag_what⟩, List.forall_mem_nil _⟩)) (ea_cons (ev_xv (ev_mk2 ev_var ev_var) (List.forall_mem_cons.mpr ⟨⟨T.xf_BadBag, T.no_BadBag_index⟩, List.forall_mem_nil _⟩)) ea_nil))) (ea_cons (ev_tup (ea_cons (ev_xv (ev_mk2 ev_var ev_var) (List.forall_mem_cons.mpr ⟨⟨T.xf_BadUses, T.no_BadUses_what⟩, List.forall_mem_nil _⟩)) (ea_cons (ev_xv (ev_mk2 ev_var ev_var) (List.forall_mem_cons.mpr ⟨⟨T.xf_BadUses, T.no_BadUses_index⟩, List.forall_mem_nil _⟩)) ea_nil))) ea_nil))))))⟩)
/-! _law_exact -/
def m__law_exact : Py.Env → Out :=
  (sRet ((eAnd ((eBin dEq (eVar 0) (eVar 1))) ((eBin dEq ((eUn (dIsi "bool") (eVar 0))) ((eUn (dIsi "bool") (eVar 1))))))))
def f__law_exact : List D → Rf D := runF 2 m__law_exact
theorem sc__law_exact : FnScope ["told", "due"] ["told", "due"] (defScope st__law_exact) := ⟨rfl, rfl, rfl, by decide +kernel, rfl, by decide +kernel, by decide +kernel⟩
theorem d__law_exact {P : Program} {Γ : Gm} {mg : Str → Option Value} {base : Heap} {f : Addr} {fd : FuncData} (F : FunD Γ.K "_law_exact" "_law_exact" (defArgs st__law_exact) (defBody st__law_exact) (defScope st__law_exact) [] [] f fd) (T : Tx Γ mg) :
    FnOk P Γ.w Γ.K mg base (L2.CX P Γ.w) 1 f fd ["told", "due"] (spP Γ 2 f__law_exact) :=
  okP (dvs := []) (N := ["told", "due"]) (ps := ["told", "due"]) (k := 0) (st := st__law_exact) (x := "_law_exact") (qual := "_law_exact") [] m__law_exact F sc__law_exact (by decide) (fun cdv A outer s H E S0 hr => by
    exact ⟨_, (pss_one (ps_ret (pe_and (pe_cmpR (op_eqD (hu64 hr)) (pv 0) (pv 1) (nomark _)) (pe_one (pe_cmpR (op_eqD (hu64 hr)) (pe_callB call_isi rfl T.n_isinstance bt_isinstance (pa_cons (pv 0) (pa_cons (pe_bltn (v := .ty "bool") rfl T.n_bool bt_bool rfl) pa_nil))) (pe_callB call_isi rfl T.n_isinstance bt_isinstance (pa_cons (pv 1) (pa_cons (pe_bltn (v := .ty "bool") rfl T.n_bool bt_bool rfl) pa_nil))) (nomark _)))))),
      (sv_ret (ev_andV (ev_op opd_eq ev_var ev_var) (ev_op opd_eq (ev_isi ev_var) (ev_isi ev_var))))⟩)
/-! _law_caught -/
def m__law_caught : Py.Env → Out :=
  (sSeq ((sSet 1 ((aF dLst (aNil))))) ((sSeq ((sTry 2 (isaL [(0, true), (1, true), (2, true), (3, true), (4, true), (5, true), (6, true), (7, true), (8, true), (9, true), (10, true), (11, true), (12, true), (13, true), (14, true), (15, true), (16, true), (17, true), (18, true), (19, true), (20, true), (21, true), (22, true), (23, true), (24, true), (25, true), (26, true), (27, true), (28, true), (29, true), (30, true), (31, true), (32, true), (33, true), (34, true), (35, true), (36, true), (37, true), (38, true), (39, true), (40, true), (41, true), (42, true), (43, true), (44, true), (45, true), (46, true), (47, true), (48, true), (49, true), (50, true), (51, true), (52, true)]) ((sRaise1 4 "index" (eVar 0))) (fun e => (sApp 1 ((eFam e [4])))))) ((sSeq ((sTry 2 (isaL [(0, true), (1, true), (2, true), (3, true), (4, true), (5, true), (6, true), (7, true), (8, true), (9, true), (10, true), (11, true), (12, true), (13, true), (14, true), (15, true), (16, true), (17, true), (18, true), (19, true), (20, true), (21, true), (22, true), (23, true), (24, true), (25, true), (26, true), (27, true), (28, true), (29, true), (30, true), (31, true), (32, true), (33, true), (34, true), (35, true), (36, true), (37, true), (38, true), (39, true), (40, true), (41, true), (42, true), (43, true), (44, true), (45, true), (46, true), (47, true), (48, true), (49, true), (50, true), (51, true), (52, true)]) ((sRaise0 34)) (fun e => (sApp 1 ((eFam e [34])))))) ((sRet ((eBin dEq (eFrz 1) ((aF dLst ((aCons (eC (.bl true)) (aCons (eC (.bl true)) aNil))))))))))))))
def f__law_caught : List D → Rf D := runF 3 m__law_caught
theorem sc__law_caught : FnScope ["one", "told", "e"] ["one"] (defScope st__law_caught) := ⟨rfl, rfl, rfl, by decide +kernel, rfl, by decide +kernel, by decide +kernel⟩
theorem d__law_caught {P : Program} {Γ : Gm} {mg : Str → Option Value} {base : Heap} {f : Addr} {fd : FuncData} (F : FunD Γ.K "_law_caught" "_law_caught" (defArgs st__law_caught) (defBody st__law_caught) (defScope st__law_caught) [] [] f fd) (T : Tx Γ mg) (x_BadSpace : ExcI P Γ.w Γ.K mg base "BadSpace" (Γ.cl 4) (spI1 (Γ.cl 4) "index")) (y_TooSmall : ExcP Γ.K mg "TooSmall" (Γ.cl 34)) :
    FnOk P Γ.w Γ.K mg base (L2.CX P Γ.w) 3 f fd ["one"] (spP Γ 1 f__law_caught) :=
  okP (dvs := []) (N := ["one", "told", "e"]) (ps := ["one"]) (k := 2) (st := st__law_caught) (x := "_law_caught") (qual := "_law_caught") [1] m__law_caught F sc__law_caught (by decide) (fun cdv A outer s H E S0 hr => by
    have hr2 : Room 2 _ := hr.mono (by decide)
    exact ⟨_, (pss_cons (ps_set (i := 1) sc__law_caught.nd rfl (by first | exact Or.inl rfl | exact Or.inr rfl) (pe_lst pa_nil)) (pss_cons (ps_try_as (i := 2) rfl rfl sc__law_caught.nd rfl rfl ⟨rfl, by decide, Or.inl T.c_NestError⟩ (takes_of rfl rfl rfl rfl) (fun W pn xe tkW poW => (pss_one (ps_raiseX rfl x_BadSpace hr2 tkW (pa_cons (pv 0) pa_nil)))) (fun a oe cls d pn hz hf => (pss_one (ps_expr (pe_bmK (K := Γ.K) rfl PySem.F.plainAttrs_list PySem.F.slot_list_append PySem.F.type_list_append mt_append (pv 1) (pa_cons (pe_callB (call_isYK (K := Γ.K) (a := a) (oe := oe) rfl hz List.mem_cons_self) (by rfl) T.n_isinstance bt_isinstance (pa_cons (pv 2) (pa_cons (pe_glob (v := .ref (Γ.cl 4)) (by rfl) T.c_BadSpace rfl) pa_nil))) pa_nil)))))) (pss_cons (ps_try_as (i := 2) rfl rfl sc__law_caught.nd rfl rfl ⟨rfl, by decide, Or.inl T.c_NestError⟩ (takes_of rfl rfl rfl rfl) (fun W pn xe tkW poW => (pss_one (ps_raisePz rfl y_TooSmall tkW))) (fun a oe cls d pn hz hf => (pss_one (ps_expr (pe_bmK (K := Γ.K) rfl PySem.F.plainAttrs_list PySem.F.slot_list_append PySem.F.type_list_append mt_append (pv 1) (pa_cons (pe_callB (call_isYK (K := Γ.K) (a := a) (oe := oe) rfl hz List.mem_cons_self) (by rfl) T.n_isinstance bt_isinstance (pa_cons (pv 2) (pa_cons (pe_glob (v := .ref (Γ.cl 34)) (by rfl) T.c_TooSmall rfl) pa_nil))) pa_nil)))))) (pss_one (ps_ret (pe_cmpR (op_eqD (hu64 hr)) (pv 1) (pe_lst (pa_cons pe_bl (pa_cons pe_bl pa_nil))) (nomark _))))))),
      (sv_seq (sv_own (evf_lst ea_nil)) (sv_seq (sv_try rfl (fun W => (sv_raise1 ev_var rfl)) (fun ⟨_, a, cls, dx, e⟩ hq => by cases hq; exact (sv_app (ev_isY (q := ⟨2, a, cls, dx, e⟩) (cs := [4]) rfl (.own _) T.is_NestError_BadSpace))) (isaL_ok T.i_NestError)) (sv_seq (sv_try rfl (fun W => (sv_raise0z rfl)) (fun ⟨_, a, cls, dx, e⟩ hq => by cases hq; exact (sv_app (ev_isY (q := ⟨2, a, cls, dx, e⟩) (cs := [34]) rfl (.own _) T.is_NestError_TooSmall))) (isaL_ok T.i_NestError)) (sv_ret (ev_op opd_eq ev_frz (ev_lst (ea_cons (ev_bl _) (ea_cons (ev_bl _) ea_nil))))))))⟩)
/-! law -/
def e1_law : Py.Env → Rs D :=
  (eBin dEq (eVar 11) (eVar 6))
def l2_law : Py.Env → Out :=
  (sSeq ((sSet 7 ((eBin dIx (eVar 5) (eVar 6))))) ((sSeq ((sSet 8 ((eBin dAdd ((eBin dAdd ((eCall 1 f__law_plain_kinds [] ((aCons (eVar 7) aNil)))) ((eCall 1 f__law_single_kinds [] ((aCons (eVar 7) aNil)))))) ((eCall 1 f__law_double_kinds [] ((aCons (eVar 7) aNil)))))))) ((sIf ((tfOr ((tfB (eBin dNe (eVar 8) ((eLc (rng1M ((aCons ((aF dLen ((aCons (eVar 5) aNil)))) aNil))) (nmG 11) (lYes) (e1_law) [11]))))) ((tfOr ((tfNot ((tfT ((eUn (dIsiX tx_NestError) (eVar 7))))))) ((tfNot ((tfT ((eUn (dIsiX tx_ValueError) (eVar 7))))))))))) ((sRet (eC (.bl false)))) (sNext))))))
def t3_law : Py.Env → Rs Bool :=
  (tfNot ((tfT ((eCall 2 f__law_exact [] ((aCons (eVar 7) (aCons (eVar 3) aNil))))))))
def e4_law : Py.Env → Rs D :=
  eVar 7
def l5_law : Py.Env → Out :=
  (sIf ((tfOr ((tfNot ((tfT ((eCall 2 f__law_exact [] ((aCons (eVar 9) (aCons (eVar 3) aNil))))))))) ((tfNot ((tfT ((eCall 2 f__law_exact [] ((aCons (eVar 10) (aCons (eVar 4) aNil))))))))))) ((sRet (eC (.bl false)))) (sNext))
def l6_law : Py.Env → Out :=
  (sSeq ((sSet 3 ((eCallH 1 1 f__law_thing (aNil))))) ((sSeq ((sSet 4 ((eCallH 1 1 f__law_thing (aNil))))) ((sSeq ((sSet 5 ((eBin dAdd ((eBin dAdd ((eCall 0 f__law_plain [] (aNil))) ((eCall 1 f__law_single [] ((aCons (eVar 3) aNil)))))) ((eCall 2 f__law_double [] ((aCons (eVar 3) (aCons (eVar 4) aNil))))))))) ((sSeq ((sFor (rng1M ((aCons ((aF dLen ((aCons (eVar 5) aNil)))) aNil))) (nmG 6) (l2_law))) ((sSeq ((sIf ((tfB (eBin dNe ((eLc (iSeqM ((eCall 1 f__law_told [] ((aCons (eVar 3) aNil))))) (nmG 7) (t3_law) (e4_law) [7])) ((aF dLst (aNil)))))) ((sRet (eC (.bl false)))) (sNext))) ((sSeq ((sFor (iSeqM ((eCall 2 f__law_told_both [] ((aCons (eVar 3) (aCons (eVar 4) aNil)))))) (tupG 2 (consG (nmG 9) (consG (nmG 10) nilG))) (l5_law))) ((sIf ((tfNot ((tfT ((eCall 1 f__law_caught [] ((aCons (eVar 3) aNil)))))))) ((sRet (eC (.bl false)))) (sNext))))))))))))))
def m_law : Py.Env → Out :=
  (sSeq ((sSet 1 ((eCallN 1 f__law_hand [] ((aCons (eVar 0) aNil)))))) ((sSeq ((sFor (rng1M ((aCons (eC (.int 2)) aNil))) (nmG 2) (l6_law))) ((sRet (eC (.bl true)))))))
def f_law : List D → Rf D := runF 12 m_law
theorem sc_law : FnScope ["script", "hand", "turn", "one", "other", "made", "k", "x", "kinds", "what", "place", "j"] ["script"] (defScope st_law) := ⟨rfl, rfl, rfl, by decide +kernel, rfl, by decide +kernel, by decide +kernel⟩
theorem d_law {P : Program} {Γ : Gm} {mg : Str → Option Value} {base : Heap} {f : Addr} {fd : FuncData} (F : FunD Γ.K "law" "law" (defArgs st_law) (defBody st_law) (defScope st_law) [] [] f fd) (T : Tx Γ mg) (c__law_hand_1 : OkC P Γ.w Γ.K mg base "_law_hand" [] 1 (spN Γ 1 f__law_hand)) (c__law_thing_1 : OkC P Γ.w Γ.K mg base "_law_thing" [] 3 (spH Γ 1 f__law_thing)) (c__law_plain_0 : OkC P Γ.w Γ.K mg base "_law_plain" [] 3 (spP Γ 0 f__law_plain)) (c__law_single_1 : OkC P Γ.w Γ.K mg base "_law_single" [] 3 (spP Γ 1 f__law_single)) (c__law_double_2 : OkC P Γ.w Γ.K mg base "_law_double" [] 3 (spP Γ 2 f__law_double)) (c__law_plain_kinds_1 : OkC P Γ.w Γ.K mg base "_law_plain_kinds" [] 1 (spP Γ 1 f__law_plain_kinds)) (c__law_single_kinds_1 : OkC P Γ.w Γ.K mg base "_law_single_kinds" [] 1 (spP Γ 1 f__law_single_kinds)) (c__law_double_kinds_1 : OkC P Γ.w Γ.K mg base "_law_double_kinds" [] 1 (spP Γ 1 f__law_double_kinds)) (c__law_told_1 : OkC P Γ.w Γ.K mg base "_law_told" [] 3 (spP Γ 1 f__law_told)) (c__law_exact_2 : OkC P Γ.w Γ.K mg base "_law_exact" [] 1 (spP Γ 2 f__law_exact)) (c__law_told_both_2 : OkC P Γ.w Γ.K mg base "_law_told_both" [] 3 (spP Γ 2 f__law_told_both)) (c__law_caught_1 : OkC P Γ.w Γ.K mg base "_law_caught" [] 3 (spP Γ 1 f__law_caught)) :
    FnOk P Γ.w Γ.K mg base (L2.CX P Γ.w) 4 f fd ["script"] (spP Γ 1 f_law) :=
  okP (dvs := []) (N := ["script", "hand", "turn", "one", "other", "made", "k", "x", "kinds", "what", "place", "j"]) (ps := ["script"]) (k := 3) (st := st_law) (x := "law") (qual := "law") [1] m_law F sc_law (by decide) (fun cdv A outer s H E S0 hr => by
    have hr1 : Room 1 _ := hr.mono (by decide)
    have hr3 : Room 3 _ := hr.mono (by decide)
    exact ⟨_, (pss_cons (ps_set (i := 1) sc_law.nd rfl (by first | exact Or.inl rfl | exact Or.inr rfl) (pe_callX c__law_hand_1 hr1 (takes_of rfl rfl rfl rfl) (pa_cons (pv 0) pa_nil))) (pss_cons (ps_for (passes_of rfl) rfl (pi_range1 rfl T.n_range (pa_cons pe_int pa_nil)) (pg_name (i := 2) sc_law.nd rfl (by first | exact Or.inl rfl | exact Or.inr rfl)) (pss_cons (ps_set (i := 3) sc_law.nd rfl (by first | exact Or.inl rfl | exact Or.inr rfl) (pe_callX c__law_thing_1 hr3 (takes_of rfl rfl rfl rfl) (pa_cons (pv 1) pa_nil))) (pss_cons (ps_set (i := 4) sc_law.nd rfl (by first | exact Or.inl rfl | exact Or.inr rfl) (pe_callX c__law_thing_1 hr3 (takes_of rfl rfl rfl rfl) (pa_cons (pv 1) pa_nil))) (pss_cons (ps_set (i := 5) sc_law.nd rfl (by first | exact Or.inl rfl | exact Or.inr rfl) (pe_op opx_add (pe_op opx_add (pe_callX0 c__law_plain_0 hr3 (takes_of rfl rfl rfl rfl)) (pe_callX c__law_single_1 hr3 (takes_of rfl rfl rfl rfl) (pa_cons (pv 3) pa_nil))) (pe_callX c__law_double_2 hr3 (takes_of rfl rfl rfl rfl) (pa_cons (pv 3) (pa_cons (pv 4) pa_nil))))) (pss_cons (ps_for (passes_of rfl) rfl (pi_range1 rfl T.n_range (pa_cons (pe_callB call_len rfl T.n_len bt_len (pa_cons (pv 5) pa_nil)) pa_nil)) (pg_name (i := 6) sc_law.nd rfl (by first | exact Or.inl rfl | exact Or.inr rfl)) (pss_cons (ps_set (i := 7) sc_law.nd rfl (by first | exact Or.inl rfl | exact Or.inr rfl) (pe_ix (ix_seqK (K := Γ.K) (by rfl)) (pv 5) (pv 6) (fun _ _ => rfl))) (pss_cons (ps_set (i := 8) sc_law.nd rfl (by first | exact Or.inl rfl | exact Or.inr rfl) (pe_op opx_add (pe_op opx_add (pe_callX c__law_plain_kinds_1 hr1 (takes_of rfl rfl rfl rfl) (pa_cons (pv 7) pa_nil)) (pe_callX c__law_single_kinds_1 hr1 (takes_of rfl rfl rfl rfl) (pa_cons (pv 7) pa_nil))) (pe_callX c__law_double_kinds_1 hr1 (takes_of rfl rfl rfl rfl) (pa_cons (pv 7) pa_nil)))) (pss_one (ps_if (PW.pt (pw_or (pt_cmpR (op_neD (hu64 hr)) (pv 8) (pe_lc (own := [("j", 11)]) rfl sc_law.nd (pi_range1 rfl T.n_range (pa_cons (pe_callB call_len rfl T.n_len bt_len (pa_cons (pv 5) pa_nil)) pa_nil)) (blkOk_by (N := ["script", "hand", "turn", "one", "other", "made", "k", "x", "kinds", "what", "place", "j"]) (sc := defScope st_law) (by decide +kernel)) (fun _ _ _ _ _ => (pg_name (i := 11) sc_law.nd rfl (by first | exact Or.inl rfl | exact Or.inr rfl))) (fun _ _ _ _ _ => pts_nil) (fun _ _ _ _ _ => (pe_cmpR (op_eqD (hu64 hr)) (pv 11) (pv 6) (nomark _)))) (nomark _)) (pw_or (pt_not (pt_truth (pe_callB call_isV rfl T.n_isinstance bt_isinstance (pa_cons (pv 7) (pa_cons (pe_glob (v := .ref (Γ.cl 0)) rfl T.c_NestError rfl) pa_nil))) (fun _ => rfl))) (pw_or1 (pt_not (pt_truth (pe_callB call_isV rfl T.n_isinstance bt_isinstance (pa_cons (pv 7) (pa_cons (pe_bltn (v := .ty "ValueError") rfl T.n_ValueError bt_ValueError rfl) pa_nil))) (fun _ => rfl))))))) (pss_one (ps_ret pe_bl)) pss_nil))))) (pss_cons (ps_if (pt_cmpR (op_neD (hu64 hr)) (pe_lc (own := [("x", 7)]) rfl sc_law.nd (pi_seq (pe_callX c__law_told_1 hr3 (takes_of rfl rfl rfl rfl) (pa_cons (pv 3) pa_nil))) (blkOk_by (N := ["script", "hand", "turn", "one", "other", "made", "k", "x", "kinds", "what", "place", "j"]) (sc := defScope st_law) (by decide +kernel)) (fun _ _ _ _ _ => (pg_name (i := 7) sc_law.nd rfl (by first | exact Or.inl rfl | exact Or.inr rfl))) (fun _ _ _ _ _ => (pts_one (pt_not (pt_truth (pe_callX c__law_exact_2 hr1 takes0 (pa_cons (pv 7) (pa_cons (pv 3) pa_nil))) (fun _ => rfl))))) (fun _ _ _ _ _ => (pv 7))) (pe_lst pa_nil) (nomark _)) (pss_one (ps_ret pe_bl)) pss_nil) (pss_cons (ps_for (passes_of rfl) rfl (pi_seq (pe_callX c__law_told_both_2 hr3 (takes_of rfl rfl rfl rfl) (pa_cons (pv 3) (pa_cons (pv 4) pa_nil)))) (pg_tup rfl (pgs_cons (pg_name (i := 9) sc_law.nd rfl (by first | exact Or.inl rfl | exact Or.inr rfl)) (pgs_cons (pg_name (i := 10) sc_law.nd rfl (by first | exact Or.inl rfl | exact Or.inr rfl)) pgs_nil))) (pss_one (ps_if (PW.pt (pw_or (pt_not (pt_truth (pe_callX c__law_exact_2 hr1 (takes_of rfl rfl rfl rfl) (pa_cons (pv 9) (pa_cons (pv 3) pa_nil))) (fun _ => rfl))) (pw_or1 (pt_not (pt_truth (pe_callX c__law_exact_2 hr1 (takes_of rfl rfl rfl rfl) (pa_cons (pv 10) (pa_cons (pv 4) pa_nil))) (fun _ => rfl)))))) (pss_one (ps_ret pe_bl)) pss_nil))) (pss_one (ps_if (pt_not (pt_truth (pe_callX c__law_caught_1 hr3 (takes_of rfl rfl rfl rfl) (pa_cons (pv 3) pa_nil)) (fun _ => rfl))) (pss_one (ps_ret pe_bl)) pss_nil))))))))) (pss_one (ps_ret pe_bl)))),
      (sv_seq (sv_own (evf_call (ea_cons ev_var ea_nil) nil_ds)) (sv_seq (sv_for (iv_rng1 (ea_cons (ev_int _) ea_nil)) gv_name (sv_seq (sv_set (ev_callH ea_nil)) (sv_seq (sv_set (ev_callH ea_nil)) (sv_seq (sv_set (ev_op opd_add (ev_op opd_add (ev_call ea_nil nil_ds) (ev_call (ea_cons ev_var ea_nil) nil_ds)) (ev_call (ea_cons ev_var (ea_cons ev_var ea_nil)) nil_ds))) (sv_seq (sv_for (iv_rng1 (ea_cons (ev_cb cad_len (ea_cons ev_var ea_nil)) ea_nil)) gv_name (sv_seq (sv_set (ev_op opd_ix ev_var ev_var)) (sv_seq (sv_set (ev_op opd_add (ev_op opd_add (ev_call (ea_cons ev_var ea_nil) nil_ds) (ev_call (ea_cons ev_var ea_nil) nil_ds)) (ev_call (ea_cons ev_var ea_nil) nil_ds))) (sv_if (et_or (et_test (ev_op opd_ne ev_var (ev_of (evf_lc (iv_rng1 (ea_cons (ev_cb cad_len (ea_cons ev_var ea_nil)) ea_nil)) (fun _ _ => gv_name) (fun _ _ => et_yes) (fun _ _ => (ev_op opd_eq ev_var ev_var)))))) (et_or (et_not (et_tru (ev_isiX ev_var (.own _) T.ix_NestError))) (et_not (et_tru (ev_isiX ev_var (.ty _) T.ix_ValueError))))) (sv_ret (ev_bl _)) sv_next)))) (sv_seq (sv_if (et_test (ev_op opd_ne (ev_of (evf_lc (iv_seq (ev_call (ea_cons ev_var ea_nil) nil_ds)) (fun _ _ => gv_name) (fun _ _ => (et_not (et_tru (ev_call (ea_cons ev_var (ea_cons ev_var ea_nil)) nil_ds)))) (fun _ _ => ev_var))) (ev_lst ea_nil))) (sv_ret (ev_bl _)) sv_next) (sv_seq (sv_for (iv_seq (ev_call (ea_cons ev_var (ea_cons ev_var ea_nil)) nil_ds)) (gv_tup (gs_cons gv_name (gs_cons gv_name gs_nil))) (sv_if (et_or (et_not (et_tru (ev_call (ea_cons ev_var (ea_cons ev_var ea_nil)) nil_ds))) (et_not (et_tru (ev_call (ea_cons ev_var (ea_cons ev_var ea_nil)) nil_ds)))) (sv_ret (ev_bl _)) sv_next)) (sv_if (et_not (et_tru (ev_call (ea_cons ev_var ea_nil) nil_ds))) (sv_ret (ev_bl _)) sv_next)))))))) (sv_ret (ev_bl _))))⟩)
end Law

set_option Elab.async false
set_option linter.all false
set_option maxRecDepth 100000
set_option maxHeartbeats 2000000
noncomputable section
namespace Law
open PySem L2 Py
theorem pl_mixed {a t : Int} (h1 : 0 ≤ a) (h2 : a < 2 ^ 40) (h3 : 0 ≤ t) (h4 : t < 2 ^ 20) : ∃ r, f__law_mixed [.int a, .int t] = .ok (.int r) := by
  have g1 : ∀ z : Int, 0 ≤ z.fmod 2147483399 := fun z => fmod_lo (by decide)
  have g2 : ∀ z : Int, z.fmod 2147483399 < 2147483399 := fun z => fmod_hi (by decide)
  have g3 : ∀ z : Int, 0 ≤ z.fmod 2147483629 := fun z => fmod_lo (by decide)
  have g4 : ∀ z : Int, z.fmod 2147483629 < 2147483629 := fun z => fmod_hi (by decide)
  obtain ⟨o, ho⟩ : ∃ o, o = (a * 48271 + t * 7919 + 30011).fmod 2147483399 := ⟨_, rfl⟩
  have o1 := g1 (a * 48271 + t * 7919 + 30011)
  have o2 := g2 (a * 48271 + t * 7919 + 30011)
  rw [← ho] at o1 o2
  obtain ⟨u, hu⟩ : ∃ u, u = (o * o + t * 92821 + o.fdiv 131).fmod 2147483629 := ⟨_, rfl⟩
  have u1 := g3 (o * o + t * 92821 + o.fdiv 131)
  have u2 := g4 (o * o + t * 92821 + o.fdiv 131)
  rw [← hu] at u1 u2
  apply Exists.intro
  unfold f__law_mixed
  have e1 : dMod (.int (a * 48271 + t * 7919 + 30011)) (.int 2147483399) = some (.int o) := by rw [dMod_of (by decide), ho]
  have e2 : dMod (.int (o * o + t * 92821 + o.fdiv 131)) (.int 2147483629) = some (.int u) := by rw [dMod_of (by decide), hu]
  unfold m__law_mixed
  simp (disch := first | omega | assumption | (simp only [Qz, Ra, Qy, Rb, Rn]; omega) | (simp only [Qw, Qx]; done)) only [Op, Np, Jy, Hk, Cw, Lb, Ll, Ng, Mm, Ms, Ib, Oc, Qm, Mp, Kz, Cr, Kp, Jo, Qn, Na, Jt, Bx, Dz, Ix, Ad, Nl, Gj, Gu, Ab, Gp, Pv, Fi, Ph, Hy, Qp, Fr, Po, Jv, Bs, Av, Fp, Gr, Ex, Ky, Fd, Ig, Gy, Kq, Md, Bh, Fe, Oe, Hb, Da, Dv, Mr, Cu, Mc, Hx, Iu, Px, Cb, Cs, Mg, Il, Dt, Ak, Ek, Ob, Mn, Gi, Pf, Nc, Dj, Jw, Cy, Bp, Fl, Ai, Al, Fv, Jz, Ds, Mu, An, Hq, Lu, Am, Ql, Ff, Fm, Bv, Ge, Ft, Er, Fh, Jm, Ec, Oa, Jj, Ny, Db, Bq, Gt, Dx, Ju, Cc, Lt, Cd, Cf, Nn, Og, Pm, Kt, Bc, Nb, Ko, Gv, Oy, Kd, Qq, Pg, Ld, Ax, Cn, Od, Ed, Pd, Pu, Ox, Eb, Mw, Cp, Oq, Lg, Ba, Gb, Br, Kw, Ks, Gf, Qr, Kh, Pn, Mo, Dd, Mf, Mv, Fz, Nh, Fg, Iq, Ku, Ac, Es, Hv, Jk, Pp, Ep, Lw, Gc, Fj, Ct, Dh, Lp, Ja, Jq, Pt, Jn, Az, Lx, Mz, Lj, Go, Im, Ka, Kc, Nf, Eh, Kr, Qs, Dy, Ht, Qt, Mi, Pj, Gn, Lr, Oi, Qj, Hz, Pr, Ce, Ef, Nu, Bi, Qk, Aq, Pa, Pi, De, Cg, Ck, Kb, Pl, Pe, Kj, Dc, Ic, Aj, Aa, Ho, Mq, Qi, Kv, Gk, Me, Nt, Hi, Mh, Mx, Qo, Ji, Bt, Os, Ar, Pc, Ki, Hj, Jc, Bz, Iw, Ez, Mb, Aw, Jl, Bb, Nv, Lh, Hl, Ao, Eu, Hf, Fu, Be, Cj, Nq, Lq, Hu, Qc, Df, Bg, Oh, Cm, Ie, Hr, Ay, Fn, Oz, Ia, Nw, Gq, Pw, Qv, Bf, Pq, Ow, Lv, Lo, Pb, Bl, Ch, Ml, Ej, En, Nd, Qe, Hg, Bw, Dg, Nj, Eo, Fw, Nz, Ps, Hn, Bn, Ah, Ik, Iz, Kk, Ey, Fx, Ei, Jx, Lm, Cv, Jp, Nk, Qb, Kl, Jh, Ha, Au, Iy, Fc, Mt, Ma, Dm, Qf, Lz, Gg, El, Hw, Oj, Ot, Dk, Ae, Et, Pk, Fy, Kx, Ee, Hs, Fq, Ov, Ke, Bo, On, Hm, Ip, Ni, My, Du, Js, As, Mj, Ga, Cl, Gd, Kn, Fo, Jr, Ca, Af, Ol, Ih, Jf, Jd, La, Ag, Jb, Om, Dn, Eg, Bj, Ev, Ir, Gx, Qh, Dr, Kf, Lc, Ly, Le, Gs, Qu, Cq, Fk, Bu, Ln, Di, Iv, Ii, Lk, Ij, Km, Dw, Cz, Ou, Nr, Bm, Lf, Li, Jg, Dq, Qg, Ew, Ci, Ap, Pz, Hc, Em, Gh, Je, Kg, Nm, Hh, Oo, Rl, Rm, Qw, Qx, Rh, Ri, Qz, Ra, Qy, Ro, Rp, Rq, entry, Rg, Rr, Rc, Re, Nat.reduceAdd, Nat.reduceSub, Nat.reduceLT, Nat.reduceLeDiff, Nat.reduceEqDiff, Nat.zero_add, ↓reduceIte, decide_true, decide_false, Ry, Rv, eq_self, ne_eq, not_true_eq_false, not_false_eq_true, Int.reduceEq, Int.reduceToNat, Int.toNat_natCast, Int.reduceNe, Int.reduceLT, Int.reduceLE, Int.reduceNeg, if_true, if_false, decide_not, Rw, Rz, Ru, Rt, Sc, reduceCtorEq, restE, wipeE, Se, Sf, Rj, Rk, Nat.reduceBEq, Sa, Rx, Sb, Sd, BEq.rfl, e1, e2]
  rfl
end Law

set_option Elab.async false
set_option linter.all false
set_option maxRecDepth 100000
set_option maxHeartbeats 2000000
noncomputable section
namespace Law
open PySem L2 Py
def Hd (cells : List Int) (p r t : Int) : List D := [.lst (cells.map D.int), .int p, .int r, .int t]
def Good (l : List D) : Prop := ∃ cells p r t, l = Hd cells p r t ∧ cells.length ≤ 63 ∧ (∀ c ∈ cells, 0 ≤ c) ∧ 0 ≤ p ∧ p ≤ 63 ∧ 0 ≤ r ∧ 0 ≤ t ∧ t < 2147483549
theorem pl_take {l : List D} {many : Int} (g : Good l) (h0 : 0 < many) (hb : Bd 4000 many) : ∃ x l', f__law_take l [.int many] = .ok (.int x, l') ∧ 0 ≤ x ∧ x < many ∧ Good l' := by
  obtain ⟨cells, p, r, t, rfl, hn, hc, p0, p1, r0, t0, t1⟩ := g
  have hl : (cells.map D.int).length = cells.length := Qy _
  have fl : ∀ z : Int, 0 ≤ z.fmod many := fun z => fmod_lo h0
  have fh : ∀ z : Int, z.fmod many < many := fun z => fmod_hi h0
  have eP : dPow (.int 10) (.int 18) = some (.int 1000000000000000000) := by rfl
  have rest : ∀ cells p q t, cells.length ≤ 63 → (∀ c ∈ cells, (0 : Int) ≤ c) → (0 : Int) ≤ p → p ≤ 63 → (0 : Int) < q → (0 : Int) ≤ t → t < 2147483549 → Good (Hd cells p (q.fdiv many) t) := fun cells p q t h1 h2 h3 h4 h5 h6 h7 => ⟨cells, p, _, t, rfl, h1, h2, h3, h4, Int.fdiv_nonneg (by omega) (by omega), h6, h7⟩
  have eD : ∀ q : Int, dFdiv (.int q) (.int many) = some (.int (q.fdiv many)) := fun q => dFdiv_of hb (by decide) (by omega)
  unfold f__law_take
  by_cases hr : r = 0
  · by_cases hp : p < cells.length
    · obtain ⟨n, rfl⟩ : ∃ n : Nat, p = n := ⟨p.toNat, by omega⟩
      have hn2 : n < cells.length := by omega
      have c0 := hc cells[n] (List.getElem_mem hn2)
      have eI : dIx (.lst (cells.map D.int)) (.int n) = some (.int cells[n]) := by
        refine atI_of rfl ?_
        rw [List.getElem?_map, List.getElem?_eq_getElem hn2]; rfl
      generalize cells[n] = c at *
      by_cases h18 : c < 1000000000000000000
      · have q1 : 0 ≤ c.fmod 2147483399 := fmod_lo (by decide)
        have q2 : c.fmod 2147483399 < 2147483399 := fmod_hi (by decide)
        obtain ⟨m, hm⟩ := pl_mixed (a := c.fmod 2147483399) (t := (n : Int) + 1) q1 (by omega) (by omega) (by omega)
        refine ⟨m.fmod many, Hd cells (n + 1) r t, ?_, fl _, fh _, ⟨cells, n + 1, r, t, rfl, hn, hc, by omega, by omega, r0, t0, t1⟩⟩
        unfold Hd m__law_take
        (simp (disch := first | omega | assumption | (simp only [Qz, Ra, Qy, Rb, Rn]; omega) | (simp only [Qw, Qx]; done)) only [Op, Np, Jy, Hk, Cw, Lb, Ll, Ng, Mm, Ms, Ib, Oc, Qm, Mp, Kz, Cr, Kp, Jo, Qn, Na, Jt, Bx, Dz, Ix, Ad, Nl, Gj, Gu, Ab, Gp, Pv, Fi, Ph, Hy, Qp, Fr, Po, Jv, Bs, Av, Fp, Gr, Ex, Ky, Fd, Ig, Gy, Kq, Md, Bh, Fe, Oe, Hb, Da, Dv, Mr, Cu, Mc, Hx, Iu, Px, Cb, Cs, Mg, Il, Dt, Ak, Ek, Ob, Mn, Gi, Pf, Nc, Dj, Jw, Cy, Bp, Fl, Ai, Al, Fv, Jz, Ds, Mu, An, Hq, Lu, Am, Ql, Ff, Fm, Bv, Ge, Ft, Er, Fh, Jm, Ec, Oa, Jj, Ny, Db, Bq, Gt, Dx, Ju, Cc, Lt, Cd, Cf, Nn, Og, Pm, Kt, Bc, Nb, Ko, Gv, Oy, Kd, Qq, Pg, Ld, Ax, Cn, Od, Ed, Pd, Pu, Ox, Eb, Mw, Cp, Oq, Lg, Ba, Gb, Br, Kw, Ks, Gf, Qr, Kh, Pn, Mo, Dd, Mf, Mv, Fz, Nh, Fg, Iq, Ku, Ac, Es, Hv, Jk, Pp, Ep, Lw, Gc, Fj, Ct, Dh, Lp, Ja, Jq, Pt, Jn, Az, Lx, Mz, Lj, Go, Im, Ka, Kc, Nf, Eh, Kr, Qs, Dy, Ht, Qt, Mi, Pj, Gn, Lr, Oi, Qj, Hz, Pr, Ce, Ef, Nu, Bi, Qk, Aq, Pa, Pi, De, Cg, Ck, Kb, Pl, Pe, Kj, Dc, Ic, Aj, Aa, Ho, Mq, Qi, Kv, Gk, Me, Nt, Hi, Mh, Mx, Qo, Ji, Bt, Os, Ar, Pc, Ki, Hj, Jc, Bz, Iw, Ez, Mb, Aw, Jl, Bb, Nv, Lh, Hl, Ao, Eu, Hf, Fu, Be, Cj, Nq, Lq, Hu, Qc, Df, Bg, Oh, Cm, Ie, Hr, Ay, Fn, Oz, Ia, Nw, Gq, Pw, Qv, Bf, Pq, Ow, Lv, Lo, Pb, Bl, Ch, Ml, Ej, En, Nd, Qe, Hg, Bw, Dg, Nj, Eo, Fw, Nz, Ps, Hn, Bn, Ah, Ik, Iz, Kk, Ey, Fx, Ei, Jx, Lm, Cv, Jp, Nk, Qb, Kl, Jh, Ha, Au, Iy, Fc, Mt, Ma, Dm, Qf, Lz, Gg, El, Hw, Oj, Ot, Dk, Ae, Et, Pk, Fy, Kx, Ee, Hs, Fq, Ov, Ke, Bo, On, Hm, Ip, Ni, My, Du, Js, As, Mj, Ga, Cl, Gd, Kn, Fo, Jr, Ca, Af, Ol, Ih, Jf, Jd, La, Ag, Jb, Om, Dn, Eg, Bj, Ev, Ir, Gx, Qh, Dr, Kf, Lc, Ly, Le, Gs, Qu, Cq, Fk, Bu, Ln, Di, Iv, Ii, Lk, Ij, Km, Dw, Cz, Ou, Nr, Bm, Lf, Li, Jg, Dq, Qg, Ew, Ci, Ap, Pz, Hc, Em, Gh, Je, Kg, Nm, Hh, Oo, Rl, Rm, Qw, Qx, Rh, Ri, Qz, Ra, Qy, Ro, Rp, Rq, entry, Rg, Rr, Rc, Re, Nat.reduceAdd, Nat.reduceSub, Nat.reduceLT, Nat.reduceLeDiff, Nat.reduceEqDiff, Nat.zero_add, ↓reduceIte, decide_true, decide_false, Ry, Rv, eq_self, ne_eq, not_true_eq_false, not_false_eq_true, Int.reduceEq, Int.reduceToNat, Int.toNat_natCast, Int.reduceNe, Int.reduceLT, Int.reduceLE, Int.reduceNeg, if_true, if_false, decide_not, Rw, Rz, Ru, Rt, Sc, reduceCtorEq, restE, wipeE, Se, Sf, Rj, Rk, Nat.reduceBEq, Sa, Rx, Sb, Sd, BEq.rfl, eP, eI, hm] <;> rfl)
      · refine ⟨c.fmod many, Hd cells (n + 1) (c.fdiv many) t, ?_, fl _, fh _, rest cells _ c t hn hc (by omega) (by omega) (by omega) t0 t1⟩
        unfold Hd m__law_take
        (simp (disch := first | omega | assumption | (simp only [Qz, Ra, Qy, Rb, Rn]; omega) | (simp only [Qw, Qx]; done)) only [Op, Np, Jy, Hk, Cw, Lb, Ll, Ng, Mm, Ms, Ib, Oc, Qm, Mp, Kz, Cr, Kp, Jo, Qn, Na, Jt, Bx, Dz, Ix, Ad, Nl, Gj, Gu, Ab, Gp, Pv, Fi, Ph, Hy, Qp, Fr, Po, Jv, Bs, Av, Fp, Gr, Ex, Ky, Fd, Ig, Gy, Kq, Md, Bh, Fe, Oe, Hb, Da, Dv, Mr, Cu, Mc, Hx, Iu, Px, Cb, Cs, Mg, Il, Dt, Ak, Ek, Ob, Mn, Gi, Pf, Nc, Dj, Jw, Cy, Bp, Fl, Ai, Al, Fv, Jz, Ds, Mu, An, Hq, Lu, Am, Ql, Ff, Fm, Bv, Ge, Ft, Er, Fh, Jm, Ec, Oa, Jj, Ny, Db, Bq, Gt, Dx, Ju, Cc, Lt, Cd, Cf, Nn, Og, Pm, Kt, Bc, Nb, Ko, Gv, Oy, Kd, Qq, Pg, Ld, Ax, Cn, Od, Ed, Pd, Pu, Ox, Eb, Mw, Cp, Oq, Lg, Ba, Gb, Br, Kw, Ks, Gf, Qr, Kh, Pn, Mo, Dd, Mf, Mv, Fz, Nh, Fg, Iq, Ku, Ac, Es, Hv, Jk, Pp, Ep, Lw, Gc, Fj, Ct, Dh, Lp, Ja, Jq, Pt, Jn, Az, Lx, Mz, Lj, Go, Im, Ka, Kc, Nf, Eh, Kr, Qs, Dy, Ht, Qt, Mi, Pj, Gn, Lr, Oi, Qj, Hz, Pr, Ce, Ef, Nu, Bi, Qk, Aq, Pa, Pi, De, Cg, Ck, Kb, Pl, Pe, Kj, Dc, Ic, Aj, Aa, Ho, Mq, Qi, Kv, Gk, Me, Nt, Hi, Mh, Mx, Qo, Ji, Bt, Os, Ar, Pc, Ki, Hj, Jc, Bz, Iw, Ez, Mb, Aw, Jl, Bb, Nv, Lh, Hl, Ao, Eu, Hf, Fu, Be, Cj, Nq, Lq, Hu, Qc, Df, Bg, Oh, Cm, Ie, Hr, Ay, Fn, Oz, Ia, Nw, Gq, Pw, Qv, Bf, Pq, Ow, Lv, Lo, Pb, Bl, Ch, Ml, Ej, En, Nd, Qe, Hg, Bw, Dg, Nj, Eo, Fw, Nz, Ps, Hn, Bn, Ah, Ik, Iz, Kk, Ey, Fx, Ei, Jx, Lm, Cv, Jp, Nk, Qb, Kl, Jh, Ha, Au, Iy, Fc, Mt, Ma, Dm, Qf, Lz, Gg, El, Hw, Oj, Ot, Dk, Ae, Et, Pk, Fy, Kx, Ee, Hs, Fq, Ov, Ke, Bo, On, Hm, Ip, Ni, My, Du, Js, As, Mj, Ga, Cl, Gd, Kn, Fo, Jr, Ca, Af, Ol, Ih, Jf, Jd, La, Ag, Jb, Om, Dn, Eg, Bj, Ev, Ir, Gx, Qh, Dr, Kf, Lc, Ly, Le, Gs, Qu, Cq, Fk, Bu, Ln, Di, Iv, Ii, Lk, Ij, Km, Dw, Cz, Ou, Nr, Bm, Lf, Li, Jg, Dq, Qg, Ew, Ci, Ap, Pz, Hc, Em, Gh, Je, Kg, Nm, Hh, Oo, Rl, Rm, Qw, Qx, Rh, Ri, Qz, Ra, Qy, Ro, Rp, Rq, entry, Rg, Rr, Rc, Re, Nat.reduceAdd, Nat.reduceSub, Nat.reduceLT, Nat.reduceLeDiff, Nat.reduceEqDiff, Nat.zero_add, ↓reduceIte, decide_true, decide_false, Ry, Rv, eq_self, ne_eq, not_true_eq_false, not_false_eq_true, Int.reduceEq, Int.reduceToNat, Int.toNat_natCast, Int.reduceNe, Int.reduceLT, Int.reduceLE, Int.reduceNeg, if_true, if_false, decide_not, Rw, Rz, Ru, Rt, Sc, reduceCtorEq, restE, wipeE, Se, Sf, Rj, Rk, Nat.reduceBEq, Sa, Rx, Sb, Sd, BEq.rfl, eP, eI, eD] <;> rfl)
    · have z1 : 0 ≤ (t + 1).fmod 2147483549 := fmod_lo (by decide)
      have z2 : (t + 1).fmod 2147483549 < 2147483549 := fmod_hi (by decide)
      obtain ⟨m, hm⟩ := pl_mixed (a := (t + 1).fmod 2147483549) (t := p) z1 (by omega) p0 (by omega)
      refine ⟨m.fmod many, Hd cells p r ((t + 1).fmod 2147483549), ?_, fl _, fh _, ⟨cells, p, r, _, rfl, hn, hc, p0, p1, r0, z1, z2⟩⟩
      unfold Hd m__law_take
      (simp (disch := first | omega | assumption | (simp only [Qz, Ra, Qy, Rb, Rn]; omega) | (simp only [Qw, Qx]; done)) only [Op, Np, Jy, Hk, Cw, Lb, Ll, Ng, Mm, Ms, Ib, Oc, Qm, Mp, Kz, Cr, Kp, Jo, Qn, Na, Jt, Bx, Dz, Ix, Ad, Nl, Gj, Gu, Ab, Gp, Pv, Fi, Ph, Hy, Qp, Fr, Po, Jv, Bs, Av, Fp, Gr, Ex, Ky, Fd, Ig, Gy, Kq, Md, Bh, Fe, Oe, Hb, Da, Dv, Mr, Cu, Mc, Hx, Iu, Px, Cb, Cs, Mg, Il, Dt, Ak, Ek, Ob, Mn, Gi, Pf, Nc, Dj, Jw, Cy, Bp, Fl, Ai, Al, Fv, Jz, Ds, Mu, An, Hq, Lu, Am, Ql, Ff, Fm, Bv, Ge, Ft, Er, Fh, Jm, Ec, Oa, Jj, Ny, Db, Bq, Gt, Dx, Ju, Cc, Lt, Cd, Cf, Nn, Og, Pm, Kt, Bc, Nb, Ko, Gv, Oy, Kd, Qq, Pg, Ld, Ax, Cn, Od, Ed, Pd, Pu, Ox, Eb, Mw, Cp, Oq, Lg, Ba, Gb, Br, Kw, Ks, Gf, Qr, Kh, Pn, Mo, Dd, Mf, Mv, Fz, Nh, Fg, Iq, Ku, Ac, Es, Hv, Jk, Pp, Ep, Lw, Gc, Fj, Ct, Dh, Lp, Ja, Jq, Pt, Jn, Az, Lx, Mz, Lj, Go, Im, Ka, Kc, Nf, Eh, Kr, Qs, Dy, Ht, Qt, Mi, Pj, Gn, Lr, Oi, Qj, Hz, Pr, Ce, Ef, Nu, Bi, Qk, Aq, Pa, Pi, De, Cg, Ck, Kb, Pl, Pe, Kj, Dc, Ic, Aj, Aa, Ho, Mq, Qi, Kv, Gk, Me, Nt, Hi, Mh, Mx, Qo, Ji, Bt, Os, Ar, Pc, Ki, Hj, Jc, Bz, Iw, Ez, Mb, Aw, Jl, Bb, Nv, Lh, Hl, Ao, Eu, Hf, Fu, Be, Cj, Nq, Lq, Hu, Qc, Df, Bg, Oh, Cm, Ie, Hr, Ay, Fn, Oz, Ia, Nw, Gq, Pw, Qv, Bf, Pq, Ow, Lv, Lo, Pb, Bl, Ch, Ml, Ej, En, Nd, Qe, Hg, Bw, Dg, Nj, Eo, Fw, Nz, Ps, Hn, Bn, Ah, Ik, Iz, Kk, Ey, Fx, Ei, Jx, Lm, Cv, Jp, Nk, Qb, Kl, Jh, Ha, Au, Iy, Fc, Mt, Ma, Dm, Qf, Lz, Gg, El, Hw, Oj, Ot, Dk, Ae, Et, Pk, Fy, Kx, Ee, Hs, Fq, Ov, Ke, Bo, On, Hm, Ip, Ni, My, Du, Js, As, Mj, Ga, Cl, Gd, Kn, Fo, Jr, Ca, Af, Ol, Ih, Jf, Jd, La, Ag, Jb, Om, Dn, Eg, Bj, Ev, Ir, Gx, Qh, Dr, Kf, Lc, Ly, Le, Gs, Qu, Cq, Fk, Bu, Ln, Di, Iv, Ii, Lk, Ij, Km, Dw, Cz, Ou, Nr, Bm, Lf, Li, Jg, Dq, Qg, Ew, Ci, Ap, Pz, Hc, Em, Gh, Je, Kg, Nm, Hh, Oo, Rl, Rm, Qw, Qx, Rh, Ri, Qz, Ra, Qy, Ro, Rp, Rq, entry, Rg, Rr, Rc, Re, Nat.reduceAdd, Nat.reduceSub, Nat.reduceLT, Nat.reduceLeDiff, Nat.reduceEqDiff, Nat.zero_add, ↓reduceIte, decide_true, decide_false, Ry, Rv, eq_self, ne_eq, not_true_eq_false, not_false_eq_true, Int.reduceEq, Int.reduceToNat, Int.toNat_natCast, Int.reduceNe, Int.reduceLT, Int.reduceLE, Int.reduceNeg, if_true, if_false, decide_not, Rw, Rz, Ru, Rt, Sc, reduceCtorEq, restE, wipeE, Se, Sf, Rj, Rk, Nat.reduceBEq, Sa, Rx, Sb, Sd, BEq.rfl, eP, hm] <;> rfl)
  · refine ⟨r.fmod many, Hd cells p (r.fdiv many) t, ?_, fl _, fh _, rest cells p r t hn hc p0 p1 (by omega) t0 t1⟩
    unfold Hd m__law_take
    (simp (disch := first | omega | assumption | (simp only [Qz, Ra, Qy, Rb, Rn]; omega) | (simp only [Qw, Qx]; done)) only [Op, Np, Jy, Hk, Cw, Lb, Ll, Ng, Mm, Ms, Ib, Oc, Qm, Mp, Kz, Cr, Kp, Jo, Qn, Na, Jt, Bx, Dz, Ix, Ad, Nl, Gj, Gu, Ab, Gp, Pv, Fi, Ph, Hy, Qp, Fr, Po, Jv, Bs, Av, Fp, Gr, Ex, Ky, Fd, Ig, Gy, Kq, Md, Bh, Fe, Oe, Hb, Da, Dv, Mr, Cu, Mc, Hx, Iu, Px, Cb, Cs, Mg, Il, Dt, Ak, Ek, Ob, Mn, Gi, Pf, Nc, Dj, Jw, Cy, Bp, Fl, Ai, Al, Fv, Jz, Ds, Mu, An, Hq, Lu, Am, Ql, Ff, Fm, Bv, Ge, Ft, Er, Fh, Jm, Ec, Oa, Jj, Ny, Db, Bq, Gt, Dx, Ju, Cc, Lt, Cd, Cf, Nn, Og, Pm, Kt, Bc, Nb, Ko, Gv, Oy, Kd, Qq, Pg, Ld, Ax, Cn, Od, Ed, Pd, Pu, Ox, Eb, Mw, Cp, Oq, Lg, Ba, Gb, Br, Kw, Ks, Gf, Qr, Kh, Pn, Mo, Dd, Mf, Mv, Fz, Nh, Fg, Iq, Ku, Ac, Es, Hv, Jk, Pp, Ep, Lw, Gc, Fj, Ct, Dh, Lp, Ja, Jq, Pt, Jn, Az, Lx, Mz, Lj, Go, Im, Ka, Kc, Nf, Eh, Kr, Qs, Dy, Ht, Qt, Mi, Pj, Gn, Lr, Oi, Qj, Hz, Pr, Ce, Ef, Nu, Bi, Qk, Aq, Pa, Pi, De, Cg, Ck, Kb, Pl, Pe, Kj, Dc, Ic, Aj, Aa, Ho, Mq, Qi, Kv, Gk, Me, Nt, Hi, Mh, Mx, Qo, Ji, Bt, Os, Ar, Pc, Ki, Hj, Jc, Bz, Iw, Ez, Mb, Aw, Jl, Bb, Nv, Lh, Hl, Ao, Eu, Hf, Fu, Be, Cj, Nq, Lq, Hu, Qc, Df, Bg, Oh, Cm, Ie, Hr, Ay, Fn, Oz, Ia, Nw, Gq, Pw, Qv, Bf, Pq, Ow, Lv, Lo, Pb, Bl, Ch, Ml, Ej, En, Nd, Qe, Hg, Bw, Dg, Nj, Eo, Fw, Nz, Ps, Hn, Bn, Ah, Ik, Iz, Kk, Ey, Fx, Ei, Jx, Lm, Cv, Jp, Nk, Qb, Kl, Jh, Ha, Au, Iy, Fc, Mt, Ma, Dm, Qf, Lz, Gg, El, Hw, Oj, Ot, Dk, Ae, Et, Pk, Fy, Kx, Ee, Hs, Fq, Ov, Ke, Bo, On, Hm, Ip, Ni, My, Du, Js, As, Mj, Ga, Cl, Gd, Kn, Fo, Jr, Ca, Af, Ol, Ih, Jf, Jd, La, Ag, Jb, Om, Dn, Eg, Bj, Ev, Ir, Gx, Qh, Dr, Kf, Lc, Ly, Le, Gs, Qu, Cq, Fk, Bu, Ln, Di, Iv, Ii, Lk, Ij, Km, Dw, Cz, Ou, Nr, Bm, Lf, Li, Jg, Dq, Qg, Ew, Ci, Ap, Pz, Hc, Em, Gh, Je, Kg, Nm, Hh, Oo, Rl, Rm, Qw, Qx, Rh, Ri, Qz, Ra, Qy, Ro, Rp, Rq, entry, Rg, Rr, Rc, Re, Nat.reduceAdd, Nat.reduceSub, Nat.reduceLT, Nat.reduceLeDiff, Nat.reduceEqDiff, Nat.zero_add, ↓reduceIte, decide_true, decide_false, Ry, Rv, eq_self, ne_eq, not_true_eq_false, not_false_eq_true, Int.reduceEq, Int.reduceToNat, Int.toNat_natCast, Int.reduceNe, Int.reduceLT, Int.reduceLE, Int.reduceNeg, if_true, if_false, decide_not, Rw, Rz, Ru, Rt, Sc, reduceCtorEq, restE, wipeE, Se, Sf, Rj, Rk, Nat.reduceBEq, Sa, Rx, Sb, Sd, BEq.rfl, eP, eD] <;> rfl)
end Law

set_option Elab.async false
set_option linter.all false
set_option maxRecDepth 100000
set_option maxHeartbeats 2000000
noncomputable section
namespace Law
open PySem L2 Py
theorem handStep {z : D} {t n : Int} {l : List D} {e : Option D} (h1 : 0 ≤ t) (h2 : t < 2 ^ 40) (hl : l.length < 1000) :
    l1__law_hand [some z, some (.int t), some (.lst l), some (.int n)] = .nx [some z, some (.int ((t * 1723 + n).fmod 2147483549)), some (.lst (l ++ [.int (if n < 0 then -n else n)])), some (.int n)] := by
  unfold l1__law_hand
  have hl2 : l.length < 1000000 := by omega
  (simp (disch := first | omega | assumption | (simp only [Qz, Ra, Qy, Rb, Rn]; omega) | (simp only [Qw, Qx]; done)) only [Op, Np, Jy, Hk, Cw, Lb, Ll, Ng, Mm, Ms, Ib, Oc, Qm, Mp, Kz, Cr, Kp, Jo, Qn, Na, Jt, Bx, Dz, Ix, Ad, Nl, Gj, Gu, Ab, Gp, Pv, Fi, Ph, Hy, Qp, Fr, Po, Jv, Bs, Av, Fp, Gr, Ex, Ky, Fd, Ig, Gy, Kq, Md, Bh, Fe, Oe, Hb, Da, Dv, Mr, Cu, Mc, Hx, Iu, Px, Cb, Cs, Mg, Il, Dt, Ak, Ek, Ob, Mn, Gi, Pf, Nc, Dj, Jw, Cy, Bp, Fl, Ai, Al, Fv, Jz, Ds, Mu, An, Hq, Lu, Am, Ql, Ff, Fm, Bv, Ge, Ft, Er, Fh, Jm, Ec, Oa, Jj, Ny, Db, Bq, Gt, Dx, Ju, Cc, Lt, Cd, Cf, Nn, Og, Pm, Kt, Bc, Nb, Ko, Gv, Oy, Kd, Qq, Pg, Ld, Ax, Cn, Od, Ed, Pd, Pu, Ox, Eb, Mw, Cp, Oq, Lg, Ba, Gb, Br, Kw, Ks, Gf, Qr, Kh, Pn, Mo, Dd, Mf, Mv, Fz, Nh, Fg, Iq, Ku, Ac, Es, Hv, Jk, Pp, Ep, Lw, Gc, Fj, Ct, Dh, Lp, Ja, Jq, Pt, Jn, Az, Lx, Mz, Lj, Go, Im, Ka, Kc, Nf, Eh, Kr, Qs, Dy, Ht, Qt, Mi, Pj, Gn, Lr, Oi, Qj, Hz, Pr, Ce, Ef, Nu, Bi, Qk, Aq, Pa, Pi, De, Cg, Ck, Kb, Pl, Pe, Kj, Dc, Ic, Aj, Aa, Ho, Mq, Qi, Kv, Gk, Me, Nt, Hi, Mh, Mx, Qo, Ji, Bt, Os, Ar, Pc, Ki, Hj, Jc, Bz, Iw, Ez, Mb, Aw, Jl, Bb, Nv, Lh, Hl, Ao, Eu, Hf, Fu, Be, Cj, Nq, Lq, Hu, Qc, Df, Bg, Oh, Cm, Ie, Hr, Ay, Fn, Oz, Ia, Nw, Gq, Pw, Qv, Bf, Pq, Ow, Lv, Lo, Pb, Bl, Ch, Ml, Ej, En, Nd, Qe, Hg, Bw, Dg, Nj, Eo, Fw, Nz, Ps, Hn, Bn, Ah, Ik, Iz, Kk, Ey, Fx, Ei, Jx, Lm, Cv, Jp, Nk, Qb, Kl, Jh, Ha, Au, Iy, Fc, Mt, Ma, Dm, Qf, Lz, Gg, El, Hw, Oj, Ot, Dk, Ae, Et, Pk, Fy, Kx, Ee, Hs, Fq, Ov, Ke, Bo, On, Hm, Ip, Ni, My, Du, Js, As, Mj, Ga, Cl, Gd, Kn, Fo, Jr, Ca, Af, Ol, Ih, Jf, Jd, La, Ag, Jb, Om, Dn, Eg, Bj, Ev, Ir, Gx, Qh, Dr, Kf, Lc, Ly, Le, Gs, Qu, Cq, Fk, Bu, Ln, Di, Iv, Ii, Lk, Ij, Km, Dw, Cz, Ou, Nr, Bm, Lf, Li, Jg, Dq, Qg, Ew, Ci, Ap, Pz, Hc, Em, Gh, Je, Kg, Nm, Hh, Oo, Rl, Rm, Qw, Qx, Rh, Ri, Qz, Ra, Qy, Ro, Rp, Rq, entry, Rg, Rr, Rc, Re, Nat.reduceAdd, Nat.reduceSub, Nat.reduceLT, Nat.reduceLeDiff, Nat.reduceEqDiff, Nat.zero_add, ↓reduceIte, decide_true, decide_false, Ry, Rv, eq_self, ne_eq, not_true_eq_false, not_false_eq_true, Int.reduceEq, Int.reduceToNat, Int.toNat_natCast, Int.reduceNe, Int.reduceLT, Int.reduceLE, Int.reduceNeg, if_true, if_false, decide_not, Rw, Rz, Ru, Rt, Sc, reduceCtorEq, restE, wipeE, Se, Sf, Rj, Rk, Nat.reduceBEq, Sa, Rx, Sb, Sd, BEq.rfl, hl2] <;> rfl)
theorem pl_hand (ns : List Int) (hn : ns.length ≤ 63) : ∃ l, f__law_hand [.scr ns] = .ok (.lst l) ∧ Good l := by
  have loop : ∀ (ms : List Int) (cs : List Int) (t : Int) (e : Option D), cs.length + ms.length ≤ 63 → 0 ≤ t → t < 2147483549 → (∀ c ∈ cs, 0 ≤ c) →
      ∃ (cs' : List Int) (t' : Int) (e' : Option D), forL (nmG 3) l1__law_hand (ms.map D.int) [some (.scr ns), some (.int t), some (.lst (cs.map D.int)), e] = .nx [some (.scr ns), some (.int t'), some (.lst (cs'.map D.int)), e'] ∧ cs'.length ≤ 63 ∧ 0 ≤ t' ∧ t' < 2147483549 ∧ ∀ c ∈ cs', 0 ≤ c := by
    intro ms
    induction ms with
    | nil => exact fun cs t e h1 h2 h3 h4 => ⟨cs, t, e, rfl, by simpa using h1, h2, h3, h4⟩
    | cons m ms ih =>
      intro cs t e h1 h2 h3 h4
      have st := handStep (z := .scr ns) (t := t) (n := m) (l := cs.map D.int) (e := e) h2 (by omega) (by rw [Qy]; simp at h1; omega)
      obtain ⟨cs', t', e', q1, q2⟩ := ih (cs ++ [if m < 0 then -m else m]) ((t * 1723 + m).fmod 2147483549) (some (.int m)) (by simp at h1 ⊢; omega) (fmod_lo (by decide)) (fmod_hi (by decide)) (fun c hc => by
        rcases List.mem_append.mp hc with h | h
        · exact h4 c h
        · rw [List.mem_singleton.mp h]; split <;> omega)
      refine ⟨cs', t', e', ?_, q2⟩
      rw [← q1]
      show (match l1__law_hand [some (D.scr ns), some (.int t), some (.lst (cs.map D.int)), some (.int m)] with | .nx ρ2 => forL (nmG 3) l1__law_hand (ms.map D.int) ρ2 | .ct ρ2 => forL (nmG 3) l1__law_hand (ms.map D.int) ρ2 | .brk ρ2 => .nx ρ2 | .ret d ρ2 => .ret d ρ2 | .exc e ρ2 => .exc e ρ2 | .stuck => .stuck) = _
      rw [st, List.map_append]
      rfl
  obtain ⟨cs, t, e, q1, q2, q3, q4, q5⟩ := loop ns [] ((ns.length : Int) + 41) none (by simpa using hn) (by omega) (by omega) (fun _ h => by cases h)
  refine ⟨Hd cs 0 0 t, ?_, ⟨cs, 0, 0, t, rfl, q2, q5, by decide, by decide, by decide, q3, q4⟩⟩
  have ei : itemsD (.scr ns) = some (ns.map D.int) := rfl
  unfold f__law_hand m__law_hand Hd
  simp only [Rr] at q1
  (simp (disch := first | omega | assumption | (simp only [Qz, Ra, Qy, Rb, Rn]; omega) | (simp only [Qw, Qx]; done)) only [Op, Np, Jy, Hk, Cw, Lb, Ll, Ng, Mm, Ms, Ib, Oc, Qm, Mp, Kz, Cr, Kp, Jo, Qn, Na, Jt, Bx, Dz, Ix, Ad, Nl, Gj, Gu, Ab, Gp, Pv, Fi, Ph, Hy, Qp, Fr, Po, Jv, Bs, Av, Fp, Gr, Ex, Ky, Fd, Ig, Gy, Kq, Md, Bh, Fe, Oe, Hb, Da, Dv, Mr, Cu, Mc, Hx, Iu, Px, Cb, Cs, Mg, Il, Dt, Ak, Ek, Ob, Mn, Gi, Pf, Nc, Dj, Jw, Cy, Bp, Fl, Ai, Al, Fv, Jz, Ds, Mu, An, Hq, Lu, Am, Ql, Ff, Fm, Bv, Ge, Ft, Er, Fh, Jm, Ec, Oa, Jj, Ny, Db, Bq, Gt, Dx, Ju, Cc, Lt, Cd, Cf, Nn, Og, Pm, Kt, Bc, Nb, Ko, Gv, Oy, Kd, Qq, Pg, Ld, Ax, Cn, Od, Ed, Pd, Pu, Ox, Eb, Mw, Cp, Oq, Lg, Ba, Gb, Br, Kw, Ks, Gf, Qr, Kh, Pn, Mo, Dd, Mf, Mv, Fz, Nh, Fg, Iq, Ku, Ac, Es, Hv, Jk, Pp, Ep, Lw, Gc, Fj, Ct, Dh, Lp, Ja, Jq, Pt, Jn, Az, Lx, Mz, Lj, Go, Im, Ka, Kc, Nf, Eh, Kr, Qs, Dy, Ht, Qt, Mi, Pj, Gn, Lr, Oi, Qj, Hz, Pr, Ce, Ef, Nu, Bi, Qk, Aq, Pa, Pi, De, Cg, Ck, Kb, Pl, Pe, Kj, Dc, Ic, Aj, Aa, Ho, Mq, Qi, Kv, Gk, Me, Nt, Hi, Mh, Mx, Qo, Ji, Bt, Os, Ar, Pc, Ki, Hj, Jc, Bz, Iw, Ez, Mb, Aw, Jl, Bb, Nv, Lh, Hl, Ao, Eu, Hf, Fu, Be, Cj, Nq, Lq, Hu, Qc, Df, Bg, Oh, Cm, Ie, Hr, Ay, Fn, Oz, Ia, Nw, Gq, Pw, Qv, Bf, Pq, Ow, Lv, Lo, Pb, Bl, Ch, Ml, Ej, En, Nd, Qe, Hg, Bw, Dg, Nj, Eo, Fw, Nz, Ps, Hn, Bn, Ah, Ik, Iz, Kk, Ey, Fx, Ei, Jx, Lm, Cv, Jp, Nk, Qb, Kl, Jh, Ha, Au, Iy, Fc, Mt, Ma, Dm, Qf, Lz, Gg, El, Hw, Oj, Ot, Dk, Ae, Et, Pk, Fy, Kx, Ee, Hs, Fq, Ov, Ke, Bo, On, Hm, Ip, Ni, My, Du, Js, As, Mj, Ga, Cl, Gd, Kn, Fo, Jr, Ca, Af, Ol, Ih, Jf, Jd, La, Ag, Jb, Om, Dn, Eg, Bj, Ev, Ir, Gx, Qh, Dr, Kf, Lc, Ly, Le, Gs, Qu, Cq, Fk, Bu, Ln, Di, Iv, Ii, Lk, Ij, Km, Dw, Cz, Ou, Nr, Bm, Lf, Li, Jg, Dq, Qg, Ew, Ci, Ap, Pz, Hc, Em, Gh, Je, Kg, Nm, Hh, Oo, Rl, Rm, Qw, Qx, Rh, Ri, Qz, Ra, Qy, Ro, Rp, Rq, entry, Rg, Rr, Rc, Re, Nat.reduceAdd, Nat.reduceSub, Nat.reduceLT, Nat.reduceLeDiff, Nat.reduceEqDiff, Nat.zero_add, ↓reduceIte, decide_true, decide_false, Ry, Rv, eq_self, ne_eq, not_true_eq_false, not_false_eq_true, Int.reduceEq, Int.reduceToNat, Int.toNat_natCast, Int.reduceNe, Int.reduceLT, Int.reduceLE, Int.reduceNeg, if_true, if_false, decide_not, Rw, Rz, Ru, Rt, Sc, reduceCtorEq, restE, wipeE, Se, Sf, Rj, Rk, Nat.reduceBEq, Sa, Rx, Sb, Sd, BEq.rfl, ei, q1] <;> rfl)
end Law

set_option Elab.async false
set_option linter.all false
set_option maxRecDepth 100000
set_option maxHeartbeats 4000000
noncomputable section
namespace Law
open PySem L2 Py
def Th (d : D) : Prop := f__law_exact [d, d] = .ok (.bl true)
theorem th_of {d : D} {b : Bool} (h : okD 20 d = true) (he : eqvD d d = true) (hb : dIsi "bool" d = some (.bl b)) : Th d := by
  have e1 : dEq d d = some (.bl true) := by unfold dEq; rw [h, he]; rfl
  have e2 : dEq (.bl b) (.bl b) = some (.bl true) := by cases b <;> rfl
  unfold Th f__law_exact m__law_exact
  (simp (disch := first | omega | assumption | (simp only [Qz, Ra, Qy, Rb, Rn]; omega) | (simp only [Qw, Qx]; done)) only [Op, Np, Jy, Hk, Cw, Lb, Ll, Ng, Mm, Ms, Ib, Oc, Qm, Mp, Kz, Cr, Kp, Jo, Qn, Na, Jt, Bx, Dz, Ix, Ad, Nl, Gj, Gu, Ab, Gp, Pv, Fi, Ph, Hy, Qp, Fr, Po, Jv, Bs, Av, Fp, Gr, Ex, Ky, Fd, Ig, Gy, Kq, Md, Bh, Fe, Oe, Hb, Da, Dv, Mr, Cu, Mc, Hx, Iu, Px, Cb, Cs, Mg, Il, Dt, Ak, Ek, Ob, Mn, Gi, Pf, Nc, Dj, Jw, Cy, Bp, Fl, Ai, Al, Fv, Jz, Ds, Mu, An, Hq, Lu, Am, Ql, Ff, Fm, Bv, Ge, Ft, Er, Fh, Jm, Ec, Oa, Jj, Ny, Db, Bq, Gt, Dx, Ju, Cc, Lt, Cd, Cf, Nn, Og, Pm, Kt, Bc, Nb, Ko, Gv, Oy, Kd, Qq, Pg, Ld, Ax, Cn, Od, Ed, Pd, Pu, Ox, Eb, Mw, Cp, Oq, Lg, Ba, Gb, Br, Kw, Ks, Gf, Qr, Kh, Pn, Mo, Dd, Mf, Mv, Fz, Nh, Fg, Iq, Ku, Ac, Es, Hv, Jk, Pp, Ep, Lw, Gc, Fj, Ct, Dh, Lp, Ja, Jq, Pt, Jn, Az, Lx, Mz, Lj, Go, Im, Ka, Kc, Nf, Eh, Kr, Qs, Dy, Ht, Qt, Mi, Pj, Gn, Lr, Oi, Qj, Hz, Pr, Ce, Ef, Nu, Bi, Qk, Aq, Pa, Pi, De, Cg, Ck, Kb, Pl, Pe, Kj, Dc, Ic, Aj, Aa, Ho, Mq, Qi, Kv, Gk, Me, Nt, Hi, Mh, Mx, Qo, Ji, Bt, Os, Ar, Pc, Ki, Hj, Jc, Bz, Iw, Ez, Mb, Aw, Jl, Bb, Nv, Lh, Hl, Ao, Eu, Hf, Fu, Be, Cj, Nq, Lq, Hu, Qc, Df, Bg, Oh, Cm, Ie, Hr, Ay, Fn, Oz, Ia, Nw, Gq, Pw, Qv, Bf, Pq, Ow, Lv, Lo, Pb, Bl, Ch, Ml, Ej, En, Nd, Qe, Hg, Bw, Dg, Nj, Eo, Fw, Nz, Ps, Hn, Bn, Ah, Ik, Iz, Kk, Ey, Fx, Ei, Jx, Lm, Cv, Jp, Nk, Qb, Kl, Jh, Ha, Au, Iy, Fc, Mt, Ma, Dm, Qf, Lz, Gg, El, Hw, Oj, Ot, Dk, Ae, Et, Pk, Fy, Kx, Ee, Hs, Fq, Ov, Ke, Bo, On, Hm, Ip, Ni, My, Du, Js, As, Mj, Ga, Cl, Gd, Kn, Fo, Jr, Ca, Af, Ol, Ih, Jf, Jd, La, Ag, Jb, Om, Dn, Eg, Bj, Ev, Ir, Gx, Qh, Dr, Kf, Lc, Ly, Le, Gs, Qu, Cq, Fk, Bu, Ln, Di, Iv, Ii, Lk, Ij, Km, Dw, Cz, Ou, Nr, Bm, Lf, Li, Jg, Dq, Qg, Ew, Ci, Ap, Pz, Hc, Em, Gh, Je, Kg, Nm, Hh, Oo, Rl, Rm, Qw, Qx, Rh, Ri, Qz, Ra, Qy, Ro, Rp, Rq, entry, Rg, Rr, Rc, Re, Nat.reduceAdd, Nat.reduceSub, Nat.reduceLT, Nat.reduceLeDiff, Nat.reduceEqDiff, Nat.zero_add, ↓reduceIte, decide_true, decide_false, Ry, Rv, eq_self, ne_eq, not_true_eq_false, not_false_eq_true, Int.reduceEq, Int.reduceToNat, Int.toNat_natCast, Int.reduceNe, Int.reduceLT, Int.reduceLE, Int.reduceNeg, if_true, if_false, decide_not, Rw, Rz, Ru, Rt, Sc, reduceCtorEq, restE, wipeE, Se, Sf, Rj, Rk, Nat.reduceBEq, Sa, Rx, Sb, Sd, BEq.rfl, e1, e2, hb] <;> rfl)
theorem eight0 {x : Int} (h0 : 0 ≤ x) (h1 : x < 8) (a b c d e f g h : D) : ∃ m : D, atI [a, b, c, d, e, f, g, h] x = some m ∧ (m = a ∨ m = b ∨ m = c ∨ m = d ∨ m = e ∨ m = f ∨ m = g ∨ m = h) := by
  have : x = 0 ∨ x = 1 ∨ x = 2 ∨ x = 3 ∨ x = 4 ∨ x = 5 ∨ x = 6 ∨ x = 7 := by omega
  rcases this with rfl | rfl | rfl | rfl | rfl | rfl | rfl | rfl
  · exact ⟨a, rfl, by simp⟩
  · exact ⟨b, rfl, by simp⟩
  · exact ⟨c, rfl, by simp⟩
  · exact ⟨d, rfl, by simp⟩
  · exact ⟨e, rfl, by simp⟩
  · exact ⟨f, rfl, by simp⟩
  · exact ⟨g, rfl, by simp⟩
  · exact ⟨h, rfl, by simp⟩
theorem take3 {l : List D} {many : Int} (g : Good l) (h0 : 0 < many) (hb : many < 2 ^ 64) : ∃ x l', f__law_take l [.int many] = .ok (.int x, l') ∧ 0 ≤ x ∧ x < many ∧ Good l' := pl_take g h0 (Nat.lt_trans (show many.natAbs < 2 ^ 64 by omega) (by decide))
theorem pl_thing {l : List D} (g : Good l) : ∃ d l', f__law_thing l [] = .ok (d, l') ∧ Th d ∧ Good l' := by
  obtain ⟨x, l1, e1, _, _, g1⟩ := take3 (many := 1000000000) g (by decide) (by decide)
  obtain ⟨y, l2, e2, y0, y1, g2⟩ := take3 (many := 8) g1 (by decide) (by decide)
  obtain ⟨n, hn⟩ : ∃ n : Int, x - 500000000 = n := ⟨_, rfl⟩
  obtain ⟨m, em, hm⟩ := eight0 y0 y1 (.int n) (.str "rows") (.tup [.int n, .int 2]) (.tup [.tup [.int 1, .int 0], .tup [.int 0, .int n]]) .non (.bl true) (.str "") (.int 0)
  refine ⟨m, l2, ?_, ?_, g2⟩
  · have p9 : dPow (.int 10) (.int 9) = some (.int 1000000000) := by rfl
    have p8 : dPow (.int 10) (.int 8) = some (.int 100000000) := by rfl
    have p5 : dMul (.int 5) (.int 100000000) = some (.int 500000000) := by rfl
    have ix : dIx (.tup [.int n, .str "rows", .tup [.int n, .int 2], .tup [.tup [.int 1, .int 0], .tup [.int 0, .int n]], .non, .bl true, .str "", .int 0]) (.int y) = some m := em
    unfold f__law_thing m__law_thing
    (simp (disch := first | omega | assumption | (simp only [Qz, Ra, Qy, Rb, Rn]; omega) | (simp only [Qw, Qx]; done)) only [Op, Np, Jy, Hk, Cw, Lb, Ll, Ng, Mm, Ms, Ib, Oc, Qm, Mp, Kz, Cr, Kp, Jo, Qn, Na, Jt, Bx, Dz, Ix, Ad, Nl, Gj, Gu, Ab, Gp, Pv, Fi, Ph, Hy, Qp, Fr, Po, Jv, Bs, Av, Fp, Gr, Ex, Ky, Fd, Ig, Gy, Kq, Md, Bh, Fe, Oe, Hb, Da, Dv, Mr, Cu, Mc, Hx, Iu, Px, Cb, Cs, Mg, Il, Dt, Ak, Ek, Ob, Mn, Gi, Pf, Nc, Dj, Jw, Cy, Bp, Fl, Ai, Al, Fv, Jz, Ds, Mu, An, Hq, Lu, Am, Ql, Ff, Fm, Bv, Ge, Ft, Er, Fh, Jm, Ec, Oa, Jj, Ny, Db, Bq, Gt, Dx, Ju, Cc, Lt, Cd, Cf, Nn, Og, Pm, Kt, Bc, Nb, Ko, Gv, Oy, Kd, Qq, Pg, Ld, Ax, Cn, Od, Ed, Pd, Pu, Ox, Eb, Mw, Cp, Oq, Lg, Ba, Gb, Br, Kw, Ks, Gf, Qr, Kh, Pn, Mo, Dd, Mf, Mv, Fz, Nh, Fg, Iq, Ku, Ac, Es, Hv, Jk, Pp, Ep, Lw, Gc, Fj, Ct, Dh, Lp, Ja, Jq, Pt, Jn, Az, Lx, Mz, Lj, Go, Im, Ka, Kc, Nf, Eh, Kr, Qs, Dy, Ht, Qt, Mi, Pj, Gn, Lr, Oi, Qj, Hz, Pr, Ce, Ef, Nu, Bi, Qk, Aq, Pa, Pi, De, Cg, Ck, Kb, Pl, Pe, Kj, Dc, Ic, Aj, Aa, Ho, Mq, Qi, Kv, Gk, Me, Nt, Hi, Mh, Mx, Qo, Ji, Bt, Os, Ar, Pc, Ki, Hj, Jc, Bz, Iw, Ez, Mb, Aw, Jl, Bb, Nv, Lh, Hl, Ao, Eu, Hf, Fu, Be, Cj, Nq, Lq, Hu, Qc, Df, Bg, Oh, Cm, Ie, Hr, Ay, Fn, Oz, Ia, Nw, Gq, Pw, Qv, Bf, Pq, Ow, Lv, Lo, Pb, Bl, Ch, Ml, Ej, En, Nd, Qe, Hg, Bw, Dg, Nj, Eo, Fw, Nz, Ps, Hn, Bn, Ah, Ik, Iz, Kk, Ey, Fx, Ei, Jx, Lm, Cv, Jp, Nk, Qb, Kl, Jh, Ha, Au, Iy, Fc, Mt, Ma, Dm, Qf, Lz, Gg, El, Hw, Oj, Ot, Dk, Ae, Et, Pk, Fy, Kx, Ee, Hs, Fq, Ov, Ke, Bo, On, Hm, Ip, Ni, My, Du, Js, As, Mj, Ga, Cl, Gd, Kn, Fo, Jr, Ca, Af, Ol, Ih, Jf, Jd, La, Ag, Jb, Om, Dn, Eg, Bj, Ev, Ir, Gx, Qh, Dr, Kf, Lc, Ly, Le, Gs, Qu, Cq, Fk, Bu, Ln, Di, Iv, Ii, Lk, Ij, Km, Dw, Cz, Ou, Nr, Bm, Lf, Li, Jg, Dq, Qg, Ew, Ci, Ap, Pz, Hc, Em, Gh, Je, Kg, Nm, Hh, Oo, Rl, Rm, Qw, Qx, Rh, Ri, Qz, Ra, Qy, Ro, Rp, Rq, entry, Rg, Rr, Rc, Re, Nat.reduceAdd, Nat.reduceSub, Nat.reduceLT, Nat.reduceLeDiff, Nat.reduceEqDiff, Nat.zero_add, ↓reduceIte, decide_true, decide_false, Ry, Rv, eq_self, ne_eq, not_true_eq_false, not_false_eq_true, Int.reduceEq, Int.reduceToNat, Int.toNat_natCast, Int.reduceNe, Int.reduceLT, Int.reduceLE, Int.reduceNeg, if_true, if_false, decide_not, Rw, Rz, Ru, Rt, Sc, reduceCtorEq, restE, wipeE, Se, Sf, Rj, Rk, Nat.reduceBEq, Sa, Rx, Sb, Sd, BEq.rfl, p9, p8, p5, e1, hn, e2, ix] <;> rfl)
  · rcases hm with rfl | rfl | rfl | rfl | rfl | rfl | rfl | rfl
    · exact th_of (b := false) (by first | rfl | decide +kernel) (by simp [eqvD, toPy, PyData.eqv]) rfl
    · exact th_of (b := false) (by first | rfl | decide +kernel) (by simp [eqvD, toPy, PyData.eqv]) rfl
    · exact th_of (b := false) rfl (by simp [eqvD, toPy, toPys, PyData.eqv, PyData.eqvAll]) rfl
    · exact th_of (b := false) rfl (by simp [eqvD, toPy, toPys, PyData.eqv, PyData.eqvAll]) rfl
    · exact th_of (b := false) (by first | rfl | decide +kernel) (by simp [eqvD, toPy, PyData.eqv]) rfl
    · exact th_of (b := true) rfl (by simp [eqvD, toPy, PyData.eqv]) rfl
    · exact th_of (b := false) (by first | rfl | decide +kernel) (by simp [eqvD, toPy, PyData.eqv]) rfl
    · exact th_of (b := false) (by first | rfl | decide +kernel) (by simp [eqvD, toPy, PyData.eqv]) rfl
/-! the walk over all errors -/
theorem toPys_bools : ∀ l : List Bool, toPys (l.map D.bl) = l.map PyData.bool
  | [] => rfl
  | x :: l => by
    show toPy (.bl x) :: toPys (l.map D.bl) = _
    rw [toPys_bools l]; rfl
theorem eqvAll_bools : ∀ r : List Bool, PyData.eqvAll (r.map .bool) (r.map .bool) = true
  | [] => by simp [PyData.eqvAll]
  | x :: r => by
    rw [Rg, PyData.eqvAll, eqvAll_bools r, PyData.eqv]; simp
theorem dNe_bools (r : List Bool) : dNe (.lst (r.map D.bl)) (.lst (r.map D.bl)) = some (.bl false) := by
  have h1 : okD 20 (.lst (r.map D.bl)) = true := by
    show (r.map D.bl).all (okD 19) = true
    rw [List.all_eq_true]
    intro d hd
    obtain ⟨x, _, rfl⟩ := List.mem_map.mp hd
    rfl
  have h2 : eqvD (.lst (r.map D.bl)) (.lst (r.map D.bl)) = true := by
    show PyData.eqv (.list (toPys (r.map D.bl))) (.list (toPys (r.map D.bl))) = true
    rw [toPys_bools, PyData.eqv, eqvAll_bools]
  unfold dNe
  rw [h1, h2]; rfl
def plainL : List D := ([2, 7, 10, 11, 20, 23, 25, 26, 27, 28, 30, 31, 33, 34, 36, 42, 47, 52] : List Nat).map fun c => .exv c [] []
theorem pl_plain : f__law_plain [] = .ok (.lst plainL) := by kernel_rfl!
def singC : List (Nat × Str) := [(1, "what"), (3, "index"), (4, "index"), (6, "array"), (8, "index"), (9, "rank"), (13, "space"), (15, "array"), (16, "array"), (17, "index"), (18, "index"), (19, "count"), (21, "index"), (22, "index"), (24, "what"), (29, "body"), (32, "size"), (35, "index"), (37, "index"), (38, "index"), (39, "array"), (40, "what"), (41, "index"), (43, "letter"), (44, "index"), (45, "letter"), (48, "index"), (49, "index"), (50, "index"), (51, "index")]
def singL (d : D) : List D := singC.map fun c => .exv c.1 [c.2] [d]
theorem pl_single (d : D) : f__law_single [d] = .ok (.lst (singL d)) := by kernel_rfl!
def doubL (d e : D) : List D := [.exv 5 ["array", "what"] [e, d], .exv 12 ["what", "index"] [e, d], .exv 14 ["what", "index"] [e, d], .exv 46 ["what", "index"] [e, d]]
theorem pl_double (d e : D) : f__law_double [d, e] = .ok (.lst (doubL d e)) := by kernel_rfl!
theorem pl_told (d : D) : f__law_told [d] = .ok (.lst (singC.map fun _ => d)) := by kernel_rfl!
theorem pl_both (d e : D) : f__law_told_both [d, e] = .ok (.lst [.tup [d, e], .tup [d, e], .tup [d, e], .tup [d, e]]) := by kernel_rfl!
theorem pl_caught (d : D) : f__law_caught [d] = .ok (.bl true) := by kernel_rfl!
end Law

set_option Elab.async false
set_option linter.all false
set_option maxRecDepth 100000
set_option maxHeartbeats 4000000
noncomputable section
namespace Law
open PySem L2 Py
theorem forL_nx {mg : D → Py.Env → Option Py.Env} {mb : Py.Env → Out} {d : D} {ds : List D} {ρ ρ1 ρ2 : Py.Env} (h : mg d ρ = some ρ1) (h2 : mb ρ1 = .nx ρ2) : forL mg mb (d :: ds) ρ = forL mg mb ds ρ2 := by
  conv => lhs; unfold forL
  rw [h]
  show (match mb ρ1 with | .nx ρ2 => forL mg mb ds ρ2 | .ct ρ2 => forL mg mb ds ρ2 | .brk ρ2 => .nx ρ2 | .ret d ρ2 => .ret d ρ2 | .exc e ρ2 => .exc e ρ2 | .stuck => .stuck) = _
  rw [h2]
theorem forL_ct {mg : D → Py.Env → Option Py.Env} {mb : Py.Env → Out} {d : D} {ds : List D} {ρ ρ1 ρ2 : Py.Env} (h : mg d ρ = some ρ1) (h2 : mb ρ1 = .ct ρ2) : forL mg mb (d :: ds) ρ = forL mg mb ds ρ2 := by
  conv => lhs; unfold forL
  rw [h]
  show (match mb ρ1 with | .nx ρ2 => forL mg mb ds ρ2 | .ct ρ2 => forL mg mb ds ρ2 | .brk ρ2 => .nx ρ2 | .ret d ρ2 => .ret d ρ2 | .exc e ρ2 => .exc e ρ2 | .stuck => .stuck) = _
  rw [h2]
theorem forL_ret {mg : D → Py.Env → Option Py.Env} {mb : Py.Env → Out} {d : D} {e : D} {ds : List D} {ρ ρ1 ρ2 : Py.Env} (h : mg d ρ = some ρ1) (h2 : mb ρ1 = .ret e ρ2) : forL mg mb (d :: ds) ρ = .ret e ρ2 := by
  conv => lhs; unfold forL
  rw [h]
  show (match mb ρ1 with | .nx ρ2 => forL mg mb ds ρ2 | .ct ρ2 => forL mg mb ds ρ2 | .brk ρ2 => .nx ρ2 | .ret d ρ2 => .ret d ρ2 | .exc e ρ2 => .exc e ρ2 | .stuck => .stuck) = _
  rw [h2]
theorem forL_exc {mg : D → Py.Env → Option Py.Env} {mb : Py.Env → Out} {d : D} {e : D} {ds : List D} {ρ ρ1 ρ2 : Py.Env} (h : mg d ρ = some ρ1) (h2 : mb ρ1 = .exc e ρ2) : forL mg mb (d :: ds) ρ = .exc e ρ2 := by
  conv => lhs; unfold forL
  rw [h]
  show (match mb ρ1 with | .nx ρ2 => forL mg mb ds ρ2 | .ct ρ2 => forL mg mb ds ρ2 | .brk ρ2 => .nx ρ2 | .ret d ρ2 => .ret d ρ2 | .exc e ρ2 => .exc e ρ2 | .stuck => .stuck) = _
  rw [h2]
theorem whN_nx {mt : Py.Env → Rs Bool} {mb : Py.Env → Out} {n : Nat} {ρ ρ1 ρ2 : Py.Env} (h : mt ρ = .ok true ρ1) (h2 : mb ρ1 = .nx ρ2) : whN mt mb (n + 1) ρ = whN mt mb n ρ2 := by
  conv => lhs; unfold whN
  rw [h]
  show (match mb ρ1 with | .nx ρ2 => whN mt mb n ρ2 | .ct ρ2 => whN mt mb n ρ2 | .brk ρ2 => some (.nx ρ2) | .ret d ρ2 => some (.ret d ρ2) | .exc e ρ2 => some (.exc e ρ2) | .stuck => some .stuck) = _
  rw [h2]
section
variable {s t d e : D} {l : List D} {x6 x7 x8 x9 x10 x11 : Option D}
abbrev made (d e : D) : List D := plainL ++ (singL d ++ doubL d e)
abbrev envL (s : D) (l : List D) (t d e : D) (x6 x7 x8 x9 x10 x11 : Option D) : Py.Env := [some s, some (.lst l), some t, some d, some e, some (.lst (made d e)), x6, x7, x8, x9, x10, x11]
theorem walkAll : forL (nmG 6) l2_law (rngD 0 52) (envL s l t d e x6 x7 x8 x9 x10 x11) = .nx (envL s l t d e (some (.int 51)) (some (.exv 46 ["what", "index"] [e, d])) (some (.lst ((List.range 52).map fun j => .bl (decide (j = 51))))) x9 x10 x11) := by
  kernel_rfl!
theorem pl_toldc (hd : Th d) : fLc (nmG 7) t3_law e4_law [7] (.ok (singC.map fun _ => d) (envL s l t d e x6 x7 x8 x9 x10 x11)) = .ok (.lst []) (envL s l t d e x6 x7 x8 x9 x10 x11) := by
  have := fLc_ofIf (mg := nmG 7) (mt := t3_law) (me := e4_law) (vs := [7]) (ρ := envL s l t d e x6 x7 x8 x9 x10 x11) singC (fun _ => d) (fun _ => .non) (fun _ => false) (by decide) (fun c _ => ?_)
  · rw [this]
    have : singC.filter (fun _ => false) = [] := by simp
    rw [this]; rfl
  · refine ⟨envL s l t d e x6 (some d) x8 x9 x10 x11, envL s l t d e x6 (some d) x8 x9 x10 x11, rfl, ?_, rfl, fun h => by cases h⟩
    unfold Th at hd
    unfold t3_law
    (simp (disch := first | omega | assumption | (simp only [Qz, Ra, Qy, Rb, Rn]; omega) | (simp only [Qw, Qx]; done)) only [Op, Np, Jy, Hk, Cw, Lb, Ll, Ng, Mm, Ms, Ib, Oc, Qm, Mp, Kz, Cr, Kp, Jo, Qn, Na, Jt, Bx, Dz, Ix, Ad, Nl, Gj, Gu, Ab, Gp, Pv, Fi, Ph, Hy, Qp, Fr, Po, Jv, Bs, Av, Fp, Gr, Ex, Ky, Fd, Ig, Gy, Kq, Md, Bh, Fe, Oe, Hb, Da, Dv, Mr, Cu, Mc, Hx, Iu, Px, Cb, Cs, Mg, Il, Dt, Ak, Ek, Ob, Mn, Gi, Pf, Nc, Dj, Jw, Cy, Bp, Fl, Ai, Al, Fv, Jz, Ds, Mu, An, Hq, Lu, Am, Ql, Ff, Fm, Bv, Ge, Ft, Er, Fh, Jm, Ec, Oa, Jj, Ny, Db, Bq, Gt, Dx, Ju, Cc, Lt, Cd, Cf, Nn, Og, Pm, Kt, Bc, Nb, Ko, Gv, Oy, Kd, Qq, Pg, Ld, Ax, Cn, Od, Ed, Pd, Pu, Ox, Eb, Mw, Cp, Oq, Lg, Ba, Gb, Br, Kw, Ks, Gf, Qr, Kh, Pn, Mo, Dd, Mf, Mv, Fz, Nh, Fg, Iq, Ku, Ac, Es, Hv, Jk, Pp, Ep, Lw, Gc, Fj, Ct, Dh, Lp, Ja, Jq, Pt, Jn, Az, Lx, Mz, Lj, Go, Im, Ka, Kc, Nf, Eh, Kr, Qs, Dy, Ht, Qt, Mi, Pj, Gn, Lr, Oi, Qj, Hz, Pr, Ce, Ef, Nu, Bi, Qk, Aq, Pa, Pi, De, Cg, Ck, Kb, Pl, Pe, Kj, Dc, Ic, Aj, Aa, Ho, Mq, Qi, Kv, Gk, Me, Nt, Hi, Mh, Mx, Qo, Ji, Bt, Os, Ar, Pc, Ki, Hj, Jc, Bz, Iw, Ez, Mb, Aw, Jl, Bb, Nv, Lh, Hl, Ao, Eu, Hf, Fu, Be, Cj, Nq, Lq, Hu, Qc, Df, Bg, Oh, Cm, Ie, Hr, Ay, Fn, Oz, Ia, Nw, Gq, Pw, Qv, Bf, Pq, Ow, Lv, Lo, Pb, Bl, Ch, Ml, Ej, En, Nd, Qe, Hg, Bw, Dg, Nj, Eo, Fw, Nz, Ps, Hn, Bn, Ah, Ik, Iz, Kk, Ey, Fx, Ei, Jx, Lm, Cv, Jp, Nk, Qb, Kl, Jh, Ha, Au, Iy, Fc, Mt, Ma, Dm, Qf, Lz, Gg, El, Hw, Oj, Ot, Dk, Ae, Et, Pk, Fy, Kx, Ee, Hs, Fq, Ov, Ke, Bo, On, Hm, Ip, Ni, My, Du, Js, As, Mj, Ga, Cl, Gd, Kn, Fo, Jr, Ca, Af, Ol, Ih, Jf, Jd, La, Ag, Jb, Om, Dn, Eg, Bj, Ev, Ir, Gx, Qh, Dr, Kf, Lc, Ly, Le, Gs, Qu, Cq, Fk, Bu, Ln, Di, Iv, Ii, Lk, Ij, Km, Dw, Cz, Ou, Nr, Bm, Lf, Li, Jg, Dq, Qg, Ew, Ci, Ap, Pz, Hc, Em, Gh, Je, Kg, Nm, Hh, Oo, Rl, Rm, Qw, Qx, Rh, Ri, Qz, Ra, Qy, Ro, Rp, Rq, entry, Rg, Rr, Rc, Re, Nat.reduceAdd, Nat.reduceSub, Nat.reduceLT, Nat.reduceLeDiff, Nat.reduceEqDiff, Nat.zero_add, ↓reduceIte, decide_true, decide_false, Ry, Rv, eq_self, ne_eq, not_true_eq_false, not_false_eq_true, Int.reduceEq, Int.reduceToNat, Int.toNat_natCast, Int.reduceNe, Int.reduceLT, Int.reduceLE, Int.reduceNeg, if_true, if_false, decide_not, Rw, Rz, Ru, Rt, Sc, reduceCtorEq, restE, wipeE, Se, Sf, Rj, Rk, Nat.reduceBEq, Sa, Rx, Sb, Sd, BEq.rfl, hd] <;> rfl)
theorem both_step (hd : Th d) (he : Th e) : l5_law (envL s l t d e x6 x7 x8 (some d) (some e) x11) = .nx (envL s l t d e x6 x7 x8 (some d) (some e) x11) := by
  unfold Th at hd he
  unfold l5_law
  (simp (disch := first | omega | assumption | (simp only [Qz, Ra, Qy, Rb, Rn]; omega) | (simp only [Qw, Qx]; done)) only [Op, Np, Jy, Hk, Cw, Lb, Ll, Ng, Mm, Ms, Ib, Oc, Qm, Mp, Kz, Cr, Kp, Jo, Qn, Na, Jt, Bx, Dz, Ix, Ad, Nl, Gj, Gu, Ab, Gp, Pv, Fi, Ph, Hy, Qp, Fr, Po, Jv, Bs, Av, Fp, Gr, Ex, Ky, Fd, Ig, Gy, Kq, Md, Bh, Fe, Oe, Hb, Da, Dv, Mr, Cu, Mc, Hx, Iu, Px, Cb, Cs, Mg, Il, Dt, Ak, Ek, Ob, Mn, Gi, Pf, Nc, Dj, Jw, Cy, Bp, Fl, Ai, Al, Fv, Jz, Ds, Mu, An, Hq, Lu, Am, Ql, Ff, Fm, Bv, Ge, Ft, Er, Fh, Jm, Ec, Oa, Jj, Ny, Db, Bq, Gt, Dx, Ju, Cc, Lt, Cd, Cf, Nn, Og, Pm, Kt, Bc, Nb, Ko, Gv, Oy, Kd, Qq, Pg, Ld, Ax, Cn, Od, Ed, Pd, Pu, Ox, Eb, Mw, Cp, Oq, Lg, Ba, Gb, Br, Kw, Ks, Gf, Qr, Kh, Pn, Mo, Dd, Mf, Mv, Fz, Nh, Fg, Iq, Ku, Ac, Es, Hv, Jk, Pp, Ep, Lw, Gc, Fj, Ct, Dh, Lp, Ja, Jq, Pt, Jn, Az, Lx, Mz, Lj, Go, Im, Ka, Kc, Nf, Eh, Kr, Qs, Dy, Ht, Qt, Mi, Pj, Gn, Lr, Oi, Qj, Hz, Pr, Ce, Ef, Nu, Bi, Qk, Aq, Pa, Pi, De, Cg, Ck, Kb, Pl, Pe, Kj, Dc, Ic, Aj, Aa, Ho, Mq, Qi, Kv, Gk, Me, Nt, Hi, Mh, Mx, Qo, Ji, Bt, Os, Ar, Pc, Ki, Hj, Jc, Bz, Iw, Ez, Mb, Aw, Jl, Bb, Nv, Lh, Hl, Ao, Eu, Hf, Fu, Be, Cj, Nq, Lq, Hu, Qc, Df, Bg, Oh, Cm, Ie, Hr, Ay, Fn, Oz, Ia, Nw, Gq, Pw, Qv, Bf, Pq, Ow, Lv, Lo, Pb, Bl, Ch, Ml, Ej, En, Nd, Qe, Hg, Bw, Dg, Nj, Eo, Fw, Nz, Ps, Hn, Bn, Ah, Ik, Iz, Kk, Ey, Fx, Ei, Jx, Lm, Cv, Jp, Nk, Qb, Kl, Jh, Ha, Au, Iy, Fc, Mt, Ma, Dm, Qf, Lz, Gg, El, Hw, Oj, Ot, Dk, Ae, Et, Pk, Fy, Kx, Ee, Hs, Fq, Ov, Ke, Bo, On, Hm, Ip, Ni, My, Du, Js, As, Mj, Ga, Cl, Gd, Kn, Fo, Jr, Ca, Af, Ol, Ih, Jf, Jd, La, Ag, Jb, Om, Dn, Eg, Bj, Ev, Ir, Gx, Qh, Dr, Kf, Lc, Ly, Le, Gs, Qu, Cq, Fk, Bu, Ln, Di, Iv, Ii, Lk, Ij, Km, Dw, Cz, Ou, Nr, Bm, Lf, Li, Jg, Dq, Qg, Ew, Ci, Ap, Pz, Hc, Em, Gh, Je, Kg, Nm, Hh, Oo, Rl, Rm, Qw, Qx, Rh, Ri, Qz, Ra, Qy, Ro, Rp, Rq, entry, Rg, Rr, Rc, Re, Nat.reduceAdd, Nat.reduceSub, Nat.reduceLT, Nat.reduceLeDiff, Nat.reduceEqDiff, Nat.zero_add, ↓reduceIte, decide_true, decide_false, Ry, Rv, eq_self, ne_eq, not_true_eq_false, not_false_eq_true, Int.reduceEq, Int.reduceToNat, Int.toNat_natCast, Int.reduceNe, Int.reduceLT, Int.reduceLE, Int.reduceNeg, if_true, if_false, decide_not, Rw, Rz, Ru, Rt, Sc, reduceCtorEq, restE, wipeE, Se, Sf, Rj, Rk, Nat.reduceBEq, Sa, Rx, Sb, Sd, BEq.rfl, hd, he] <;> rfl)
theorem both_loop (hd : Th d) (he : Th e) : forL (tupG 2 (consG (nmG 9) (consG (nmG 10) nilG))) l5_law [.tup [d, e], .tup [d, e], .tup [d, e], .tup [d, e]] (envL s l t d e x6 x7 x8 x9 x10 x11) = .nx (envL s l t d e x6 x7 x8 (some d) (some e) x11) := by
  rw [forL_nx (ρ1 := envL s l t d e x6 x7 x8 (some d) (some e) x11) rfl (both_step hd he)]
  rw [forL_nx (ρ1 := envL s l t d e x6 x7 x8 (some d) (some e) x11) rfl (both_step hd he)]
  rw [forL_nx (ρ1 := envL s l t d e x6 x7 x8 (some d) (some e) x11) rfl (both_step hd he)]
  rw [forL_nx (ρ1 := envL s l t d e x6 x7 x8 (some d) (some e) x11) rfl (both_step hd he)]
  rfl
theorem sum3 (d e : D) : dAdd (.lst plainL) (.lst (singL d)) = some (.lst (plainL ++ singL d)) ∧ dAdd (.lst (plainL ++ singL d)) (.lst (doubL d e)) = some (.lst (made d e)) := ⟨rfl, rfl⟩
theorem law_step {g0 : Good l} {x3 x4 x5 : Option D} : ∃ d e l' x6' x7' x8', l6_law [some s, some (.lst l), some t, x3, x4, x5, x6, x7, x8, x9, x10, x11] = .nx (envL s l' t d e x6' x7' x8' (some d) (some e) x11) ∧ Good l' := by
  obtain ⟨d, l1, e1, hd, g1⟩ := pl_thing g0
  obtain ⟨e, l2, e2, he, g2⟩ := pl_thing g1
  obtain ⟨s1, s2⟩ := sum3 d e
  have e3 := pl_plain
  have e4 := pl_single d
  have e5 := pl_double d e
  have e6 := pl_told d
  have e7 := pl_both d e
  have e8 := pl_caught d
  have len : dLen [.lst (made d e)] = some (.int 52) := rfl
  have w := fun x6 x7 x8 x9 x10 x11 => walkAll (s := s) (l := l2) (t := t) (d := d) (e := e) (x6 := x6) (x7 := x7) (x8 := x8) (x9 := x9) (x10 := x10) (x11 := x11)
  have b := fun x6 x7 x8 x9 x10 x11 => both_loop (s := s) (l := l2) (t := t) (d := d) (e := e) (x6 := x6) (x7 := x7) (x8 := x8) (x9 := x9) (x10 := x10) (x11 := x11) hd he
  have tc := fun x6 x7 x8 x9 x10 x11 => pl_toldc (s := s) (l := l2) (t := t) (d := d) (e := e) (x6 := x6) (x7 := x7) (x8 := x8) (x9 := x9) (x10 := x10) (x11 := x11) hd
  have ne : dNe (.lst []) (.lst []) = some (.bl false) := by kernel_rfl!
  refine ⟨d, e, l2, some (.int 51), some (.exv 46 ["what", "index"] [e, d]), some (.lst ((List.range 52).map fun j => .bl (decide (j = 51)))), ?_, g2⟩
  · unfold envL at w b tc ⊢
    generalize made d e = mm at *
    generalize plainL = pp at *
    generalize singL d = ss at *
    generalize doubL d e = dd at *
    generalize plainL ++ singL d = ps at *
    generalize (singC.map fun _ => d) = sc at *
    generalize D.lst ((List.range 52).map fun j => .bl (decide (j = 51))) = ll at *
    unfold l6_law
    (simp (disch := first | omega | assumption | (simp only [Qz, Ra, Qy, Rb, Rn]; omega) | (simp only [Qw, Qx]; done)) only [Op, Np, Jy, Hk, Cw, Lb, Ll, Ng, Mm, Ms, Ib, Oc, Qm, Mp, Kz, Cr, Kp, Jo, Qn, Na, Jt, Bx, Dz, Ix, Ad, Nl, Gj, Gu, Ab, Gp, Pv, Fi, Ph, Hy, Qp, Fr, Po, Jv, Bs, Av, Fp, Gr, Ex, Ky, Fd, Ig, Gy, Kq, Md, Bh, Fe, Oe, Hb, Da, Dv, Mr, Cu, Mc, Hx, Iu, Px, Cb, Cs, Mg, Il, Dt, Ak, Ek, Ob, Mn, Gi, Pf, Nc, Dj, Jw, Cy, Bp, Fl, Ai, Al, Fv, Jz, Ds, Mu, An, Hq, Lu, Am, Ql, Ff, Fm, Bv, Ge, Ft, Er, Fh, Jm, Ec, Oa, Jj, Ny, Db, Bq, Gt, Dx, Ju, Cc, Lt, Cd, Cf, Nn, Og, Pm, Kt, Bc, Nb, Ko, Gv, Oy, Kd, Qq, Pg, Ld, Ax, Cn, Od, Ed, Pd, Pu, Ox, Eb, Mw, Cp, Oq, Lg, Ba, Gb, Br, Kw, Ks, Gf, Qr, Kh, Pn, Mo, Dd, Mf, Mv, Fz, Nh, Fg, Iq, Ku, Ac, Es, Hv, Jk, Pp, Ep, Lw, Gc, Fj, Ct, Dh, Lp, Ja, Jq, Pt, Jn, Az, Lx, Mz, Lj, Go, Im, Ka, Kc, Nf, Eh, Kr, Qs, Dy, Ht, Qt, Mi, Pj, Gn, Lr, Oi, Qj, Hz, Pr, Ce, Ef, Nu, Bi, Qk, Aq, Pa, Pi, De, Cg, Ck, Kb, Pl, Pe, Kj, Dc, Ic, Aj, Aa, Ho, Mq, Qi, Kv, Gk, Me, Nt, Hi, Mh, Mx, Qo, Ji, Bt, Os, Ar, Pc, Ki, Hj, Jc, Bz, Iw, Ez, Mb, Aw, Jl, Bb, Nv, Lh, Hl, Ao, Eu, Hf, Fu, Be, Cj, Nq, Lq, Hu, Qc, Df, Bg, Oh, Cm, Ie, Hr, Ay, Fn, Oz, Ia, Nw, Gq, Pw, Qv, Bf, Pq, Ow, Lv, Lo, Pb, Bl, Ch, Ml, Ej, En, Nd, Qe, Hg, Bw, Dg, Nj, Eo, Fw, Nz, Ps, Hn, Bn, Ah, Ik, Iz, Kk, Ey, Fx, Ei, Jx, Lm, Cv, Jp, Nk, Qb, Kl, Jh, Ha, Au, Iy, Fc, Mt, Ma, Dm, Qf, Lz, Gg, El, Hw, Oj, Ot, Dk, Ae, Et, Pk, Fy, Kx, Ee, Hs, Fq, Ov, Ke, Bo, On, Hm, Ip, Ni, My, Du, Js, As, Mj, Ga, Cl, Gd, Kn, Fo, Jr, Ca, Af, Ol, Ih, Jf, Jd, La, Ag, Jb, Om, Dn, Eg, Bj, Ev, Ir, Gx, Qh, Dr, Kf, Lc, Ly, Le, Gs, Qu, Cq, Fk, Bu, Ln, Di, Iv, Ii, Lk, Ij, Km, Dw, Cz, Ou, Nr, Bm, Lf, Li, Jg, Dq, Qg, Ew, Ci, Ap, Pz, Hc, Em, Gh, Je, Kg, Nm, Hh, Oo, Rl, Rm, Qw, Qx, Rh, Ri, Qz, Ra, Qy, Ro, Rp, Rq, entry, Rg, Rr, Rc, Re, Nat.reduceAdd, Nat.reduceSub, Nat.reduceLT, Nat.reduceLeDiff, Nat.reduceEqDiff, Nat.zero_add, ↓reduceIte, decide_true, decide_false, Ry, Rv, eq_self, ne_eq, not_true_eq_false, not_false_eq_true, Int.reduceEq, Int.reduceToNat, Int.toNat_natCast, Int.reduceNe, Int.reduceLT, Int.reduceLE, Int.reduceNeg, if_true, if_false, decide_not, Rw, Rz, Ru, Rt, Sc, reduceCtorEq, restE, wipeE, Se, Sf, Rj, Rk, Nat.reduceBEq, Sa, Rx, Sb, Sd, BEq.rfl, e1, e2, e3, e4, e5, e6, e7, e8, s1, s2, len, w, b, tc, ne] <;> rfl)
end
theorem law_true (ns : List Int) (hl : ns.length ≤ 63) : f_law [.scr ns] = .ok (.bl true) := by
  obtain ⟨l, e0, g0⟩ := pl_hand ns hl
  obtain ⟨d, e, l1, y6, y7, y8, s1, g1⟩ := law_step (s := .scr ns) (t := .int 0) (l := l) (x3 := none) (x4 := none) (x5 := none) (x6 := none) (x7 := none) (x8 := none) (x9 := none) (x10 := none) (x11 := none) (g0 := g0)
  obtain ⟨d2, e2, l2, z6, z7, z8, s2, g2⟩ := law_step (s := .scr ns) (t := .int 1) (l := l1) (x3 := some d) (x4 := some e) (x5 := some (.lst (made d e))) (x6 := y6) (x7 := y7) (x8 := y8) (x9 := some d) (x10 := some e) (x11 := none) (g0 := g1)
  have lp : forL (nmG 2) l6_law (rngD 0 2) [some (.scr ns), some (.lst l), none, none, none, none, none, none, none, none, none, none] = .nx (envL (.scr ns) l2 (.int 1) d2 e2 z6 z7 z8 (some d2) (some e2) none) := by
    show forL (nmG 2) l6_law [.int 0, .int 1] _ = _
    rw [forL_nx (ρ1 := [some (.scr ns), some (.lst l), some (.int 0), none, none, none, none, none, none, none, none, none]) rfl s1]
    rw [forL_nx (ρ1 := [some (.scr ns), some (.lst l1), some (.int 1), some d, some e, some (.lst (made d e)), y6, y7, y8, some d, some e, none]) rfl s2]
    rfl
  unfold f_law m_law
  unfold envL at lp
  generalize made d2 e2 = mm at *
  (simp (disch := first | omega | assumption | (simp only [Qz, Ra, Qy, Rb, Rn]; omega) | (simp only [Qw, Qx]; done)) only [Op, Np, Jy, Hk, Cw, Lb, Ll, Ng, Mm, Ms, Ib, Oc, Qm, Mp, Kz, Cr, Kp, Jo, Qn, Na, Jt, Bx, Dz, Ix, Ad, Nl, Gj, Gu, Ab, Gp, Pv, Fi, Ph, Hy, Qp, Fr, Po, Jv, Bs, Av, Fp, Gr, Ex, Ky, Fd, Ig, Gy, Kq, Md, Bh, Fe, Oe, Hb, Da, Dv, Mr, Cu, Mc, Hx, Iu, Px, Cb, Cs, Mg, Il, Dt, Ak, Ek, Ob, Mn, Gi, Pf, Nc, Dj, Jw, Cy, Bp, Fl, Ai, Al, Fv, Jz, Ds, Mu, An, Hq, Lu, Am, Ql, Ff, Fm, Bv, Ge, Ft, Er, Fh, Jm, Ec, Oa, Jj, Ny, Db, Bq, Gt, Dx, Ju, Cc, Lt, Cd, Cf, Nn, Og, Pm, Kt, Bc, Nb, Ko, Gv, Oy, Kd, Qq, Pg, Ld, Ax, Cn, Od, Ed, Pd, Pu, Ox, Eb, Mw, Cp, Oq, Lg, Ba, Gb, Br, Kw, Ks, Gf, Qr, Kh, Pn, Mo, Dd, Mf, Mv, Fz, Nh, Fg, Iq, Ku, Ac, Es, Hv, Jk, Pp, Ep, Lw, Gc, Fj, Ct, Dh, Lp, Ja, Jq, Pt, Jn, Az, Lx, Mz, Lj, Go, Im, Ka, Kc, Nf, Eh, Kr, Qs, Dy, Ht, Qt, Mi, Pj, Gn, Lr, Oi, Qj, Hz, Pr, Ce, Ef, Nu, Bi, Qk, Aq, Pa, Pi, De, Cg, Ck, Kb, Pl, Pe, Kj, Dc, Ic, Aj, Aa, Ho, Mq, Qi, Kv, Gk, Me, Nt, Hi, Mh, Mx, Qo, Ji, Bt, Os, Ar, Pc, Ki, Hj, Jc, Bz, Iw, Ez, Mb, Aw, Jl, Bb, Nv, Lh, Hl, Ao, Eu, Hf, Fu, Be, Cj, Nq, Lq, Hu, Qc, Df, Bg, Oh, Cm, Ie, Hr, Ay, Fn, Oz, Ia, Nw, Gq, Pw, Qv, Bf, Pq, Ow, Lv, Lo, Pb, Bl, Ch, Ml, Ej, En, Nd, Qe, Hg, Bw, Dg, Nj, Eo, Fw, Nz, Ps, Hn, Bn, Ah, Ik, Iz, Kk, Ey, Fx, Ei, Jx, Lm, Cv, Jp, Nk, Qb, Kl, Jh, Ha, Au, Iy, Fc, Mt, Ma, Dm, Qf, Lz, Gg, El, Hw, Oj, Ot, Dk, Ae, Et, Pk, Fy, Kx, Ee, Hs, Fq, Ov, Ke, Bo, On, Hm, Ip, Ni, My, Du, Js, As, Mj, Ga, Cl, Gd, Kn, Fo, Jr, Ca, Af, Ol, Ih, Jf, Jd, La, Ag, Jb, Om, Dn, Eg, Bj, Ev, Ir, Gx, Qh, Dr, Kf, Lc, Ly, Le, Gs, Qu, Cq, Fk, Bu, Ln, Di, Iv, Ii, Lk, Ij, Km, Dw, Cz, Ou, Nr, Bm, Lf, Li, Jg, Dq, Qg, Ew, Ci, Ap, Pz, Hc, Em, Gh, Je, Kg, Nm, Hh, Oo, Rl, Rm, Qw, Qx, Rh, Ri, Qz, Ra, Qy, Ro, Rp, Rq, entry, Rg, Rr, Rc, Re, Nat.reduceAdd, Nat.reduceSub, Nat.reduceLT, Nat.reduceLeDiff, Nat.reduceEqDiff, Nat.zero_add, ↓reduceIte, decide_true, decide_false, Ry, Rv, eq_self, ne_eq, not_true_eq_false, not_false_eq_true, Int.reduceEq, Int.reduceToNat, Int.toNat_natCast, Int.reduceNe, Int.reduceLT, Int.reduceLE, Int.reduceNeg, if_true, if_false, decide_not, Rw, Rz, Ru, Rt, Sc, reduceCtorEq, restE, wipeE, Se, Sf, Rj, Rk, Nat.reduceBEq, Sa, Rx, Sb, Sd, BEq.rfl, e0, lp] <;> rfl)
end Law

set_option Elab.async false
set_option linter.all false
set_option maxRecDepth 100000
set_option maxHeartbeats 4000000
noncomputable section
namespace Law
open PySem L2 Py
open PyProof.Rows (envOfC)
/-! ## the head: facts by names, the run, the end -/
def gm (w : World) (K : PySem.W.Frag) : Gm := ⟨K, fun c => List.getD [He.ga K "NestError", He.ga K "BadRatio", He.ga K "BadLetters", He.ga K "BadBody", He.ga K "BadSpace", He.ga K "BadNest", He.ga K "BadArray", He.ga K "BadOrder", He.ga K "BadText", He.ga K "BadRank", He.ga K "NoPlane", He.ga K "BadKind", He.ga K "BadWeights", He.ga K "NotRight", He.ga K "BadBag", He.ga K "BadWorths", He.ga K "BadCounts", He.ga K "BadPrices", He.ga K "BadKinds", He.ga K "TooMany", He.ga K "Unlike", He.ga K "BadDemands", He.ga K "BadChain", He.ga K "BadBasis", He.ga K "BadTile", He.ga K "BadNumbers", He.ga K "BadScale", He.ga K "NotAlong", He.ga K "TooGreat", He.ga K "NoSum", He.ga K "BadRoom", He.ga K "NotCover", He.ga K "BadSize", He.ga K "BadKeeping", He.ga K "TooSmall", He.ga K "BadSpots", He.ga K "BadStretch", He.ga K "BadStops", He.ga K "BadBox", He.ga K "BadValues", He.ga K "BadRun", He.ga K "BadLengths", He.ga K "BadLength", He.ga K "BadLetter", He.ga K "BadLimits", He.ga K "TooLong", He.ga K "BadUses", He.ga K "BadChange", He.ga K "BadEdit", He.ga K "BadGoal", He.ga K "BadPool", He.ga K "AlreadyMissed", He.ga K "NothingPut"] c 0, w⟩
theorem sci_NoPlane : FnScope ["self"] ["self"] (defScope si_NoPlane) := ⟨rfl, rfl, rfl, by decide +kernel, rfl, by decide +kernel, by decide +kernel⟩
theorem sci_BadKind : FnScope ["self"] ["self"] (defScope si_BadKind) := ⟨rfl, rfl, rfl, by decide +kernel, rfl, by decide +kernel, by decide +kernel⟩
theorem sci_Unlike : FnScope ["self"] ["self"] (defScope si_Unlike) := ⟨rfl, rfl, rfl, by decide +kernel, rfl, by decide +kernel, by decide +kernel⟩
theorem sci_BadBasis : FnScope ["self"] ["self"] (defScope si_BadBasis) := ⟨rfl, rfl, rfl, by decide +kernel, rfl, by decide +kernel, by decide +kernel⟩
theorem sci_BadRatio : FnScope ["self", "what"] ["self", "what"] (defScope si_BadRatio) := ⟨rfl, rfl, rfl, by decide +kernel, rfl, by decide +kernel, by decide +kernel⟩
theorem sci_BadBody : FnScope ["self", "index"] ["self", "index"] (defScope si_BadBody) := ⟨rfl, rfl, rfl, by decide +kernel, rfl, by decide +kernel, by decide +kernel⟩
theorem sci_BadSpace : FnScope ["self", "index"] ["self", "index"] (defScope si_BadSpace) := ⟨rfl, rfl, rfl, by decide +kernel, rfl, by decide +kernel, by decide +kernel⟩
theorem sci_BadArray : FnScope ["self", "array"] ["self", "array"] (defScope si_BadArray) := ⟨rfl, rfl, rfl, by decide +kernel, rfl, by decide +kernel, by decide +kernel⟩
theorem sci_BadText : FnScope ["self", "index"] ["self", "index"] (defScope si_BadText) := ⟨rfl, rfl, rfl, by decide +kernel, rfl, by decide +kernel, by decide +kernel⟩
theorem sci_BadRank : FnScope ["self", "rank"] ["self", "rank"] (defScope si_BadRank) := ⟨rfl, rfl, rfl, by decide +kernel, rfl, by decide +kernel, by decide +kernel⟩
theorem sci_NotRight : FnScope ["self", "space"] ["self", "space"] (defScope si_NotRight) := ⟨rfl, rfl, rfl, by decide +kernel, rfl, by decide +kernel, by decide +kernel⟩
theorem sci_BadWorths : FnScope ["self", "array"] ["self", "array"] (defScope si_BadWorths) := ⟨rfl, rfl, rfl, by decide +kernel, rfl, by decide +kernel, by decide +kernel⟩
theorem sci_BadCounts : FnScope ["self", "array"] ["self", "array"] (defScope si_BadCounts) := ⟨rfl, rfl, rfl, by decide +kernel, rfl, by decide +kernel, by decide +kernel⟩
theorem sci_BadPrices : FnScope ["self", "index"] ["self", "index"] (defScope si_BadPrices) := ⟨rfl, rfl, rfl, by decide +kernel, rfl, by decide +kernel, by decide +kernel⟩
theorem sci_BadKinds : FnScope ["self", "index"] ["self", "index"] (defScope si_BadKinds) := ⟨rfl, rfl, rfl, by decide +kernel, rfl, by decide +kernel, by decide +kernel⟩
theorem sci_TooMany : FnScope ["self", "count"] ["self", "count"] (defScope si_TooMany) := ⟨rfl, rfl, rfl, by decide +kernel, rfl, by decide +kernel, by decide +kernel⟩
theorem sci_BadDemands : FnScope ["self", "index"] ["self", "index"] (defScope si_BadDemands) := ⟨rfl, rfl, rfl, by decide +kernel, rfl, by decide +kernel, by decide +kernel⟩
theorem sci_BadChain : FnScope ["self", "index"] ["self", "index"] (defScope si_BadChain) := ⟨rfl, rfl, rfl, by decide +kernel, rfl, by decide +kernel, by decide +kernel⟩
theorem sci_BadTile : FnScope ["self", "what"] ["self", "what"] (defScope si_BadTile) := ⟨rfl, rfl, rfl, by decide +kernel, rfl, by decide +kernel, by decide +kernel⟩
theorem sci_NoSum : FnScope ["self", "body"] ["self", "body"] (defScope si_NoSum) := ⟨rfl, rfl, rfl, by decide +kernel, rfl, by decide +kernel, by decide +kernel⟩
theorem sci_BadSize : FnScope ["self", "size"] ["self", "size"] (defScope si_BadSize) := ⟨rfl, rfl, rfl, by decide +kernel, rfl, by decide +kernel, by decide +kernel⟩
theorem sci_BadSpots : FnScope ["self", "index"] ["self", "index"] (defScope si_BadSpots) := ⟨rfl, rfl, rfl, by decide +kernel, rfl, by decide +kernel, by decide +kernel⟩
theorem sci_BadStops : FnScope ["self", "index"] ["self", "index"] (defScope si_BadStops) := ⟨rfl, rfl, rfl, by decide +kernel, rfl, by decide +kernel, by decide +kernel⟩
theorem sci_BadBox : FnScope ["self", "index"] ["self", "index"] (defScope si_BadBox) := ⟨rfl, rfl, rfl, by decide +kernel, rfl, by decide +kernel, by decide +kernel⟩
theorem sci_BadValues : FnScope ["self", "array"] ["self", "array"] (defScope si_BadValues) := ⟨rfl, rfl, rfl, by decide +kernel, rfl, by decide +kernel, by decide +kernel⟩
theorem sci_BadRun : FnScope ["self", "what"] ["self", "what"] (defScope si_BadRun) := ⟨rfl, rfl, rfl, by decide +kernel, rfl, by decide +kernel, by decide +kernel⟩
theorem sci_BadLengths : FnScope ["self", "index"] ["self", "index"] (defScope si_BadLengths) := ⟨rfl, rfl, rfl, by decide +kernel, rfl, by decide +kernel, by decide +kernel⟩
theorem sci_BadLetter : FnScope ["self", "letter"] ["self", "letter"] (defScope si_BadLetter) := ⟨rfl, rfl, rfl, by decide +kernel, rfl, by decide +kernel, by decide +kernel⟩
theorem sci_BadLimits : FnScope ["self", "index"] ["self", "index"] (defScope si_BadLimits) := ⟨rfl, rfl, rfl, by decide +kernel, rfl, by decide +kernel, by decide +kernel⟩
theorem sci_TooLong : FnScope ["self", "letter"] ["self", "letter"] (defScope si_TooLong) := ⟨rfl, rfl, rfl, by decide +kernel, rfl, by decide +kernel, by decide +kernel⟩
theorem sci_BadEdit : FnScope ["self", "index"] ["self", "index"] (defScope si_BadEdit) := ⟨rfl, rfl, rfl, by decide +kernel, rfl, by decide +kernel, by decide +kernel⟩
theorem sci_BadGoal : FnScope ["self", "index"] ["self", "index"] (defScope si_BadGoal) := ⟨rfl, rfl, rfl, by decide +kernel, rfl, by decide +kernel, by decide +kernel⟩
theorem sci_BadPool : FnScope ["self", "index"] ["self", "index"] (defScope si_BadPool) := ⟨rfl, rfl, rfl, by decide +kernel, rfl, by decide +kernel, by decide +kernel⟩
theorem sci_AlreadyMissed : FnScope ["self", "index"] ["self", "index"] (defScope si_AlreadyMissed) := ⟨rfl, rfl, rfl, by decide +kernel, rfl, by decide +kernel, by decide +kernel⟩
theorem sci_BadNest : FnScope ["self", "what", "array"] ["self", "what", "array"] (defScope si_BadNest) := ⟨rfl, rfl, rfl, by decide +kernel, rfl, by decide +kernel, by decide +kernel⟩
theorem sci_BadWeights : FnScope ["self", "index", "what"] ["self", "index", "what"] (defScope si_BadWeights) := ⟨rfl, rfl, rfl, by decide +kernel, rfl, by decide +kernel, by decide +kernel⟩
theorem sci_BadBag : FnScope ["self", "index", "what"] ["self", "index", "what"] (defScope si_BadBag) := ⟨rfl, rfl, rfl, by decide +kernel, rfl, by decide +kernel, by decide +kernel⟩
theorem sci_BadUses : FnScope ["self", "index", "what"] ["self", "index", "what"] (defScope si_BadUses) := ⟨rfl, rfl, rfl, by decide +kernel, rfl, by decide +kernel, by decide +kernel⟩
theorem nmN : (csL.all fun c => csL.all fun e => (decide (nmL.getD c Str.empty = nmL.getD e Str.empty) == (c == e))) = true := by kernel_rfl!
theorem facts {P : Program} {w : World} {K : PySem.W.Frag} {h : Heap} {mg : Str → Option Value} {f : Addr} (X : K.In h) (G : h.Ns mainGlobals mg) (hfa : mg ("law" : Str) = some (.ref f)) (c : SaysZ fnL faL K) :
    ∃ fd : FuncData, (∀ (s : Shared) (v : Value), BindsTo s fd ⟨[v], []⟩ [("script", v)]) ∧ ∀ base : Heap, K.In base → base.Ns mainGlobals mg → FnOk P w K mg base (L2.CX P w) 4 f fd ["script"] (spP (gm w K) 1 f_law) := by
  have T : Tx (gm w K) mg := {
    c_AlreadyMissed := glo_at X G (factZ_at c 0 (f := fGlo "AlreadyMissed"))
    c_BadArray := glo_at X G (factZ_at c 1 (f := fGlo "BadArray"))
    c_BadBag := glo_at X G (factZ_at c 2 (f := fGlo "BadBag"))
    c_BadBasis := glo_at X G (factZ_at c 3 (f := fGlo "BadBasis"))
    c_BadBody := glo_at X G (factZ_at c 4 (f := fGlo "BadBody"))
    c_BadBox := glo_at X G (factZ_at c 5 (f := fGlo "BadBox"))
    c_BadChain := glo_at X G (factZ_at c 6 (f := fGlo "BadChain"))
    c_BadChange := glo_at X G (factZ_at c 7 (f := fGlo "BadChange"))
    c_BadCounts := glo_at X G (factZ_at c 8 (f := fGlo "BadCounts"))
    c_BadDemands := glo_at X G (factZ_at c 9 (f := fGlo "BadDemands"))
    c_BadEdit := glo_at X G (factZ_at c 10 (f := fGlo "BadEdit"))
    c_BadGoal := glo_at X G (factZ_at c 11 (f := fGlo "BadGoal"))
    c_BadKeeping := glo_at X G (factZ_at c 12 (f := fGlo "BadKeeping"))
    c_BadKind := glo_at X G (factZ_at c 13 (f := fGlo "BadKind"))
    c_BadKinds := glo_at X G (factZ_at c 14 (f := fGlo "BadKinds"))
    c_BadLength := glo_at X G (factZ_at c 15 (f := fGlo "BadLength"))
    c_BadLengths := glo_at X G (factZ_at c 16 (f := fGlo "BadLengths"))
    c_BadLetter := glo_at X G (factZ_at c 17 (f := fGlo "BadLetter"))
    c_BadLetters := glo_at X G (factZ_at c 18 (f := fGlo "BadLetters"))
    c_BadLimits := glo_at X G (factZ_at c 19 (f := fGlo "BadLimits"))
    c_BadNest := glo_at X G (factZ_at c 20 (f := fGlo "BadNest"))
    c_BadNumbers := glo_at X G (factZ_at c 21 (f := fGlo "BadNumbers"))
    c_BadOrder := glo_at X G (factZ_at c 22 (f := fGlo "BadOrder"))
    c_BadPool := glo_at X G (factZ_at c 23 (f := fGlo "BadPool"))
    c_BadPrices := glo_at X G (factZ_at c 24 (f := fGlo "BadPrices"))
    c_BadRank := glo_at X G (factZ_at c 25 (f := fGlo "BadRank"))
    c_BadRatio := glo_at X G (factZ_at c 26 (f := fGlo "BadRatio"))
    c_BadRoom := glo_at X G (factZ_at c 27 (f := fGlo "BadRoom"))
    c_BadRun := glo_at X G (factZ_at c 28 (f := fGlo "BadRun"))
    c_BadScale := glo_at X G (factZ_at c 29 (f := fGlo "BadScale"))
    c_BadSize := glo_at X G (factZ_at c 30 (f := fGlo "BadSize"))
    c_BadSpace := glo_at X G (factZ_at c 31 (f := fGlo "BadSpace"))
    c_BadSpots := glo_at X G (factZ_at c 32 (f := fGlo "BadSpots"))
    c_BadStops := glo_at X G (factZ_at c 33 (f := fGlo "BadStops"))
    c_BadStretch := glo_at X G (factZ_at c 34 (f := fGlo "BadStretch"))
    c_BadText := glo_at X G (factZ_at c 35 (f := fGlo "BadText"))
    c_BadTile := glo_at X G (factZ_at c 36 (f := fGlo "BadTile"))
    c_BadUses := glo_at X G (factZ_at c 37 (f := fGlo "BadUses"))
    c_BadValues := glo_at X G (factZ_at c 38 (f := fGlo "BadValues"))
    c_BadWeights := glo_at X G (factZ_at c 39 (f := fGlo "BadWeights"))
    c_BadWorths := glo_at X G (factZ_at c 40 (f := fGlo "BadWorths"))
    c_NestError := glo_at X G (factZ_at c 41 (f := fGlo "NestError"))
    c_NoPlane := glo_at X G (factZ_at c 42 (f := fGlo "NoPlane"))
    c_NoSum := glo_at X G (factZ_at c 43 (f := fGlo "NoSum"))
    c_NotAlong := glo_at X G (factZ_at c 44 (f := fGlo "NotAlong"))
    c_NotCover := glo_at X G (factZ_at c 45 (f := fGlo "NotCover"))
    c_NotRight := glo_at X G (factZ_at c 46 (f := fGlo "NotRight"))
    c_NothingPut := glo_at X G (factZ_at c 47 (f := fGlo "NothingPut"))
    c_TooGreat := glo_at X G (factZ_at c 48 (f := fGlo "TooGreat"))
    c_TooLong := glo_at X G (factZ_at c 49 (f := fGlo "TooLong"))
    c_TooMany := glo_at X G (factZ_at c 50 (f := fGlo "TooMany"))
    c_TooSmall := glo_at X G (factZ_at c 51 (f := fGlo "TooSmall"))
    c_Unlike := glo_at X G (factZ_at c 52 (f := fGlo "Unlike"))
    i_NestError := List.forall_mem_cons.mpr ⟨exm_at (factZ_at c 53 (f := fExm "NestError" (fun K => .ref (He.ga K "NestError")) true)), List.forall_mem_cons.mpr ⟨exm_at (factZ_at c 54 (f := fExm "BadRatio" (fun K => .ref (He.ga K "NestError")) true)), List.forall_mem_cons.mpr ⟨exm_at (factZ_at c 55 (f := fExm "BadLetters" (fun K => .ref (He.ga K "NestError")) true)), List.forall_mem_cons.mpr ⟨exm_at (factZ_at c 56 (f := fExm "BadBody" (fun K => .ref (He.ga K "NestError")) true)), List.forall_mem_cons.mpr ⟨exm_at (factZ_at c 57 (f := fExm "BadSpace" (fun K => .ref (He.ga K "NestError")) true)), List.forall_mem_cons.mpr ⟨exm_at (factZ_at c 58 (f := fExm "BadNest" (fun K => .ref (He.ga K "NestError")) true)), List.forall_mem_cons.mpr ⟨exm_at (factZ_at c 59 (f := fExm "BadArray" (fun K => .ref (He.ga K "NestError")) true)), List.forall_mem_cons.mpr ⟨exm_at (factZ_at c 60 (f := fExm "BadOrder" (fun K => .ref (He.ga K "NestError")) true)), List.forall_mem_cons.mpr ⟨exm_at (factZ_at c 61 (f := fExm "BadText" (fun K => .ref (He.ga K "NestError")) true)), List.forall_mem_cons.mpr ⟨exm_at (factZ_at c 62 (f := fExm "BadRank" (fun K => .ref (He.ga K "NestError")) true)), List.forall_mem_cons.mpr ⟨exm_at (factZ_at c 63 (f := fExm "NoPlane" (fun K => .ref (He.ga K "NestError")) true)), List.forall_mem_cons.mpr ⟨exm_at (factZ_at c 64 (f := fExm "BadKind" (fun K => .ref (He.ga K "NestError")) true)), List.forall_mem_cons.mpr ⟨exm_at (factZ_at c 65 (f := fExm "BadWeights" (fun K => .ref (He.ga K "NestError")) true)), List.forall_mem_cons.mpr ⟨exm_at (factZ_at c 66 (f := fExm "NotRight" (fun K => .ref (He.ga K "NestError")) true)), List.forall_mem_cons.mpr ⟨exm_at (factZ_at c 67 (f := fExm "BadBag" (fun K => .ref (He.ga K "NestError")) true)), List.forall_mem_cons.mpr ⟨exm_at (factZ_at c 68 (f := fExm "BadWorths" (fun K => .ref (He.ga K "NestError")) true)), List.forall_mem_cons.mpr ⟨exm_at (factZ_at c 69 (f := fExm "BadCounts" (fun K => .ref (He.ga K "NestError")) true)), List.forall_mem_cons.mpr ⟨exm_at (factZ_at c 70 (f := fExm "BadPrices" (fun K => .ref (He.ga K "NestError")) true)), List.forall_mem_cons.mpr ⟨exm_at (factZ_at c 71 (f := fExm "BadKinds" (fun K => .ref (He.ga K "NestError")) true)), List.forall_mem_cons.mpr ⟨exm_at (factZ_at c 72 (f := fExm "TooMany" (fun K => .ref (He.ga K "NestError")) true)), List.forall_mem_cons.mpr ⟨exm_at (factZ_at c 73 (f := fExm "Unlike" (fun K => .ref (He.ga K "NestError")) true)), List.forall_mem_cons.mpr ⟨exm_at (factZ_at c 74 (f := fExm "BadDemands" (fun K => .ref (He.ga K "NestError")) true)), List.forall_mem_cons.mpr ⟨exm_at (factZ_at c 75 (f := fExm "BadChain" (fun K => .ref (He.ga K "NestError")) true)), List.forall_mem_cons.mpr ⟨exm_at (factZ_at c 76 (f := fExm "BadBasis" (fun K => .ref (He.ga K "NestError")) true)), List.forall_mem_cons.mpr ⟨exm_at (factZ_at c 77 (f := fExm "BadTile" (fun K => .ref (He.ga K "NestError")) true)), List.forall_mem_cons.mpr ⟨exm_at (factZ_at c 78 (f := fExm "BadNumbers" (fun K => .ref (He.ga K "NestError")) true)), List.forall_mem_cons.mpr ⟨exm_at (factZ_at c 79 (f := fExm "BadScale" (fun K => .ref (He.ga K "NestError")) true)), List.forall_mem_cons.mpr ⟨exm_at (factZ_at c 80 (f := fExm "NotAlong" (fun K => .ref (He.ga K "NestError")) true)), List.forall_mem_cons.mpr ⟨exm_at (factZ_at c 81 (f := fExm "TooGreat" (fun K => .ref (He.ga K "NestError")) true)), List.forall_mem_cons.mpr ⟨exm_at (factZ_at c 82 (f := fExm "NoSum" (fun K => .ref (He.ga K "NestError")) true)), List.forall_mem_cons.mpr ⟨exm_at (factZ_at c 83 (f := fExm "BadRoom" (fun K => .ref (He.ga K "NestError")) true)), List.forall_mem_cons.mpr ⟨exm_at (factZ_at c 84 (f := fExm "NotCover" (fun K => .ref (He.ga K "NestError")) true)), List.forall_mem_cons.mpr ⟨exm_at (factZ_at c 85 (f := fExm "BadSize" (fun K => .ref (He.ga K "NestError")) true)), List.forall_mem_cons.mpr ⟨exm_at (factZ_at c 86 (f := fExm "BadKeeping" (fun K => .ref (He.ga K "NestError")) true)), List.forall_mem_cons.mpr ⟨exm_at (factZ_at c 87 (f := fExm "TooSmall" (fun K => .ref (He.ga K "NestError")) true)), List.forall_mem_cons.mpr ⟨exm_at (factZ_at c 88 (f := fExm "BadSpots" (fun K => .ref (He.ga K "NestError")) true)), List.forall_mem_cons.mpr ⟨exm_at (factZ_at c 89 (f := fExm "BadStretch" (fun K => .ref (He.ga K "NestError")) true)), List.forall_mem_cons.mpr ⟨exm_at (factZ_at c 90 (f := fExm "BadStops" (fun K => .ref (He.ga K "NestError")) true)), List.forall_mem_cons.mpr ⟨exm_at (factZ_at c 91 (f := fExm "BadBox" (fun K => .ref (He.ga K "NestError")) true)), List.forall_mem_cons.mpr ⟨exm_at (factZ_at c 92 (f := fExm "BadValues" (fun K => .ref (He.ga K "NestError")) true)), List.forall_mem_cons.mpr ⟨exm_at (factZ_at c 93 (f := fExm "BadRun" (fun K => .ref (He.ga K "NestError")) true)), List.forall_mem_cons.mpr ⟨exm_at (factZ_at c 94 (f := fExm "BadLengths" (fun K => .ref (He.ga K "NestError")) true)), List.forall_mem_cons.mpr ⟨exm_at (factZ_at c 95 (f := fExm "BadLength" (fun K => .ref (He.ga K "NestError")) true)), List.forall_mem_cons.mpr ⟨exm_at (factZ_at c 96 (f := fExm "BadLetter" (fun K => .ref (He.ga K "NestError")) true)), List.forall_mem_cons.mpr ⟨exm_at (factZ_at c 97 (f := fExm "BadLimits" (fun K => .ref (He.ga K "NestError")) true)), List.forall_mem_cons.mpr ⟨exm_at (factZ_at c 98 (f := fExm "TooLong" (fun K => .ref (He.ga K "NestError")) true)), List.forall_mem_cons.mpr ⟨exm_at (factZ_at c 99 (f := fExm "BadUses" (fun K => .ref (He.ga K "NestError")) true)), List.forall_mem_cons.mpr ⟨exm_at (factZ_at c 100 (f := fExm "BadChange" (fun K => .ref (He.ga K "NestError")) true)), List.forall_mem_cons.mpr ⟨exm_at (factZ_at c 101 (f := fExm "BadEdit" (fun K => .ref (He.ga K "NestError")) true)), List.forall_mem_cons.mpr ⟨exm_at (factZ_at c 102 (f := fExm "BadGoal" (fun K => .ref (He.ga K "NestError")) true)), List.forall_mem_cons.mpr ⟨exm_at (factZ_at c 103 (f := fExm "BadPool" (fun K => .ref (He.ga K "NestError")) true)), List.forall_mem_cons.mpr ⟨exm_at (factZ_at c 104 (f := fExm "AlreadyMissed" (fun K => .ref (He.ga K "NestError")) true)), List.forall_mem_cons.mpr ⟨exm_at (factZ_at c 105 (f := fExm "NothingPut" (fun K => .ref (He.ga K "NestError")) true)), List.forall_mem_nil _⟩⟩⟩⟩⟩⟩⟩⟩⟩⟩⟩⟩⟩⟩⟩⟩⟩⟩⟩⟩⟩⟩⟩⟩⟩⟩⟩⟩⟩⟩⟩⟩⟩⟩⟩⟩⟩⟩⟩⟩⟩⟩⟩⟩⟩⟩⟩⟩⟩⟩⟩⟩⟩
    is_NestError_BadSpace := List.forall_mem_cons.mpr ⟨kit_at (factZ_at c 106 (f := fKit "BadSpace" (fun K => .ref (He.ga K "BadSpace")))), List.forall_mem_nil _⟩
    is_NestError_TooSmall := List.forall_mem_cons.mpr ⟨kit_at (factZ_at c 107 (f := fKit "TooSmall" (fun K => .ref (He.ga K "TooSmall")))), List.forall_mem_nil _⟩
    ix_AlreadyMissed := ix_at2 (nm := nmL) (cs := csL) (factZ_at c 109 (f := fExcA nmL csL)) (ix2_at (nm := nmL) (cs := csL) (d := 51) (factZ_at c 108 (f := fErrs nmL csL)) nmN rfl rfl (by kernel_rfl!)) (by kernel_rfl!)
    ix_BadArray := ix_at2 (nm := nmL) (cs := csL) (factZ_at c 109 (f := fExcA nmL csL)) (ix2_at (nm := nmL) (cs := csL) (d := 6) (factZ_at c 108 (f := fErrs nmL csL)) nmN rfl rfl (by kernel_rfl!)) (by kernel_rfl!)
    ix_BadBag := ix_at2 (nm := nmL) (cs := csL) (factZ_at c 109 (f := fExcA nmL csL)) (ix2_at (nm := nmL) (cs := csL) (d := 14) (factZ_at c 108 (f := fErrs nmL csL)) nmN rfl rfl (by kernel_rfl!)) (by kernel_rfl!)
    ix_BadBasis := ix_at2 (nm := nmL) (cs := csL) (factZ_at c 109 (f := fExcA nmL csL)) (ix2_at (nm := nmL) (cs := csL) (d := 23) (factZ_at c 108 (f := fErrs nmL csL)) nmN rfl rfl (by kernel_rfl!)) (by kernel_rfl!)
    ix_BadBody := ix_at2 (nm := nmL) (cs := csL) (factZ_at c 109 (f := fExcA nmL csL)) (ix2_at (nm := nmL) (cs := csL) (d := 3) (factZ_at c 108 (f := fErrs nmL csL)) nmN rfl rfl (by kernel_rfl!)) (by kernel_rfl!)
    ix_BadBox := ix_at2 (nm := nmL) (cs := csL) (factZ_at c 109 (f := fExcA nmL csL)) (ix2_at (nm := nmL) (cs := csL) (d := 38) (factZ_at c 108 (f := fErrs nmL csL)) nmN rfl rfl (by kernel_rfl!)) (by kernel_rfl!)
    ix_BadChain := ix_at2 (nm := nmL) (cs := csL) (factZ_at c 109 (f := fExcA nmL csL)) (ix2_at (nm := nmL) (cs := csL) (d := 22) (factZ_at c 108 (f := fErrs nmL csL)) nmN rfl rfl (by kernel_rfl!)) (by kernel_rfl!)
    ix_BadChange := ix_at2 (nm := nmL) (cs := csL) (factZ_at c 109 (f := fExcA nmL csL)) (ix2_at (nm := nmL) (cs := csL) (d := 47) (factZ_at c 108 (f := fErrs nmL csL)) nmN rfl rfl (by kernel_rfl!)) (by kernel_rfl!)
    ix_BadCounts := ix_at2 (nm := nmL) (cs := csL) (factZ_at c 109 (f := fExcA nmL csL)) (ix2_at (nm := nmL) (cs := csL) (d := 16) (factZ_at c 108 (f := fErrs nmL csL)) nmN rfl rfl (by kernel_rfl!)) (by kernel_rfl!)
    ix_BadDemands := ix_at2 (nm := nmL) (cs := csL) (factZ_at c 109 (f := fExcA nmL csL)) (ix2_at (nm := nmL) (cs := csL) (d := 21) (factZ_at c 108 (f := fErrs nmL csL)) nmN rfl rfl (by kernel_rfl!)) (by kernel_rfl!)
    ix_BadEdit := ix_at2 (nm := nmL) (cs := csL) (factZ_at c 109 (f := fExcA nmL csL)) (ix2_at (nm := nmL) (cs := csL) (d := 48) (factZ_at c 108 (f := fErrs nmL csL)) nmN rfl rfl (by kernel_rfl!)) (by kernel_rfl!)
    ix_BadGoal := ix_at2 (nm := nmL) (cs := csL) (factZ_at c 109 (f := fExcA nmL csL)) (ix2_at (nm := nmL) (cs := csL) (d := 49) (factZ_at c 108 (f := fErrs nmL csL)) nmN rfl rfl (by kernel_rfl!)) (by kernel_rfl!)
    ix_BadKeeping := ix_at2 (nm := nmL) (cs := csL) (factZ_at c 109 (f := fExcA nmL csL)) (ix2_at (nm := nmL) (cs := csL) (d := 33) (factZ_at c 108 (f := fErrs nmL csL)) nmN rfl rfl (by kernel_rfl!)) (by kernel_rfl!)
    ix_BadKind := ix_at2 (nm := nmL) (cs := csL) (factZ_at c 109 (f := fExcA nmL csL)) (ix2_at (nm := nmL) (cs := csL) (d := 11) (factZ_at c 108 (f := fErrs nmL csL)) nmN rfl rfl (by kernel_rfl!)) (by kernel_rfl!)
    ix_BadKinds := ix_at2 (nm := nmL) (cs := csL) (factZ_at c 109 (f := fExcA nmL csL)) (ix2_at (nm := nmL) (cs := csL) (d := 18) (factZ_at c 108 (f := fErrs nmL csL)) nmN rfl rfl (by kernel_rfl!)) (by kernel_rfl!)
    ix_BadLength := ix_at2 (nm := nmL) (cs := csL) (factZ_at c 109 (f := fExcA nmL csL)) (ix2_at (nm := nmL) (cs := csL) (d := 42) (factZ_at c 108 (f := fErrs nmL csL)) nmN rfl rfl (by kernel_rfl!)) (by kernel_rfl!)
    ix_BadLengths := ix_at2 (nm := nmL) (cs := csL) (factZ_at c 109 (f := fExcA nmL csL)) (ix2_at (nm := nmL) (cs := csL) (d := 41) (factZ_at c 108 (f := fErrs nmL csL)) nmN rfl rfl (by kernel_rfl!)) (by kernel_rfl!)
    ix_BadLetter := ix_at2 (nm := nmL) (cs := csL) (factZ_at c 109 (f := fExcA nmL csL)) (ix2_at (nm := nmL) (cs := csL) (d := 43) (factZ_at c 108 (f := fErrs nmL csL)) nmN rfl rfl (by kernel_rfl!)) (by kernel_rfl!)
    ix_BadLetters := ix_at2 (nm := nmL) (cs := csL) (factZ_at c 109 (f := fExcA nmL csL)) (ix2_at (nm := nmL) (cs := csL) (d := 2) (factZ_at c 108 (f := fErrs nmL csL)) nmN rfl rfl (by kernel_rfl!)) (by kernel_rfl!)
    ix_BadLimits := ix_at2 (nm := nmL) (cs := csL) (factZ_at c 109 (f := fExcA nmL csL)) (ix2_at (nm := nmL) (cs := csL) (d := 44) (factZ_at c 108 (f := fErrs nmL csL)) nmN rfl rfl (by kernel_rfl!)) (by kernel_rfl!)
    ix_BadNest := ix_at2 (nm := nmL) (cs := csL) (factZ_at c 109 (f := fExcA nmL csL)) (ix2_at (nm := nmL) (cs := csL) (d := 5) (factZ_at c 108 (f := fErrs nmL csL)) nmN rfl rfl (by kernel_rfl!)) (by kernel_rfl!)
    ix_BadNumbers := ix_at2 (nm := nmL) (cs := csL) (factZ_at c 109 (f := fExcA nmL csL)) (ix2_at (nm := nmL) (cs := csL) (d := 25) (factZ_at c 108 (f := fErrs nmL csL)) nmN rfl rfl (by kernel_rfl!)) (by kernel_rfl!)
    ix_BadOrder := ix_at2 (nm := nmL) (cs := csL) (factZ_at c 109 (f := fExcA nmL csL)) (ix2_at (nm := nmL) (cs := csL) (d := 7) (factZ_at c 108 (f := fErrs nmL csL)) nmN rfl rfl (by kernel_rfl!)) (by kernel_rfl!)
    ix_BadPool := ix_at2 (nm := nmL) (cs := csL) (factZ_at c 109 (f := fExcA nmL csL)) (ix2_at (nm := nmL) (cs := csL) (d := 50) (factZ_at c 108 (f := fErrs nmL csL)) nmN rfl rfl (by kernel_rfl!)) (by kernel_rfl!)
    ix_BadPrices := ix_at2 (nm := nmL) (cs := csL) (factZ_at c 109 (f := fExcA nmL csL)) (ix2_at (nm := nmL) (cs := csL) (d := 17) (factZ_at c 108 (f := fErrs nmL csL)) nmN rfl rfl (by kernel_rfl!)) (by kernel_rfl!)
    ix_BadRank := ix_at2 (nm := nmL) (cs := csL) (factZ_at c 109 (f := fExcA nmL csL)) (ix2_at (nm := nmL) (cs := csL) (d := 9) (factZ_at c 108 (f := fErrs nmL csL)) nmN rfl rfl (by kernel_rfl!)) (by kernel_rfl!)
    ix_BadRatio := ix_at2 (nm := nmL) (cs := csL) (factZ_at c 109 (f := fExcA nmL csL)) (ix2_at (nm := nmL) (cs := csL) (d := 1) (factZ_at c 108 (f := fErrs nmL csL)) nmN rfl rfl (by kernel_rfl!)) (by kernel_rfl!)
    ix_BadRoom := ix_at2 (nm := nmL) (cs := csL) (factZ_at c 109 (f := fExcA nmL csL)) (ix2_at (nm := nmL) (cs := csL) (d := 30) (factZ_at c 108 (f := fErrs nmL csL)) nmN rfl rfl (by kernel_rfl!)) (by kernel_rfl!)
    ix_BadRun := ix_at2 (nm := nmL) (cs := csL) (factZ_at c 109 (f := fExcA nmL csL)) (ix2_at (nm := nmL) (cs := csL) (d := 40) (factZ_at c 108 (f := fErrs nmL csL)) nmN rfl rfl (by kernel_rfl!)) (by kernel_rfl!)
    ix_BadScale := ix_at2 (nm := nmL) (cs := csL) (factZ_at c 109 (f := fExcA nmL csL)) (ix2_at (nm := nmL) (cs := csL) (d := 26) (factZ_at c 108 (f := fErrs nmL csL)) nmN rfl rfl (by kernel_rfl!)) (by kernel_rfl!)
    ix_BadSize := ix_at2 (nm := nmL) (cs := csL) (factZ_at c 109 (f := fExcA nmL csL)) (ix2_at (nm := nmL) (cs := csL) (d := 32) (factZ_at c 108 (f := fErrs nmL csL)) nmN rfl rfl (by kernel_rfl!)) (by kernel_rfl!)
    ix_BadSpace := ix_at2 (nm := nmL) (cs := csL) (factZ_at c 109 (f := fExcA nmL csL)) (ix2_at (nm := nmL) (cs := csL) (d := 4) (factZ_at c 108 (f := fErrs nmL csL)) nmN rfl rfl (by kernel_rfl!)) (by kernel_rfl!)
    ix_BadSpots := ix_at2 (nm := nmL) (cs := csL) (factZ_at c 109 (f := fExcA nmL csL)) (ix2_at (nm := nmL) (cs := csL) (d := 35) (factZ_at c 108 (f := fErrs nmL csL)) nmN rfl rfl (by kernel_rfl!)) (by kernel_rfl!)
    ix_BadStops := ix_at2 (nm := nmL) (cs := csL) (factZ_at c 109 (f := fExcA nmL csL)) (ix2_at (nm := nmL) (cs := csL) (d := 37) (factZ_at c 108 (f := fErrs nmL csL)) nmN rfl rfl (by kernel_rfl!)) (by kernel_rfl!)
    ix_BadStretch := ix_at2 (nm := nmL) (cs := csL) (factZ_at c 109 (f := fExcA nmL csL)) (ix2_at (nm := nmL) (cs := csL) (d := 36) (factZ_at c 108 (f := fErrs nmL csL)) nmN rfl rfl (by kernel_rfl!)) (by kernel_rfl!)
    ix_BadText := ix_at2 (nm := nmL) (cs := csL) (factZ_at c 109 (f := fExcA nmL csL)) (ix2_at (nm := nmL) (cs := csL) (d := 8) (factZ_at c 108 (f := fErrs nmL csL)) nmN rfl rfl (by kernel_rfl!)) (by kernel_rfl!)
    ix_BadTile := ix_at2 (nm := nmL) (cs := csL) (factZ_at c 109 (f := fExcA nmL csL)) (ix2_at (nm := nmL) (cs := csL) (d := 24) (factZ_at c 108 (f := fErrs nmL csL)) nmN rfl rfl (by kernel_rfl!)) (by kernel_rfl!)
    ix_BadUses := ix_at2 (nm := nmL) (cs := csL) (factZ_at c 109 (f := fExcA nmL csL)) (ix2_at (nm := nmL) (cs := csL) (d := 46) (factZ_at c 108 (f := fErrs nmL csL)) nmN rfl rfl (by kernel_rfl!)) (by kernel_rfl!)
    ix_BadValues := ix_at2 (nm := nmL) (cs := csL) (factZ_at c 109 (f := fExcA nmL csL)) (ix2_at (nm := nmL) (cs := csL) (d := 39) (factZ_at c 108 (f := fErrs nmL csL)) nmN rfl rfl (by kernel_rfl!)) (by kernel_rfl!)
    ix_BadWeights := ix_at2 (nm := nmL) (cs := csL) (factZ_at c 109 (f := fExcA nmL csL)) (ix2_at (nm := nmL) (cs := csL) (d := 12) (factZ_at c 108 (f := fErrs nmL csL)) nmN rfl rfl (by kernel_rfl!)) (by kernel_rfl!)
    ix_BadWorths := ix_at2 (nm := nmL) (cs := csL) (factZ_at c 109 (f := fExcA nmL csL)) (ix2_at (nm := nmL) (cs := csL) (d := 15) (factZ_at c 108 (f := fErrs nmL csL)) nmN rfl rfl (by kernel_rfl!)) (by kernel_rfl!)
    ix_NestError := ix_at2 (nm := nmL) (cs := csL) (factZ_at c 109 (f := fExcA nmL csL)) (ix2_at (nm := nmL) (cs := csL) (d := 0) (factZ_at c 108 (f := fErrs nmL csL)) nmN rfl rfl (by kernel_rfl!)) (by kernel_rfl!)
    ix_NoPlane := ix_at2 (nm := nmL) (cs := csL) (factZ_at c 109 (f := fExcA nmL csL)) (ix2_at (nm := nmL) (cs := csL) (d := 10) (factZ_at c 108 (f := fErrs nmL csL)) nmN rfl rfl (by kernel_rfl!)) (by kernel_rfl!)
    ix_NoSum := ix_at2 (nm := nmL) (cs := csL) (factZ_at c 109 (f := fExcA nmL csL)) (ix2_at (nm := nmL) (cs := csL) (d := 29) (factZ_at c 108 (f := fErrs nmL csL)) nmN rfl rfl (by kernel_rfl!)) (by kernel_rfl!)
    ix_NotAlong := ix_at2 (nm := nmL) (cs := csL) (factZ_at c 109 (f := fExcA nmL csL)) (ix2_at (nm := nmL) (cs := csL) (d := 27) (factZ_at c 108 (f := fErrs nmL csL)) nmN rfl rfl (by kernel_rfl!)) (by kernel_rfl!)
    ix_NotCover := ix_at2 (nm := nmL) (cs := csL) (factZ_at c 109 (f := fExcA nmL csL)) (ix2_at (nm := nmL) (cs := csL) (d := 31) (factZ_at c 108 (f := fErrs nmL csL)) nmN rfl rfl (by kernel_rfl!)) (by kernel_rfl!)
    ix_NotRight := ix_at2 (nm := nmL) (cs := csL) (factZ_at c 109 (f := fExcA nmL csL)) (ix2_at (nm := nmL) (cs := csL) (d := 13) (factZ_at c 108 (f := fErrs nmL csL)) nmN rfl rfl (by kernel_rfl!)) (by kernel_rfl!)
    ix_NothingPut := ix_at2 (nm := nmL) (cs := csL) (factZ_at c 109 (f := fExcA nmL csL)) (ix2_at (nm := nmL) (cs := csL) (d := 52) (factZ_at c 108 (f := fErrs nmL csL)) nmN rfl rfl (by kernel_rfl!)) (by kernel_rfl!)
    ix_TooGreat := ix_at2 (nm := nmL) (cs := csL) (factZ_at c 109 (f := fExcA nmL csL)) (ix2_at (nm := nmL) (cs := csL) (d := 28) (factZ_at c 108 (f := fErrs nmL csL)) nmN rfl rfl (by kernel_rfl!)) (by kernel_rfl!)
    ix_TooLong := ix_at2 (nm := nmL) (cs := csL) (factZ_at c 109 (f := fExcA nmL csL)) (ix2_at (nm := nmL) (cs := csL) (d := 45) (factZ_at c 108 (f := fErrs nmL csL)) nmN rfl rfl (by kernel_rfl!)) (by kernel_rfl!)
    ix_TooMany := ix_at2 (nm := nmL) (cs := csL) (factZ_at c 109 (f := fExcA nmL csL)) (ix2_at (nm := nmL) (cs := csL) (d := 19) (factZ_at c 108 (f := fErrs nmL csL)) nmN rfl rfl (by kernel_rfl!)) (by kernel_rfl!)
    ix_TooSmall := ix_at2 (nm := nmL) (cs := csL) (factZ_at c 109 (f := fExcA nmL csL)) (ix2_at (nm := nmL) (cs := csL) (d := 34) (factZ_at c 108 (f := fErrs nmL csL)) nmN rfl rfl (by kernel_rfl!)) (by kernel_rfl!)
    ix_Unlike := ix_at2 (nm := nmL) (cs := csL) (factZ_at c 109 (f := fExcA nmL csL)) (ix2_at (nm := nmL) (cs := csL) (d := 20) (factZ_at c 108 (f := fErrs nmL csL)) nmN rfl rfl (by kernel_rfl!)) (by kernel_rfl!)
    ix_ValueError := ix_at2 (nm := nmL) (cs := csL) (factZ_at c 109 (f := fExcA nmL csL)) (ix2_ve (nm := nmL) (cs := csL) (factZ_at c 108 (f := fErrs nmL csL)) (by kernel_rfl!)) (by kernel_rfl!)
    n_ValueError := free_at X G (factZ_at c 110 (f := fFree "ValueError"))
    n_abs := free_at X G (factZ_at c 111 (f := fFree "abs"))
    n_bool := free_at X G (factZ_at c 112 (f := fFree "bool"))
    n_int := free_at X G (factZ_at c 113 (f := fFree "int"))
    n_isinstance := free_at X G (factZ_at c 114 (f := fFree "isinstance"))
    n_len := free_at X G (factZ_at c 115 (f := fFree "len"))
    n_range := free_at X G (factZ_at c 116 (f := fFree "range"))
    no_AlreadyMissed_index := He.eqO_ok (factZ_at c 117 (f := fNo "AlreadyMissed" "index"))
    no_BadArray_array := He.eqO_ok (factZ_at c 118 (f := fNo "BadArray" "array"))
    no_BadBag_index := He.eqO_ok (factZ_at c 119 (f := fNo "BadBag" "index"))
    no_BadBag_what := He.eqO_ok (factZ_at c 120 (f := fNo "BadBag" "what"))
    no_BadBody_index := He.eqO_ok (factZ_at c 121 (f := fNo "BadBody" "index"))
    no_BadBox_index := He.eqO_ok (factZ_at c 122 (f := fNo "BadBox" "index"))
    no_BadChain_index := He.eqO_ok (factZ_at c 123 (f := fNo "BadChain" "index"))
    no_BadCounts_array := He.eqO_ok (factZ_at c 124 (f := fNo "BadCounts" "array"))
    no_BadDemands_index := He.eqO_ok (factZ_at c 125 (f := fNo "BadDemands" "index"))
    no_BadEdit_index := He.eqO_ok (factZ_at c 126 (f := fNo "BadEdit" "index"))
    no_BadGoal_index := He.eqO_ok (factZ_at c 127 (f := fNo "BadGoal" "index"))
    no_BadKinds_index := He.eqO_ok (factZ_at c 128 (f := fNo "BadKinds" "index"))
    no_BadLengths_index := He.eqO_ok (factZ_at c 129 (f := fNo "BadLengths" "index"))
    no_BadLetter_letter := He.eqO_ok (factZ_at c 130 (f := fNo "BadLetter" "letter"))
    no_BadLimits_index := He.eqO_ok (factZ_at c 131 (f := fNo "BadLimits" "index"))
    no_BadNest_array := He.eqO_ok (factZ_at c 132 (f := fNo "BadNest" "array"))
    no_BadNest_what := He.eqO_ok (factZ_at c 133 (f := fNo "BadNest" "what"))
    no_BadPool_index := He.eqO_ok (factZ_at c 134 (f := fNo "BadPool" "index"))
    no_BadPrices_index := He.eqO_ok (factZ_at c 135 (f := fNo "BadPrices" "index"))
    no_BadRank_rank := He.eqO_ok (factZ_at c 136 (f := fNo "BadRank" "rank"))
    no_BadRatio_what := He.eqO_ok (factZ_at c 137 (f := fNo "BadRatio" "what"))
    no_BadRun_what := He.eqO_ok (factZ_at c 138 (f := fNo "BadRun" "what"))
    no_BadSize_size := He.eqO_ok (factZ_at c 139 (f := fNo "BadSize" "size"))
    no_BadSpace_index := He.eqO_ok (factZ_at c 140 (f := fNo "BadSpace" "index"))
    no_BadSpots_index := He.eqO_ok (factZ_at c 141 (f := fNo "BadSpots" "index"))
    no_BadStops_index := He.eqO_ok (factZ_at c 142 (f := fNo "BadStops" "index"))
    no_BadText_index := He.eqO_ok (factZ_at c 143 (f := fNo "BadText" "index"))
    no_BadTile_what := He.eqO_ok (factZ_at c 144 (f := fNo "BadTile" "what"))
    no_BadUses_index := He.eqO_ok (factZ_at c 145 (f := fNo "BadUses" "index"))
    no_BadUses_what := He.eqO_ok (factZ_at c 146 (f := fNo "BadUses" "what"))
    no_BadValues_array := He.eqO_ok (factZ_at c 147 (f := fNo "BadValues" "array"))
    no_BadWeights_index := He.eqO_ok (factZ_at c 148 (f := fNo "BadWeights" "index"))
    no_BadWeights_what := He.eqO_ok (factZ_at c 149 (f := fNo "BadWeights" "what"))
    no_BadWorths_array := He.eqO_ok (factZ_at c 150 (f := fNo "BadWorths" "array"))
    no_NoSum_body := He.eqO_ok (factZ_at c 151 (f := fNo "NoSum" "body"))
    no_NotRight_space := He.eqO_ok (factZ_at c 152 (f := fNo "NotRight" "space"))
    no_TooLong_letter := He.eqO_ok (factZ_at c 153 (f := fNo "TooLong" "letter"))
    no_TooMany_count := He.eqO_ok (factZ_at c 154 (f := fNo "TooMany" "count"))
    xf_AlreadyMissed := xfB_ok (factZ_at c 155 (f := fXf "AlreadyMissed"))
    xf_BadArray := xfB_ok (factZ_at c 156 (f := fXf "BadArray"))
    xf_BadBag := xfB_ok (factZ_at c 157 (f := fXf "BadBag"))
    xf_BadBody := xfB_ok (factZ_at c 158 (f := fXf "BadBody"))
    xf_BadBox := xfB_ok (factZ_at c 159 (f := fXf "BadBox"))
    xf_BadChain := xfB_ok (factZ_at c 160 (f := fXf "BadChain"))
    xf_BadCounts := xfB_ok (factZ_at c 161 (f := fXf "BadCounts"))
    xf_BadDemands := xfB_ok (factZ_at c 162 (f := fXf "BadDemands"))
    xf_BadEdit := xfB_ok (factZ_at c 163 (f := fXf "BadEdit"))
    xf_BadGoal := xfB_ok (factZ_at c 164 (f := fXf "BadGoal"))
    xf_BadKinds := xfB_ok (factZ_at c 165 (f := fXf "BadKinds"))
    xf_BadLengths := xfB_ok (factZ_at c 166 (f := fXf "BadLengths"))
    xf_BadLetter := xfB_ok (factZ_at c 167 (f := fXf "BadLetter"))
    xf_BadLimits := xfB_ok (factZ_at c 168 (f := fXf "BadLimits"))
    xf_BadNest := xfB_ok (factZ_at c 169 (f := fXf "BadNest"))
    xf_BadPool := xfB_ok (factZ_at c 170 (f := fXf "BadPool"))
    xf_BadPrices := xfB_ok (factZ_at c 171 (f := fXf "BadPrices"))
    xf_BadRank := xfB_ok (factZ_at c 172 (f := fXf "BadRank"))
    xf_BadRatio := xfB_ok (factZ_at c 173 (f := fXf "BadRatio"))
    xf_BadRun := xfB_ok (factZ_at c 174 (f := fXf "BadRun"))
    xf_BadSize := xfB_ok (factZ_at c 175 (f := fXf "BadSize"))
    xf_BadSpace := xfB_ok (factZ_at c 176 (f := fXf "BadSpace"))
    xf_BadSpots := xfB_ok (factZ_at c 177 (f := fXf "BadSpots"))
    xf_BadStops := xfB_ok (factZ_at c 178 (f := fXf "BadStops"))
    xf_BadText := xfB_ok (factZ_at c 179 (f := fXf "BadText"))
    xf_BadTile := xfB_ok (factZ_at c 180 (f := fXf "BadTile"))
    xf_BadUses := xfB_ok (factZ_at c 181 (f := fXf "BadUses"))
    xf_BadValues := xfB_ok (factZ_at c 182 (f := fXf "BadValues"))
    xf_BadWeights := xfB_ok (factZ_at c 183 (f := fXf "BadWeights"))
    xf_BadWorths := xfB_ok (factZ_at c 184 (f := fXf "BadWorths"))
    xf_NoSum := xfB_ok (factZ_at c 185 (f := fXf "NoSum"))
    xf_NotRight := xfB_ok (factZ_at c 186 (f := fXf "NotRight"))
    xf_TooLong := xfB_ok (factZ_at c 187 (f := fXf "TooLong"))
    xf_TooMany := xfB_ok (factZ_at c 188 (f := fXf "TooMany")) }
  obtain ⟨fd__law_hand, F__law_hand⟩ := defZ_at c 0
  have S__law_hand : Stands (gm w K) mg "_law_hand" "_law_hand" st__law_hand [] (He.ga K "_law_hand") := ⟨fd__law_hand, F__law_hand, glo_at X G (factZ_at c 189 (f := fGlo "_law_hand"))⟩
  obtain ⟨fd__law_mixed, F__law_mixed⟩ := defZ_at c 1
  have S__law_mixed : Stands (gm w K) mg "_law_mixed" "_law_mixed" st__law_mixed [] (He.ga K "_law_mixed") := ⟨fd__law_mixed, F__law_mixed, glo_at X G (factZ_at c 190 (f := fGlo "_law_mixed"))⟩
  obtain ⟨fd__law_take, F__law_take⟩ := defZ_at c 2
  have S__law_take : Stands (gm w K) mg "_law_take" "_law_take" st__law_take [] (He.ga K "_law_take") := ⟨fd__law_take, F__law_take, glo_at X G (factZ_at c 191 (f := fGlo "_law_take"))⟩
  obtain ⟨fd__law_thing, F__law_thing⟩ := defZ_at c 3
  have S__law_thing : Stands (gm w K) mg "_law_thing" "_law_thing" st__law_thing [] (He.ga K "_law_thing") := ⟨fd__law_thing, F__law_thing, glo_at X G (factZ_at c 192 (f := fGlo "_law_thing"))⟩
  obtain ⟨fd__law_plain, F__law_plain⟩ := defZ_at c 4
  have S__law_plain : Stands (gm w K) mg "_law_plain" "_law_plain" st__law_plain [] (He.ga K "_law_plain") := ⟨fd__law_plain, F__law_plain, glo_at X G (factZ_at c 193 (f := fGlo "_law_plain"))⟩
  obtain ⟨fd__law_single, F__law_single⟩ := defZ_at c 5
  have S__law_single : Stands (gm w K) mg "_law_single" "_law_single" st__law_single [] (He.ga K "_law_single") := ⟨fd__law_single, F__law_single, glo_at X G (factZ_at c 194 (f := fGlo "_law_single"))⟩
  obtain ⟨fd__law_double, F__law_double⟩ := defZ_at c 6
  have S__law_double : Stands (gm w K) mg "_law_double" "_law_double" st__law_double [] (He.ga K "_law_double") := ⟨fd__law_double, F__law_double, glo_at X G (factZ_at c 195 (f := fGlo "_law_double"))⟩
  obtain ⟨fd__law_plain_kinds, F__law_plain_kinds⟩ := defZ_at c 7
  have S__law_plain_kinds : Stands (gm w K) mg "_law_plain_kinds" "_law_plain_kinds" st__law_plain_kinds [] (He.ga K "_law_plain_kinds") := ⟨fd__law_plain_kinds, F__law_plain_kinds, glo_at X G (factZ_at c 196 (f := fGlo "_law_plain_kinds"))⟩
  obtain ⟨fd__law_single_kinds, F__law_single_kinds⟩ := defZ_at c 8
  have S__law_single_kinds : Stands (gm w K) mg "_law_single_kinds" "_law_single_kinds" st__law_single_kinds [] (He.ga K "_law_single_kinds") := ⟨fd__law_single_kinds, F__law_single_kinds, glo_at X G (factZ_at c 197 (f := fGlo "_law_single_kinds"))⟩
  obtain ⟨fd__law_double_kinds, F__law_double_kinds⟩ := defZ_at c 9
  have S__law_double_kinds : Stands (gm w K) mg "_law_double_kinds" "_law_double_kinds" st__law_double_kinds [] (He.ga K "_law_double_kinds") := ⟨fd__law_double_kinds, F__law_double_kinds, glo_at X G (factZ_at c 198 (f := fGlo "_law_double_kinds"))⟩
  obtain ⟨fd__law_told, F__law_told⟩ := defZ_at c 10
  have S__law_told : Stands (gm w K) mg "_law_told" "_law_told" st__law_told [] (He.ga K "_law_told") := ⟨fd__law_told, F__law_told, glo_at X G (factZ_at c 199 (f := fGlo "_law_told"))⟩
  obtain ⟨fd__law_told_both, F__law_told_both⟩ := defZ_at c 11
  have S__law_told_both : Stands (gm w K) mg "_law_told_both" "_law_told_both" st__law_told_both [] (He.ga K "_law_told_both") := ⟨fd__law_told_both, F__law_told_both, glo_at X G (factZ_at c 200 (f := fGlo "_law_told_both"))⟩
  obtain ⟨fd__law_exact, F__law_exact⟩ := defZ_at c 12
  have S__law_exact : Stands (gm w K) mg "_law_exact" "_law_exact" st__law_exact [] (He.ga K "_law_exact") := ⟨fd__law_exact, F__law_exact, glo_at X G (factZ_at c 201 (f := fGlo "_law_exact"))⟩
  obtain ⟨fd__law_caught, F__law_caught⟩ := defZ_at c 13
  have S__law_caught : Stands (gm w K) mg "_law_caught" "_law_caught" st__law_caught [] (He.ga K "_law_caught") := ⟨fd__law_caught, F__law_caught, glo_at X G (factZ_at c 202 (f := fGlo "_law_caught"))⟩
  obtain ⟨fd_law, F_law⟩ := defZ_at c 14
  have S_law : Stands (gm w K) mg "law" "law" st_law [] (He.ga K "law") := ⟨fd_law, F_law, glo_at X G (factZ_at c 203 (f := fGlo "law"))⟩
  obtain ⟨fi_NoPlane, FI_NoPlane⟩ := defZ_at c 15
  obtain ⟨fi_BadKind, FI_BadKind⟩ := defZ_at c 16
  obtain ⟨fi_Unlike, FI_Unlike⟩ := defZ_at c 17
  obtain ⟨fi_BadBasis, FI_BadBasis⟩ := defZ_at c 18
  obtain ⟨fi_BadRatio, FI_BadRatio⟩ := defZ_at c 19
  obtain ⟨fi_BadBody, FI_BadBody⟩ := defZ_at c 20
  obtain ⟨fi_BadSpace, FI_BadSpace⟩ := defZ_at c 21
  obtain ⟨fi_BadArray, FI_BadArray⟩ := defZ_at c 22
  obtain ⟨fi_BadText, FI_BadText⟩ := defZ_at c 23
  obtain ⟨fi_BadRank, FI_BadRank⟩ := defZ_at c 24
  obtain ⟨fi_NotRight, FI_NotRight⟩ := defZ_at c 25
  obtain ⟨fi_BadWorths, FI_BadWorths⟩ := defZ_at c 26
  obtain ⟨fi_BadCounts, FI_BadCounts⟩ := defZ_at c 27
  obtain ⟨fi_BadPrices, FI_BadPrices⟩ := defZ_at c 28
  obtain ⟨fi_BadKinds, FI_BadKinds⟩ := defZ_at c 29
  obtain ⟨fi_TooMany, FI_TooMany⟩ := defZ_at c 30
  obtain ⟨fi_BadDemands, FI_BadDemands⟩ := defZ_at c 31
  obtain ⟨fi_BadChain, FI_BadChain⟩ := defZ_at c 32
  obtain ⟨fi_BadTile, FI_BadTile⟩ := defZ_at c 33
  obtain ⟨fi_NoSum, FI_NoSum⟩ := defZ_at c 34
  obtain ⟨fi_BadSize, FI_BadSize⟩ := defZ_at c 35
  obtain ⟨fi_BadSpots, FI_BadSpots⟩ := defZ_at c 36
  obtain ⟨fi_BadStops, FI_BadStops⟩ := defZ_at c 37
  obtain ⟨fi_BadBox, FI_BadBox⟩ := defZ_at c 38
  obtain ⟨fi_BadValues, FI_BadValues⟩ := defZ_at c 39
  obtain ⟨fi_BadRun, FI_BadRun⟩ := defZ_at c 40
  obtain ⟨fi_BadLengths, FI_BadLengths⟩ := defZ_at c 41
  obtain ⟨fi_BadLetter, FI_BadLetter⟩ := defZ_at c 42
  obtain ⟨fi_BadLimits, FI_BadLimits⟩ := defZ_at c 43
  obtain ⟨fi_TooLong, FI_TooLong⟩ := defZ_at c 44
  obtain ⟨fi_BadEdit, FI_BadEdit⟩ := defZ_at c 45
  obtain ⟨fi_BadGoal, FI_BadGoal⟩ := defZ_at c 46
  obtain ⟨fi_BadPool, FI_BadPool⟩ := defZ_at c 47
  obtain ⟨fi_AlreadyMissed, FI_AlreadyMissed⟩ := defZ_at c 48
  obtain ⟨fi_BadNest, FI_BadNest⟩ := defZ_at c 49
  obtain ⟨fi_BadWeights, FI_BadWeights⟩ := defZ_at c 50
  obtain ⟨fi_BadBag, FI_BadBag⟩ := defZ_at c 51
  obtain ⟨fi_BadUses, FI_BadUses⟩ := defZ_at c 52
  have e := hfa.symm.trans (glo_at X G (factZ_at c 203 (f := fGlo "law")))
  cases e
  refine ⟨fd_law, fun s v => FunD.bindsA (ps := ["script"]) F_law (fun _ _ _ _ _ _ us hl => match us, hl with | [_], _ => rfl) s [v] rfl, fun base _ _ => ?_⟩
  have E_NoPlane : OexC K (He.ga K "NoPlane") := fExc_ok (factZ_at c 205 (f := fExc "NoPlane"))
  have x_NoPlane : ExcI P w (gm w K).K mg base "NoPlane" ((gm w K).cl 10) (spI0 (He.ga K "NoPlane")) := ini_at E_NoPlane (glo_at X G (factZ_at c 42 (f := fGlo "NoPlane"))) (factZ_at c 206 (f := fIni "NoPlane")) (ok_i0n (x := "__init__") (qual := "NoPlane.__init__") (st := si_NoPlane) FI_NoPlane sci_NoPlane E_NoPlane  (fun cdv A outer s H E => (pss_one (ps_expr (pe_neinit (neI_at (factZ_at c 204 (f := fNeI "NestError"))) (glo_at X G (factZ_at c 41 (f := fGlo "NestError"))) (pa_cons (pv 0) (pa_cons pe_str pa_nil))))))) (FI_NoPlane.bindsN fun _ _ _ _ _ _ us hl => match us, hl with | [_], _ => rfl)
  have E_BadKind : OexC K (He.ga K "BadKind") := fExc_ok (factZ_at c 207 (f := fExc "BadKind"))
  have x_BadKind : ExcI P w (gm w K).K mg base "BadKind" ((gm w K).cl 11) (spI0 (He.ga K "BadKind")) := ini_at E_BadKind (glo_at X G (factZ_at c 13 (f := fGlo "BadKind"))) (factZ_at c 208 (f := fIni "BadKind")) (ok_i0n (x := "__init__") (qual := "BadKind.__init__") (st := si_BadKind) FI_BadKind sci_BadKind E_BadKind  (fun cdv A outer s H E => (pss_one (ps_expr (pe_neinit (neI_at (factZ_at c 204 (f := fNeI "NestError"))) (glo_at X G (factZ_at c 41 (f := fGlo "NestError"))) (pa_cons (pv 0) (pa_cons pe_str pa_nil))))))) (FI_BadKind.bindsN fun _ _ _ _ _ _ us hl => match us, hl with | [_], _ => rfl)
  have E_Unlike : OexC K (He.ga K "Unlike") := fExc_ok (factZ_at c 209 (f := fExc "Unlike"))
  have x_Unlike : ExcI P w (gm w K).K mg base "Unlike" ((gm w K).cl 20) (spI0 (He.ga K "Unlike")) := ini_at E_Unlike (glo_at X G (factZ_at c 52 (f := fGlo "Unlike"))) (factZ_at c 210 (f := fIni "Unlike")) (ok_i0n (x := "__init__") (qual := "Unlike.__init__") (st := si_Unlike) FI_Unlike sci_Unlike E_Unlike  (fun cdv A outer s H E => (pss_one (ps_expr (pe_neinit (neI_at (factZ_at c 204 (f := fNeI "NestError"))) (glo_at X G (factZ_at c 41 (f := fGlo "NestError"))) (pa_cons (pv 0) (pa_cons pe_str pa_nil))))))) (FI_Unlike.bindsN fun _ _ _ _ _ _ us hl => match us, hl with | [_], _ => rfl)
  have E_BadBasis : OexC K (He.ga K "BadBasis") := fExc_ok (factZ_at c 211 (f := fExc "BadBasis"))
  have x_BadBasis : ExcI P w (gm w K).K mg base "BadBasis" ((gm w K).cl 23) (spI0 (He.ga K "BadBasis")) := ini_at E_BadBasis (glo_at X G (factZ_at c 3 (f := fGlo "BadBasis"))) (factZ_at c 212 (f := fIni "BadBasis")) (ok_i0n (x := "__init__") (qual := "BadBasis.__init__") (st := si_BadBasis) FI_BadBasis sci_BadBasis E_BadBasis  (fun cdv A outer s H E => (pss_one (ps_expr (pe_neinit (neI_at (factZ_at c 204 (f := fNeI "NestError"))) (glo_at X G (factZ_at c 41 (f := fGlo "NestError"))) (pa_cons (pv 0) (pa_cons pe_str pa_nil))))))) (FI_BadBasis.bindsN fun _ _ _ _ _ _ us hl => match us, hl with | [_], _ => rfl)
  have E_BadRatio : OexC K (He.ga K "BadRatio") := fExc_ok (factZ_at c 213 (f := fExc "BadRatio"))
  have x_BadRatio : ExcI P w (gm w K).K mg base "BadRatio" ((gm w K).cl 1) (spI1 (He.ga K "BadRatio") "what") := ini_at E_BadRatio (glo_at X G (factZ_at c 26 (f := fGlo "BadRatio"))) (factZ_at c 214 (f := fIni "BadRatio")) (ok_i1 (x := "__init__") (qual := "BadRatio.__init__") (st := si_BadRatio) FI_BadRatio sci_BadRatio E_BadRatio (He.eqO_ok (factZ_at c 137 (f := fNo "BadRatio" "what"))) (fun cdv A outer s H E => (pss_one (ps_ost (pv 0) (pv 1))))) (FI_BadRatio.bindsN fun _ _ _ _ _ _ us hl => match us, hl with | [_, _], _ => rfl)
  have E_BadBody : OexC K (He.ga K "BadBody") := fExc_ok (factZ_at c 215 (f := fExc "BadBody"))
  have x_BadBody : ExcI P w (gm w K).K mg base "BadBody" ((gm w K).cl 3) (spI1 (He.ga K "BadBody") "index") := ini_at E_BadBody (glo_at X G (factZ_at c 4 (f := fGlo "BadBody"))) (factZ_at c 216 (f := fIni "BadBody")) (ok_i1 (x := "__init__") (qual := "BadBody.__init__") (st := si_BadBody) FI_BadBody sci_BadBody E_BadBody (He.eqO_ok (factZ_at c 121 (f := fNo "BadBody" "index"))) (fun cdv A outer s H E => (pss_one (ps_ost (pv 0) (pv 1))))) (FI_BadBody.bindsN fun _ _ _ _ _ _ us hl => match us, hl with | [_, _], _ => rfl)
  have E_BadSpace : OexC K (He.ga K "BadSpace") := fExc_ok (factZ_at c 217 (f := fExc "BadSpace"))
  have x_BadSpace : ExcI P w (gm w K).K mg base "BadSpace" ((gm w K).cl 4) (spI1 (He.ga K "BadSpace") "index") := ini_at E_BadSpace (glo_at X G (factZ_at c 31 (f := fGlo "BadSpace"))) (factZ_at c 218 (f := fIni "BadSpace")) (ok_i1 (x := "__init__") (qual := "BadSpace.__init__") (st := si_BadSpace) FI_BadSpace sci_BadSpace E_BadSpace (He.eqO_ok (factZ_at c 140 (f := fNo "BadSpace" "index"))) (fun cdv A outer s H E => (pss_one (ps_ost (pv 0) (pv 1))))) (FI_BadSpace.bindsN fun _ _ _ _ _ _ us hl => match us, hl with | [_, _], _ => rfl)
  have E_BadArray : OexC K (He.ga K "BadArray") := fExc_ok (factZ_at c 219 (f := fExc "BadArray"))
  have x_BadArray : ExcI P w (gm w K).K mg base "BadArray" ((gm w K).cl 6) (spI1 (He.ga K "BadArray") "array") := ini_at E_BadArray (glo_at X G (factZ_at c 1 (f := fGlo "BadArray"))) (factZ_at c 220 (f := fIni "BadArray")) (ok_i1 (x := "__init__") (qual := "BadArray.__init__") (st := si_BadArray) FI_BadArray sci_BadArray E_BadArray (He.eqO_ok (factZ_at c 118 (f := fNo "BadArray" "array"))) (fun cdv A outer s H E => (pss_one (ps_ost (pv 0) (pv 1))))) (FI_BadArray.bindsN fun _ _ _ _ _ _ us hl => match us, hl with | [_, _], _ => rfl)
  have E_BadText : OexC K (He.ga K "BadText") := fExc_ok (factZ_at c 221 (f := fExc "BadText"))
  have x_BadText : ExcI P w (gm w K).K mg base "BadText" ((gm w K).cl 8) (spI1 (He.ga K "BadText") "index") := ini_at E_BadText (glo_at X G (factZ_at c 35 (f := fGlo "BadText"))) (factZ_at c 222 (f := fIni "BadText")) (ok_i1 (x := "__init__") (qual := "BadText.__init__") (st := si_BadText) FI_BadText sci_BadText E_BadText (He.eqO_ok (factZ_at c 143 (f := fNo "BadText" "index"))) (fun cdv A outer s H E => (pss_one (ps_ost (pv 0) (pv 1))))) (FI_BadText.bindsN fun _ _ _ _ _ _ us hl => match us, hl with | [_, _], _ => rfl)
  have E_BadRank : OexC K (He.ga K "BadRank") := fExc_ok (factZ_at c 223 (f := fExc "BadRank"))
  have x_BadRank : ExcI P w (gm w K).K mg base "BadRank" ((gm w K).cl 9) (spI1 (He.ga K "BadRank") "rank") := ini_at E_BadRank (glo_at X G (factZ_at c 25 (f := fGlo "BadRank"))) (factZ_at c 224 (f := fIni "BadRank")) (ok_i1n (x := "__init__") (qual := "BadRank.__init__") (st := si_BadRank) FI_BadRank sci_BadRank E_BadRank (He.eqO_ok (factZ_at c 136 (f := fNo "BadRank" "rank"))) (fun cdv A outer s H E => (pss_cons (ps_expr (pe_neinit (neI_at (factZ_at c 204 (f := fNeI "NestError"))) (glo_at X G (factZ_at c 41 (f := fGlo "NestError"))) (pa_cons (pv 0) (pa_cons pe_str pa_nil)))) (pss_one (ps_ost (pv 0) (pv 1)))))) (FI_BadRank.bindsN fun _ _ _ _ _ _ us hl => match us, hl with | [_, _], _ => rfl)
  have E_NotRight : OexC K (He.ga K "NotRight") := fExc_ok (factZ_at c 225 (f := fExc "NotRight"))
  have x_NotRight : ExcI P w (gm w K).K mg base "NotRight" ((gm w K).cl 13) (spI1 (He.ga K "NotRight") "space") := ini_at E_NotRight (glo_at X G (factZ_at c 46 (f := fGlo "NotRight"))) (factZ_at c 226 (f := fIni "NotRight")) (ok_i1 (x := "__init__") (qual := "NotRight.__init__") (st := si_NotRight) FI_NotRight sci_NotRight E_NotRight (He.eqO_ok (factZ_at c 152 (f := fNo "NotRight" "space"))) (fun cdv A outer s H E => (pss_one (ps_ost (pv 0) (pv 1))))) (FI_NotRight.bindsN fun _ _ _ _ _ _ us hl => match us, hl with | [_, _], _ => rfl)
  have E_BadWorths : OexC K (He.ga K "BadWorths") := fExc_ok (factZ_at c 227 (f := fExc "BadWorths"))
  have x_BadWorths : ExcI P w (gm w K).K mg base "BadWorths" ((gm w K).cl 15) (spI1 (He.ga K "BadWorths") "array") := ini_at E_BadWorths (glo_at X G (factZ_at c 40 (f := fGlo "BadWorths"))) (factZ_at c 228 (f := fIni "BadWorths")) (ok_i1 (x := "__init__") (qual := "BadWorths.__init__") (st := si_BadWorths) FI_BadWorths sci_BadWorths E_BadWorths (He.eqO_ok (factZ_at c 150 (f := fNo "BadWorths" "array"))) (fun cdv A outer s H E => (pss_one (ps_ost (pv 0) (pv 1))))) (FI_BadWorths.bindsN fun _ _ _ _ _ _ us hl => match us, hl with | [_, _], _ => rfl)
  have E_BadCounts : OexC K (He.ga K "BadCounts") := fExc_ok (factZ_at c 229 (f := fExc "BadCounts"))
  have x_BadCounts : ExcI P w (gm w K).K mg base "BadCounts" ((gm w K).cl 16) (spI1 (He.ga K "BadCounts") "array") := ini_at E_BadCounts (glo_at X G (factZ_at c 8 (f := fGlo "BadCounts"))) (factZ_at c 230 (f := fIni "BadCounts")) (ok_i1 (x := "__init__") (qual := "BadCounts.__init__") (st := si_BadCounts) FI_BadCounts sci_BadCounts E_BadCounts (He.eqO_ok (factZ_at c 124 (f := fNo "BadCounts" "array"))) (fun cdv A outer s H E => (pss_one (ps_ost (pv 0) (pv 1))))) (FI_BadCounts.bindsN fun _ _ _ _ _ _ us hl => match us, hl with | [_, _], _ => rfl)
  have E_BadPrices : OexC K (He.ga K "BadPrices") := fExc_ok (factZ_at c 231 (f := fExc "BadPrices"))
  have x_BadPrices : ExcI P w (gm w K).K mg base "BadPrices" ((gm w K).cl 17) (spI1 (He.ga K "BadPrices") "index") := ini_at E_BadPrices (glo_at X G (factZ_at c 24 (f := fGlo "BadPrices"))) (factZ_at c 232 (f := fIni "BadPrices")) (ok_i1n (x := "__init__") (qual := "BadPrices.__init__") (st := si_BadPrices) FI_BadPrices sci_BadPrices E_BadPrices (He.eqO_ok (factZ_at c 135 (f := fNo "BadPrices" "index"))) (fun cdv A outer s H E => (pss_cons (ps_expr (pe_neinit (neI_at (factZ_at c 204 (f := fNeI "NestError"))) (glo_at X G (factZ_at c 41 (f := fGlo "NestError"))) (pa_cons (pv 0) (pa_cons pe_str pa_nil)))) (pss_one (ps_ost (pv 0) (pv 1)))))) (FI_BadPrices.bindsN fun _ _ _ _ _ _ us hl => match us, hl with | [_, _], _ => rfl)
  have E_BadKinds : OexC K (He.ga K "BadKinds") := fExc_ok (factZ_at c 233 (f := fExc "BadKinds"))
  have x_BadKinds : ExcI P w (gm w K).K mg base "BadKinds" ((gm w K).cl 18) (spI1 (He.ga K "BadKinds") "index") := ini_at E_BadKinds (glo_at X G (factZ_at c 14 (f := fGlo "BadKinds"))) (factZ_at c 234 (f := fIni "BadKinds")) (ok_i1n (x := "__init__") (qual := "BadKinds.__init__") (st := si_BadKinds) FI_BadKinds sci_BadKinds E_BadKinds (He.eqO_ok (factZ_at c 128 (f := fNo "BadKinds" "index"))) (fun cdv A outer s H E => (pss_cons (ps_expr (pe_neinit (neI_at (factZ_at c 204 (f := fNeI "NestError"))) (glo_at X G (factZ_at c 41 (f := fGlo "NestError"))) (pa_cons (pv 0) (pa_cons pe_str pa_nil)))) (pss_one (ps_ost (pv 0) (pv 1)))))) (FI_BadKinds.bindsN fun _ _ _ _ _ _ us hl => match us, hl with | [_, _], _ => rfl)
  have E_TooMany : OexC K (He.ga K "TooMany") := fExc_ok (factZ_at c 235 (f := fExc "TooMany"))
  have x_TooMany : ExcI P w (gm w K).K mg base "TooMany" ((gm w K).cl 19) (spI1 (He.ga K "TooMany") "count") := ini_at E_TooMany (glo_at X G (factZ_at c 50 (f := fGlo "TooMany"))) (factZ_at c 236 (f := fIni "TooMany")) (ok_i1n (x := "__init__") (qual := "TooMany.__init__") (st := si_TooMany) FI_TooMany sci_TooMany E_TooMany (He.eqO_ok (factZ_at c 154 (f := fNo "TooMany" "count"))) (fun cdv A outer s H E => (pss_cons (ps_expr (pe_neinit (neI_at (factZ_at c 204 (f := fNeI "NestError"))) (glo_at X G (factZ_at c 41 (f := fGlo "NestError"))) (pa_cons (pv 0) (pa_cons pe_str pa_nil)))) (pss_one (ps_ost (pv 0) (pv 1)))))) (FI_TooMany.bindsN fun _ _ _ _ _ _ us hl => match us, hl with | [_, _], _ => rfl)
  have E_BadDemands : OexC K (He.ga K "BadDemands") := fExc_ok (factZ_at c 237 (f := fExc "BadDemands"))
  have x_BadDemands : ExcI P w (gm w K).K mg base "BadDemands" ((gm w K).cl 21) (spI1 (He.ga K "BadDemands") "index") := ini_at E_BadDemands (glo_at X G (factZ_at c 9 (f := fGlo "BadDemands"))) (factZ_at c 238 (f := fIni "BadDemands")) (ok_i1n (x := "__init__") (qual := "BadDemands.__init__") (st := si_BadDemands) FI_BadDemands sci_BadDemands E_BadDemands (He.eqO_ok (factZ_at c 125 (f := fNo "BadDemands" "index"))) (fun cdv A outer s H E => (pss_cons (ps_expr (pe_neinit (neI_at (factZ_at c 204 (f := fNeI "NestError"))) (glo_at X G (factZ_at c 41 (f := fGlo "NestError"))) (pa_cons (pv 0) (pa_cons pe_str pa_nil)))) (pss_one (ps_ost (pv 0) (pv 1)))))) (FI_BadDemands.bindsN fun _ _ _ _ _ _ us hl => match us, hl with | [_, _], _ => rfl)
  have E_BadChain : OexC K (He.ga K "BadChain") := fExc_ok (factZ_at c 239 (f := fExc "BadChain"))
  have x_BadChain : ExcI P w (gm w K).K mg base "BadChain" ((gm w K).cl 22) (spI1 (He.ga K "BadChain") "index") := ini_at E_BadChain (glo_at X G (factZ_at c 6 (f := fGlo "BadChain"))) (factZ_at c 240 (f := fIni "BadChain")) (ok_i1n (x := "__init__") (qual := "BadChain.__init__") (st := si_BadChain) FI_BadChain sci_BadChain E_BadChain (He.eqO_ok (factZ_at c 123 (f := fNo "BadChain" "index"))) (fun cdv A outer s H E => (pss_cons (ps_expr (pe_neinit (neI_at (factZ_at c 204 (f := fNeI "NestError"))) (glo_at X G (factZ_at c 41 (f := fGlo "NestError"))) (pa_cons (pv 0) (pa_cons pe_str pa_nil)))) (pss_one (ps_ost (pv 0) (pv 1)))))) (FI_BadChain.bindsN fun _ _ _ _ _ _ us hl => match us, hl with | [_, _], _ => rfl)
  have E_BadTile : OexC K (He.ga K "BadTile") := fExc_ok (factZ_at c 241 (f := fExc "BadTile"))
  have x_BadTile : ExcI P w (gm w K).K mg base "BadTile" ((gm w K).cl 24) (spI1 (He.ga K "BadTile") "what") := ini_at E_BadTile (glo_at X G (factZ_at c 36 (f := fGlo "BadTile"))) (factZ_at c 242 (f := fIni "BadTile")) (ok_i1 (x := "__init__") (qual := "BadTile.__init__") (st := si_BadTile) FI_BadTile sci_BadTile E_BadTile (He.eqO_ok (factZ_at c 144 (f := fNo "BadTile" "what"))) (fun cdv A outer s H E => (pss_one (ps_ost (pv 0) (pv 1))))) (FI_BadTile.bindsN fun _ _ _ _ _ _ us hl => match us, hl with | [_, _], _ => rfl)
  have E_NoSum : OexC K (He.ga K "NoSum") := fExc_ok (factZ_at c 243 (f := fExc "NoSum"))
  have x_NoSum : ExcI P w (gm w K).K mg base "NoSum" ((gm w K).cl 29) (spI1 (He.ga K "NoSum") "body") := ini_at E_NoSum (glo_at X G (factZ_at c 43 (f := fGlo "NoSum"))) (factZ_at c 244 (f := fIni "NoSum")) (ok_i1 (x := "__init__") (qual := "NoSum.__init__") (st := si_NoSum) FI_NoSum sci_NoSum E_NoSum (He.eqO_ok (factZ_at c 151 (f := fNo "NoSum" "body"))) (fun cdv A outer s H E => (pss_one (ps_ost (pv 0) (pv 1))))) (FI_NoSum.bindsN fun _ _ _ _ _ _ us hl => match us, hl with | [_, _], _ => rfl)
  have E_BadSize : OexC K (He.ga K "BadSize") := fExc_ok (factZ_at c 245 (f := fExc "BadSize"))
  have x_BadSize : ExcI P w (gm w K).K mg base "BadSize" ((gm w K).cl 32) (spI1 (He.ga K "BadSize") "size") := ini_at E_BadSize (glo_at X G (factZ_at c 30 (f := fGlo "BadSize"))) (factZ_at c 246 (f := fIni "BadSize")) (ok_i1 (x := "__init__") (qual := "BadSize.__init__") (st := si_BadSize) FI_BadSize sci_BadSize E_BadSize (He.eqO_ok (factZ_at c 139 (f := fNo "BadSize" "size"))) (fun cdv A outer s H E => (pss_one (ps_ost (pv 0) (pv 1))))) (FI_BadSize.bindsN fun _ _ _ _ _ _ us hl => match us, hl with | [_, _], _ => rfl)
  have E_BadSpots : OexC K (He.ga K "BadSpots") := fExc_ok (factZ_at c 247 (f := fExc "BadSpots"))
  have x_BadSpots : ExcI P w (gm w K).K mg base "BadSpots" ((gm w K).cl 35) (spI1 (He.ga K "BadSpots") "index") := ini_at E_BadSpots (glo_at X G (factZ_at c 32 (f := fGlo "BadSpots"))) (factZ_at c 248 (f := fIni "BadSpots")) (ok_i1 (x := "__init__") (qual := "BadSpots.__init__") (st := si_BadSpots) FI_BadSpots sci_BadSpots E_BadSpots (He.eqO_ok (factZ_at c 141 (f := fNo "BadSpots" "index"))) (fun cdv A outer s H E => (pss_one (ps_ost (pv 0) (pv 1))))) (FI_BadSpots.bindsN fun _ _ _ _ _ _ us hl => match us, hl with | [_, _], _ => rfl)
  have E_BadStops : OexC K (He.ga K "BadStops") := fExc_ok (factZ_at c 249 (f := fExc "BadStops"))
  have x_BadStops : ExcI P w (gm w K).K mg base "BadStops" ((gm w K).cl 37) (spI1 (He.ga K "BadStops") "index") := ini_at E_BadStops (glo_at X G (factZ_at c 33 (f := fGlo "BadStops"))) (factZ_at c 250 (f := fIni "BadStops")) (ok_i1 (x := "__init__") (qual := "BadStops.__init__") (st := si_BadStops) FI_BadStops sci_BadStops E_BadStops (He.eqO_ok (factZ_at c 142 (f := fNo "BadStops" "index"))) (fun cdv A outer s H E => (pss_one (ps_ost (pv 0) (pv 1))))) (FI_BadStops.bindsN fun _ _ _ _ _ _ us hl => match us, hl with | [_, _], _ => rfl)
  have E_BadBox : OexC K (He.ga K "BadBox") := fExc_ok (factZ_at c 251 (f := fExc "BadBox"))
  have x_BadBox : ExcI P w (gm w K).K mg base "BadBox" ((gm w K).cl 38) (spI1 (He.ga K "BadBox") "index") := ini_at E_BadBox (glo_at X G (factZ_at c 5 (f := fGlo "BadBox"))) (factZ_at c 252 (f := fIni "BadBox")) (ok_i1 (x := "__init__") (qual := "BadBox.__init__") (st := si_BadBox) FI_BadBox sci_BadBox E_BadBox (He.eqO_ok (factZ_at c 122 (f := fNo "BadBox" "index"))) (fun cdv A outer s H E => (pss_one (ps_ost (pv 0) (pv 1))))) (FI_BadBox.bindsN fun _ _ _ _ _ _ us hl => match us, hl with | [_, _], _ => rfl)
  have E_BadValues : OexC K (He.ga K "BadValues") := fExc_ok (factZ_at c 253 (f := fExc "BadValues"))
  have x_BadValues : ExcI P w (gm w K).K mg base "BadValues" ((gm w K).cl 39) (spI1 (He.ga K "BadValues") "array") := ini_at E_BadValues (glo_at X G (factZ_at c 38 (f := fGlo "BadValues"))) (factZ_at c 254 (f := fIni "BadValues")) (ok_i1 (x := "__init__") (qual := "BadValues.__init__") (st := si_BadValues) FI_BadValues sci_BadValues E_BadValues (He.eqO_ok (factZ_at c 147 (f := fNo "BadValues" "array"))) (fun cdv A outer s H E => (pss_one (ps_ost (pv 0) (pv 1))))) (FI_BadValues.bindsN fun _ _ _ _ _ _ us hl => match us, hl with | [_, _], _ => rfl)
  have E_BadRun : OexC K (He.ga K "BadRun") := fExc_ok (factZ_at c 255 (f := fExc "BadRun"))
  have x_BadRun : ExcI P w (gm w K).K mg base "BadRun" ((gm w K).cl 40) (spI1 (He.ga K "BadRun") "what") := ini_at E_BadRun (glo_at X G (factZ_at c 28 (f := fGlo "BadRun"))) (factZ_at c 256 (f := fIni "BadRun")) (ok_i1 (x := "__init__") (qual := "BadRun.__init__") (st := si_BadRun) FI_BadRun sci_BadRun E_BadRun (He.eqO_ok (factZ_at c 138 (f := fNo "BadRun" "what"))) (fun cdv A outer s H E => (pss_one (ps_ost (pv 0) (pv 1))))) (FI_BadRun.bindsN fun _ _ _ _ _ _ us hl => match us, hl with | [_, _], _ => rfl)
  have E_BadLengths : OexC K (He.ga K "BadLengths") := fExc_ok (factZ_at c 257 (f := fExc "BadLengths"))
  have x_BadLengths : ExcI P w (gm w K).K mg base "BadLengths" ((gm w K).cl 41) (spI1 (He.ga K "BadLengths") "index") := ini_at E_BadLengths (glo_at X G (factZ_at c 16 (f := fGlo "BadLengths"))) (factZ_at c 258 (f := fIni "BadLengths")) (ok_i1 (x := "__init__") (qual := "BadLengths.__init__") (st := si_BadLengths) FI_BadLengths sci_BadLengths E_BadLengths (He.eqO_ok (factZ_at c 129 (f := fNo "BadLengths" "index"))) (fun cdv A outer s H E => (pss_one (ps_ost (pv 0) (pv 1))))) (FI_BadLengths.bindsN fun _ _ _ _ _ _ us hl => match us, hl with | [_, _], _ => rfl)
  have E_BadLetter : OexC K (He.ga K "BadLetter") := fExc_ok (factZ_at c 259 (f := fExc "BadLetter"))
  have x_BadLetter : ExcI P w (gm w K).K mg base "BadLetter" ((gm w K).cl 43) (spI1 (He.ga K "BadLetter") "letter") := ini_at E_BadLetter (glo_at X G (factZ_at c 17 (f := fGlo "BadLetter"))) (factZ_at c 260 (f := fIni "BadLetter")) (ok_i1 (x := "__init__") (qual := "BadLetter.__init__") (st := si_BadLetter) FI_BadLetter sci_BadLetter E_BadLetter (He.eqO_ok (factZ_at c 130 (f := fNo "BadLetter" "letter"))) (fun cdv A outer s H E => (pss_one (ps_ost (pv 0) (pv 1))))) (FI_BadLetter.bindsN fun _ _ _ _ _ _ us hl => match us, hl with | [_, _], _ => rfl)
  have E_BadLimits : OexC K (He.ga K "BadLimits") := fExc_ok (factZ_at c 261 (f := fExc "BadLimits"))
  have x_BadLimits : ExcI P w (gm w K).K mg base "BadLimits" ((gm w K).cl 44) (spI1 (He.ga K "BadLimits") "index") := ini_at E_BadLimits (glo_at X G (factZ_at c 19 (f := fGlo "BadLimits"))) (factZ_at c 262 (f := fIni "BadLimits")) (ok_i1 (x := "__init__") (qual := "BadLimits.__init__") (st := si_BadLimits) FI_BadLimits sci_BadLimits E_BadLimits (He.eqO_ok (factZ_at c 131 (f := fNo "BadLimits" "index"))) (fun cdv A outer s H E => (pss_one (ps_ost (pv 0) (pv 1))))) (FI_BadLimits.bindsN fun _ _ _ _ _ _ us hl => match us, hl with | [_, _], _ => rfl)
  have E_TooLong : OexC K (He.ga K "TooLong") := fExc_ok (factZ_at c 263 (f := fExc "TooLong"))
  have x_TooLong : ExcI P w (gm w K).K mg base "TooLong" ((gm w K).cl 45) (spI1 (He.ga K "TooLong") "letter") := ini_at E_TooLong (glo_at X G (factZ_at c 49 (f := fGlo "TooLong"))) (factZ_at c 264 (f := fIni "TooLong")) (ok_i1 (x := "__init__") (qual := "TooLong.__init__") (st := si_TooLong) FI_TooLong sci_TooLong E_TooLong (He.eqO_ok (factZ_at c 153 (f := fNo "TooLong" "letter"))) (fun cdv A outer s H E => (pss_one (ps_ost (pv 0) (pv 1))))) (FI_TooLong.bindsN fun _ _ _ _ _ _ us hl => match us, hl with | [_, _], _ => rfl)
  have E_BadEdit : OexC K (He.ga K "BadEdit") := fExc_ok (factZ_at c 265 (f := fExc "BadEdit"))
  have x_BadEdit : ExcI P w (gm w K).K mg base "BadEdit" ((gm w K).cl 48) (spI1 (He.ga K "BadEdit") "index") := ini_at E_BadEdit (glo_at X G (factZ_at c 10 (f := fGlo "BadEdit"))) (factZ_at c 266 (f := fIni "BadEdit")) (ok_i1 (x := "__init__") (qual := "BadEdit.__init__") (st := si_BadEdit) FI_BadEdit sci_BadEdit E_BadEdit (He.eqO_ok (factZ_at c 126 (f := fNo "BadEdit" "index"))) (fun cdv A outer s H E => (pss_one (ps_ost (pv 0) (pv 1))))) (FI_BadEdit.bindsN fun _ _ _ _ _ _ us hl => match us, hl with | [_, _], _ => rfl)
  have E_BadGoal : OexC K (He.ga K "BadGoal") := fExc_ok (factZ_at c 267 (f := fExc "BadGoal"))
  have x_BadGoal : ExcI P w (gm w K).K mg base "BadGoal" ((gm w K).cl 49) (spI1 (He.ga K "BadGoal") "index") := ini_at E_BadGoal (glo_at X G (factZ_at c 11 (f := fGlo "BadGoal"))) (factZ_at c 268 (f := fIni "BadGoal")) (ok_i1 (x := "__init__") (qual := "BadGoal.__init__") (st := si_BadGoal) FI_BadGoal sci_BadGoal E_BadGoal (He.eqO_ok (factZ_at c 127 (f := fNo "BadGoal" "index"))) (fun cdv A outer s H E => (pss_one (ps_ost (pv 0) (pv 1))))) (FI_BadGoal.bindsN fun _ _ _ _ _ _ us hl => match us, hl with | [_, _], _ => rfl)
  have E_BadPool : OexC K (He.ga K "BadPool") := fExc_ok (factZ_at c 269 (f := fExc "BadPool"))
  have x_BadPool : ExcI P w (gm w K).K mg base "BadPool" ((gm w K).cl 50) (spI1 (He.ga K "BadPool") "index") := ini_at E_BadPool (glo_at X G (factZ_at c 23 (f := fGlo "BadPool"))) (factZ_at c 270 (f := fIni "BadPool")) (ok_i1 (x := "__init__") (qual := "BadPool.__init__") (st := si_BadPool) FI_BadPool sci_BadPool E_BadPool (He.eqO_ok (factZ_at c 134 (f := fNo "BadPool" "index"))) (fun cdv A outer s H E => (pss_one (ps_ost (pv 0) (pv 1))))) (FI_BadPool.bindsN fun _ _ _ _ _ _ us hl => match us, hl with | [_, _], _ => rfl)
  have E_AlreadyMissed : OexC K (He.ga K "AlreadyMissed") := fExc_ok (factZ_at c 271 (f := fExc "AlreadyMissed"))
  have x_AlreadyMissed : ExcI P w (gm w K).K mg base "AlreadyMissed" ((gm w K).cl 51) (spI1 (He.ga K "AlreadyMissed") "index") := ini_at E_AlreadyMissed (glo_at X G (factZ_at c 0 (f := fGlo "AlreadyMissed"))) (factZ_at c 272 (f := fIni "AlreadyMissed")) (ok_i1 (x := "__init__") (qual := "AlreadyMissed.__init__") (st := si_AlreadyMissed) FI_AlreadyMissed sci_AlreadyMissed E_AlreadyMissed (He.eqO_ok (factZ_at c 117 (f := fNo "AlreadyMissed" "index"))) (fun cdv A outer s H E => (pss_one (ps_ost (pv 0) (pv 1))))) (FI_AlreadyMissed.bindsN fun _ _ _ _ _ _ us hl => match us, hl with | [_, _], _ => rfl)
  have E_BadNest : OexC K (He.ga K "BadNest") := fExc_ok (factZ_at c 273 (f := fExc "BadNest"))
  have x_BadNest : ExcI P w (gm w K).K mg base "BadNest" ((gm w K).cl 5) (spI2 (He.ga K "BadNest") "what" "array") := ini_at E_BadNest (glo_at X G (factZ_at c 20 (f := fGlo "BadNest"))) (factZ_at c 274 (f := fIni "BadNest")) (ok_i2 (x := "__init__") (qual := "BadNest.__init__") (st := si_BadNest) FI_BadNest sci_BadNest E_BadNest (He.eqO_ok (factZ_at c 133 (f := fNo "BadNest" "what"))) (He.eqO_ok (factZ_at c 132 (f := fNo "BadNest" "array"))) (fun cdv A outer s H E => (pss_cons (ps_ost (pv 0) (pv 1)) (pss_one (ps_ost (pv 0) (pv 2)))))) (FI_BadNest.bindsN fun _ _ _ _ _ _ us hl => match us, hl with | [_, _, _], _ => rfl)
  have E_BadWeights : OexC K (He.ga K "BadWeights") := fExc_ok (factZ_at c 275 (f := fExc "BadWeights"))
  have x_BadWeights : ExcI P w (gm w K).K mg base "BadWeights" ((gm w K).cl 12) (spI2 (He.ga K "BadWeights") "index" "what") := ini_at E_BadWeights (glo_at X G (factZ_at c 39 (f := fGlo "BadWeights"))) (factZ_at c 276 (f := fIni "BadWeights")) (ok_i2 (x := "__init__") (qual := "BadWeights.__init__") (st := si_BadWeights) FI_BadWeights sci_BadWeights E_BadWeights (He.eqO_ok (factZ_at c 148 (f := fNo "BadWeights" "index"))) (He.eqO_ok (factZ_at c 149 (f := fNo "BadWeights" "what"))) (fun cdv A outer s H E => (pss_cons (ps_ost (pv 0) (pv 1)) (pss_one (ps_ost (pv 0) (pv 2)))))) (FI_BadWeights.bindsN fun _ _ _ _ _ _ us hl => match us, hl with | [_, _, _], _ => rfl)
  have E_BadBag : OexC K (He.ga K "BadBag") := fExc_ok (factZ_at c 277 (f := fExc "BadBag"))
  have x_BadBag : ExcI P w (gm w K).K mg base "BadBag" ((gm w K).cl 14) (spI2 (He.ga K "BadBag") "index" "what") := ini_at E_BadBag (glo_at X G (factZ_at c 2 (f := fGlo "BadBag"))) (factZ_at c 278 (f := fIni "BadBag")) (ok_i2 (x := "__init__") (qual := "BadBag.__init__") (st := si_BadBag) FI_BadBag sci_BadBag E_BadBag (He.eqO_ok (factZ_at c 119 (f := fNo "BadBag" "index"))) (He.eqO_ok (factZ_at c 120 (f := fNo "BadBag" "what"))) (fun cdv A outer s H E => (pss_cons (ps_ost (pv 0) (pv 1)) (pss_one (ps_ost (pv 0) (pv 2)))))) (FI_BadBag.bindsN fun _ _ _ _ _ _ us hl => match us, hl with | [_, _, _], _ => rfl)
  have E_BadUses : OexC K (He.ga K "BadUses") := fExc_ok (factZ_at c 279 (f := fExc "BadUses"))
  have x_BadUses : ExcI P w (gm w K).K mg base "BadUses" ((gm w K).cl 46) (spI2 (He.ga K "BadUses") "index" "what") := ini_at E_BadUses (glo_at X G (factZ_at c 37 (f := fGlo "BadUses"))) (factZ_at c 280 (f := fIni "BadUses")) (ok_i2 (x := "__init__") (qual := "BadUses.__init__") (st := si_BadUses) FI_BadUses sci_BadUses E_BadUses (He.eqO_ok (factZ_at c 145 (f := fNo "BadUses" "index"))) (He.eqO_ok (factZ_at c 146 (f := fNo "BadUses" "what"))) (fun cdv A outer s H E => (pss_cons (ps_ost (pv 0) (pv 1)) (pss_one (ps_ost (pv 0) (pv 2)))))) (FI_BadUses.bindsN fun _ _ _ _ _ _ us hl => match us, hl with | [_, _, _], _ => rfl)
  have y_BadLetters : ExcP (gm w K).K mg "BadLetters" ((gm w K).cl 2) := pla_at (glo_at X G (factZ_at c 18 (f := fGlo "BadLetters"))) (factZ_at c 281 (f := fPla "BadLetters"))
  have y_BadOrder : ExcP (gm w K).K mg "BadOrder" ((gm w K).cl 7) := pla_at (glo_at X G (factZ_at c 22 (f := fGlo "BadOrder"))) (factZ_at c 282 (f := fPla "BadOrder"))
  have y_BadNumbers : ExcP (gm w K).K mg "BadNumbers" ((gm w K).cl 25) := pla_at (glo_at X G (factZ_at c 21 (f := fGlo "BadNumbers"))) (factZ_at c 283 (f := fPla "BadNumbers"))
  have y_BadScale : ExcP (gm w K).K mg "BadScale" ((gm w K).cl 26) := pla_at (glo_at X G (factZ_at c 29 (f := fGlo "BadScale"))) (factZ_at c 284 (f := fPla "BadScale"))
  have y_NotAlong : ExcP (gm w K).K mg "NotAlong" ((gm w K).cl 27) := pla_at (glo_at X G (factZ_at c 44 (f := fGlo "NotAlong"))) (factZ_at c 285 (f := fPla "NotAlong"))
  have y_TooGreat : ExcP (gm w K).K mg "TooGreat" ((gm w K).cl 28) := pla_at (glo_at X G (factZ_at c 48 (f := fGlo "TooGreat"))) (factZ_at c 286 (f := fPla "TooGreat"))
  have y_BadRoom : ExcP (gm w K).K mg "BadRoom" ((gm w K).cl 30) := pla_at (glo_at X G (factZ_at c 27 (f := fGlo "BadRoom"))) (factZ_at c 287 (f := fPla "BadRoom"))
  have y_NotCover : ExcP (gm w K).K mg "NotCover" ((gm w K).cl 31) := pla_at (glo_at X G (factZ_at c 45 (f := fGlo "NotCover"))) (factZ_at c 288 (f := fPla "NotCover"))
  have y_BadKeeping : ExcP (gm w K).K mg "BadKeeping" ((gm w K).cl 33) := pla_at (glo_at X G (factZ_at c 12 (f := fGlo "BadKeeping"))) (factZ_at c 289 (f := fPla "BadKeeping"))
  have y_TooSmall : ExcP (gm w K).K mg "TooSmall" ((gm w K).cl 34) := pla_at (glo_at X G (factZ_at c 51 (f := fGlo "TooSmall"))) (factZ_at c 290 (f := fPla "TooSmall"))
  have y_BadStretch : ExcP (gm w K).K mg "BadStretch" ((gm w K).cl 36) := pla_at (glo_at X G (factZ_at c 34 (f := fGlo "BadStretch"))) (factZ_at c 291 (f := fPla "BadStretch"))
  have y_BadLength : ExcP (gm w K).K mg "BadLength" ((gm w K).cl 42) := pla_at (glo_at X G (factZ_at c 15 (f := fGlo "BadLength"))) (factZ_at c 292 (f := fPla "BadLength"))
  have y_BadChange : ExcP (gm w K).K mg "BadChange" ((gm w K).cl 47) := pla_at (glo_at X G (factZ_at c 7 (f := fGlo "BadChange"))) (factZ_at c 293 (f := fPla "BadChange"))
  have y_NothingPut : ExcP (gm w K).K mg "NothingPut" ((gm w K).cl 52) := pla_at (glo_at X G (factZ_at c 47 (f := fGlo "NothingPut"))) (factZ_at c 294 (f := fPla "NothingPut"))
  have C__law_hand_1 : OkC P w (gm w K).K mg base "_law_hand" [] 1 (spN (gm w K) 1 f__law_hand) := okc_all S__law_hand (fun fd F => d__law_hand F T) (fun _ _ _ _ _ _ us hl => match us, hl with | [_], _ => rfl)
  have C__law_mixed_2 : OkC P w (gm w K).K mg base "_law_mixed" [] 1 (spP (gm w K) 2 f__law_mixed) := okc_all S__law_mixed (fun fd F => d__law_mixed F T) (fun _ _ _ _ _ _ us hl => match us, hl with | [_, _], _ => rfl)
  have C__law_take_2 : OkC P w (gm w K).K mg base "_law_take" [] 2 (spH (gm w K) 2 f__law_take) := okc_all S__law_take (fun fd F => d__law_take F T C__law_mixed_2) (fun _ _ _ _ _ _ us hl => match us, hl with | [_, _], _ => rfl)
  have C__law_thing_1 : OkC P w (gm w K).K mg base "_law_thing" [] 3 (spH (gm w K) 1 f__law_thing) := okc_all S__law_thing (fun fd F => d__law_thing F T C__law_take_2) (fun _ _ _ _ _ _ us hl => match us, hl with | [_], _ => rfl)
  have C__law_plain_0 : OkC P w (gm w K).K mg base "_law_plain" [] 3 (spP (gm w K) 0 f__law_plain) := okc_all S__law_plain (fun fd F => d__law_plain F T x_NoPlane x_BadKind x_Unlike x_BadBasis y_BadLetters y_BadOrder y_BadNumbers y_BadScale y_NotAlong y_TooGreat y_BadRoom y_NotCover y_BadKeeping y_TooSmall y_BadStretch y_BadLength y_BadChange y_NothingPut) (fun _ _ _ _ _ _ us hl => match us, hl with | [], _ => rfl)
  have C__law_single_1 : OkC P w (gm w K).K mg base "_law_single" [] 3 (spP (gm w K) 1 f__law_single) := okc_all S__law_single (fun fd F => d__law_single F T x_BadRatio x_BadBody x_BadSpace x_BadArray x_BadText x_BadRank x_NotRight x_BadWorths x_BadCounts x_BadPrices x_BadKinds x_TooMany x_BadDemands x_BadChain x_BadTile x_NoSum x_BadSize x_BadSpots x_BadStops x_BadBox x_BadValues x_BadRun x_BadLengths x_BadLetter x_BadLimits x_TooLong x_BadEdit x_BadGoal x_BadPool x_AlreadyMissed) (fun _ _ _ _ _ _ us hl => match us, hl with | [_], _ => rfl)
  have C__law_double_2 : OkC P w (gm w K).K mg base "_law_double" [] 3 (spP (gm w K) 2 f__law_double) := okc_all S__law_double (fun fd F => d__law_double F T x_BadNest x_BadWeights x_BadBag x_BadUses) (fun _ _ _ _ _ _ us hl => match us, hl with | [_, _], _ => rfl)
  have C__law_plain_kinds_1 : OkC P w (gm w K).K mg base "_law_plain_kinds" [] 1 (spP (gm w K) 1 f__law_plain_kinds) := okc_all S__law_plain_kinds (fun fd F => d__law_plain_kinds F T) (fun _ _ _ _ _ _ us hl => match us, hl with | [_], _ => rfl)
  have C__law_single_kinds_1 : OkC P w (gm w K).K mg base "_law_single_kinds" [] 1 (spP (gm w K) 1 f__law_single_kinds) := okc_all S__law_single_kinds (fun fd F => d__law_single_kinds F T) (fun _ _ _ _ _ _ us hl => match us, hl with | [_], _ => rfl)
  have C__law_double_kinds_1 : OkC P w (gm w K).K mg base "_law_double_kinds" [] 1 (spP (gm w K) 1 f__law_double_kinds) := okc_all S__law_double_kinds (fun fd F => d__law_double_kinds F T) (fun _ _ _ _ _ _ us hl => match us, hl with | [_], _ => rfl)
  have C__law_told_1 : OkC P w (gm w K).K mg base "_law_told" [] 3 (spP (gm w K) 1 f__law_told) := okc_all S__law_told (fun fd F => d__law_told F T x_BadRatio x_BadBody x_BadSpace x_BadArray x_BadText x_BadRank x_NotRight x_BadWorths x_BadCounts x_BadPrices x_BadKinds x_TooMany x_BadDemands x_BadChain x_BadTile x_NoSum x_BadSize x_BadSpots x_BadStops x_BadBox x_BadValues x_BadRun x_BadLengths x_BadLetter x_BadLimits x_TooLong x_BadEdit x_BadGoal x_BadPool x_AlreadyMissed) (fun _ _ _ _ _ _ us hl => match us, hl with | [_], _ => rfl)
  have C__law_told_both_2 : OkC P w (gm w K).K mg base "_law_told_both" [] 3 (spP (gm w K) 2 f__law_told_both) := okc_all S__law_told_both (fun fd F => d__law_told_both F T x_BadNest x_BadWeights x_BadBag x_BadUses) (fun _ _ _ _ _ _ us hl => match us, hl with | [_, _], _ => rfl)
  have C__law_exact_2 : OkC P w (gm w K).K mg base "_law_exact" [] 1 (spP (gm w K) 2 f__law_exact) := okc_all S__law_exact (fun fd F => d__law_exact F T) (fun _ _ _ _ _ _ us hl => match us, hl with | [_, _], _ => rfl)
  have C__law_caught_1 : OkC P w (gm w K).K mg base "_law_caught" [] 3 (spP (gm w K) 1 f__law_caught) := okc_all S__law_caught (fun fd F => d__law_caught F T x_BadSpace y_TooSmall) (fun _ _ _ _ _ _ us hl => match us, hl with | [_], _ => rfl)
  exact d_law F_law T C__law_hand_1 C__law_thing_1 C__law_plain_0 C__law_single_1 C__law_double_2 C__law_plain_kinds_1 C__law_single_kinds_1 C__law_double_kinds_1 C__law_told_1 C__law_exact_2 C__law_told_both_2 C__law_caught_1
end Law
open PySem PySem.W PySem.Calls PyProof.Rows
set_option maxRecDepth 100000 in
set_option maxHeartbeats 0 in
theorem PySem.Challenge.cw_fetchedwork_k69_whole_errors_side_by_sid_holds : PySem.Challenge.rw_fetchedwork_k69_whole_errors_side_by_sid.Holds := by
  refine Law.holds_of ?hc
  case hc =>
    refine L2.walk_ofE (l := PySem.Challenge.rw_fetchedwork_k69_whole_errors_side_by_sid) (n := 63) (k := 4) (x := "script") (CX := L2.CX0) rfl (by decide) (by kernel_rfl) ⟨rfl, by decide, by decide⟩ ?F (fun _ _ _ _ z => z)
    intro w mg fa h Y G hmg0
    obtain ⟨K, KX, c⟩ := Y
    have hmg : mg ("law" : PySem.Str) = some (.ref fa) := by
      have e : (HandSHeadRun.topDef (OpenLaw.row PySem.Challenge.rw_fetchedwork_k69_whole_errors_side_by_sid).prog 69).name = ("law" : PySem.Str) := by kernel_rfl
      rw [← e]
      exact hmg0
    obtain ⟨fd, hb, hF⟩ := Law.facts (P := (PySem.Challenge.rw_fetchedwork_k69_whole_errors_side_by_sid).prog) (w := w) KX G hmg c
    exact ⟨K, fd, Py.shutS (Py.spP (Law.gm w K) 1 Law.f_law), KX, hb, fun H a ns hl _ hS => Py.spP_law (Γ := Law.gm w K) (m := Law.f_law) hS (Law.law_true ns hl), fun base h1 h2 => Py.shut (hF base h1 h2)⟩

