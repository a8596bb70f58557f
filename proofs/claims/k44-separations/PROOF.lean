import PyProof.Rows.All
import PySem.Challenge.RW_presswork_k44_separations
import Wide.All
import OpenK.AllK
import Wide.FinOn
import HandS.ForMost
import HandS.ForExc
import HandS.ExcInit
import HandS.ExcIs
import HandS.ExcField
import HandS.TupAny
import HandS.TupMul
import HandS.TupLe
import HandS.Wide
import HandS.Deep
import HandS.Style
import KE.KTupSum
import HandS.IsInst
import HandS.SortInts
import HandS.WordsDict
import HandS.Walk
import HandS.Rev
import HandS.Zip
import HandS.WordsExc
import HandS.FStr
import HandS.Head0
import HandS.Head1
import HandS.Head2
import HandS.HeadEnd
import HandS.HeadHook1
import HandS.HeadHook2
import HandS.HeadHook3
import HandS.HeadHook4
import KE.KExcIs
import HandS.Defaults
import HandS.Evl
import HandS.SortRule
import KE.GoesRaise
set_option Elab.async false
set_option linter.all false
set_option maxRecDepth 100000
set_option maxHeartbeats 4000000
set_option autoImplicit false
/-! Pd: pure data, environments, and what an executable denotation says of a reading. -/
namespace Pd
open PySem L2

/-- pure data -/
inductive D where
  | non | bl (b : Bool) | int (i : Int) | str (x : Str) | sq (l : Bool) (ds : List D)
  | dk (kvs : List (Key × D)) | dt (kvs : List (List Key × D)) | ob (C : Addr) (fs : List (Str × D)) | fz (ns : List Int)
  deriving Inhabited

mutual
/-- v stands for d, over the stable heap S -/
inductive Rp (K : PySem.W.Frag) (S : Hp) : D → V → Prop
  | non : Rp K S .non .non
  | bl (b : Bool) : Rp K S (.bl b) (.bl b)
  | int (i : Int) : Rp K S (.int i) (.int i)
  | str (x : Str) : Rp K S (.str x) (.str x)
  | sqL {a : Addr} {vs : List V} {ds : List D} : S a = some (.lst vs) → RpL K S ds vs → Rp K S (.sq true ds) (.ref a)
  | sqT {a : Addr} {vs : List V} {ds : List D} : SqT K S a vs → RpL K S ds vs → Rp K S (.sq false ds) (.ref a)
  | dk {a : Addr} {ws : List (Key × V)} {kvs : List (Key × D)} : S a = some (.dK ws) → RpK K S kvs ws → Rp K S (.dk kvs) (.ref a)
  | dt {a : Addr} {ws : List (List Key × V)} {kvs : List (List Key × D)} : S a = some (.dT ws) → RpT K S kvs ws → Rp K S (.dt kvs) (.ref a)
  | ob {a C dx : Addr} {ws : List (Str × V)} {fs : List (Str × D)} : S a = some (.ins C dx ws) → RpF K S fs ws → Rp K S (.ob C fs) (.ref a)
  | fz {a : Addr} {ns : List Int} : SqL K S a (ns.map V.int) → Rp K S (.fz ns) (.ref a)
inductive RpL (K : PySem.W.Frag) (S : Hp) : List D → List V → Prop
  | nil : RpL K S [] []
  | cons {d : D} {v : V} {ds : List D} {vs : List V} : Rp K S d v → RpL K S ds vs → RpL K S (d :: ds) (v :: vs)
inductive RpK (K : PySem.W.Frag) (S : Hp) : List (Key × D) → List (Key × V) → Prop
  | nil : RpK K S [] []
  | cons {k : Key} {d : D} {v : V} {ds : List (Key × D)} {vs : List (Key × V)} : Rp K S d v → RpK K S ds vs → RpK K S ((k, d) :: ds) ((k, v) :: vs)
inductive RpT (K : PySem.W.Frag) (S : Hp) : List (List Key × D) → List (List Key × V) → Prop
  | nil : RpT K S [] []
  | cons {k : List Key} {d : D} {v : V} {ds : List (List Key × D)} {vs : List (List Key × V)} : Rp K S d v → RpT K S ds vs → RpT K S ((k, d) :: ds) ((k, v) :: vs)
inductive RpF (K : PySem.W.Frag) (S : Hp) : List (Str × D) → List (Str × V) → Prop
  | nil : RpF K S [] []
  | cons {k : Str} {d : D} {v : V} {ds : List (Str × D)} {vs : List (Str × V)} : Rp K S d v → RpF K S ds vs → RpF K S ((k, d) :: ds) ((k, v) :: vs)
end

theorem same_rd {H H' : Hp} {a : Addr} {u : HO} (e : Same H H') (h : Rd H a u) : Rd H' a u := by
  rcases h with h | ⟨o, h⟩
  · exact Or.inl (e a _ h)
  · exact Or.inr ⟨o, e a _ h⟩
theorem same_t {K : PySem.W.Frag} {H H' : Hp} {a : Addr} {xs : List V} (e : Same H H') (h : SqT K H a xs) : SqT K H' a xs := by
  rcases h with h | h
  · exact Or.inl (same_rd e h)
  · exact Or.inr h
theorem same_l {K : PySem.W.Frag} {H H' : Hp} {a : Addr} {xs : List V} (e : Same H H') (h : SqL K H a xs) : SqL K H' a xs := by
  rcases h with h | h
  · exact Or.inl (same_rd e h)
  · exact Or.inr h
theorem same_new {H : Hp} {p : Addr} {o : HO} (h : H p = none) : Same H (upd H p o) := fun a u e => by
  rw [upd_ne (ne_of_none e h)]
  exact e
theorem same_upd2 {S H : Hp} {p : Addr} {o : HO} (e : Same S H) : Same (upd S p o) (upd H p o) := fun a u h => by
  by_cases hp : a = p
  · subst hp
    rw [upd_same] at h ⊢
    exact h
  · rw [upd_ne hp] at h ⊢
    exact e a u h

mutual
theorem Rp.mono {K : PySem.W.Frag} {S S' : Hp} (e : Same S S') : ∀ {d : D} {v : V}, Rp K S d v → Rp K S' d v
  | _, _, .non => .non
  | _, _, .bl b => .bl b
  | _, _, .int i => .int i
  | _, _, .str x => .str x
  | _, _, .sqL h r => .sqL (e _ _ h) (RpL.mono e r)
  | _, _, .sqT h r => .sqT (same_t e h) (RpL.mono e r)
  | _, _, .dk h r => .dk (e _ _ h) (RpK.mono e r)
  | _, _, .dt h r => .dt (e _ _ h) (RpT.mono e r)
  | _, _, .ob h r => .ob (e _ _ h) (RpF.mono e r)
  | _, _, .fz h => .fz (same_l e h)
theorem RpL.mono {K : PySem.W.Frag} {S S' : Hp} (e : Same S S') : ∀ {d : List D} {v : List V}, RpL K S d v → RpL K S' d v
  | _, _, .nil => .nil
  | _, _, .cons h r => .cons (Rp.mono e h) (RpL.mono e r)
theorem RpK.mono {K : PySem.W.Frag} {S S' : Hp} (e : Same S S') : ∀ {d : List (Key × D)} {v : List (Key × V)}, RpK K S d v → RpK K S' d v
  | _, _, .nil => .nil
  | _, _, .cons h r => .cons (Rp.mono e h) (RpK.mono e r)
theorem RpT.mono {K : PySem.W.Frag} {S S' : Hp} (e : Same S S') : ∀ {d : List (List Key × D)} {v : List (List Key × V)}, RpT K S d v → RpT K S' d v
  | _, _, .nil => .nil
  | _, _, .cons h r => .cons (Rp.mono e h) (RpT.mono e r)
theorem RpF.mono {K : PySem.W.Frag} {S S' : Hp} (e : Same S S') : ∀ {d : List (Str × D)} {v : List (Str × V)}, RpF K S d v → RpF K S' d v
  | _, _, .nil => .nil
  | _, _, .cons h r => .cons (Rp.mono e h) (RpF.mono e r)
end

theorem RpL.length {K : PySem.W.Frag} {S : Hp} : ∀ {ds : List D} {vs : List V}, RpL K S ds vs → ds.length = vs.length
  | _, _, .nil => rfl
  | _, _, .cons _ r => congrArg (· + 1) r.length
theorem RpL.get {K : PySem.W.Frag} {S : Hp} : ∀ {ds : List D} {vs : List V} {i : Nat} {d : D}, RpL K S ds vs → ds[i]? = some d → ∃ v, vs[i]? = some v ∧ Rp K S d v
  | _, _, _, _, .nil, e => by simp at e
  | _, _, 0, _, .cons r _, e => by simp at e; subst e; exact ⟨_, rfl, r⟩
  | _, _, i + 1, d, .cons _ t, e => by
    obtain ⟨u, h1, h2⟩ := RpL.get (i := i) (d := d) t (by simpa using e)
    exact ⟨u, by simpa using h1, h2⟩
theorem RpL.getV {K : PySem.W.Frag} {S : Hp} : ∀ {ds : List D} {vs : List V} {i : Nat} {v : V}, RpL K S ds vs → vs[i]? = some v → ∃ d, ds[i]? = some d ∧ Rp K S d v
  | _, _, _, _, .nil, e => by simp at e
  | _, _, 0, _, .cons r _, e => by simp at e; subst e; exact ⟨_, rfl, r⟩
  | _, _, i + 1, d, .cons _ t, e => by
    obtain ⟨u, h1, h2⟩ := RpL.getV (i := i) (v := d) t (by simpa using e)
    exact ⟨u, by simpa using h1, h2⟩
theorem RpL.append {K : PySem.W.Frag} {S : Hp} : ∀ {ds es : List D} {vs ws : List V}, RpL K S ds vs → RpL K S es ws → RpL K S (ds ++ es) (vs ++ ws)
  | _, _, _, _, .nil, s => s
  | _, _, _, _, .cons r t, s => .cons r (RpL.append t s)
theorem RpL.take {K : PySem.W.Frag} {S : Hp} : ∀ {ds : List D} {vs : List V} (n : Nat), RpL K S ds vs → RpL K S (ds.take n) (vs.take n)
  | _, _, 0, _ => .nil
  | _, _, _ + 1, .nil => .nil
  | _, _, n + 1, .cons r t => .cons r (RpL.take n t)
theorem RpL.drop {K : PySem.W.Frag} {S : Hp} : ∀ {ds : List D} {vs : List V} (n : Nat), RpL K S ds vs → RpL K S (ds.drop n) (vs.drop n)
  | _, _, 0, r => r
  | _, _, _ + 1, .nil => .nil
  | _, _, n + 1, .cons _ t => RpL.drop n t
theorem RpL.set {K : PySem.W.Frag} {S : Hp} {d : D} {v : V} (r : Rp K S d v) : ∀ {ds : List D} {vs : List V} (i : Nat), RpL K S ds vs → RpL K S (ds.set i d) (vs.set i v)
  | _, _, _, .nil => .nil
  | _, _, 0, .cons _ t => .cons r t
  | _, _, i + 1, .cons q t => .cons q (RpL.set r i t)
theorem RpL.reverse {K : PySem.W.Frag} {S : Hp} : ∀ {ds : List D} {vs : List V}, RpL K S ds vs → RpL K S ds.reverse vs.reverse
  | _, _, .nil => .nil
  | _, _, .cons r t => by
    rw [List.reverse_cons, List.reverse_cons]
    exact t.reverse.append (.cons r .nil)
theorem RpL.dropLast {K : PySem.W.Frag} {S : Hp} {ds : List D} {vs : List V} (h : RpL K S ds vs) : RpL K S ds.dropLast vs.dropLast := by
  rw [List.dropLast_eq_take, List.dropLast_eq_take, h.length]
  exact h.take _
theorem RpL.flat {K : PySem.W.Frag} {S : Hp} {ds : List D} {vs : List V} (h : RpL K S ds vs) : ∀ n : Nat, RpL K S (List.replicate n ds).flatten (List.replicate n vs).flatten
  | 0 => .nil
  | n + 1 => by
    rw [List.replicate_succ, List.replicate_succ, List.flatten_cons, List.flatten_cons]
    exact h.append (RpL.flat h n)

/-! ### slots and environments -/
/-- what an owned object holds: a list, a dict -/
inductive OC where
  | l (ds : List D) | dk (kvs : List (Key × D)) | dt (kvs : List (List Key × D))
  deriving Inhabited
inductive Slot where
  | unk | val (d : D) | own (p : Bool) (c : OC) | hold
  deriving Inhabited
abbrev Env := List Slot

def OCat (K : PySem.W.Frag) (S H : Hp) (a : Addr) : OC → Prop
  | .l ds => ∃ vs, H a = some (.lst vs) ∧ RpL K S ds vs
  | .dk kvs => ∃ ws, H a = some (.dK ws) ∧ RpK K S kvs ws
  | .dt kvs => ∃ ws, H a = some (.dT ws) ∧ RpT K S kvs ws
theorem OCat.there {K : PySem.W.Frag} {S H : Hp} {a : Addr} : ∀ {c : OC}, OCat K S H a c → ∃ o, H a = some o
  | .l _, ⟨_, h, _⟩ => ⟨_, h⟩
  | .dk _, ⟨_, h, _⟩ => ⟨_, h⟩
  | .dt _, ⟨_, h, _⟩ => ⟨_, h⟩
theorem OCat.mono {K : PySem.W.Frag} {S S' H H' : Hp} {a : Addr} (e : Same S S') (h : ∀ o, H a = some o → H' a = some o) : ∀ {c : OC}, OCat K S H a c → OCat K S' H' a c
  | .l _, ⟨_, q, r⟩ => ⟨_, h _ q, r.mono e⟩
  | .dk _, ⟨_, q, r⟩ => ⟨_, h _ q, r.mono e⟩
  | .dt _, ⟨_, q, r⟩ => ⟨_, h _ q, r.mono e⟩
def OC.toD : OC → D
  | .l ds => .sq true ds
  | .dk kvs => .dk kvs
  | .dt kvs => .dt kvs
/-- frozen: it belongs to the stable heap from now on -/
theorem OCat.freeze {K : PySem.W.Frag} {S H : Hp} {a : Addr} {o : HO} (hs : S a = none) (ho : H a = some o) : ∀ {c : OC}, OCat K S H a c → Rp K (upd S a o) c.toD (.ref a)
  | .l _, ⟨_, q, r⟩ => by
    rw [ho] at q
    cases q
    exact .sqL upd_same (r.mono (same_new hs))
  | .dk _, ⟨_, q, r⟩ => by
    rw [ho] at q
    cases q
    exact .dk upd_same (r.mono (same_new hs))
  | .dt _, ⟨_, q, r⟩ => by
    rw [ho] at q
    cases q
    exact .dt upd_same (r.mono (same_new hs))

/-- what is fixed while a def's body runs: the written part, the classes' places, the owned parameters, the heaps at the entry (stable; all) -/
structure Fx where
  K : PySem.W.Frag
  ca : Str → Addr
  po : List (Nat × Addr)
  S0 : Hp
  H0 : Hp
  kp : List (Addr × HO)
  hd : List (Nat × Addr)
abbrev Fx.wk (F : Fx) (a : Addr) (o : HO) : Fx := ⟨F.K, F.ca, F.po, F.S0, F.H0, (a, o) :: F.kp, F.hd⟩
/-- nobody owns a -/
def Free (F : Fx) (ρ : Env) (σ : L2.St) (a : Addr) : Prop := (∀ (i : Nat) (p : Bool) (c : OC), ρ[i]? = some (.own p c) → σ[i]? ≠ some (some (.ref a))) ∧ ∀ x ∈ F.kp, x.1 ≠ a

/-- the state: ρ describes the slots σ, over the stable heap S within the heap H -/
structure EO (F : Fx) (ρ : Env) (σ : L2.St) (S H : Hp) : Prop where
  len : ρ.length = σ.length
  sub0 : Same F.S0 S
  sub : Same S H
  new : ∀ a o, S a = some o → F.S0 a = some o ∨ F.H0 a = none
  frame : ∀ a o, (∀ x ∈ F.po, x.2 ≠ a) → F.H0 a = some o → H a = some o
  val : ∀ (i : Nat) (d : D), ρ[i]? = some (.val d) → ∃ v, σ[i]? = some (some v) ∧ Rp F.K S d v
  own : ∀ (i : Nat) (p : Bool) (c : OC), ρ[i]? = some (.own p c) → ∃ a, σ[i]? = some (some (.ref a)) ∧ OCat F.K S H a c ∧ S a = none ∧ (p = true → (i, a) ∈ F.po) ∧ (p = false → F.H0 a = none)
  dis : ∀ (i j : Nat) (p q : Bool) (c d : OC) (a : Addr), ρ[i]? = some (.own p c) → ρ[j]? = some (.own q d) → σ[i]? = some (some (.ref a)) → σ[j]? = some (some (.ref a)) → i = j
  po : ∀ x ∈ F.po, (∃ c, ρ[x.1]? = some (.own true c)) ∧ σ[x.1]? = some (some (.ref x.2))
  kp : ∀ x ∈ F.kp, H x.1 = some x.2 ∧ S x.1 = none ∧ ∀ (i : Nat) (p : Bool) (c : OC), ρ[i]? = some (.own p c) → σ[i]? ≠ some (some (.ref x.1))
  hd : ∀ x ∈ F.hd, ρ[x.1]? = some .hold ∧ σ[x.1]? = some (some (.ref x.2))

section
variable {F : Fx} {ρ ρ' : Env} {σ : L2.St} {S S' H H' : Hp} {a p : Addr} {o : HO}
theorem EO.dom (E : EO F ρ σ S H) (h : F.H0 a = some o) : ∃ u, H a = some u := by
  by_cases hp : ∀ x ∈ F.po, x.2 ≠ a
  · exact ⟨o, E.frame a o hp h⟩
  · have hp' : ∃ x, x ∈ F.po ∧ x.2 = a := Classical.byContradiction fun q => hp fun x hx e => q ⟨x, hx, e⟩
    obtain ⟨x, hx, rfl⟩ := hp'
    obtain ⟨⟨c, hc⟩, hσ⟩ := E.po x hx
    obtain ⟨b, hb, oc, _⟩ := E.own _ _ _ hc
    rw [hσ] at hb
    cases hb
    exact oc.there
theorem EO.fresh0 (E : EO F ρ σ S H) (h : H a = none) : F.H0 a = none := by
  cases q : F.H0 a with
  | none => rfl
  | some o =>
    obtain ⟨u, hu⟩ := E.dom q
    rw [h] at hu
    cases hu
theorem EO.freshS (E : EO F ρ σ S H) (h : H a = none) : S a = none := E.sub.free h
theorem EO.free (E : EO F ρ σ S H) (h : H a = none) : Free F ρ σ a := by
  refine ⟨fun i p c hi hs => ?_, fun x hx e => ?_⟩
  · obtain ⟨b, hb, oc, _⟩ := E.own i p c hi
    rw [hs] at hb
    cases hb
    obtain ⟨u, hu⟩ := oc.there
    rw [h] at hu
    cases hu
  · obtain ⟨q, _⟩ := E.kp x hx
    rw [e, h] at q
    cases q

/-- the heap grows, owned objects at A may have changed -/
theorem EO.step (E : EO F ρ σ S H) (s1 : Same S S') (s2 : Same S' H') (hn : ∀ a o, S' a = some o → S a = some o ∨ H a = none) (A : Addr → Prop) (fr : ∀ a o, ¬ A a → H a = some o → H' a = some o)
    (hA : ∀ a, A a → ∃ (i : Nat) (p : Bool) (c : OC), ρ[i]? = some (.own p c) ∧ σ[i]? = some (some (.ref a)))
    (hρ : ∀ i : Nat, ρ'[i]? = ρ[i]? ∨ ∃ (p : Bool) (c c' : OC) (a : Addr), ρ[i]? = some (.own p c) ∧ ρ'[i]? = some (.own p c') ∧ σ[i]? = some (some (.ref a)) ∧ A a)
    (hc : ∀ (i : Nat) (p : Bool) (c : OC) (a : Addr), ρ'[i]? = some (.own p c) → σ[i]? = some (some (.ref a)) → A a → OCat F.K S' H' a c) (hl : ρ'.length = ρ.length) : EO F ρ' σ S' H' := by
  have back : ∀ (i : Nat) (p : Bool) (c : OC), ρ'[i]? = some (.own p c) → ∃ c0, ρ[i]? = some (.own p c0) := fun i p c h => by
    rcases hρ i with e | ⟨p1, c1, c2, b, e1, e2, _, _⟩
    · exact ⟨c, e ▸ h⟩
    · rw [h] at e2
      cases e2
      exact ⟨c1, e1⟩
  have kp : ∀ x ∈ F.kp, H' x.1 = some x.2 ∧ S' x.1 = none ∧ ∀ (i : Nat) (p : Bool) (c : OC), ρ'[i]? = some (.own p c) → σ[i]? ≠ some (some (.ref x.1)) := fun x hx => by
    obtain ⟨k1, k2, k3⟩ := E.kp x hx
    refine ⟨fr _ _ (fun hA' => ?_) k1, ?_, fun i p c h => ?_⟩
    · obtain ⟨i, p, c, hi, hs⟩ := hA _ hA'
      exact k3 i p c hi hs
    · cases q : S' x.1 with
      | none => rfl
      | some u =>
        rcases hn _ u q with z | z
        · rw [k2] at z
          cases z
        · rw [k1] at z
          cases z
    · obtain ⟨c0, h0⟩ := back i p c h
      exact k3 i p c0 h0
  have hd : ∀ x ∈ F.hd, ρ'[x.1]? = some .hold ∧ σ[x.1]? = some (some (.ref x.2)) := fun x hx => by
    obtain ⟨k1, k2⟩ := E.hd x hx
    refine ⟨?_, k2⟩
    rcases hρ x.1 with e | ⟨p1, c1, c2, b, e1, e2, _, _⟩
    · rw [e]
      exact k1
    · rw [k1] at e1
      cases e1
  refine ⟨hl.trans E.len, E.sub0.trans s1, s2, fun a o h => ?_, fun a o hp h => ?_, fun i d h => ?_, fun i p c h => ?_, fun i j p q c d a h1 h2 h3 h4 => ?_, fun x hx => ?_, kp, hd⟩
  · rcases hn a o h with q | q
    · exact E.new a o q
    · exact .inr (E.fresh0 q)
  · refine fr a o (fun hA' => ?_) (E.frame a o hp h)
    obtain ⟨i, p, c, hi, hs⟩ := hA a hA'
    obtain ⟨b, hb, _, _, h1, h2⟩ := E.own i p c hi
    rw [hs] at hb
    cases hb
    cases p with
    | true => exact hp _ (h1 rfl) rfl
    | false =>
      rw [h2 rfl] at h
      cases h
  · rcases hρ i with e | ⟨p1, c1, c2, b, e1, e2, _, _⟩
    · rw [e] at h
      obtain ⟨v, hv, r⟩ := E.val i d h
      exact ⟨v, hv, r.mono s1⟩
    · rw [h] at e2
      cases e2
  · obtain ⟨c0, h0⟩ := back i p c h
    obtain ⟨a, ha, oc, hs, h1, h2⟩ := E.own i p c0 h0
    have hs' : S' a = none := by
      cases q : S' a with
      | none => rfl
      | some u =>
        rcases hn a u q with z | z
        · rw [hs] at z
          cases z
        · obtain ⟨w, hw⟩ := oc.there
          rw [z] at hw
          cases hw
    refine ⟨a, ha, ?_, hs', h1, h2⟩
    by_cases hAa : A a
    · exact hc i p c a h ha hAa
    · rcases hρ i with e | ⟨p1, c1, c2, b, e1, e2, e3, e4⟩
      · rw [e, h0] at h
        cases h
        exact oc.mono s1 fun o q => fr a o hAa q
      · rw [ha] at e3
        cases e3
        exact absurd e4 hAa
  · obtain ⟨c0, h0⟩ := back i p c h1
    obtain ⟨d0, h0'⟩ := back j q d h2
    exact E.dis i j p q c0 d0 a h0 h0' h3 h4
  · obtain ⟨⟨c, hc0⟩, hσ⟩ := E.po x hx
    refine ⟨?_, hσ⟩
    rcases hρ x.1 with e | ⟨p1, c1, c2, b, e1, e2, _, _⟩
    · exact ⟨c, e.trans hc0⟩
    · rw [hc0] at e1
      cases e1
      exact ⟨c2, e2⟩
/-- .. nothing owned changes -/
theorem EO.grow (E : EO F ρ σ S H) (s1 : Same S S') (s2 : Same S' H') (hn : ∀ a o, S' a = some o → S a = some o ∨ H a = none) (fr : Same H H') : EO F ρ σ S' H' :=
  E.step s1 s2 hn (fun _ => False) (fun a o _ h => fr a o h) (fun _ h => h.elim) (fun _ => .inl rfl) (fun _ _ _ _ _ _ h => h.elim) rfl
/-- a new stable object -/
theorem EO.laid (E : EO F ρ σ S H) (h : H p = none) : EO F ρ σ (upd S p o) (upd H p o) :=
  E.grow (same_new (E.freshS h)) (same_upd2 E.sub) (fun a u e => by
    by_cases hp : a = p
    · subst hp
      exact .inr h
    · rw [upd_ne hp] at e
      exact .inl e) (same_new h)
/-- a new object that is not stable -/
theorem EO.temp (E : EO F ρ σ S H) (h : H p = none) : EO F ρ σ S (upd H p o) :=
  E.grow (Same.refl S) (E.sub.trans (same_new h)) (fun a u e => .inl e) (same_new h)
/-- an object of nobody's becomes stable -/
theorem EO.adopt (E : EO F ρ σ S H) (hf : Free F ρ σ a) (hs : S a = none) (h0 : F.H0 a = none) (ho : H a = some o) : EO F ρ σ (upd S a o) H := by
  have s1 : Same S (upd S a o) := same_new hs
  refine ⟨E.len, E.sub0.trans s1, fun b u e => ?_, fun b u e => ?_, E.frame, fun i d h => ?_, fun i p c h => ?_, E.dis, E.po, fun x hx => ⟨(E.kp x hx).1, by rw [upd_ne (hf.2 x hx)]; exact (E.kp x hx).2.1, (E.kp x hx).2.2⟩, E.hd⟩
  · by_cases hb : b = a
    · subst hb
      rw [upd_same] at e
      cases e
      exact ho
    · rw [upd_ne hb] at e
      exact E.sub b u e
  · by_cases hb : b = a
    · subst hb
      exact .inr h0
    · rw [upd_ne hb] at e
      exact E.new b u e
  · obtain ⟨v, hv, r⟩ := E.val i d h
    exact ⟨v, hv, r.mono s1⟩
  · obtain ⟨b, hb, oc, hsb, h1, h2⟩ := E.own i p c h
    have hne : b ≠ a := fun e => hf.1 i p c h (e ▸ hb)
    exact ⟨b, hb, oc.mono s1 fun _ q => q, by rw [upd_ne hne]; exact hsb, h1, h2⟩
end

section
variable {F : Fx} {ρ : Env} {σ : L2.St} {S H : Hp}
/-- the slot may be stored to -/
def canSet (ρ : Env) (i : Nat) : Bool := match ρ[i]? with
  | some .unk => true
  | some (.val _) => true
  | some (.own p _) => !p
  | some .hold => false
  | none => false
theorem canSet_lt {i : Nat} (h : canSet ρ i = true) : i < ρ.length := by
  unfold canSet at h
  cases e : ρ[i]? with
  | none => rw [e] at h; cases h
  | some s => exact (List.getElem?_eq_some_iff.mp e).1
theorem canSet_po (E : EO F ρ σ S H) {i : Nat} (h : canSet ρ i = true) : ∀ x ∈ F.po, x.1 ≠ i := fun x hx e => by
  obtain ⟨⟨c, hc⟩, _⟩ := E.po x hx
  unfold canSet at h
  rw [← e, hc] at h
  cases h
theorem canSet_hd (E : EO F ρ σ S H) {i : Nat} (h : canSet ρ i = true) : ∀ x ∈ F.hd, x.1 ≠ i := fun x hx e => by
  obtain ⟨hc, _⟩ := E.hd x hx
  unfold canSet at h
  rw [← e, hc] at h
  cases h
theorem EO.hdSet (E : EO F ρ σ S H) {i : Nat} {s : Slot} {o : Option V} (h : canSet ρ i = true) : ∀ x ∈ F.hd, (ρ.set i s)[x.1]? = some .hold ∧ (σ.set i o)[x.1]? = some (some (.ref x.2)) := fun x hx => by
  have := canSet_hd E h x hx
  rw [List.getElem?_set_ne (Ne.symm this), List.getElem?_set_ne (Ne.symm this)]
  exact E.hd x hx
theorem EO.setV (E : EO F ρ σ S H) {i : Nat} {d : D} {v : V} (hi : canSet ρ i = true) (r : Rp F.K S d v) : EO F (ρ.set i (.val d)) (σ.set i (some v)) S H := by
  have hl := canSet_lt hi
  have hl2 : i < σ.length := E.len ▸ hl
  have hpo := canSet_po E hi
  refine ⟨by simpa using E.len, E.sub0, E.sub, E.new, E.frame, fun j e h => ?_, fun j p c h => ?_, fun j k p q c d a h1 h2 h3 h4 => ?_, fun x hx => ?_, fun x hx => ⟨(E.kp x hx).1, (E.kp x hx).2.1, fun j p c hj => ?_⟩, E.hdSet hi⟩
  rotate_left 4
  · by_cases hji : j = i
    · subst hji
      rw [List.getElem?_set_self hl] at hj
      cases hj
    · rw [List.getElem?_set_ne (Ne.symm hji)] at hj ⊢
      exact (E.kp x hx).2.2 j p c hj
  · by_cases hj : j = i
    · subst hj
      rw [List.getElem?_set_self hl] at h
      cases h
      exact ⟨v, List.getElem?_set_self hl2, r⟩
    · rw [List.getElem?_set_ne (Ne.symm hj)] at h ⊢
      exact E.val j e h
  · by_cases hj : j = i
    · subst hj
      rw [List.getElem?_set_self hl] at h
      cases h
    · rw [List.getElem?_set_ne (Ne.symm hj)] at h ⊢
      exact E.own j p c h
  · by_cases hj : j = i
    · subst hj
      rw [List.getElem?_set_self hl] at h1
      cases h1
    · by_cases hk : k = i
      · subst hk
        rw [List.getElem?_set_self hl] at h2
        cases h2
      · rw [List.getElem?_set_ne (Ne.symm hj)] at h1 h3
        rw [List.getElem?_set_ne (Ne.symm hk)] at h2 h4
        exact E.dis j k p q c d a h1 h2 h3 h4
  · have := hpo x hx
    rw [List.getElem?_set_ne (Ne.symm this), List.getElem?_set_ne (Ne.symm this)]
    exact E.po x hx
theorem EO.setU (E : EO F ρ σ S H) {i : Nat} {o : Option V} (hi : canSet ρ i = true) : EO F (ρ.set i .unk) (σ.set i o) S H := by
  have hl := canSet_lt hi
  have hl2 : i < σ.length := E.len ▸ hl
  have hpo := canSet_po E hi
  refine ⟨by simpa using E.len, E.sub0, E.sub, E.new, E.frame, fun j e h => ?_, fun j p c h => ?_, fun j k p q c d a h1 h2 h3 h4 => ?_, fun x hx => ?_, fun x hx => ⟨(E.kp x hx).1, (E.kp x hx).2.1, fun j p c hj => ?_⟩, E.hdSet hi⟩
  rotate_left 4
  · by_cases hji : j = i
    · subst hji
      rw [List.getElem?_set_self hl] at hj
      cases hj
    · rw [List.getElem?_set_ne (Ne.symm hji)] at hj ⊢
      exact (E.kp x hx).2.2 j p c hj
  · by_cases hj : j = i
    · subst hj
      rw [List.getElem?_set_self hl] at h
      cases h
    · rw [List.getElem?_set_ne (Ne.symm hj)] at h ⊢
      exact E.val j e h
  · by_cases hj : j = i
    · subst hj
      rw [List.getElem?_set_self hl] at h
      cases h
    · rw [List.getElem?_set_ne (Ne.symm hj)] at h ⊢
      exact E.own j p c h
  · by_cases hj : j = i
    · subst hj
      rw [List.getElem?_set_self hl] at h1
      cases h1
    · by_cases hk : k = i
      · subst hk
        rw [List.getElem?_set_self hl] at h2
        cases h2
      · rw [List.getElem?_set_ne (Ne.symm hj)] at h1 h3
        rw [List.getElem?_set_ne (Ne.symm hk)] at h2 h4
        exact E.dis j k p q c d a h1 h2 h3 h4
  · have := hpo x hx
    rw [List.getElem?_set_ne (Ne.symm this), List.getElem?_set_ne (Ne.symm this)]
    exact E.po x hx
theorem EO.setO (E : EO F ρ σ S H) {i : Nat} {c : OC} {a : Addr} (hi : canSet ρ i = true) (oc : OCat F.K S H a c) (hs : S a = none) (h0 : F.H0 a = none) (hf : Free F ρ σ a) :
    EO F (ρ.set i (.own false c)) (σ.set i (some (.ref a))) S H := by
  have hl := canSet_lt hi
  have hl2 : i < σ.length := E.len ▸ hl
  have hpo := canSet_po E hi
  refine ⟨by simpa using E.len, E.sub0, E.sub, E.new, E.frame, fun j e h => ?_, fun j p c h => ?_, fun j k p q c d b h1 h2 h3 h4 => ?_, fun x hx => ?_, fun x hx => ⟨(E.kp x hx).1, (E.kp x hx).2.1, fun j p c hj => ?_⟩, E.hdSet hi⟩
  rotate_left 4
  · by_cases hji : j = i
    · subst hji
      rw [List.getElem?_set_self hl2]
      intro z
      exact hf.2 x hx (by cases z; rfl)
    · rw [List.getElem?_set_ne (Ne.symm hji)] at hj ⊢
      exact (E.kp x hx).2.2 j p c hj
  · by_cases hj : j = i
    · subst hj
      rw [List.getElem?_set_self hl] at h
      cases h
    · rw [List.getElem?_set_ne (Ne.symm hj)] at h ⊢
      exact E.val j e h
  · by_cases hj : j = i
    · subst hj
      rw [List.getElem?_set_self hl] at h
      cases h
      exact ⟨a, List.getElem?_set_self hl2, oc, hs, fun z => Bool.noConfusion z, fun _ => h0⟩
    · rw [List.getElem?_set_ne (Ne.symm hj)] at h ⊢
      exact E.own j p c h
  · by_cases hj : j = i
    · by_cases hk : k = i
      · rw [hj, hk]
      · subst hj
        rw [List.getElem?_set_self hl2] at h3
        cases h3
        rw [List.getElem?_set_ne (Ne.symm hk)] at h2 h4
        exact absurd h4 (hf.1 k q d h2)
    · by_cases hk : k = i
      · subst hk
        rw [List.getElem?_set_self hl2] at h4
        cases h4
        rw [List.getElem?_set_ne (Ne.symm hj)] at h1 h3
        exact absurd h3 (hf.1 j p c h1)
      · rw [List.getElem?_set_ne (Ne.symm hj)] at h1 h3
        rw [List.getElem?_set_ne (Ne.symm hk)] at h2 h4
        exact E.dis j k p q c d b h1 h2 h3 h4
  · have := hpo x hx
    rw [List.getElem?_set_ne (Ne.symm this), List.getElem?_set_ne (Ne.symm this)]
    exact E.po x hx
/-- an owned object is changed -/
theorem EO.mut (E : EO F ρ σ S H) {i : Nat} {p : Bool} {c c' : OC} {a : Addr} {o : HO} (hi : ρ[i]? = some (.own p c)) (ha : σ[i]? = some (some (.ref a))) (oc : OCat F.K S (upd H a o) a c') :
    EO F (ρ.set i (.own p c')) σ S (upd H a o) := by
  have hl := (List.getElem?_eq_some_iff.mp hi).1
  obtain ⟨b, hb, _, hs, _, _⟩ := E.own i p c hi
  rw [ha] at hb
  cases hb
  have s2 : Same S (upd H a o) := fun b u e => by
    have hne : b ≠ a := fun z => by
      subst z
      rw [hs] at e
      cases e
    rw [upd_ne hne]
    exact E.sub b u e
  refine E.step (Same.refl S) s2 (fun a o h => .inl h) (fun b => b = a) (fun b u hb h => by rw [upd_ne hb]; exact h) (fun b hb => ⟨i, p, c, hi, hb ▸ ha⟩) (fun j => ?_) (fun j q d b hj hsj hb => ?_) (by simp)
  · by_cases hj : j = i
    · subst hj
      exact .inr ⟨p, c, c', a, hi, List.getElem?_set_self hl, ha, rfl⟩
    · exact .inl (List.getElem?_set_ne (Ne.symm hj))
  · subst hb
    by_cases hji : j = i
    · subst hji
      rw [List.getElem?_set_self hl] at hj
      cases hj
      exact oc
    · rw [List.getElem?_set_ne (Ne.symm hji)] at hj
      exact absurd (E.dis j i q p d c _ hj hi hsj ha) hji
/-- an owned object is given up: stable from now on -/
theorem EO.give (E : EO F ρ σ S H) {i : Nat} {c : OC} {a : Addr} {o : HO} (hi : ρ[i]? = some (.own false c)) (ha : σ[i]? = some (some (.ref a))) (ho : H a = some o) :
    EO F (ρ.set i (.val c.toD)) σ (upd S a o) H ∧ Rp F.K (upd S a o) c.toD (.ref a) ∧ S a = none := by
  obtain ⟨b, hb, oc, hs, _, h0⟩ := E.own i false c hi
  rw [ha] at hb
  cases hb
  have r := oc.freeze hs ho
  have cs : canSet ρ i = true := by unfold canSet; rw [hi]; rfl
  have E1 : EO F (ρ.set i .unk) (σ.set i (some (.ref a))) S H := E.setU cs
  have hl := (List.getElem?_eq_some_iff.mp hi).1
  have e1 : σ.set i (some (V.ref a)) = σ := by
    refine List.ext_getElem? fun j => ?_
    by_cases hj : j = i
    · subst hj
      rw [List.getElem?_set_self (E.len ▸ hl), ha]
    · rw [List.getElem?_set_ne (Ne.symm hj)]
  have hf : Free F (ρ.set i .unk) (σ.set i (some (.ref a))) a := by
    refine ⟨fun j p d hj hs2 => ?_, fun x hx e => (E.kp x hx).2.2 i false c hi (e ▸ ha)⟩
    by_cases hji : j = i
    · subst hji
      rw [List.getElem?_set_self hl] at hj
      cases hj
    · rw [List.getElem?_set_ne (Ne.symm hji)] at hj hs2
      exact hji (E.dis j i p false d c a hj hi hs2 ha)
  have E2 := E1.adopt hf hs (h0 rfl) ho
  have cs2 : canSet (ρ.set i .unk) i = true := by
    unfold canSet
    rw [List.getElem?_set_self hl]
  have E3 := E2.setV cs2 r
  rw [List.set_set, List.set_set, e1] at E3
  exact ⟨E3, r, hs⟩
end
end Pd

/-! Pd1: denotations, lifts; names, constants, operators, tests, displays, built-in calls. -/
namespace Pd
open PySem L2

inductive Res (α : Type) where
  | ok (a : α) (ρ : Env) | exc (c : Str) (x : D) (ρ : Env) | bad
abbrev DE := Env → Res D
def Res.bind {α β : Type} (r : Res α) (f : α → Env → Res β) : Res β := match r with
  | .ok a ρ => f a ρ
  | .exc c x ρ => .exc c x ρ
  | .bad => .bad
def ofO {α : Type} (o : Option α) (ρ : Env) : Res α := match o with
  | some a => .ok a ρ
  | none => .bad

/-- the name of the one field of an error -/
def fld (c : Str) : Str := if c = "InvalidLine" then "line" else "what"
def ExcK (F : Fx) (W : WX) (σ : L2.St) (c : Str) (x : D) (ρ : Env) : Prop := ∀ (v : V) (dd : Addr) (S H : Hp), EO F ρ σ S H → H dd = some (.xd [(fld c, v)]) → S dd = none → F.H0 dd = none → Free F ρ σ dd → Rp F.K S x v → W (.ref (F.ca c)) (some dd) σ H

/-- THE LIFT: the reading t does what the denotation τ says; R relates what is handed on -/
def LG {α β : Type} (F : Fx) (W : WX) (R : L2.St → Hp → Hp → α → β → Prop) (t : L2.St → Hp → (β → Hp → Prop) → Prop) (τ : Env → Res α) : Prop :=
  ∀ (ρ : Env) (σ : L2.St) (S H : Hp), EO F ρ σ S H → match τ ρ with
    | .ok d ρ' => ∀ Q : β → Hp → Prop, (∀ v S' H', EO F ρ' σ S' H' → Same S S' → R σ S' H' d v → Q v H') → t σ H Q
    | .exc c x ρ' => ∀ Q : β → Hp → Prop, ExcK F W σ c x ρ' → t σ H Q
    | .bad => True
theorem LG.ok {α β : Type} {F : Fx} {W : WX} {R : L2.St → Hp → Hp → α → β → Prop} {t : L2.St → Hp → (β → Hp → Prop) → Prop} {τ : Env → Res α} (h : LG F W R t τ) {ρ ρ' : Env} {σ : L2.St} {S H : Hp} (E : EO F ρ σ S H) {d : α} (e : τ ρ = .ok d ρ')
    {Q : β → Hp → Prop} (q : ∀ v S' H', EO F ρ' σ S' H' → Same S S' → R σ S' H' d v → Q v H') : t σ H Q := by
  have z := h ρ σ S H E
  rw [e] at z
  exact z Q q
theorem LG.exc {α β : Type} {F : Fx} {W : WX} {R : L2.St → Hp → Hp → α → β → Prop} {t : L2.St → Hp → (β → Hp → Prop) → Prop} {τ : Env → Res α} (h : LG F W R t τ) {ρ ρ' : Env} {σ : L2.St} {S H : Hp} (E : EO F ρ σ S H) {c : Str} {x : D} (e : τ ρ = .exc c x ρ')
    {Q : β → Hp → Prop} (q : ExcK F W σ c x ρ') : t σ H Q := by
  have z := h ρ σ S H E
  rw [e] at z
  exact z Q q
/-- to show a lift of a bind -/
theorem LG.of {α β : Type} {F : Fx} {W : WX} {R : L2.St → Hp → Hp → α → β → Prop} {t : L2.St → Hp → (β → Hp → Prop) → Prop} {τ : Env → Res α}
    (h1 : ∀ (ρ ρ' : Env) (σ : L2.St) (S H : Hp) (d : α), EO F ρ σ S H → τ ρ = .ok d ρ' → ∀ Q : β → Hp → Prop, (∀ v S' H', EO F ρ' σ S' H' → Same S S' → R σ S' H' d v → Q v H') → t σ H Q)
    (h2 : ∀ (ρ ρ' : Env) (σ : L2.St) (S H : Hp) (c : Str) (x : D), EO F ρ σ S H → τ ρ = .exc c x ρ' → ∀ Q : β → Hp → Prop, ExcK F W σ c x ρ' → t σ H Q) : LG F W R t τ := fun ρ σ S H E => by
  cases e : τ ρ with
  | ok d ρ' => exact h1 ρ ρ' σ S H d E e
  | exc c x ρ' => exact h2 ρ ρ' σ S H c x E e
  | bad => trivial
theorem Res.bind_ok {α β : Type} {r : Res α} {f : α → Env → Res β} {b : β} {ρ : Env} (h : r.bind f = .ok b ρ) : ∃ a ρ1, r = .ok a ρ1 ∧ f a ρ1 = .ok b ρ := by
  cases r with
  | ok a ρ1 => exact ⟨a, ρ1, rfl, h⟩
  | exc c x ρ1 => cases h
  | bad => cases h
theorem Res.bind_exc {α β : Type} {r : Res α} {f : α → Env → Res β} {c : Str} {x : D} {ρ : Env} (h : r.bind f = .exc c x ρ) : r = .exc c x ρ ∨ ∃ a ρ1, r = .ok a ρ1 ∧ f a ρ1 = .exc c x ρ := by
  cases r with
  | ok a ρ1 => exact .inr ⟨a, ρ1, rfl, h⟩
  | exc c x ρ1 => cases h; exact .inl rfl
  | bad => cases h
theorem ofO_ok {α : Type} {o : Option α} {ρ ρ' : Env} {a : α} (h : ofO o ρ = .ok a ρ') : o = some a ∧ ρ' = ρ := by
  cases o with
  | none => cases h
  | some b => cases h; exact ⟨rfl, rfl⟩
theorem ofO_exc {α : Type} {o : Option α} {ρ ρ' : Env} {c : Str} {x : D} (h : ofO o ρ = .exc c x ρ') : False := by
  cases o with
  | none => cases h
  | some b => cases h

def ofL (o : Option (List D)) (ρ : Env) : Res OC := match o with
  | some a => .ok (.l a) ρ
  | none => .bad
theorem ofL_ok {o : Option (List D)} {ρ ρ' : Env} {c : OC} (h : ofL o ρ = .ok c ρ') : ∃ zs, o = some zs ∧ c = .l zs ∧ ρ' = ρ := by
  cases o with
  | none => cases h
  | some b => cases h; exact ⟨_, rfl, rfl, rfl⟩
theorem ofL_exc {o : Option (List D)} {ρ ρ' : Env} {c : Str} {x : D} (h : ofL o ρ = .exc c x ρ') : False := by
  cases o with
  | none => cases h
  | some b => cases h
/-- an expression that hands on a stable value -/
abbrev LE (F : Fx) (W : WX) (t : TE) (τ : DE) : Prop := LG F W (fun _ S _ d v => Rp F.K S d v) t τ
/-- a test -/
abbrev LT (F : Fx) (W : WX) (t : TT) (τ : Env → Res Bool) : Prop := LG F W (fun _ _ _ d v => d = v) t τ
/-- arguments, stable -/
abbrev LA (F : Fx) (W : WX) (t : TA) (τ : Env → Res (List D)) : Prop := LG F W (fun _ S _ d v => RpL F.K S d v) t τ
/-- an operand: a stable value, or an owned object in its slot -/
inductive Opd where
  | d (x : D) | o (i : Nat)
def OpdR (K : PySem.W.Frag) (σ : L2.St) (S : Hp) : Opd → V → Prop
  | .d x, v => Rp K S x v
  | .o i, v => ∃ a, v = .ref a ∧ σ[i]? = some (some (.ref a))
theorem OpdR.mono {K : PySem.W.Frag} {σ : L2.St} {S S' : Hp} (e : Same S S') : ∀ {x : Opd} {v : V}, OpdR K σ S x v → OpdR K σ S' x v
  | .d _, _, h => Rp.mono e h
  | .o _, _, h => h
abbrev LO (F : Fx) (W : WX) (t : TE) (τ : Env → Res Opd) : Prop := LG F W (fun σ S _ d v => OpdR F.K σ S d v) t τ
inductive OpdsR (K : PySem.W.Frag) (σ : L2.St) (S : Hp) : List Opd → List V → Prop
  | nil : OpdsR K σ S [] []
  | cons {x : Opd} {v : V} {xs : List Opd} {vs : List V} : OpdR K σ S x v → OpdsR K σ S xs vs → OpdsR K σ S (x :: xs) (v :: vs)
abbrev LOs (F : Fx) (W : WX) (t : TA) (τ : Env → Res (List Opd)) : Prop := LG F W (fun σ S _ d v => OpdsR F.K σ S d v) t τ
/-- a fresh owned object -/
def FrR (F : Fx) (σ : L2.St) (S H : Hp) (c : OC) (v : V) : Prop := ∃ a, v = .ref a ∧ OCat F.K S H a c ∧ S a = none ∧ F.H0 a = none
abbrev LF (F : Fx) (W : WX) (t : TE) (τ : Env → Res OC) : Prop :=
  ∀ (ρ : Env) (σ : L2.St) (S H : Hp), EO F ρ σ S H → match τ ρ with
    | .ok c ρ' => ∀ Q : VK, (∀ a S' H', EO F ρ' σ S' H' → Same S S' → OCat F.K S' H' a c → S' a = none → F.H0 a = none → Free F ρ' σ a → Q (.ref a) H') → t σ H Q
    | .exc c x ρ' => ∀ Q : VK, ExcK F W σ c x ρ' → t σ H Q
    | .bad => True

/-- as operations see it: stable, or an owned object with stable contents -/
inductive RpR (K : PySem.W.Frag) (S H : Hp) : D → V → Prop
  | st {d : D} {v : V} : Rp K S d v → RpR K S H d v
  | ow {c : OC} {a : Addr} : OCat K S H a c → S a = none → RpR K S H c.toD (.ref a)
inductive RpRs (K : PySem.W.Frag) (S H : Hp) : List D → List V → Prop
  | nil : RpRs K S H [] []
  | cons {x : D} {v : V} {xs : List D} {vs : List V} : RpR K S H x v → RpRs K S H xs vs → RpRs K S H (x :: xs) (v :: vs)
def rdO (ρ : Env) : Opd → Option D
  | .d x => some x
  | .o i => match ρ[i]? with
    | some (.own _ c) => some c.toD
    | _ => none
def rdOs (ρ : Env) : List Opd → Option (List D)
  | [] => some []
  | x :: xs => match rdO ρ x, rdOs ρ xs with
    | some d, some ds => some (d :: ds)
    | _, _ => none
section
variable {F : Fx} {ρ : Env} {σ : L2.St} {S H : Hp}
theorem rdO_rel (E : EO F ρ σ S H) : ∀ {x : Opd} {v : V} {d : D}, OpdR F.K σ S x v → rdO ρ x = some d → RpR F.K S H d v
  | .d x, v, d, h, e => by
    cases e
    exact .st h
  | .o i, v, d, ⟨a, hv, hs⟩, e => by
    subst hv
    have e' : (match ρ[i]? with | some (.own _ c) => some c.toD | _ => none) = some d := e
    cases q : ρ[i]? with
    | none => rw [q] at e'; cases e'
    | some s =>
      rw [q] at e'
      cases s with
      | unk => cases e'
      | hold => cases e'
      | val z => cases e'
      | own p c =>
        have e2 : c.toD = d := Option.some.inj e'
        subst e2
        obtain ⟨b, hb, oc, hS, _⟩ := E.own i p c q
        rw [hs] at hb
        cases hb
        exact .ow oc hS
theorem rdOs_rel (E : EO F ρ σ S H) : ∀ {xs : List Opd} {vs : List V} {ds : List D}, OpdsR F.K σ S xs vs → rdOs ρ xs = some ds → RpRs F.K S H ds vs
  | _, _, _, .nil, e => by
    cases e
    exact .nil
  | _, _, ds, .cons (x := x) (xs := xs) h r, e => by
    have e' : (match rdO ρ x, rdOs ρ xs with | some d, some ds => some (d :: ds) | _, _ => none) = some ds := e
    cases q1 : rdO ρ x with
    | none => rw [q1] at e'; cases e'
    | some d =>
      cases q2 : rdOs ρ xs with
      | none => rw [q1, q2] at e'; cases e'
      | some dd =>
        rw [q1, q2] at e'
        cases e'
        exact .cons (rdO_rel E h q1) (rdOs_rel E r q2)
end

/-- what an operation may do to the heaps -/
structure Ext (S H S' H' : Hp) : Prop where
  s : Same S S'
  sh : Same S' H'
  h : Same H H'
  n : ∀ a o, S' a = some o → S a = some o ∨ H a = none
theorem Ext.refl {S H : Hp} (h : Same S H) : Ext S H S H := ⟨Same.refl S, h, Same.refl H, fun _ _ e => .inl e⟩
theorem Ext.laid {S H : Hp} {p : Addr} {o : HO} (h : Same S H) (hp : H p = none) : Ext S H (upd S p o) (upd H p o) :=
  ⟨same_new (h.free hp), same_upd2 h, same_new hp, fun a u e => by
    by_cases ha : a = p
    · subst ha
      exact .inr hp
    · rw [upd_ne ha] at e
      exact .inl e⟩
theorem EO.ext {F : Fx} {ρ : Env} {σ : L2.St} {S H S' H' : Hp} (E : EO F ρ σ S H) (x : Ext S H S' H') : EO F ρ σ S' H' := E.grow x.s x.sh x.n x.h

/-- an operation on values: two places, one place, a list of arguments -/
def Op2 (K : PySem.W.Frag) (r : R2) (f : D → D → Option D) : Prop := ∀ (S H : Hp) (x y z : D) (vx vy : V), Same S H → RpR K S H x vx → RpR K S H y vy → f x y = some z →
  ∀ Q : VK, (∀ v S' H', Ext S H S' H' → Rp K S' z v → Q v H') → r vx vy H Q
def Op1 (K : PySem.W.Frag) (r : V → Hp → VK → Prop) (f : D → Option D) : Prop := ∀ (S H : Hp) (x z : D) (vx : V), Same S H → RpR K S H x vx → f x = some z →
  ∀ Q : VK, (∀ v S' H', Ext S H S' H' → Rp K S' z v → Q v H') → r vx H Q
def OpN (K : PySem.W.Frag) (r : List V → Hp → VK → Prop) (f : List D → Option D) : Prop := ∀ (S H : Hp) (xs : List D) (z : D) (vs : List V), Same S H → RpRs K S H xs vs → f xs = some z →
  ∀ Q : VK, (∀ v S' H', Ext S H S' H' → Rp K S' z v → Q v H') → r vs H Q
/-- .. that hand on a new list -/
def Op2F (K : PySem.W.Frag) (r : R2) (f : D → D → Option (List D)) : Prop := ∀ (S H : Hp) (x y : D) (zs : List D) (vx vy : V), Same S H → RpR K S H x vx → RpR K S H y vy → f x y = some zs →
  ∀ Q : VK, (∀ p vs, H p = none → RpL K S zs vs → Q (.ref p) (upd H p (.lst vs))) → r vx vy H Q
def OpNF (K : PySem.W.Frag) (r : List V → Hp → VK → Prop) (f : List D → Option (List D)) : Prop := ∀ (S H : Hp) (xs : List D) (zs : List D) (vs : List V), Same S H → RpRs K S H xs vs → f xs = some zs →
  ∀ Q : VK, (∀ p ws, H p = none → RpL K S zs ws → Q (.ref p) (upd H p (.lst ws))) → r vs H Q

def dOp (f : D → D → Option D) (ta tb : Env → Res Opd) : DE := fun ρ => (ta ρ).bind fun x ρ1 => (tb ρ1).bind fun y ρ2 => match rdO ρ2 x, rdO ρ2 y with
  | some a, some b => ofO (f a b) ρ2
  | _, _ => .bad
def dOp1 (f : D → Option D) (ta : Env → Res Opd) : DE := fun ρ => (ta ρ).bind fun x ρ1 => match rdO ρ1 x with
  | some a => ofO (f a) ρ1
  | _ => .bad
def dOpN (f : List D → Option D) (ta : Env → Res (List Opd)) : DE := fun ρ => (ta ρ).bind fun x ρ1 => match rdOs ρ1 x with
  | some a => ofO (f a) ρ1
  | _ => .bad
def dOpF (f : D → D → Option (List D)) (ta tb : Env → Res Opd) : Env → Res OC := fun ρ => (ta ρ).bind fun x ρ1 => (tb ρ1).bind fun y ρ2 => match rdO ρ2 x, rdO ρ2 y with
  | some a, some b => ofL (f a b) ρ2
  | _, _ => .bad
def dOpNF (f : List D → Option (List D)) (ta : Env → Res (List Opd)) : Env → Res OC := fun ρ => (ta ρ).bind fun x ρ1 => match rdOs ρ1 x with
  | some a => ofL (f a) ρ1
  | _ => .bad

section
variable {F : Fx} {W : WX} {ta tb : TE} {tas : TA} {τa τb : Env → Res Opd} {τs : Env → Res (List Opd)}
theorem le_op {r : R2} {f : D → D → Option D} (ho : Op2 F.K r f) (ha : LO F W ta τa) (hb : LO F W tb τb) : LE F W (tOp r ta tb) (dOp f τa τb) := by
  refine LG.of (fun ρ ρ' σ S H d E e Q q => ?_) (fun ρ ρ' σ S H c x E e Q q => ?_)
  · obtain ⟨x, ρ1, e1, e⟩ := Res.bind_ok e
    obtain ⟨y, ρ2, e2, e⟩ := Res.bind_ok e
    refine ha.ok E e1 fun vx S1 H1 E1 s1 rx => hb.ok E1 e2 fun vy S2 H2 E2 s2 ry => ?_
    cases q1 : rdO ρ2 x with
    | none => rw [q1] at e; cases e
    | some a =>
      cases q2 : rdO ρ2 y with
      | none => rw [q1, q2] at e; cases e
      | some b =>
        rw [q1, q2] at e
        obtain ⟨ef, rfl⟩ := ofO_ok e
        exact ho S2 H2 a b d vx vy E2.sub (rdO_rel E2 (rx.mono s2) q1) (rdO_rel E2 ry q2) ef Q fun v S3 H3 x3 rv => q v S3 H3 (E2.ext x3) ((s1.trans s2).trans x3.s) rv
  · rcases Res.bind_exc e with e1 | ⟨x1, ρ1, e1, e⟩
    · exact ha.exc E e1 q
    · refine ha.ok E e1 fun vx S1 H1 E1 s1 rx => ?_
      rcases Res.bind_exc e with e2 | ⟨y, ρ2, e2, e⟩
      · exact hb.exc E1 e2 q
      · cases q1 : rdO ρ2 x1 with
        | none => rw [q1] at e; cases e
        | some a =>
          cases q2 : rdO ρ2 y with
          | none => rw [q1, q2] at e; cases e
          | some b =>
            rw [q1, q2] at e
            exact (ofO_exc e).elim
theorem le_op1 {r : V → Hp → VK → Prop} {f : D → Option D} (ho : Op1 F.K r f) (ha : LO F W ta τa) : LE F W (tUn r ta) (dOp1 f τa) := by
  refine LG.of (fun ρ ρ' σ S H d E e Q q => ?_) (fun ρ ρ' σ S H c x E e Q q => ?_)
  · obtain ⟨x, ρ1, e1, e⟩ := Res.bind_ok e
    refine ha.ok E e1 fun vx S1 H1 E1 s1 rx => ?_
    cases q1 : rdO ρ1 x with
    | none => rw [q1] at e; cases e
    | some a =>
      rw [q1] at e
      obtain ⟨ef, rfl⟩ := ofO_ok e
      exact ho S1 H1 a d vx E1.sub (rdO_rel E1 rx q1) ef Q fun v S3 H3 x3 rv => q v S3 H3 (E1.ext x3) (s1.trans x3.s) rv
  · rcases Res.bind_exc e with e1 | ⟨x1, ρ1, e1, e⟩
    · exact ha.exc E e1 q
    · cases q1 : rdO ρ1 x1 with
      | none => rw [q1] at e; cases e
      | some a =>
        rw [q1] at e
        exact (ofO_exc e).elim
theorem le_opN {r : List V → Hp → VK → Prop} {f : List D → Option D} (ho : OpN F.K r f) (ha : LOs F W tas τs) : LE F W (tCB r tas) (dOpN f τs) := by
  refine LG.of (fun ρ ρ' σ S H d E e Q q => ?_) (fun ρ ρ' σ S H c x E e Q q => ?_)
  · obtain ⟨x, ρ1, e1, e⟩ := Res.bind_ok e
    refine ha.ok E e1 fun vx S1 H1 E1 s1 rx => ?_
    cases q1 : rdOs ρ1 x with
    | none => rw [q1] at e; cases e
    | some a =>
      rw [q1] at e
      obtain ⟨ef, rfl⟩ := ofO_ok e
      exact ho S1 H1 a d vx E1.sub (rdOs_rel E1 rx q1) ef Q fun v S3 H3 x3 rv => q v S3 H3 (E1.ext x3) (s1.trans x3.s) rv
  · rcases Res.bind_exc e with e1 | ⟨x1, ρ1, e1, e⟩
    · exact ha.exc E e1 q
    · cases q1 : rdOs ρ1 x1 with
      | none => rw [q1] at e; cases e
      | some a =>
        rw [q1] at e
        exact (ofO_exc e).elim
theorem newl {F : Fx} {ρ : Env} {σ : L2.St} {S H : Hp} {p : Addr} {vs : List V} {zs : List D} (E : EO F ρ σ S H) (hp : H p = none) (r : RpL F.K S zs vs) :
    EO F ρ σ S (upd H p (.lst vs)) ∧ OCat F.K S (upd H p (.lst vs)) p (.l zs) ∧ S p = none ∧ F.H0 p = none ∧ Free F ρ σ p :=
  ⟨E.temp hp, ⟨vs, upd_same, r⟩, E.freshS hp, E.fresh0 hp, E.free hp⟩
theorem lf_op {r : R2} {f : D → D → Option (List D)} (ho : Op2F F.K r f) (ha : LO F W ta τa) (hb : LO F W tb τb) : LF F W (tOp r ta tb) (dOpF f τa τb) := by
  intro ρ σ S H E
  cases e : dOpF f τa τb ρ with
  | bad => trivial
  | ok c ρ' =>
    intro Q q
    obtain ⟨x, ρ1, e1, e⟩ := Res.bind_ok e
    obtain ⟨y, ρ2, e2, e⟩ := Res.bind_ok e
    refine ha.ok E e1 fun vx S1 H1 E1 s1 rx => hb.ok E1 e2 fun vy S2 H2 E2 s2 ry => ?_
    cases q1 : rdO ρ2 x with
    | none => rw [q1] at e; cases e
    | some a =>
      cases q2 : rdO ρ2 y with
      | none => rw [q1, q2] at e; cases e
      | some b =>
        rw [q1, q2] at e
        obtain ⟨zs, ef, rfl, rfl⟩ := ofL_ok e
        refine ho S2 H2 a b zs vx vy E2.sub (rdO_rel E2 (rx.mono s2) q1) (rdO_rel E2 ry q2) ef Q fun p vs hp r => ?_
        obtain ⟨E3, oc, n1, n2, n3⟩ := newl E2 hp r
        exact q p S2 _ E3 (s1.trans s2) oc n1 n2 n3
  | exc c x ρ' =>
    intro Q q
    rcases Res.bind_exc e with e1 | ⟨x1, ρ1, e1, e⟩
    · exact ha.exc E e1 q
    · refine ha.ok E e1 fun vx S1 H1 E1 s1 rx => ?_
      rcases Res.bind_exc e with e2 | ⟨y, ρ2, e2, e⟩
      · exact hb.exc E1 e2 q
      · cases q1 : rdO ρ2 x1 with
        | none => rw [q1] at e; cases e
        | some a =>
          cases q2 : rdO ρ2 y with
          | none => rw [q1, q2] at e; cases e
          | some b =>
            rw [q1, q2] at e
            exact (ofL_exc e).elim
theorem lf_opN {r : List V → Hp → VK → Prop} {f : List D → Option (List D)} (ho : OpNF F.K r f) (ha : LOs F W tas τs) : LF F W (tCB r tas) (dOpNF f τs) := by
  intro ρ σ S H E
  cases e : dOpNF f τs ρ with
  | bad => trivial
  | ok c ρ' =>
    intro Q q
    obtain ⟨x, ρ1, e1, e⟩ := Res.bind_ok e
    refine ha.ok E e1 fun vx S1 H1 E1 s1 rx => ?_
    cases q1 : rdOs ρ1 x with
    | none => rw [q1] at e; cases e
    | some a =>
      rw [q1] at e
      obtain ⟨zs, ef, rfl, rfl⟩ := ofL_ok e
      refine ho S1 H1 a zs vx E1.sub (rdOs_rel E1 rx q1) ef Q fun p vs hp r => ?_
      obtain ⟨E3, oc, n1, n2, n3⟩ := newl E1 hp r
      exact q p S1 _ E3 s1 oc n1 n2 n3
  | exc c x ρ' =>
    intro Q q
    rcases Res.bind_exc e with e1 | ⟨x1, ρ1, e1, e⟩
    · exact ha.exc E e1 q
    · cases q1 : rdOs ρ1 x1 with
      | none => rw [q1] at e; cases e
      | some a =>
        rw [q1] at e
        exact (ofL_exc e).elim

/-- a fresh object, as a stable value -/
def dFz (τ : Env → Res OC) : DE := fun ρ => (τ ρ).bind fun c ρ1 => .ok c.toD ρ1
theorem le_fz {τ : Env → Res OC} (h : LF F W ta τ) : LE F W ta (dFz τ) := by
  refine LG.of (fun ρ ρ' σ S H d E e Q q => ?_) (fun ρ ρ' σ S H c x E e Q q => ?_)
  · obtain ⟨c, ρ1, e1, e⟩ := Res.bind_ok e
    cases e
    have z := h ρ σ S H E
    rw [e1] at z
    refine z Q fun a S1 H1 E1 s1 oc n1 n2 n3 => ?_
    obtain ⟨o, ho⟩ := oc.there
    exact q _ _ _ (E1.adopt n3 n1 n2 ho) (s1.trans (same_new n1)) (oc.freeze n1 ho)
  · rcases Res.bind_exc e with e1 | ⟨c, ρ1, e1, e⟩
    · have z := h ρ σ S H E
      rw [e1] at z
      exact z Q q
    · cases e

/-! ### names and constants -/
/-- a name, as a value: what it owned is given up -/
def dVar (i : Nat) : DE := fun ρ => match ρ[i]? with
  | some (.val d) => .ok d ρ
  | some (.own false c) => .ok c.toD (ρ.set i (.val c.toD))
  | _ => .bad
theorem le_var {i : Nat} : LE F W (tVar i) (dVar i) := by
  refine LG.of (fun ρ ρ' σ S H d E e Q q => ?_) (fun ρ ρ' σ S H c x E e Q q => ?_)
  · unfold dVar at e
    cases hs : ρ[i]? with
    | none => rw [hs] at e; cases e
    | some s =>
      rw [hs] at e
      cases s with
      | unk => cases e
      | hold => cases e
      | val z =>
        cases e
        obtain ⟨v, hv, r⟩ := E.val i _ hs
        exact ⟨v, hv, q v S H E (Same.refl S) r⟩
      | own p c =>
        cases p with
        | true => cases e
        | false =>
          cases e
          obtain ⟨a, ha, oc, n1, _, n2⟩ := E.own i false c hs
          obtain ⟨o, ho⟩ := oc.there
          obtain ⟨E1, r, _⟩ := E.give hs ha ho
          exact ⟨.ref a, ha, q _ _ _ E1 (same_new n1) r⟩
  · unfold dVar at e
    cases hs : ρ[i]? with
    | none => rw [hs] at e; cases e
    | some s =>
      rw [hs] at e
      cases s with
      | unk => cases e
      | hold => cases e
      | val z => cases e
      | own p c => cases p <;> cases e
/-- a name, as an operand -/
def oVar (i : Nat) : Env → Res Opd := fun ρ => match ρ[i]? with
  | some (.val d) => .ok (.d d) ρ
  | some (.own _ _) => .ok (.o i) ρ
  | _ => .bad
theorem lo_var {i : Nat} : LO F W (tVar i) (oVar i) := by
  refine LG.of (fun ρ ρ' σ S H d E e Q q => ?_) (fun ρ ρ' σ S H c x E e Q q => ?_)
  · unfold oVar at e
    cases hs : ρ[i]? with
    | none => rw [hs] at e; cases e
    | some s =>
      rw [hs] at e
      cases s with
      | unk => cases e
      | hold => cases e
      | val z =>
        cases e
        obtain ⟨v, hv, r⟩ := E.val i _ hs
        exact ⟨v, hv, q v S H E (Same.refl S) r⟩
      | own p c =>
        cases e
        obtain ⟨a, ha, oc, n1, _, n2⟩ := E.own i p c hs
        exact ⟨.ref a, ha, q _ _ _ E (Same.refl S) ⟨a, rfl, ha⟩⟩
  · unfold oVar at e
    cases hs : ρ[i]? with
    | none => rw [hs] at e; cases e
    | some s =>
      rw [hs] at e
      cases s <;> cases e
/-- an expression, as an operand -/
def oE (τ : DE) : Env → Res Opd := fun ρ => (τ ρ).bind fun d ρ1 => .ok (.d d) ρ1
theorem lo_e {τ : DE} (h : LE F W ta τ) : LO F W ta (oE τ) := by
  refine LG.of (fun ρ ρ' σ S H d E e Q q => ?_) (fun ρ ρ' σ S H c x E e Q q => ?_)
  · obtain ⟨c, ρ1, e1, e⟩ := Res.bind_ok e
    cases e
    exact h.ok E e1 fun v S1 H1 E1 s1 r => q v S1 H1 E1 s1 r
  · rcases Res.bind_exc e with e1 | ⟨c, ρ1, e1, e⟩
    · exact h.exc E e1 q
    · cases e
def dC (d : D) : DE := fun ρ => .ok d ρ
theorem le_int {i : Int} : LE F W (tC (.int i)) (dC (.int i)) := fun ρ σ S H E Q q => q _ S H E (Same.refl S) (.int i)
theorem le_str {x : Str} : LE F W (tC (.str x)) (dC (.str x)) := fun ρ σ S H E Q q => q _ S H E (Same.refl S) (.str x)
theorem le_bl {b : Bool} : LE F W (tC (.bl b)) (dC (.bl b)) := fun ρ σ S H E Q q => q _ S H E (Same.refl S) (.bl b)
theorem le_non : LE F W (tC .non) (dC .non) := fun ρ σ S H E Q q => q _ S H E (Same.refl S) .non
/-- a constant of the module -/
theorem le_con {v : V} {d : D} (h : ∀ S, Rp F.K S d v) : LE F W (tC v) (dC d) := fun ρ σ S H E Q q => q _ S H E (Same.refl S) (h S)

/-! ### lists of operands, of arguments -/
def osNil : Env → Res (List Opd) := fun ρ => .ok [] ρ
def osCons (τ : Env → Res Opd) (τs : Env → Res (List Opd)) : Env → Res (List Opd) := fun ρ => (τ ρ).bind fun x ρ1 => (τs ρ1).bind fun xs ρ2 => .ok (x :: xs) ρ2
theorem los_nil : LOs F W tNil osNil := fun ρ σ S H E Q q => q _ S H E (Same.refl S) .nil
theorem los_cons (ha : LO F W ta τa) (hs : LOs F W tas τs) : LOs F W (tCons ta tas) (osCons τa τs) := by
  refine LG.of (fun ρ ρ' σ S H d E e Q q => ?_) (fun ρ ρ' σ S H c x E e Q q => ?_)
  · obtain ⟨x, ρ1, e1, e⟩ := Res.bind_ok e
    obtain ⟨xs, ρ2, e2, e⟩ := Res.bind_ok e
    cases e
    exact ha.ok E e1 fun v S1 H1 E1 s1 r => hs.ok E1 e2 fun vs S2 H2 E2 s2 rs => q _ S2 H2 E2 (s1.trans s2) (.cons (r.mono s2) rs)
  · rcases Res.bind_exc e with e1 | ⟨x1, ρ1, e1, e⟩
    · exact ha.exc E e1 q
    · refine ha.ok E e1 fun v S1 H1 E1 s1 r => ?_
      rcases Res.bind_exc e with e2 | ⟨xs, ρ2, e2, e⟩
      · exact hs.exc E1 e2 q
      · cases e
def asNil : Env → Res (List D) := fun ρ => .ok [] ρ
def asCons (τ : DE) (τs : Env → Res (List D)) : Env → Res (List D) := fun ρ => (τ ρ).bind fun x ρ1 => (τs ρ1).bind fun xs ρ2 => .ok (x :: xs) ρ2
theorem la_nil : LA F W tNil asNil := fun ρ σ S H E Q q => q _ S H E (Same.refl S) .nil
theorem la_cons {τ : DE} {τs : Env → Res (List D)} (ha : LE F W ta τ) (hs : LA F W tas τs) : LA F W (tCons ta tas) (asCons τ τs) := by
  refine LG.of (fun ρ ρ' σ S H d E e Q q => ?_) (fun ρ ρ' σ S H c x E e Q q => ?_)
  · obtain ⟨x, ρ1, e1, e⟩ := Res.bind_ok e
    obtain ⟨xs, ρ2, e2, e⟩ := Res.bind_ok e
    cases e
    exact ha.ok E e1 fun v S1 H1 E1 s1 r => hs.ok E1 e2 fun vs S2 H2 E2 s2 rs => q _ S2 H2 E2 (s1.trans s2) (.cons (r.mono s2) rs)
  · rcases Res.bind_exc e with e1 | ⟨x1, ρ1, e1, e⟩
    · exact ha.exc E e1 q
    · refine ha.ok E e1 fun v S1 H1 E1 s1 r => ?_
      rcases Res.bind_exc e with e2 | ⟨xs, ρ2, e2, e⟩
      · exact hs.exc E1 e2 q
      · cases e

/-! ### displays -/
def dTup (τs : Env → Res (List D)) : DE := fun ρ => (τs ρ).bind fun xs ρ1 => if xs.length ≤ 1000000 then .ok (.sq false xs) ρ1 else .bad
def dLst (τs : Env → Res (List D)) : Env → Res OC := fun ρ => (τs ρ).bind fun xs ρ1 => if xs.length ≤ 1000000 then .ok (.l xs) ρ1 else .bad
theorem size_of {n : Nat} (h : n ≤ 1000000) : n ≤ sizeLine := Nat.le_trans h (by decide)
theorem size_lt {n : Nat} (h : n ≤ 1000000) : n < sizeLine := Nat.lt_of_le_of_lt h (by decide)
theorem le_tup {τs : Env → Res (List D)} (h : LA F W tas τs) : LE F W (tTup tas) (dTup τs) := by
  refine LG.of (fun ρ ρ' σ S H d E e Q q => ?_) (fun ρ ρ' σ S H c x E e Q q => ?_)
  · obtain ⟨xs, ρ1, e1, e⟩ := Res.bind_ok e
    split at e
    · rename_i hz
      cases e
      refine h.ok E e1 fun vs S1 H1 E1 s1 rs => ⟨size_of (by rw [← rs.length]; exact hz), fun p hp => ?_⟩
      exact q _ _ _ (E1.laid hp) (s1.trans (same_new (E1.freshS hp))) (.sqT (.inl (.inl upd_same)) (rs.mono (same_new (E1.freshS hp))))
    · cases e
  · rcases Res.bind_exc e with e1 | ⟨xs, ρ1, e1, e⟩
    · exact h.exc E e1 q
    · split at e <;> cases e
theorem lf_lst {τs : Env → Res (List D)} (h : LA F W tas τs) : LF F W (tLst tas) (dLst τs) := by
  intro ρ σ S H E
  cases e : dLst τs ρ with
  | bad => trivial
  | ok c ρ' =>
    intro Q q
    obtain ⟨xs, ρ1, e1, e⟩ := Res.bind_ok e
    split at e
    · rename_i hz
      cases e
      refine h.ok E e1 fun vs S1 H1 E1 s1 rs => ⟨size_of (by rw [← rs.length]; exact hz), fun p hp => ?_⟩
      obtain ⟨E3, oc, n1, n2, n3⟩ := newl E1 hp rs
      exact q p S1 _ E3 s1 oc n1 n2 n3
    · cases e
  | exc c x ρ' =>
    intro Q q
    rcases Res.bind_exc e with e1 | ⟨xs, ρ1, e1, e⟩
    · exact h.exc E e1 q
    · split at e <;> cases e

/-! ### tests -/
def dTest (τ : DE) : Env → Res Bool := fun ρ => (τ ρ).bind fun d ρ1 => match d with
  | .bl b => .ok b ρ1
  | _ => .bad
theorem lt_test {τ : DE} (h : LE F W ta τ) : LT F W (tTest ta) (dTest τ) := by
  refine LG.of (fun ρ ρ' σ S H d E e Q q => ?_) (fun ρ ρ' σ S H c x E e Q q => ?_)
  · obtain ⟨x, ρ1, e1, e⟩ := Res.bind_ok e
    refine h.ok E e1 fun v S1 H1 E1 s1 r => ?_
    cases r with
    | bl b => cases e; exact ⟨_, rfl, q _ S1 H1 E1 s1 rfl⟩
    | non => cases e
    | int => cases e
    | str => cases e
    | sqL => cases e
    | sqT => cases e
    | dk => cases e
    | dt => cases e
    | ob => cases e
    | fz => cases e
  · rcases Res.bind_exc e with e1 | ⟨xs, ρ1, e1, e⟩
    · exact h.exc E e1 q
    · cases xs <;> cases e
theorem lt_B {τ : DE} (h : LE F W ta τ) : LT F W (tB ta) (dTest τ) := lt_test h
variable {t u : TT} {κ κ' : Env → Res Bool}
def dAnd (a b : Env → Res Bool) : Env → Res Bool := fun ρ => (a ρ).bind fun x ρ1 => if x = true then b ρ1 else .ok false ρ1
def dOr (a b : Env → Res Bool) : Env → Res Bool := fun ρ => (a ρ).bind fun x ρ1 => if x = true then .ok true ρ1 else b ρ1
def dNot (a : Env → Res Bool) : Env → Res Bool := fun ρ => (a ρ).bind fun x ρ1 => .ok (!x) ρ1
theorem lt_and (ha : LT F W t κ) (hb : LT F W u κ') : LT F W (tAnd t u) (dAnd κ κ') := by
  refine LG.of (fun ρ ρ' σ S H d E e Q q => ?_) (fun ρ ρ' σ S H c x E e Q q => ?_)
  · obtain ⟨x, ρ1, e1, e⟩ := Res.bind_ok e
    refine ha.ok E e1 fun v S1 H1 E1 s1 r => ?_
    subst r
    cases x with
    | true =>
      rw [if_pos rfl] at e ⊢
      exact hb.ok E1 e fun v S2 H2 E2 s2 r => q v S2 H2 E2 (s1.trans s2) r
    | false =>
      rw [if_neg Bool.false_ne_true] at e ⊢
      cases e
      exact q _ S1 H1 E1 s1 rfl
  · rcases Res.bind_exc e with e1 | ⟨x, ρ1, e1, e⟩
    · exact ha.exc E e1 q
    · refine ha.ok E e1 fun v S1 H1 E1 s1 r => ?_
      subst r
      cases x with
      | true =>
        rw [if_pos rfl] at e ⊢
        exact hb.exc E1 e q
      | false =>
        rw [if_neg Bool.false_ne_true] at e
        cases e
theorem lt_or (ha : LT F W t κ) (hb : LT F W u κ') : LT F W (tOr t u) (dOr κ κ') := by
  refine LG.of (fun ρ ρ' σ S H d E e Q q => ?_) (fun ρ ρ' σ S H c x E e Q q => ?_)
  · obtain ⟨x, ρ1, e1, e⟩ := Res.bind_ok e
    refine ha.ok E e1 fun v S1 H1 E1 s1 r => ?_
    subst r
    cases x with
    | true =>
      rw [if_pos rfl] at e ⊢
      cases e
      exact q _ S1 H1 E1 s1 rfl
    | false =>
      rw [if_neg Bool.false_ne_true] at e ⊢
      exact hb.ok E1 e fun v S2 H2 E2 s2 r => q v S2 H2 E2 (s1.trans s2) r
  · rcases Res.bind_exc e with e1 | ⟨x, ρ1, e1, e⟩
    · exact ha.exc E e1 q
    · refine ha.ok E e1 fun v S1 H1 E1 s1 r => ?_
      subst r
      cases x with
      | true =>
        rw [if_pos rfl] at e
        cases e
      | false =>
        rw [if_neg Bool.false_ne_true] at e ⊢
        exact hb.exc E1 e q
theorem lt_not (ha : LT F W t κ) : LT F W (tNot t) (dNot κ) := by
  refine LG.of (fun ρ ρ' σ S H d E e Q q => ?_) (fun ρ ρ' σ S H c x E e Q q => ?_)
  · obtain ⟨x, ρ1, e1, e⟩ := Res.bind_ok e
    cases e
    exact ha.ok E e1 fun v S1 H1 E1 s1 r => q _ S1 H1 E1 s1 (by rw [r])
  · rcases Res.bind_exc e with e1 | ⟨x, ρ1, e1, e⟩
    · exact ha.exc E e1 q
    · cases e
/-- and, or, not as values of bools -/
def dAndV (a b : DE) : DE := fun ρ => (a ρ).bind fun x ρ1 => match x with
  | .bl true => b ρ1
  | .bl false => .ok (.bl false) ρ1
  | _ => .bad
def dOrV (a b : DE) : DE := fun ρ => (a ρ).bind fun x ρ1 => match x with
  | .bl true => .ok (.bl true) ρ1
  | .bl false => b ρ1
  | _ => .bad
def dNotV (a : DE) : DE := fun ρ => (a ρ).bind fun x ρ1 => match x with
  | .bl b => .ok (.bl (!b)) ρ1
  | _ => .bad
theorem le_andV {a b : DE} (ha : LE F W ta a) (hb : LE F W tb b) : LE F W (tAndV ta tb) (dAndV a b) := by
  refine LG.of (fun ρ ρ' σ S H d E e Q q => ?_) (fun ρ ρ' σ S H c x E e Q q => ?_)
  · obtain ⟨x, ρ1, e1, e⟩ := Res.bind_ok e
    refine ha.ok E e1 fun v S1 H1 E1 s1 r => ?_
    cases r with
    | bl k =>
      refine ⟨k, rfl, ?_⟩
      cases k with
      | true => exact hb.ok E1 e fun v S2 H2 E2 s2 r => q v S2 H2 E2 (s1.trans s2) r
      | false =>
        cases e
        exact q _ S1 H1 E1 s1 (.bl false)
    | non => cases e
    | int => cases e
    | str => cases e
    | sqL => cases e
    | sqT => cases e
    | dk => cases e
    | dt => cases e
    | ob => cases e
    | fz => cases e
  · rcases Res.bind_exc e with e1 | ⟨x, ρ1, e1, e⟩
    · exact ha.exc E e1 q
    · refine ha.ok E e1 fun v S1 H1 E1 s1 r => ?_
      cases r with
      | bl k =>
        refine ⟨k, rfl, ?_⟩
        cases k with
        | true => exact hb.exc E1 e q
        | false => cases e
      | non => cases e
      | int => cases e
      | str => cases e
      | sqL => cases e
      | sqT => cases e
      | dk => cases e
      | dt => cases e
      | ob => cases e
      | fz => cases e
theorem le_orV {a b : DE} (ha : LE F W ta a) (hb : LE F W tb b) : LE F W (tOrV ta tb) (dOrV a b) := by
  refine LG.of (fun ρ ρ' σ S H d E e Q q => ?_) (fun ρ ρ' σ S H c x E e Q q => ?_)
  · obtain ⟨x, ρ1, e1, e⟩ := Res.bind_ok e
    refine ha.ok E e1 fun v S1 H1 E1 s1 r => ?_
    cases r with
    | bl k =>
      refine ⟨k, rfl, ?_⟩
      cases k with
      | false => exact hb.ok E1 e fun v S2 H2 E2 s2 r => q v S2 H2 E2 (s1.trans s2) r
      | true =>
        cases e
        exact q _ S1 H1 E1 s1 (.bl true)
    | non => cases e
    | int => cases e
    | str => cases e
    | sqL => cases e
    | sqT => cases e
    | dk => cases e
    | dt => cases e
    | ob => cases e
    | fz => cases e
  · rcases Res.bind_exc e with e1 | ⟨x, ρ1, e1, e⟩
    · exact ha.exc E e1 q
    · refine ha.ok E e1 fun v S1 H1 E1 s1 r => ?_
      cases r with
      | bl k =>
        refine ⟨k, rfl, ?_⟩
        cases k with
        | false => exact hb.exc E1 e q
        | true => cases e
      | non => cases e
      | int => cases e
      | str => cases e
      | sqL => cases e
      | sqT => cases e
      | dk => cases e
      | dt => cases e
      | ob => cases e
      | fz => cases e
theorem le_notV {a : DE} (ha : LE F W ta a) : LE F W (tNotV ta) (dNotV a) := by
  refine LG.of (fun ρ ρ' σ S H d E e Q q => ?_) (fun ρ ρ' σ S H c x E e Q q => ?_)
  · obtain ⟨x, ρ1, e1, e⟩ := Res.bind_ok e
    refine ha.ok E e1 fun v S1 H1 E1 s1 r => ?_
    cases r with
    | bl k =>
      cases e
      exact ⟨k, rfl, q _ S1 H1 E1 s1 (.bl _)⟩
    | non => cases e
    | int => cases e
    | str => cases e
    | sqL => cases e
    | sqT => cases e
    | dk => cases e
    | dt => cases e
    | ob => cases e
    | fz => cases e
  · rcases Res.bind_exc e with e1 | ⟨x, ρ1, e1, e⟩
    · exact ha.exc E e1 q
    · cases x <;> cases e
/-- a if t else b -/
def dIfE (c : Env → Res Bool) (a b : DE) : DE := fun ρ => (c ρ).bind fun x ρ1 => if x = true then a ρ1 else b ρ1
theorem le_if {a b : DE} (hc : LT F W t κ) (ha : LE F W ta a) (hb : LE F W tb b) : LE F W (tIf t ta tb) (dIfE κ a b) := by
  refine LG.of (fun ρ ρ' σ S H d E e Q q => ?_) (fun ρ ρ' σ S H c x E e Q q => ?_)
  · obtain ⟨x, ρ1, e1, e⟩ := Res.bind_ok e
    refine hc.ok E e1 fun v S1 H1 E1 s1 r => ?_
    subst r
    cases x with
    | true =>
      rw [if_pos rfl] at e ⊢
      exact ha.ok E1 e fun v S2 H2 E2 s2 r => q v S2 H2 E2 (s1.trans s2) r
    | false =>
      rw [if_neg Bool.false_ne_true] at e ⊢
      exact hb.ok E1 e fun v S2 H2 E2 s2 r => q v S2 H2 E2 (s1.trans s2) r
  · rcases Res.bind_exc e with e1 | ⟨x, ρ1, e1, e⟩
    · exact hc.exc E e1 q
    · refine hc.ok E e1 fun v S1 H1 E1 s1 r => ?_
      subst r
      cases x with
      | true =>
        rw [if_pos rfl] at e ⊢
        exact ha.exc E1 e q
      | false =>
        rw [if_neg Bool.false_ne_true] at e ⊢
        exact hb.exc E1 e q
/-- a chain of two comparisons -/
def dChain (f g : D → D → Option D) (a b c : Env → Res Opd) : DE := fun ρ => (a ρ).bind fun x ρ1 => (b ρ1).bind fun y ρ2 => match rdO ρ2 x, rdO ρ2 y with
  | some dx, some dy => match f dx dy with
    | some (.bl true) => (c ρ2).bind fun z ρ3 => match rdO ρ3 y, rdO ρ3 z with
      | some dy, some dz => ofO (g dy dz) ρ3
      | _, _ => .bad
    | some (.bl false) => .ok (.bl false) ρ2
    | _ => .bad
  | _, _ => .bad
end
end Pd

/-! Pd2: the operators on pure data. -/
namespace Pd
open PySem L2

mutual
def D.toPy : D → PyData
  | .non => .none
  | .bl b => .bool b
  | .int i => .int i
  | .str x => .str x
  | .sq true ds => .list (D.toPys ds)
  | .sq false ds => .tuple (D.toPys ds)
  | .dk _ => .dict []
  | .dt _ => .dict []
  | .ob _ _ => .dict []
  | .fz _ => .dict []
def D.toPys : List D → List PyData
  | [] => []
  | d :: ds => d.toPy :: D.toPys ds
end
/-- data that == may be asked of: of small depth, texts of code points -/
def okE : Nat → D → Bool
  | _, .non => true
  | _, .bl _ => true
  | _, .int _ => true
  | _, .str x => x.cps.all (· < 0x110000)
  | n + 1, .sq _ ds => ds.all (okE n)
  | _, _ => false
theorem okE_all {n : Nat} {l : Bool} {ds : List D} : okE (n + 1) (.sq l ds) = ds.all (okE n) := rfl
theorem okE_sq {n : Nat} {l : Bool} {ds : List D} (h : okE n (.sq l ds) = true) : ∃ m, n = m + 1 ∧ ∀ d ∈ ds, okE m d = true := by
  cases n with
  | zero => simp [okE] at h
  | succ m =>
    refine ⟨m, rfl, fun d hd => ?_⟩
    rw [okE_all] at h
    exact List.all_eq_true.mp h d hd
mutual
theorem okE_py : ∀ (d : D) (n : Nat), okE n d = true → PyData.canLay0 d.toPy = true ∧ PyData.depth d.toPy ≤ n
  | .non, n, _ => by simp [D.toPy, PyData.canLay0, PyData.depth]
  | .bl b, n, _ => by simp [D.toPy, PyData.canLay0, PyData.depth]
  | .int i, n, _ => by simp [D.toPy, PyData.canLay0, PyData.depth]
  | .str x, n, h => by
    have h' : x.cps.all (· < 0x110000) = true := by
      cases n <;> exact h
    have h2 : PyData.strOk x = true := h'
    simp [D.toPy, PyData.canLay0, PyData.depth, h2]
  | .sq true ds, n, h => by
    obtain ⟨m, rfl, ha⟩ := okE_sq h
    obtain ⟨h1, h2⟩ := okE_pys ds m ha
    simp [D.toPy, PyData.canLay0, PyData.depth, h1, h2]
  | .sq false ds, n, h => by
    obtain ⟨m, rfl, ha⟩ := okE_sq h
    obtain ⟨h1, h2⟩ := okE_pys ds m ha
    simp [D.toPy, PyData.canLay0, PyData.depth, h1, h2]
  | .dk _, n, h => by cases n <;> simp [okE] at h
  | .dt _, n, h => by cases n <;> simp [okE] at h
  | .ob _ _, n, h => by cases n <;> simp [okE] at h
  | .fz _, n, h => by cases n <;> simp [okE] at h
theorem okE_pys : ∀ (ds : List D) (n : Nat), (∀ d ∈ ds, okE n d = true) → PyData.canLayAll0 (D.toPys ds) = true ∧ PyData.depthAll (D.toPys ds) ≤ n
  | [], n, _ => by simp [D.toPys, PyData.canLayAll0, PyData.depthAll]
  | d :: ds, n, h => by
    obtain ⟨h1, h2⟩ := okE_py d n (h d List.mem_cons_self)
    obtain ⟨h3, h4⟩ := okE_pys ds n fun e he => h e (List.mem_cons_of_mem _ he)
    simp [D.toPys, PyData.canLayAll0, PyData.depthAll, h1, h3]
    omega
end
theorem okE_shaped {d : D} (h : okE 20 d = true) : SeqAt.shaped d.toPy = true := by
  obtain ⟨h1, h2⟩ := okE_py d 20 h
  unfold SeqAt.shaped
  rw [h1, decide_eq_true (by omega)]
  rfl
mutual
theorem dp_of {K : PySem.W.Frag} {S : Hp} : ∀ {d : D} {v : V} (n : Nat), Rp K S d v → okE n d = true → Dp K S v d.toPy
  | _, _, _, .non, _ => by rw [D.toPy]; exact .non
  | _, _, _, .bl b, _ => by rw [D.toPy]; exact .bl b
  | _, _, _, .int i, _ => by rw [D.toPy]; exact .int i
  | _, _, _, .str x, _ => by rw [D.toPy]; exact .str x
  | _, _, n, .sqL (ds := ds) h r, ok => by
    obtain ⟨m, rfl, ha⟩ := okE_sq ok
    rw [D.toPy]
    exact .lst (SqL.of h) (dps_of m r ha)
  | _, _, n, .sqT (ds := ds) h r, ok => by
    obtain ⟨m, rfl, ha⟩ := okE_sq ok
    rw [D.toPy]
    exact .tup h (dps_of m r ha)
  | _, _, n, .dk _ _, ok => by cases n <;> simp [okE] at ok
  | _, _, n, .dt _ _, ok => by cases n <;> simp [okE] at ok
  | _, _, n, .ob _ _, ok => by cases n <;> simp [okE] at ok
  | _, _, n, .fz _, ok => by cases n <;> simp [okE] at ok
theorem dps_of {K : PySem.W.Frag} {S : Hp} : ∀ {ds : List D} {vs : List V} (n : Nat), RpL K S ds vs → (∀ d ∈ ds, okE n d = true) → DpAll K S vs (D.toPys ds)
  | _, _, _, .nil, _ => by rw [D.toPys]; exact .nil
  | _, _, n, .cons (d := d) (ds := ds) h r, ok => by
    rw [D.toPys]
    exact .cons (dp_of n h (ok d List.mem_cons_self)) (dps_of n r fun e he => ok e (List.mem_cons_of_mem _ he))
end

section
variable {K : PySem.W.Frag} {S H : Hp} {d : D} {v : V}
theorem RpR.dp {n : Nat} (sub : Same S H) (h : RpR K S H d v) (ok : okE n d = true) : Dp K H v d.toPy := by
  cases h with
  | st r => exact dp_of n (r.mono sub) ok
  | @ow c a oc hs =>
    cases c with
    | l ds =>
      obtain ⟨vs, hv, r⟩ := oc
      obtain ⟨m, rfl, ha⟩ := okE_sq ok
      show Dp K H (.ref a) (D.toPy (.sq true ds))
      rw [D.toPy]
      exact .lst (SqL.of hv) (dps_of m (r.mono sub) ha)
    | dk kvs => cases n <;> simp [okE, OC.toD] at ok
    | dt kvs => cases n <;> simp [okE, OC.toD] at ok
theorem RpR.int {i : Int} (h : RpR K S H (.int i) v) : v = .int i := by
  generalize e : D.int i = d at h
  cases h with
  | st r =>
    subst e
    cases r
    rfl
  | @ow c a oc hs => cases c <;> cases e
theorem RpR.bl {b : Bool} (h : RpR K S H (.bl b) v) : v = .bl b := by
  generalize e : D.bl b = d at h
  cases h with
  | st r =>
    subst e
    cases r
    rfl
  | @ow c a oc hs => cases c <;> cases e
theorem RpR.str {x : Str} (h : RpR K S H (.str x) v) : v = .str x := by
  generalize e : D.str x = d at h
  cases h with
  | st r =>
    subst e
    cases r
    rfl
  | @ow c a oc hs => cases c <;> cases e
theorem RpR.non (h : RpR K S H .non v) : v = .non := by
  generalize e : D.non = d at h
  cases h with
  | st r =>
    subst e
    cases r
    rfl
  | @ow c a oc hs => cases c <;> cases e
/-- a list that is read -/
theorem RpR.lst {ds : List D} (sub : Same S H) (h : RpR K S H (.sq true ds) v) : ∃ a vs, v = .ref a ∧ H a = some (.lst vs) ∧ RpL K S ds vs := by
  generalize e : D.sq true ds = d at h
  cases h with
  | st r =>
    subst e
    cases r with
    | sqL h r => exact ⟨_, _, rfl, sub _ _ h, r⟩
  | @ow c a oc hs =>
    cases c with
    | l es =>
      cases e
      obtain ⟨vs, hv, r⟩ := oc
      exact ⟨_, _, rfl, hv, r⟩
    | dk kvs => cases e
    | dt kvs => cases e
theorem RpR.tup {ds : List D} (sub : Same S H) (h : RpR K S H (.sq false ds) v) : ∃ a vs, v = .ref a ∧ SqT K H a vs ∧ RpL K S ds vs ∧ SqT K S a vs := by
  generalize e : D.sq false ds = d at h
  cases h with
  | st r =>
    subst e
    cases r with
    | sqT h r => exact ⟨_, _, rfl, same_t sub h, r, h⟩
  | @ow c a oc hs => cases c <;> cases e
theorem RpR.sq {l : Bool} {ds : List D} (sub : Same S H) (h : RpR K S H (.sq l ds) v) : ∃ a vs, v = .ref a ∧ (SqL K H a vs ∨ SqT K H a vs) ∧ RpL K S ds vs := by
  cases l with
  | true =>
    obtain ⟨a, vs, e, h, r⟩ := h.lst sub
    exact ⟨a, vs, e, .inl (SqL.of h), r⟩
  | false =>
    obtain ⟨a, vs, e, h, r, _⟩ := h.tup sub
    exact ⟨a, vs, e, .inr h, r⟩
end

/-! ### + -/
def MX : Nat := 1000000
def rAddG (K : PySem.W.Frag) : R2 := fun x y H Q => rI0 (fun i j => .int (i + j)) x y H Q ∨ (∃ i j, x = .str i ∧ y = .str j ∧ i.length + j.length ≤ sizeLine ∧ Q (.str (i ++ j)) H) ∨ rCat x y H Q ∨ rCatA K x y H Q
theorem op_addG {X : Cx} : OpR X (binaryOp .Add) (rAddG X.K) := op_add.or (op_add_str.or (op_cat.or op_catA))
def fAdd : D → D → Option D
  | .int i, .int j => some (.int (i + j))
  | .str i, .str j => if i.length + j.length ≤ MX then some (.str (i ++ j)) else none
  | .sq true a, .sq true b => if a.length + b.length ≤ MX then some (.sq true (a ++ b)) else none
  | .sq false a, .sq false b => if a.length + b.length ≤ MX then some (.sq false (a ++ b)) else none
  | _, _ => none
def fAddL : D → D → Option (List D)
  | .sq true a, .sq true b => if a.length + b.length ≤ MX then some (a ++ b) else none
  | _, _ => none
section
variable {K : PySem.W.Frag}
theorem o2f_add : Op2F K (rAddG K) fAddL := by
  intro S H x y zs vx vy sub rx ry e Q q
  cases x with
  | sq l a =>
    cases y with
    | sq l' b =>
      cases l with
      | false => exact nomatch e
      | true =>
        cases l' with
        | false => exact nomatch e
        | true =>
          simp only [fAddL] at e
          split at e
          · rename_i hz
            cases e
            obtain ⟨p, vs, rfl, h1, r1⟩ := rx.lst sub
            obtain ⟨p2, ws, rfl, h2, r2⟩ := ry.lst sub
            exact .inr (.inr (.inl ⟨p, p2, vs, ws, rfl, rfl, h1, h2, size_of (by rw [← r1.length, ← r2.length]; exact hz), fun p hp => q p _ hp (r1.append r2)⟩))
          · cases e
    | _ => cases l <;> exact nomatch e
  | _ => exact nomatch e
/-- a new list, given on as a stable value -/
theorem fz_list {S H : Hp} {p : Addr} {vs : List V} {zs : List D} (sub : Same S H) (hp : H p = none) (r : RpL K S zs vs) : Ext S H (upd S p (.lst vs)) (upd H p (.lst vs)) ∧ Rp K (upd S p (.lst vs)) (.sq true zs) (.ref p) :=
  ⟨Ext.laid sub hp, .sqL upd_same (r.mono (same_new (sub.free hp)))⟩
theorem fz_tup {S H : Hp} {p : Addr} {vs : List V} {zs : List D} (sub : Same S H) (hp : H p = none) (r : RpL K S zs vs) : Ext S H (upd S p (.tup vs)) (upd H p (.tup vs)) ∧ Rp K (upd S p (.tup vs)) (.sq false zs) (.ref p) :=
  ⟨Ext.laid sub hp, .sqT (.inl (.inl upd_same)) (r.mono (same_new (sub.free hp)))⟩
theorem nil_of {S : Hp} {vs : List V} (r : RpL K S [] vs) : vs = [] := by cases r; rfl
theorem ne_nil {S : Hp} {d : List D} {vs : List V} (r : RpL K S d vs) (h : vs = []) : d = [] := by
  cases r with
  | nil => rfl
  | cons => cases h
theorem o2_add : Op2 K (rAddG K) fAdd := by
  intro S H x y z vx vy sub rx ry e Q q
  cases x with
  | int i =>
    cases y with
    | int j =>
      cases e
      exact .inl ⟨i, j, rx.int, ry.int, q _ S H (Ext.refl sub) (.int _)⟩
    | _ => exact nomatch e
  | str i =>
    cases y with
    | str j =>
      simp only [fAdd] at e
      split at e
      · rename_i hz
        cases e
        exact .inr (.inl ⟨i, j, rx.str, ry.str, size_of hz, q _ S H (Ext.refl sub) (.str _)⟩)
      · cases e
    | _ => exact nomatch e
  | sq l a =>
    cases y with
    | sq l' b =>
      cases l <;> cases l'
      · simp only [fAdd] at e
        split at e
        · rename_i hz
          cases e
          obtain ⟨p, vs, rfl, h1, r1, s1⟩ := rx.tup sub
          obtain ⟨p2, ws, rfl, h2, r2, s2⟩ := ry.tup sub
          refine .inr (.inr (.inr ⟨p, p2, vs, ws, rfl, rfl, h1, h2, size_of (by rw [← r1.length, ← r2.length]; exact hz), fun e0 => ?_, fun e0 e1 => ?_, fun e0 e1 p hp => ?_⟩))
          · have := ne_nil r1 e0
            subst this
            exact q _ S H (Ext.refl sub) (.sqT s2 r2)
          · have := ne_nil r2 e1
            subst this
            rw [List.append_nil] at q
            exact q _ S H (Ext.refl sub) (.sqT s1 r1)
          · obtain ⟨x1, x2⟩ := fz_tup sub hp (r1.append r2)
            exact q _ _ _ x1 x2
        · cases e
      · exact nomatch e
      · exact nomatch e
      · simp only [fAdd] at e
        split at e
        · rename_i hz
          cases e
          refine o2f_add S H (.sq true a) (.sq true b) (a ++ b) vx vy sub rx ry (by simp only [fAddL]; rw [if_pos hz]) Q fun p vs hp r => ?_
          obtain ⟨x1, x2⟩ := fz_list sub hp r
          exact q _ _ _ x1 x2
        · cases e
    | _ => cases l <;> exact nomatch e
  | _ => exact nomatch e

/-! ### - * // % ** & << >> -/
def f2I (g : Int → Int → Option D) : D → D → Option D
  | .int i, .int j => g i j
  | _, _ => none
theorem o2_int {C : Int → Int → Prop} {g : Int → Int → V} {f : Int → Int → Option D} (h : ∀ i j z, f i j = some z → C i j ∧ ∃ v, g i j = v ∧ ∀ S, Rp K S z v) : Op2 K (rI C g) (f2I f) := by
  intro S H x y z vx vy sub rx ry e Q q
  cases x with
  | int i =>
    cases y with
    | int j =>
      obtain ⟨hc, v, ev, r⟩ := h i j z e
      exact ⟨i, j, rx.int, ry.int, hc, by rw [ev]; exact q v S H (Ext.refl sub) (r S)⟩
    | _ => exact nomatch e
  | _ => exact nomatch e
theorem o2_int0 {g : Int → Int → V} {f : Int → Int → Option D} (h : ∀ i j z, f i j = some z → ∃ v, g i j = v ∧ ∀ S, Rp K S z v) : Op2 K (rI0 g) (f2I f) := by
  intro S H x y z vx vy sub rx ry e Q q
  cases x with
  | int i =>
    cases y with
    | int j =>
      obtain ⟨v, ev, r⟩ := h i j z e
      exact ⟨i, j, rx.int, ry.int, by rw [ev]; exact q v S H (Ext.refl sub) (r S)⟩
    | _ => exact nomatch e
  | _ => exact nomatch e
def fSub : D → D → Option D := f2I fun i j => some (.int (i - j))
theorem o2_sub : Op2 K (rI0 fun i j => .int (i - j)) fSub := o2_int0 fun i j z e => by cases e; exact ⟨_, rfl, fun _ => .int _⟩
def bigW (i : Int) : Bool := i.natAbs.log2 < 400000
/-- int * int; list * int; (the tuples of a law's own are not multiplied) -/
def rMulG : R2 := fun x y H Q => rI CMulW (fun i j => .int (i * j)) x y H Q ∨ rRep x y H Q
theorem op_mulG {X : Cx} : OpR X (binaryOp .Mult) rMulG := op_mulW.or op_rep
def fMulL : D → D → Option (List D)
  | .sq true a, .int k => if a.length * k.toNat ≤ MX ∧ k ≤ 1000000 ∧ -1000000 ≤ k then some (List.replicate k.toNat a).flatten else none
  | _, _ => none
def fMul : D → D → Option D
  | .int i, .int j => if bigW i && bigW j then some (.int (i * j)) else none
  | x, y => (fMulL x y).map (.sq true)
theorem o2f_mul : Op2F K rMulG fMulL := by
  intro S H x y zs vx vy sub rx ry e Q q
  cases x with
  | sq l a =>
    cases l with
    | false => cases y <;> exact nomatch e
    | true =>
      cases y with
      | int k =>
        simp only [fMulL] at e
        split at e
        · rename_i hz
          cases e
          obtain ⟨p, vs, rfl, h1, r1⟩ := rx.lst sub
          exact .inr ⟨p, k, vs, rfl, ry.int, h1, by omega, by omega, size_of (by rw [← r1.length]; exact hz.1), fun p hp => q p _ hp (r1.flat _)⟩
        · cases e
      | _ => exact nomatch e
  | _ => exact nomatch e
theorem o2_mul : Op2 K rMulG fMul := by
  intro S H x y z vx vy sub rx ry e Q q
  have other : (fMulL x y).map (D.sq true) = some z → rMulG vx vy H Q := fun e => by
    cases h : fMulL x y with
    | none => rw [h] at e; cases e
    | some zs =>
      rw [h] at e
      cases e
      refine o2f_mul S H x y zs vx vy sub rx ry h Q fun p vs hp r => ?_
      obtain ⟨x1, x2⟩ := fz_list sub hp r
      exact q _ _ _ x1 x2
  cases x with
  | int i =>
    cases y with
    | int j =>
      simp only [fMul] at e
      split at e
      · rename_i hz
        cases e
        simp only [bigW, Bool.and_eq_true, decide_eq_true_eq] at hz
        exact .inl ⟨i, j, rx.int, ry.int, (by show _ + _ < _; omega), q _ S H (Ext.refl sub) (.int _)⟩
      · cases e
    | _ => exact nomatch e
  | sq l a => exact other e
  | _ => cases y <;> exact nomatch e
def rFdivG : R2 := fun x y H Q => rI CDivN (fun i j => .int (i.fdiv j)) x y H Q ∨ rI CDivW (fun i j => .int (i / j)) x y H Q
theorem op_fdivG {X : Cx} : OpR X (binaryOp .FloorDiv) rFdivG := op_fdivN.or op_fdivW
/-- // by a positive number that is not too great, or a small one -/
def fFdiv : D → D → Option D := f2I fun i j => if 0 < j then (if j.natAbs.log2 < 9000 then some (.int (i / j)) else none) else if j ≠ 0 ∧ j.natAbs < 1073741824 then some (.int (i.fdiv j)) else none
theorem o2_fdiv : Op2 K rFdivG fFdiv := by
  intro S H x y z vx vy sub rx ry e Q q
  cases x with
  | int i =>
    cases y with
    | int j =>
      simp only [fFdiv, f2I] at e
      split at e
      · rename_i h0
        split at e
        · rename_i h1
          cases e
          exact .inr ⟨i, j, rx.int, ry.int, ⟨h0, h1⟩, q _ S H (Ext.refl sub) (.int _)⟩
        · cases e
      · split at e
        · rename_i h1
          cases e
          exact .inl ⟨i, j, rx.int, ry.int, h1, q _ S H (Ext.refl sub) (.int _)⟩
        · cases e
    | _ => exact nomatch e
  | _ => exact nomatch e
def fMod : D → D → Option D := f2I fun i j => if 0 < j then some (.int (i % j)) else if j ≠ 0 then some (.int (i.fmod j)) else none
theorem o2_mod : Op2 K (rI (fun _ j => j ≠ 0) fun i j => .int (i.fmod j)) fMod := o2_int fun i j z e => by
  split at e
  · rename_i h
    cases e
    exact ⟨by omega, _, by rw [Int.fmod_eq_emod_of_nonneg _ (by omega)], fun _ => .int _⟩
  · split at e
    · rename_i h
      cases e
      exact ⟨h, _, rfl, fun _ => .int _⟩
    · cases e
def fPow : D → D → Option D := f2I fun i j => if 0 ≤ j ∧ j ≤ 1000000 ∧ i.natAbs < 2 ^ 64 then some (.int (i ^ j.toNat)) else none
theorem o2_pow : Op2 K (rI CPow fun i j => .int (i ^ j.toNat)) fPow := o2_int fun i j z e => by
  split at e
  · rename_i h
    cases e
    exact ⟨h, _, rfl, fun _ => .int _⟩
  · cases e
def fShl : D → D → Option D := f2I fun i j => if 0 ≤ j ∧ j ≤ 1000000 ∧ i.natAbs < 2 ^ 64 then some (.int (i * 2 ^ j.toNat)) else none
theorem o2_shl : Op2 K (rI CPow fun i j => .int (i * 2 ^ j.toNat)) fShl := o2_int fun i j z e => by
  split at e
  · rename_i h
    cases e
    exact ⟨h, _, rfl, fun _ => .int _⟩
  · cases e
def fShr : D → D → Option D := f2I fun i j => if 0 ≤ j then some (.int (i / 2 ^ j.toNat)) else none
theorem o2_shr : Op2 K (rI (fun _ j => 0 ≤ j) fun i j => .int (i / 2 ^ j.toNat)) fShr := o2_int fun i j z e => by
  split at e
  · rename_i h
    cases e
    exact ⟨h, _, rfl, fun _ => .int _⟩
  · cases e
def fAnd : D → D → Option D := f2I fun i j => some (.int (Builtin.bitAnd i j))
theorem o2_and : Op2 K (rI0 fun i j => .int (Builtin.bitAnd i j)) fAnd := o2_int0 fun i j z e => by cases e; exact ⟨_, rfl, fun _ => .int _⟩
def fNeg : D → Option D
  | .int i => some (.int (-i))
  | _ => none
theorem o1_neg : Op1 K (rU fun i => .int (-i)) fNeg := by
  intro S H x z vx sub rx e Q q
  cases x with
  | int i => cases e; exact ⟨i, rx.int, q _ S H (Ext.refl sub) (.int _)⟩
  | _ => exact nomatch e

/-! ### comparisons -/
/-- the ints of a list of data -/
def intsOf : List D → Option (List Int)
  | [] => some []
  | .int i :: ds => (intsOf ds).map (i :: ·)
  | _ => none
theorem intsOf_map (ns : List Int) : intsOf (ns.map .int) = some ns := by
  induction ns with
  | nil => rfl
  | cons n ns ih => rw [List.map_cons, intsOf, ih]; rfl
theorem intsOf_rel {S : Hp} : ∀ {ds : List D} {vs : List V} {ns : List Int}, intsOf ds = some ns → RpL K S ds vs → vs = ns.map V.int
  | [], _, _, e, r => by
    cases r
    cases e
    rfl
  | .int i :: ds, _, _, e, r => by
    cases r with
    | cons r rs =>
      cases r
      rw [intsOf] at e
      cases h : intsOf ds with
      | none => rw [h] at e; cases e
      | some ms =>
        rw [h] at e
        cases e
        rw [intsOf_rel h rs]
        rfl
  | .non :: _, _, _, e, _ => nomatch e
  | .bl _ :: _, _, _, e, _ => nomatch e
  | .str _ :: _, _, _, e, _ => nomatch e
  | .sq _ _ :: _, _, _, e, _ => nomatch e
  | .dk _ :: _, _, _, e, _ => nomatch e
  | .dt _ :: _, _, _, e, _ => nomatch e
  | .ob _ _ :: _, _, _, e, _ => nomatch e
def rLtG (K : PySem.W.Frag) : R2 := fun x y H Q => rI0 (fun i j => .bl (decide (i < j))) x y H Q ∨ (∃ i j, x = .str i ∧ y = .str j ∧ Q (.bl (decide (i.cps.toList < j.cps.toList))) H) ∨ rLtT K x y H Q
theorem op_ltG {X : Cx} (hu : X.A.units < cLine) : OpR X (compareOp .Lt) (rLtG X.K) := op_lt.or (op_lt_str.or (op_ltT hu))
def fLt : D → D → Option D
  | .int i, .int j => some (.bl (decide (i < j)))
  | .str i, .str j => some (.bl (decide (i.cps.toList < j.cps.toList)))
  | .sq false a, .sq false b => match intsOf a, intsOf b with
    | some ns, some ms => some (.bl (HT.lexLt ns ms))
    | _, _ => none
  | _, _ => none
theorem o2_lt : Op2 K (rLtG K) fLt := by
  intro S H x y z vx vy sub rx ry e Q q
  cases x with
  | int i =>
    cases y with
    | int j =>
      cases e
      exact .inl ⟨i, j, rx.int, ry.int, q _ S H (Ext.refl sub) (.bl _)⟩
    | _ => exact nomatch e
  | str i =>
    cases y with
    | str j =>
      cases e
      exact .inr (.inl ⟨i, j, rx.str, ry.str, q _ S H (Ext.refl sub) (.bl _)⟩)
    | _ => exact nomatch e
  | sq l a =>
    cases l with
    | true => exact nomatch e
    | false =>
      cases y with
      | sq l' b =>
        cases l' with
        | true => exact nomatch e
        | false =>
          simp only [fLt] at e
          cases h1 : intsOf a with
          | none => rw [h1] at e; cases e
          | some ns =>
            cases h2 : intsOf b with
            | none => rw [h1, h2] at e; cases e
            | some ms =>
              rw [h1, h2] at e
              cases e
              obtain ⟨p, vs, rfl, k1, r1, _⟩ := rx.tup sub
              obtain ⟨p2, ws, rfl, k2, r2, _⟩ := ry.tup sub
              rw [intsOf_rel h1 r1] at k1
              rw [intsOf_rel h2 r2] at k2
              exact .inr (.inr ⟨p, p2, ns, ms, rfl, rfl, k1, k2, q _ S H (Ext.refl sub) (.bl _)⟩)
      | _ => exact nomatch e
  | _ => exact nomatch e
def rLeG : R2 := fun x y H Q => rI0 (fun i j => .bl (decide (i ≤ j))) x y H Q ∨ (∃ i j, x = .str i ∧ y = .str j ∧ Q (.bl (!decide (j.cps.toList < i.cps.toList))) H)
theorem op_leG {X : Cx} : OpR X (compareOp .LtE) rLeG := op_le.or op_le_str
def fLe : D → D → Option D
  | .int i, .int j => some (.bl (decide (i ≤ j)))
  | .str i, .str j => some (.bl (!decide (j.cps.toList < i.cps.toList)))
  | _, _ => none
theorem o2_le : Op2 K rLeG fLe := by
  intro S H x y z vx vy sub rx ry e Q q
  cases x with
  | int i =>
    cases y with
    | int j =>
      cases e
      exact .inl ⟨i, j, rx.int, ry.int, q _ S H (Ext.refl sub) (.bl _)⟩
    | _ => exact nomatch e
  | str i =>
    cases y with
    | str j =>
      cases e
      exact .inr ⟨i, j, rx.str, ry.str, q _ S H (Ext.refl sub) (.bl _)⟩
    | _ => exact nomatch e
  | _ => exact nomatch e
def fGt : D → D → Option D := f2I fun i j => some (.bl (decide (j < i)))
theorem o2_gt : Op2 K (rI0 fun i j => .bl (decide (j < i))) fGt := o2_int0 fun i j z e => by cases e; exact ⟨_, rfl, fun _ => .bl _⟩
def fGe : D → D → Option D := f2I fun i j => some (.bl (decide (j ≤ i)))
theorem o2_ge : Op2 K (rI0 fun i j => .bl (decide (j ≤ i))) fGe := o2_int0 fun i j z e => by cases e; exact ⟨_, rfl, fun _ => .bl _⟩

/-! ### == and != -/
def rEqG (K : PySem.W.Frag) : R2 := fun x y H Q => rEq x y H Q ∨ rEqD K x y H Q
def rNeG (K : PySem.W.Frag) : R2 := fun x y H Q => rNe x y H Q ∨ rNeD K x y H Q
theorem op_eqG {X : Cx} (hu : X.A.units + 64 < cLine) : OpR X (compareOp .Eq) (rEqG X.K) := op_eq.or (op_eqD hu)
theorem op_neG {X : Cx} (hu : X.A.units + 64 < cLine) : OpR X (compareOp .NotEq) (rNeG X.K) := op_ne.or (op_neD hu)
def eqB : D → D → Option Bool
  | .int i, .int j => some (decide (i = j))
  | .str i, .str j => some (decide (i = j))
  | .non, .non => some true
  | .non, .str _ => some false
  | .str _, .non => some false
  | x, y => if okE 20 x && okE 20 y then some (PyData.eqv x.toPy y.toPy) else none
def fEq (x y : D) : Option D := (eqB x y).map .bl
def fNe (x y : D) : Option D := (eqB x y).map fun b => .bl (!b)
theorem eqB_rel {S H : Hp} {x y : D} {vx vy : V} {b : Bool} (sub : Same S H) (rx : RpR K S H x vx) (ry : RpR K S H y vy) (e : eqB x y = some b) :
    (scal vx vy = true ∧ b = decide (vx = vy)) ∨ (∃ d e, Dp K H vx d ∧ Dp K H vy e ∧ SeqAt.shaped d = true ∧ SeqAt.shaped e = true ∧ b = PyData.eqv d e) := by
  have other : (if (okE 20 x && okE 20 y) = true then some (PyData.eqv x.toPy y.toPy) else none) = some b → (scal vx vy = true ∧ b = decide (vx = vy)) ∨ (∃ d e, Dp K H vx d ∧ Dp K H vy e ∧ SeqAt.shaped d = true ∧ SeqAt.shaped e = true ∧ b = PyData.eqv d e) := fun e => by
    split at e
    · rename_i hz
      cases e
      rw [Bool.and_eq_true] at hz
      exact .inr ⟨_, _, rx.dp sub hz.1, ry.dp sub hz.2, okE_shaped hz.1, okE_shaped hz.2, rfl⟩
    · cases e
  cases x with
  | int i =>
    cases y with
    | int j =>
      cases e
      rw [rx.int, ry.int]
      exact .inl ⟨rfl, by simp⟩
    | _ => exact other e
  | str i =>
    cases y with
    | str j =>
      cases e
      rw [rx.str, ry.str]
      exact .inl ⟨rfl, by simp⟩
    | non =>
      cases e
      rw [rx.str, ry.non]
      exact .inl ⟨rfl, by simp⟩
    | _ => exact other e
  | non =>
    cases y with
    | str j =>
      cases e
      rw [rx.non, ry.str]
      exact .inl ⟨rfl, by simp⟩
    | non =>
      cases e
      rw [rx.non, ry.non]
      exact .inl ⟨rfl, by simp⟩
    | _ => exact other e
  | _ => exact other e
theorem o2_eq : Op2 K (rEqG K) fEq := by
  intro S H x y z vx vy sub rx ry e Q q
  cases h : eqB x y with
  | none => unfold fEq at e; rw [h] at e; cases e
  | some b =>
    unfold fEq at e
    rw [h] at e
    cases e
    rcases eqB_rel sub rx ry h with ⟨h1, rfl⟩ | ⟨d, e, h1, h2, h3, h4, rfl⟩
    · exact .inl ⟨h1, q _ S H (Ext.refl sub) (.bl _)⟩
    · exact .inr ⟨d, e, h1, h2, h3, h4, q _ S H (Ext.refl sub) (.bl _)⟩
theorem o2_ne : Op2 K (rNeG K) fNe := by
  intro S H x y z vx vy sub rx ry e Q q
  cases h : eqB x y with
  | none => unfold fNe at e; rw [h] at e; cases e
  | some b =>
    unfold fNe at e
    rw [h] at e
    cases e
    rcases eqB_rel sub rx ry h with ⟨h1, rfl⟩ | ⟨d, e, h1, h2, h3, h4, rfl⟩
    · exact .inl ⟨h1, q _ S H (Ext.refl sub) (.bl _)⟩
    · exact .inr ⟨d, e, h1, h2, h3, h4, q _ S H (Ext.refl sub) (.bl _)⟩

/-! ### is None, is True -/
def fIsN : D → D → Option D
  | .non, .non => some (.bl true)
  | .bl _, .non => some (.bl false)
  | .int _, .non => some (.bl false)
  | .str _, .non => some (.bl false)
  | .sq _ _, .non => some (.bl false)
  | .dk _, .non => some (.bl false)
  | .dt _, .non => some (.bl false)
  | .ob _ _, .non => some (.bl false)
  | .bl a, .bl b => some (.bl (decide (a = b)))
  | _, _ => none
def fNotN (x y : D) : Option D := match fIsN x y with
  | some (.bl b) => some (.bl (!b))
  | _ => none
def rIsG : R2 := fun x y H Q => (y = .non ∧ Q (.bl (decide (x = .non))) H) ∨ rIsB x y H Q
def rNotG : R2 := fun x y H Q => (y = .non ∧ Q (.bl (!decide (x = .non))) H) ∨ rNotB x y H Q
theorem op_isG {X : Cx} : OpR X (compareOp .Is) rIsG := op_isN.or op_isBl
theorem op_notG {X : Cx} : OpR X (compareOp .IsNot) rNotG := op_notN.or op_notBl
theorem isN_ref {S H : Hp} {x : D} {v : V} (rx : RpR K S H x v) (hx : x ≠ .non) : decide (v = .non) = false := by
  refine decide_eq_false fun e => hx ?_
  subst e
  cases rx with
  | st r => cases r; rfl
theorem fIsN_rel {S H : Hp} {x y : D} {vx vy : V} {z : D} (rx : RpR K S H x vx) (ry : RpR K S H y vy) (e : fIsN x y = some z) : ∃ b, z = .bl b ∧ ((vy = .non ∧ b = decide (vx = .non)) ∨ ∃ c d, vx = .bl c ∧ vy = .bl d ∧ b = decide (c = d)) := by
  cases y with
  | non =>
    have ev := ry.non
    subst ev
    cases x with
    | non => cases e; exact ⟨_, rfl, .inl ⟨rfl, by rw [rx.non]; rfl⟩⟩
    | bl b => cases e; exact ⟨_, rfl, .inl ⟨rfl, (isN_ref rx (by intro z; cases z)).symm⟩⟩
    | int i => cases e; exact ⟨_, rfl, .inl ⟨rfl, (isN_ref rx (by intro z; cases z)).symm⟩⟩
    | str i => cases e; exact ⟨_, rfl, .inl ⟨rfl, (isN_ref rx (by intro z; cases z)).symm⟩⟩
    | sq l i => cases e; exact ⟨_, rfl, .inl ⟨rfl, (isN_ref rx (by intro z; cases z)).symm⟩⟩
    | dk i => cases e; exact ⟨_, rfl, .inl ⟨rfl, (isN_ref rx (by intro z; cases z)).symm⟩⟩
    | dt i => cases e; exact ⟨_, rfl, .inl ⟨rfl, (isN_ref rx (by intro z; cases z)).symm⟩⟩
    | ob C i => cases e; exact ⟨_, rfl, .inl ⟨rfl, (isN_ref rx (by intro z; cases z)).symm⟩⟩
    | fz i => cases e
  | bl d =>
    cases x with
    | bl c => cases e; exact ⟨_, rfl, .inr ⟨c, d, rx.bl, ry.bl, rfl⟩⟩
    | _ => exact nomatch e
  | _ => cases x <;> exact nomatch e
theorem o2_is : Op2 K rIsG fIsN := by
  intro S H x y z vx vy sub rx ry e Q q
  obtain ⟨b, rfl, h⟩ := fIsN_rel rx ry e
  rcases h with ⟨h1, rfl⟩ | ⟨c, d, h1, h2, rfl⟩
  · exact .inl ⟨h1, q _ S H (Ext.refl sub) (.bl _)⟩
  · exact .inr ⟨c, d, h1, h2, q _ S H (Ext.refl sub) (.bl _)⟩
theorem o2_not : Op2 K rNotG fNotN := by
  intro S H x y z vx vy sub rx ry e Q q
  unfold fNotN at e
  cases h0 : fIsN x y with
  | none => rw [h0] at e; cases e
  | some w =>
    obtain ⟨b, rfl, h⟩ := fIsN_rel rx ry h0
    rw [h0] at e
    cases e
    rcases h with ⟨h1, rfl⟩ | ⟨c, d, h1, h2, rfl⟩
    · exact .inl ⟨h1, q _ S H (Ext.refl sub) (.bl _)⟩
    · exact .inr ⟨c, d, h1, h2, q _ S H (Ext.refl sub) (.bl _)⟩

/-! ### in, not in -/
def flatD : D → Bool
  | .non => true
  | .bl _ => true
  | .int _ => true
  | .str _ => true
  | _ => false
def eqF : D → D → Bool
  | .non, .non => true
  | .bl a, .bl b => a == b
  | .bl a, .int b => (if a then 1 else 0) == b
  | .int a, .bl b => a == (if b then 1 else 0)
  | .int a, .int b => a == b
  | .str a, .str b => a == b
  | _, _ => false
theorem flat_rel {S : Hp} {d : D} {v : V} (r : Rp K S d v) (h : flatD d = true) : flatV v = true := by
  cases r <;> first | rfl | exact nomatch h
theorem eqF_rel {S : Hp} {d e : D} {v w : V} (r : Rp K S d v) (r' : Rp K S e w) : eqV v w = eqF d e := by
  cases r <;> cases r' <;> rfl
theorem flats_rel {S : Hp} : ∀ {ds : List D} {vs : List V}, RpL K S ds vs → ds.all flatD = true → vs.all flatV = true
  | _, _, .nil, _ => rfl
  | _, _, .cons r rs, h => by
    rw [List.all_cons, Bool.and_eq_true] at h ⊢
    exact ⟨flat_rel r h.1, flats_rel rs h.2⟩
theorem any_rel {S : Hp} {x : D} {v : V} (rx : Rp K S x v) : ∀ {ds : List D} {vs : List V}, RpL K S ds vs → inV v vs = ds.any fun y => eqF y x
  | _, _, .nil => rfl
  | _, _, .cons r rs => by
    unfold inV
    rw [List.any_cons, List.any_cons, eqF_rel r rx]
    exact congrArg _ (any_rel rx rs)
/-- x in y: flat things in a list or tuple; a sign in a text; data in a list -/
def inB (x y : D) : Option Bool := match y with
  | .sq l ds => if flatD x && ds.all flatD then some (ds.any fun y => eqF y x) else
      if l && okE 19 x && ds.all (okE 19) then some (ds.any fun z => PyData.eqv z.toPy x.toPy) else none
  | .str z => match x with
    | .str ⟨#[c]⟩ => some (decide (c ∈ z.cps.toList))
    | _ => none
  | _ => none
def fIn (x y : D) : Option D := (inB x y).map .bl
def fNin (x y : D) : Option D := (inB x y).map fun b => .bl (!b)
def rInG (K : PySem.W.Frag) : R2 := fun x y H Q => rIn K false x y H Q ∨ (∃ (c : Nat) (z : Str), x = .str ⟨#[c]⟩ ∧ y = .str z ∧ Q (.bl (decide (c ∈ z.cps.toList))) H) ∨ rInD K x y H Q
def rNinG (K : PySem.W.Frag) : R2 := fun x y H Q => rIn K true x y H Q ∨ (∃ (c : Nat) (z : Str), x = .str ⟨#[c]⟩ ∧ y = .str z ∧ Q (.bl (!decide (c ∈ z.cps.toList))) H) ∨ rNotInD K x y H Q
theorem op_inG {X : Cx} (hu : X.A.units + 65 < cLine) : OpR X (compareOp .In) (rInG X.K) := op_in_seq.or (op_in_sign.or (op_inD hu))
theorem op_ninG {X : Cx} (hu : X.A.units + 65 < cLine) : OpR X (compareOp .NotIn) (rNinG X.K) := op_notIn_seq.or (op_notIn_sign.or (op_notInD hu))
theorem toPys_map (ds : List D) : D.toPys ds = ds.map D.toPy := by
  induction ds with
  | nil => rw [D.toPys]; rfl
  | cons d ds ih => rw [D.toPys, ih]; rfl
theorem RpR.of_flat {S H : Hp} {x : D} {v : V} (rx : RpR K S H x v) (h : flatD x = true) : Rp K S x v := by
  cases rx with
  | st r => exact r
  | @ow c a oc hs => cases c <;> exact nomatch h
theorem inB_rel {S H : Hp} {x y : D} {vx vy : V} {b : Bool} (sub : Same S H) (rx : RpR K S H x vx) (ry : RpR K S H y vy) (e : inB x y = some b) :
    (∃ p xs, vy = .ref p ∧ (SqL K H p xs ∨ SqT K H p xs) ∧ flatV vx = true ∧ xs.all flatV = true ∧ b = inV vx xs) ∨ (∃ (c : Nat) (z : Str), vx = .str ⟨#[c]⟩ ∧ vy = .str z ∧ b = decide (c ∈ z.cps.toList)) ∨
      ∃ d ds, Dp K H vx d ∧ Dp K H vy (.list ds) ∧ SeqAt.shaped d = true ∧ SeqAt.shaped (.list ds) = true ∧ b = ds.any fun z => PyData.eqv z d := by
  cases y with
  | sq l ds =>
    simp only [inB] at e
    split at e
    · rename_i hz
      cases e
      rw [Bool.and_eq_true] at hz
      obtain ⟨a, vs, rfl, h1, r1⟩ := ry.sq sub
      have r := rx.of_flat hz.1
      exact .inl ⟨a, vs, rfl, h1, flat_rel r hz.1, flats_rel r1 hz.2, (any_rel r r1).symm⟩
    · split at e
      · rename_i hz
        cases e
        simp only [Bool.and_eq_true] at hz
        obtain ⟨⟨rfl, h2⟩, h3⟩ := hz
        have ok : okE 20 (.sq true ds) = true := h3
        have ok2 : okE 20 x = true := by
          have : ∀ (n : Nat) (d : D), okE n d = true → okE (n + 1) d = true := by
            intro n
            induction n with
            | zero =>
              intro d h
              cases d with
              | sq l ds => exact nomatch h
              | dk _ => exact nomatch h
              | dt _ => exact nomatch h
              | ob _ _ => exact nomatch h
              | _ => exact h
            | succ n ih =>
              intro d h
              cases d with
              | sq l ds =>
                rw [okE_all] at h ⊢
                rw [List.all_eq_true] at h ⊢
                exact fun z hz => ih z (h z hz)
              | dk _ => exact nomatch h
              | dt _ => exact nomatch h
              | ob _ _ => exact nomatch h
              | _ => exact h
          exact this 19 x h2
        have dy := ry.dp sub ok
        have sy := okE_shaped ok
        rw [D.toPy] at dy sy
        refine .inr (.inr ⟨_, _, rx.dp sub ok2, dy, okE_shaped ok2, sy, ?_⟩)
        rw [toPys_map, List.any_map]
        rfl
      · cases e
  | str z =>
    cases x with
    | str w =>
      obtain ⟨⟨l⟩⟩ := w
      match l, e with
      | [c], e =>
        cases e
        exact .inr (.inl ⟨c, z, rx.str, ry.str, rfl⟩)
      | [], e => exact nomatch e
      | _ :: _ :: _, e => exact nomatch e
    | _ => exact nomatch e
  | _ => exact nomatch e
theorem o2_in : Op2 K (rInG K) fIn := by
  intro S H x y z vx vy sub rx ry e Q q
  unfold fIn at e
  cases h : inB x y with
  | none => rw [h] at e; cases e
  | some b =>
    rw [h] at e
    cases e
    rcases inB_rel sub rx ry h with ⟨p, xs, h1, h2, h3, h4, rfl⟩ | ⟨c, z, h1, h2, rfl⟩ | ⟨d, ds, h1, h2, h3, h4, rfl⟩
    · exact .inl ⟨p, xs, h1, h2, h3, h4, q _ S H (Ext.refl sub) (.bl _)⟩
    · exact .inr (.inl ⟨c, z, h1, h2, q _ S H (Ext.refl sub) (.bl _)⟩)
    · exact .inr (.inr ⟨d, ds, h1, h2, h3, h4, q _ S H (Ext.refl sub) (.bl _)⟩)
theorem o2_nin : Op2 K (rNinG K) fNin := by
  intro S H x y z vx vy sub rx ry e Q q
  unfold fNin at e
  cases h : inB x y with
  | none => rw [h] at e; cases e
  | some b =>
    rw [h] at e
    cases e
    rcases inB_rel sub rx ry h with ⟨p, xs, h1, h2, h3, h4, rfl⟩ | ⟨c, z, h1, h2, rfl⟩ | ⟨d, ds, h1, h2, h3, h4, rfl⟩
    · exact .inl ⟨p, xs, h1, h2, h3, h4, q _ S H (Ext.refl sub) (.bl _)⟩
    · exact .inr (.inl ⟨c, z, h1, h2, q _ S H (Ext.refl sub) (.bl _)⟩)
    · exact .inr (.inr ⟨d, ds, h1, h2, h3, h4, q _ S H (Ext.refl sub) (.bl _)⟩)
end
end Pd

/-! Pd3: built-in functions, items, slices, isinstance. -/
namespace Pd
open PySem L2 PyProof.Rows PySem.Spec
section
variable {K : PySem.W.Frag}

/-! ### len, abs, int -/
def fLen : List D → Option D
  | [.fz ns] => some (.int ns.length)
  | [.str x] => if x.length ≤ MX then some (.int x.length) else none
  | [.sq _ ds] => some (.int ds.length)
  | [.dk ds] => some (.int ds.length)
  | _ => none
def rLenG (K : PySem.W.Frag) : List V → Hp → VK → Prop := fun xs H Q => (∃ x n, xs = [x] ∧ LenV K x H n ∧ Q (.int n) H) ∨ (∃ a kvs, xs = [V.ref a] ∧ H a = some (.dK kvs) ∧ Q (.int kvs.length) H)
theorem call_lenG {X : Cx} : CallR X (.builtin "len") (rLenG X.K) := call_len.or call_lenD
theorem RpK.length {S : Hp} : ∀ {ds : List (Key × D)} {vs : List (Key × V)}, RpK K S ds vs → ds.length = vs.length
  | _, _, .nil => rfl
  | _, _, .cons _ r => congrArg (· + 1) r.length
theorem RpR.dkL {S H : Hp} {ds : List (Key × D)} {v : V} (sub : Same S H) (h : RpR K S H (.dk ds) v) : ∃ a vs, v = .ref a ∧ H a = some (.dK vs) ∧ RpK K S ds vs := by
  generalize e : D.dk ds = d at h
  cases h with
  | st r =>
    subst e
    cases r with
    | dk h r => exact ⟨_, _, rfl, sub _ _ h, r⟩
  | @ow c a oc hs =>
    cases c with
    | dk es =>
      cases e
      obtain ⟨vs, hv, r⟩ := oc
      exact ⟨_, _, rfl, hv, r⟩
    | l kvs => cases e
    | dt kvs => cases e
theorem RpR.fzL {S H : Hp} {ns : List Int} {v : V} (sub : Same S H) (h : RpR K S H (.fz ns) v) : ∃ a, v = .ref a ∧ SqL K H a (ns.map V.int) := by
  generalize e : D.fz ns = d at h
  cases h with
  | st r =>
    subst e
    cases r with
    | fz h => exact ⟨_, rfl, same_l sub h⟩
  | @ow c a oc hs => cases c <;> cases e
theorem on_len : OpN K (rLenG K) fLen := by
  intro S H xs z vs sub r e Q q
  cases r with
  | nil => exact nomatch e
  | cons r rs =>
    cases rs with
    | cons => rename_i x v x2 v2 xs vs a b; cases x <;> exact nomatch e
    | nil =>
      rename_i x v
      cases x with
      | str x =>
        simp only [fLen] at e
        split at e
        · rename_i hz
          cases e
          rw [r.str]
          exact .inl ⟨_, _, rfl, ⟨size_of hz, rfl⟩, q _ S H (Ext.refl sub) (.int _)⟩
        · cases e
      | sq l ds =>
        cases e
        obtain ⟨a, ws, rfl, h, rr⟩ := r.sq sub
        rw [rr.length] at q
        exact .inl ⟨_, ws.length, rfl, h.elim (fun h => .inl ⟨ws, h, rfl⟩) (fun h => .inr ⟨ws, h, rfl⟩), q _ S H (Ext.refl sub) (.int _)⟩
      | fz ns =>
        cases e
        obtain ⟨a, rfl, h⟩ := r.fzL sub
        exact .inl ⟨_, ns.length, rfl, .inl ⟨_, h, by rw [List.length_map]⟩, q _ S H (Ext.refl sub) (.int _)⟩
      | dk ds =>
        cases e
        obtain ⟨a, ws, rfl, h, rr⟩ := r.dkL sub
        rw [rr.length] at q
        exact .inr ⟨a, ws, rfl, h, q _ S H (Ext.refl sub) (.int _)⟩
      | _ => exact nomatch e
/-- one argument -/
theorem on_one {r : List V → Hp → VK → Prop} {f : D → Option D} (h : ∀ (S H : Hp) (x z : D) (v : V), Same S H → RpR K S H x v → f x = some z → ∀ Q : VK, (∀ v S' H', Ext S H S' H' → Rp K S' z v → Q v H') → r [v] H Q) :
    OpN K r (fun xs => match xs with | [x] => f x | _ => none) := by
  intro S H xs z vs sub rr e Q q
  cases rr with
  | nil => exact nomatch e
  | cons r rs =>
    cases rs with
    | cons => exact nomatch e
    | nil => exact h S H _ _ _ sub r e Q q
def fAbs : D → Option D
  | .int i => some (.int (if i < 0 then -i else i))
  | _ => none
theorem on_abs : OpN K (fun xs H Q => ∃ i, xs = [.int i] ∧ Q (.int (if i < 0 then -i else i)) H) (fun xs => match xs with | [x] => fAbs x | _ => none) := on_one fun S H x z v sub r e Q q => by
  cases x with
  | int i =>
    cases e
    exact ⟨i, by rw [r.int], q _ S H (Ext.refl sub) (.int _)⟩
  | _ => exact nomatch e
def fInt : D → Option D
  | .int i => some (.int i)
  | .bl b => some (.int (if b then 1 else 0))
  | .str x => if x.length ≤ 640 then (PySem.intText? x).map .int else none
  | _ => none
def rIntG : List V → Hp → VK → Prop := fun xs H Q => ((∃ i, xs = [.int i] ∧ Q (.int i) H) ∨ ∃ k, xs = [.bl k] ∧ Q (.int (if k then 1 else 0)) H) ∨ (∃ a n, xs = [.str a] ∧ PySem.intText? a = some n ∧ a.length ≤ 640 ∧ Q (.int n) H)
theorem call_intG {X : Cx} : CallR X (.type "int") rIntG := call_int1.or call_int_str
theorem on_int : OpN K rIntG (fun xs => match xs with | [x] => fInt x | _ => none) := on_one fun S H x z v sub r e Q q => by
  cases x with
  | int i =>
    cases e
    exact .inl (.inl ⟨i, by rw [r.int], q _ S H (Ext.refl sub) (.int _)⟩)
  | bl b =>
    cases e
    exact .inl (.inr ⟨b, by rw [r.bl], q _ S H (Ext.refl sub) (.int _)⟩)
  | str x =>
    simp only [fInt] at e
    split at e
    · rename_i hz
      cases h : PySem.intText? x with
      | none => rw [h] at e; cases e
      | some n =>
        rw [h] at e
        cases e
        exact .inr ⟨x, n, by rw [r.str], h, hz, q _ S H (Ext.refl sub) (.int _)⟩
    · cases e
  | _ => exact nomatch e
def fStr : D → Option D
  | .int i => if i.natAbs.log2 < 1920 then some (.str (Str.ofString (toString i))) else none
  | _ => none
theorem on_str : OpN K (fun xs H Q => ∃ i : Int, xs = [.int i] ∧ i.natAbs.log2 < 1920 ∧ Q (.str (toString i)) H) (fun xs => match xs with | [x] => fStr x | _ => none) := on_one fun S H x z v sub r e Q q => by
  cases x with
  | int i =>
    simp only [fStr] at e
    split at e
    · rename_i hz
      cases e
      exact ⟨i, by rw [r.int], hz, q _ S H (Ext.refl sub) (.str _)⟩
    · cases e
  | _ => exact nomatch e

/-! ### sum, min, max, any, all -/
def rSumT (K : PySem.W.Frag) : List V → Hp → VK → Prop := fun vs H Q => ∃ (a : Addr) (ns : List Int), vs = [V.ref a] ∧ SqT K H a (ns.map V.int) ∧ Q (.int ns.sum) H
theorem cr_sumT {X : Cx} (hc : X.calm = true) : CallR X (.builtin "sum") (rSumT X.K) := by
  intro pins s σ H vs us Q I r h
  obtain ⟨a, ns, rfl, hs, q⟩ := h
  obtain ⟨its, rv, hl, _⟩ := I.tuple hs
  rw [Vals.ref1 r]
  have hi := rv.ints
  obtain ⟨xs, e⟩ := hi.allInts.items
  have hn : numsOf (intItems xs).toList = ns := by rw [← e]; exact hi.numsOf
  rw [nums_intItems] at hn
  have hl2 : s.heap.IsTuple a (intItems xs) := by rw [← e]; exact hl
  refine PySem.W.ktm_sumG (I.ok.hd hc) hl2 fun h' tk t' hk => ?_
  refine ⟨.int _, H, I.kept hk, ⟨t', rfl⟩, ?_⟩
  rw [preSum_eq, List.take_of_length_le (by simp), hn]
  exact q
def rSumG (K : PySem.W.Frag) : List V → Hp → VK → Prop := fun vs H Q => rSum K vs H Q ∨ rSumT K vs H Q
theorem cr_sumG {X : Cx} (hc : X.calm = true) : CallR X (.builtin "sum") (rSumG X.K) := (cr_sum hc).or (cr_sumT hc)
def fSum : D → Option D
  | .sq _ ds => (intsOf ds).map fun ns => .int ns.sum
  | _ => none
theorem on_sum : OpN K (rSumG K) (fun xs => match xs with | [x] => fSum x | _ => none) := on_one fun S H x z v sub r e Q q => by
  cases x with
  | sq l ds =>
    simp only [fSum] at e
    cases h : intsOf ds with
    | none => rw [h] at e; cases e
    | some ns =>
      rw [h] at e
      cases e
      obtain ⟨a, ws, rfl, hh, rr⟩ := r.sq sub
      rw [intsOf_rel h rr] at hh
      rcases hh with hh | hh
      · exact .inl ⟨a, ns, rfl, hh, q _ S H (Ext.refl sub) (.int _)⟩
      · exact .inr ⟨a, ns, rfl, hh, q _ S H (Ext.refl sub) (.int _)⟩
  | _ => exact nomatch e
def minI : List Int → Option Int
  | [] => none
  | n :: ns => some (ns.foldl min n)
def maxI : List Int → Option Int
  | [] => none
  | n :: ns => some (ns.foldl max n)
theorem foldl_min_le : ∀ (ns : List Int) (n : Int), ns.foldl min n ≤ n ∧ (∀ m ∈ ns, ns.foldl min n ≤ m) ∧ (ns.foldl min n = n ∨ ns.foldl min n ∈ ns)
  | [], n => ⟨Int.le_refl _, fun m h => (by cases h), .inl rfl⟩
  | m :: ns, n => by
    obtain ⟨h1, h2, h3⟩ := foldl_min_le ns (min n m)
    rw [List.foldl_cons]
    refine ⟨by omega, fun k hk => ?_, ?_⟩
    · rcases List.mem_cons.mp hk with rfl | hk
      · omega
      · exact h2 k hk
    · rcases h3 with h3 | h3
      · rcases Int.le_total n m with h | h
        · exact .inl (by rw [h3]; omega)
        · exact .inr (by rw [h3]; exact List.mem_cons.mpr (.inl (by omega)))
      · exact .inr (List.mem_cons_of_mem _ h3)
theorem foldl_max_le : ∀ (ns : List Int) (n : Int), n ≤ ns.foldl max n ∧ (∀ m ∈ ns, m ≤ ns.foldl max n) ∧ (ns.foldl max n = n ∨ ns.foldl max n ∈ ns)
  | [], n => ⟨Int.le_refl _, fun m h => (by cases h), .inl rfl⟩
  | m :: ns, n => by
    obtain ⟨h1, h2, h3⟩ := foldl_max_le ns (max n m)
    rw [List.foldl_cons]
    refine ⟨by omega, fun k hk => ?_, ?_⟩
    · rcases List.mem_cons.mp hk with rfl | hk
      · omega
      · exact h2 k hk
    · rcases h3 with h3 | h3
      · rcases Int.le_total n m with h | h
        · exact .inr (by rw [h3]; exact List.mem_cons.mpr (.inl (by omega)))
        · exact .inl (by rw [h3]; omega)
      · exact .inr (List.mem_cons_of_mem _ h3)
theorem minI_mem {ns : List Int} {m : Int} (h : minI ns = some m) : m ∈ ns ∧ ∀ n ∈ ns, m ≤ n := by
  cases ns with
  | nil => cases h
  | cons n ns =>
    have h : some (ns.foldl min n) = some m := h
    cases h
    obtain ⟨h1, h2, h3⟩ := foldl_min_le ns n
    refine ⟨?_, fun k hk => ?_⟩
    · rcases h3 with h3 | h3
      · exact List.mem_cons.mpr (.inl h3)
      · exact List.mem_cons_of_mem _ h3
    · rcases List.mem_cons.mp hk with rfl | hk
      · exact h1
      · exact h2 k hk
theorem maxI_mem {ns : List Int} {m : Int} (h : maxI ns = some m) : m ∈ ns ∧ ∀ n ∈ ns, n ≤ m := by
  cases ns with
  | nil => cases h
  | cons n ns =>
    have h : some (ns.foldl max n) = some m := h
    cases h
    obtain ⟨h1, h2, h3⟩ := foldl_max_le ns n
    refine ⟨?_, fun k hk => ?_⟩
    · rcases h3 with h3 | h3
      · exact List.mem_cons.mpr (.inl h3)
      · exact List.mem_cons_of_mem _ h3
    · rcases List.mem_cons.mp hk with rfl | hk
      · exact h1
      · exact h2 k hk
/-- min, max: of two ints; of a list of ints -/
def fMin : List D → Option D
  | [.int i, .int j] => some (.int (if j < i then j else i))
  | [.sq true ds] => (intsOf ds).bind fun ns => (minI ns).map .int
  | _ => none
def fMax : List D → Option D
  | [.int i, .int j] => some (.int (if j > i then j else i))
  | [.sq true ds] => (intsOf ds).bind fun ns => (maxI ns).map .int
  | _ => none
def rMinG (K : PySem.W.Frag) : List V → Hp → VK → Prop := fun xs H Q => (∃ i j, xs = [.int i, .int j] ∧ Q (.int (if j < i then j else i)) H) ∨ rMin K xs H Q
def rMaxG (K : PySem.W.Frag) : List V → Hp → VK → Prop := fun xs H Q => (∃ i j, xs = [.int i, .int j] ∧ Q (.int (if j > i then j else i)) H) ∨ rMax K xs H Q
theorem cr_minG {X : Cx} (hc : X.calm = true) : CallR X (.builtin "min") (rMinG X.K) := (call_min2 hc).or (cr_min hc)
theorem cr_maxG {X : Cx} (hc : X.calm = true) : CallR X (.builtin "max") (rMaxG X.K) := (call_max2 hc).or (cr_max hc)
theorem on_min : OpN K (rMinG K) fMin := by
  intro S H xs z vs sub r e Q q
  cases r with
  | nil => exact nomatch e
  | @cons x v xs vs r rs =>
    cases rs with
    | nil =>
      cases x with
      | sq l ds =>
        cases l with
        | false => exact nomatch e
        | true =>
          simp only [fMin] at e
          cases h : intsOf ds with
          | none => rw [h] at e; cases e
          | some ns =>
            cases h2 : minI ns with
            | none => rw [h, Option.bind_some, h2] at e; cases e
            | some m =>
              rw [h, Option.bind_some, h2] at e
              cases e
              obtain ⟨a, ws, rfl, hh, rr⟩ := r.lst sub
              rw [intsOf_rel h rr] at hh
              obtain ⟨k1, k2⟩ := minI_mem h2
              refine .inr ⟨a, ns, rfl, SqL.of hh, List.length_pos_of_mem k1, fun m' h1 h2 => ?_⟩
              have : m' = m := Int.le_antisymm (h2 m k1) (k2 m' h1)
              rw [this]
              exact q _ S H (Ext.refl sub) (.int _)
      | _ => exact nomatch e
    | @cons x2 v2 xs2 vs2 r2 rs2 =>
      cases rs2 with
      | nil =>
        cases x with
        | int i =>
          cases x2 with
          | int j =>
            cases e
            exact .inl ⟨i, j, by rw [r.int, r2.int], q _ S H (Ext.refl sub) (.int _)⟩
          | _ => exact nomatch e
        | sq l _ => cases l <;> exact nomatch e
        | _ => exact nomatch e
      | cons _ _ =>
        cases x with
        | int i => cases x2 <;> exact nomatch e
        | sq l _ => cases l <;> exact nomatch e
        | _ => exact nomatch e
theorem on_max : OpN K (rMaxG K) fMax := by
  intro S H xs z vs sub r e Q q
  cases r with
  | nil => exact nomatch e
  | @cons x v xs vs r rs =>
    cases rs with
    | nil =>
      cases x with
      | sq l ds =>
        cases l with
        | false => exact nomatch e
        | true =>
          simp only [fMax] at e
          cases h : intsOf ds with
          | none => rw [h] at e; cases e
          | some ns =>
            cases h2 : maxI ns with
            | none => rw [h, Option.bind_some, h2] at e; cases e
            | some m =>
              rw [h, Option.bind_some, h2] at e
              cases e
              obtain ⟨a, ws, rfl, hh, rr⟩ := r.lst sub
              rw [intsOf_rel h rr] at hh
              obtain ⟨k1, k2⟩ := maxI_mem h2
              refine .inr ⟨a, ns, rfl, SqL.of hh, List.length_pos_of_mem k1, fun m' h1 h2 => ?_⟩
              have : m' = m := Int.le_antisymm (k2 m' h1) (h2 m k1)
              rw [this]
              exact q _ S H (Ext.refl sub) (.int _)
      | _ => exact nomatch e
    | @cons x2 v2 xs2 vs2 r2 rs2 =>
      cases rs2 with
      | nil =>
        cases x with
        | int i =>
          cases x2 with
          | int j =>
            cases e
            exact .inl ⟨i, j, by rw [r.int, r2.int], q _ S H (Ext.refl sub) (.int _)⟩
          | _ => exact nomatch e
        | sq l _ => cases l <;> exact nomatch e
        | _ => exact nomatch e
      | cons _ _ =>
        cases x with
        | int i => cases x2 <;> exact nomatch e
        | sq l _ => cases l <;> exact nomatch e
        | _ => exact nomatch e
/-- the bools of a list of data -/
def blsOf : List D → Option (List Bool)
  | [] => some []
  | .bl i :: ds => (blsOf ds).map (i :: ·)
  | _ => none
theorem blsOf_map (ns : List Bool) : blsOf (ns.map .bl) = some ns := by
  induction ns with
  | nil => rfl
  | cons n ns ih => rw [List.map_cons, blsOf, ih]; rfl
theorem blsOf_rel {S : Hp} : ∀ {ds : List D} {vs : List V} {ns : List Bool}, blsOf ds = some ns → RpL K S ds vs → vs = ns.map V.bl
  | [], _, _, e, r => by
    cases r
    cases e
    rfl
  | .bl i :: ds, _, _, e, r => by
    cases r with
    | cons r rs =>
      cases r
      rw [blsOf] at e
      cases h : blsOf ds with
      | none => rw [h] at e; cases e
      | some ms =>
        rw [h] at e
        cases e
        rw [blsOf_rel h rs]
        rfl
  | .non :: _, _, _, e, _ => nomatch e
  | .int _ :: _, _, _, e, _ => nomatch e
  | .str _ :: _, _, _, e, _ => nomatch e
  | .sq _ _ :: _, _, _, e, _ => nomatch e
  | .dk _ :: _, _, _, e, _ => nomatch e
  | .dt _ :: _, _, _, e, _ => nomatch e
  | .ob _ _ :: _, _, _, e, _ => nomatch e
def fAny : D → Option D
  | .sq true ds => (blsOf ds).map fun bs => .bl (bs.any id)
  | _ => none
def fAll : D → Option D
  | .sq true ds => (blsOf ds).map fun bs => .bl (bs.all id)
  | _ => none
theorem on_any : OpN K (rAny K) (fun xs => match xs with | [x] => fAny x | _ => none) := on_one fun S H x z v sub r e Q q => by
  cases x with
  | sq l ds =>
    cases l with
    | false => exact nomatch e
    | true =>
      simp only [fAny] at e
      cases h : blsOf ds with
      | none => rw [h] at e; cases e
      | some ns =>
        rw [h] at e
        cases e
        obtain ⟨a, ws, rfl, hh, rr⟩ := r.lst sub
        rw [blsOf_rel h rr] at hh
        exact ⟨a, ns, rfl, SqL.of hh, q _ S H (Ext.refl sub) (.bl _)⟩
  | _ => exact nomatch e
theorem on_all : OpN K (rAll K) (fun xs => match xs with | [x] => fAll x | _ => none) := on_one fun S H x z v sub r e Q q => by
  cases x with
  | sq l ds =>
    cases l with
    | false => exact nomatch e
    | true =>
      simp only [fAll] at e
      cases h : blsOf ds with
      | none => rw [h] at e; cases e
      | some ns =>
        rw [h] at e
        cases e
        obtain ⟨a, ws, rfl, hh, rr⟩ := r.lst sub
        rw [blsOf_rel h rr] at hh
        exact ⟨a, ns, rfl, SqL.of hh, q _ S H (Ext.refl sub) (.bl _)⟩
  | _ => exact nomatch e

/-! ### list(..), tuple(..) of a list or a tuple; sorted of ints -/
def fListL : List D → Option (List D)
  | [.sq _ ds] => some ds
  | _ => none
theorem onf_list : OpNF K (fun xs H Q => ∃ p ys, xs = [.ref p] ∧ (SqL K H p ys ∨ SqT K H p ys) ∧ ∀ l, H l = none → Q (.ref l) (upd H l (.lst ys))) fListL := by
  intro S H xs zs vs sub r e Q q
  cases r with
  | nil => exact nomatch e
  | @cons x v xs vs r rs =>
    cases rs with
    | cons => cases x <;> exact nomatch e
    | nil =>
      cases x with
      | sq l ds =>
        cases e
        obtain ⟨a, ws, rfl, h, rr⟩ := r.sq sub
        exact ⟨a, ws, rfl, h, fun l hl => q l ws hl rr⟩
      | _ => exact nomatch e
def fTupleOf : D → Option D
  | .sq _ ds => some (.sq false ds)
  | _ => none
theorem on_tuple : OpN K (fun xs H Q => ∃ p ys, xs = [.ref p] ∧ ((SqL K H p ys ∧ ∀ l, H l = none → Q (.ref l) (upd H l (.tup ys))) ∨ (SqT K H p ys ∧ Q (.ref p) H))) (fun xs => match xs with | [x] => fTupleOf x | _ => none) := on_one fun S H x z v sub r e Q q => by
  cases x with
  | sq l ds =>
    cases e
    cases l with
    | true =>
      obtain ⟨a, ws, rfl, h, rr⟩ := r.lst sub
      refine ⟨a, ws, rfl, .inl ⟨SqL.of h, fun l hl => ?_⟩⟩
      obtain ⟨x1, x2⟩ := fz_tup sub hl rr
      exact q _ _ _ x1 x2
    | false =>
      obtain ⟨a, ws, rfl, h, rr, h0⟩ := r.tup sub
      exact ⟨a, ws, rfl, .inr ⟨h, q _ S H (Ext.refl sub) (.sqT h0 rr)⟩⟩
  | _ => exact nomatch e
def sortI (ns : List Int) : List Int := ns.mergeSort (fun a b => decide (a ≤ b))
theorem sortI_uniq {ns ms : List Int} (h1 : ms.Perm ns) (h2 : ms.Pairwise (· ≤ ·)) : ms = sortI ns := by
  have p : (sortI ns).Perm ns := List.mergeSort_perm _ _
  have s : (sortI ns).Pairwise (fun a b => decide (a ≤ b) = true) := List.pairwise_mergeSort (le := fun a b => decide (a ≤ b)) (fun a b c h1 h2 => by simp at h1 h2 ⊢; omega) (fun a b => by simp; omega) ns
  refine List.Perm.eq_of_pairwise (le := (· ≤ ·)) (fun a b _ _ h1 h2 => Int.le_antisymm h1 h2) h2 (s.imp fun h => by simpa using h) (h1.trans p.symm)
def fSortedL : List D → Option (List D)
  | [.sq true ds] => (intsOf ds).map fun ns => (sortI ns).map .int
  | _ => none
theorem ints_rel {S : Hp} : ∀ (ns : List Int), RpL K S (ns.map .int) (ns.map V.int)
  | [] => .nil
  | n :: ns => .cons (.int n) (ints_rel ns)
theorem onf_sorted : OpNF K (rSortedI K) fSortedL := by
  intro S H xs zs vs sub r e Q q
  cases r with
  | nil => exact nomatch e
  | @cons x v xs vs r rs =>
    cases rs with
    | cons => cases x with
      | sq l _ => cases l <;> exact nomatch e
      | _ => exact nomatch e
    | nil =>
      cases x with
      | sq l ds =>
        cases l with
        | false => exact nomatch e
        | true =>
          simp only [fSortedL] at e
          cases h : intsOf ds with
          | none => rw [h] at e; cases e
          | some ns =>
            rw [h] at e
            cases e
            obtain ⟨a, ws, rfl, hh, rr⟩ := r.lst sub
            rw [intsOf_rel h rr] at hh
            refine ⟨a, ns, rfl, SqL.of hh, fun ms p h1 h2 hp => ?_⟩
            rw [sortI_uniq h1 h2]
            exact q p _ hp (ints_rel _)
      | _ => exact nomatch e

/-! ### items and slices -/
def fIx : D → D → Option D
  | .fz ns, .int i => (atI ns i).map .int
  | .sq _ ds, .int i => atI ds i
  | .str x, .int i => if x.length ≤ MX then (atI x.cps.toList i).map fun c => .str ⟨#[c]⟩ else none
  | _, _ => none
theorem RpL.at {S : Hp} {ds : List D} {vs : List V} {i : Int} {d : D} (r : RpL K S ds vs) (h : atI ds i = some d) : ∃ v, atI vs i = some v ∧ Rp K S d v := by
  unfold atI at h ⊢
  rw [← r.length]
  cases e : ixN ds.length i with
  | none => rw [e] at h; cases h
  | some j =>
    rw [e] at h
    exact r.get h
theorem atI_map {α β : Type} (f : α → β) (xs : List α) (i : Int) : atI (xs.map f) i = (atI xs i).map f := by
  unfold atI
  rw [List.length_map]
  cases ixN xs.length i with
  | none => rfl
  | some j => exact List.getElem?_map ..
theorem o2_ix : Op2 K (rIx K) fIx := by
  intro S H x y z vx vy sub rx ry e Q q
  cases x with
  | fz ns =>
    cases y with
    | int i =>
      have e : (atI ns i).map D.int = some z := e
      cases h : atI ns i with
      | none => rw [h] at e; cases e
      | some n =>
        rw [h] at e
        cases e
        obtain ⟨a, rfl, hl⟩ := rx.fzL sub
        exact .inl ⟨a, _, i, .int n, rfl, ry.int, hl, by rw [atI_map, h]; rfl, q _ S H (Ext.refl sub) (.int _)⟩
    | _ => exact nomatch e
  | sq l ds =>
    cases y with
    | int i =>
      have e : atI ds i = some z := e
      cases l with
      | true =>
        obtain ⟨a, ws, rfl, h, rr⟩ := rx.lst sub
        obtain ⟨v, hv, rv⟩ := rr.at e
        exact .inl ⟨a, ws, i, v, rfl, ry.int, SqL.of h, hv, q _ S H (Ext.refl sub) rv⟩
      | false =>
        obtain ⟨a, ws, rfl, h, rr, _⟩ := rx.tup sub
        obtain ⟨v, hv, rv⟩ := rr.at e
        exact .inr (.inl ⟨a, ws, i, v, rfl, ry.int, h, hv, q _ S H (Ext.refl sub) rv⟩)
    | _ => exact nomatch e
  | str x =>
    cases y with
    | int i =>
      simp only [fIx] at e
      split at e
      · rename_i hz
        cases h : atI x.cps.toList i with
        | none => rw [h] at e; cases e
        | some c =>
          rw [h] at e
          cases e
          exact .inr (.inr ⟨x, i, c, rx.str, ry.int, size_of hz, h, q _ S H (Ext.refl sub) (.str _)⟩)
      · cases e
    | _ => exact nomatch e
  | _ => exact nomatch e
def cutD (xs : List D) (lo hi : Option Int) : List D := (xs.drop (HT.sIx xs.length 0 lo)).take (HT.sIx xs.length xs.length hi - HT.sIx xs.length 0 lo)
theorem RpL.cut {S : Hp} {ds : List D} {vs : List V} (r : RpL K S ds vs) (lo hi : Option Int) : RpL K S (cutD ds lo hi) (cutV vs lo hi) := by
  unfold cutD cutV
  rw [← r.length]
  exact (r.drop _).take _
/-- a slice -/
def rSlG (K : PySem.W.Frag) : V → Option Int → Option Int → Hp → VK → Prop := fun x lo hi H Q => rSlL K x lo hi H Q ∨ rSlA K x lo hi H Q ∨ rSlS x lo hi H Q
theorem sl_any {X : Cx} : SlR X (rSlG X.K) := sl_list.or (sl_tupA.or sl_str)
def fSl (x : D) (lo hi : Option Int) : Option D := match x with
  | .sq l ds => some (.sq l (cutD ds lo hi))
  | .str z => if z.length ≤ MX then some (.str (cutS z lo hi)) else none
  | _ => none
def fSlL (x : D) (lo hi : Option Int) : Option (List D) := match x with
  | .sq true ds => some (cutD ds lo hi)
  | _ => none
end

section
variable {F : Fx} {W : WX} {ta tb : TE} {τa τb : Env → Res Opd}
/-- a slice's part -/
abbrev LPt (F : Fx) (W : WX) (t : TO) (τ : Env → Res (Option Int)) : Prop := LG F W (fun _ _ _ d v => d = v) t τ
def pNone : Env → Res (Option Int) := fun ρ => .ok none ρ
def pSome (τ : DE) : Env → Res (Option Int) := fun ρ => (τ ρ).bind fun d ρ1 => match d with
  | .int i => .ok (some i) ρ1
  | _ => .bad
theorem lp_none : LPt F W tNoPart pNone := fun ρ σ S H E Q q => q _ S H E (Same.refl S) rfl
theorem lp_some {τ : DE} (h : LE F W ta τ) : LPt F W (tPart ta) (pSome τ) := by
  refine LG.of (fun ρ ρ' σ S H d E e Q q => ?_) (fun ρ ρ' σ S H c x E e Q q => ?_)
  · obtain ⟨x, ρ1, e1, e⟩ := Res.bind_ok e
    refine h.ok E e1 fun v S1 H1 E1 s1 r => ?_
    cases r with
    | int i =>
      cases e
      exact ⟨i, rfl, q _ S1 H1 E1 s1 rfl⟩
    | non => cases e
    | bl => cases e
    | str => cases e
    | sqL => cases e
    | sqT => cases e
    | dk => cases e
    | dt => cases e
    | ob => cases e
    | fz => cases e
  · rcases Res.bind_exc e with e1 | ⟨x1, ρ1, e1, e⟩
    · exact h.exc E e1 q
    · cases x1 <;> cases e
def dSl (τ : Env → Res Opd) (lo hi : Env → Res (Option Int)) : DE := fun ρ => (τ ρ).bind fun x ρ1 => (lo ρ1).bind fun l ρ2 => (hi ρ2).bind fun h ρ3 => match rdO ρ3 x with
  | some a => ofO (fSl a l h) ρ3
  | none => .bad
def dSlF (τ : Env → Res Opd) (lo hi : Env → Res (Option Int)) : Env → Res OC := fun ρ => (τ ρ).bind fun x ρ1 => (lo ρ1).bind fun l ρ2 => (hi ρ2).bind fun h ρ3 => match rdO ρ3 x with
  | some a => ofL (fSlL a l h) ρ3
  | none => .bad
theorem le_sl {tl th : TO} {κ κ' : Env → Res (Option Int)} (ha : LO F W ta τa) (hl : LPt F W tl κ) (hh : LPt F W th κ') : LE F W (tSl (rSlG F.K) ta tl th) (dSl τa κ κ') := by
  refine LG.of (fun ρ ρ' σ S H d E e Q q => ?_) (fun ρ ρ' σ S H c x E e Q q => ?_)
  · obtain ⟨x, ρ1, e1, e⟩ := Res.bind_ok e
    obtain ⟨l, ρ2, e2, e⟩ := Res.bind_ok e
    obtain ⟨u, ρ3, e3, e⟩ := Res.bind_ok e
    refine ha.ok E e1 fun vx S1 H1 E1 s1 rx => hl.ok E1 e2 fun l' S2 H2 E2 s2 rl => hh.ok E2 e3 fun u' S3 H3 E3 s3 ru => ?_
    subst rl ru
    cases q1 : rdO ρ3 x with
    | none => rw [q1] at e; cases e
    | some a =>
      rw [q1] at e
      obtain ⟨ef, rfl⟩ := ofO_ok e
      have rr := rdO_rel E3 ((rx.mono s2).mono s3) q1
      cases a with
      | sq lb ds =>
        cases ef
        cases lb with
        | true =>
          obtain ⟨p, ws, rfl, h, r⟩ := rr.lst E3.sub
          refine .inl ⟨p, ws, rfl, SqL.of h, fun p2 hp => ?_⟩
          obtain ⟨x1, x2⟩ := fz_list (K := F.K) E3.sub hp (r.cut l u)
          exact q _ _ _ (E3.ext x1) (((s1.trans s2).trans s3).trans x1.s) x2
        | false =>
          obtain ⟨p, ws, rfl, h, r, h0⟩ := rr.tup E3.sub
          refine .inr (.inl ⟨p, ws, rfl, h, fun hw => ?_, fun _ p2 hp => ?_⟩)
          · have ew : cutD ds l u = ds := by
              unfold cutD
              rw [r.length, hw.1, hw.2, List.drop_zero, Nat.sub_zero, ← r.length, List.take_length]
            rw [ew] at q
            exact q _ _ _ E3 ((s1.trans s2).trans s3) (.sqT h0 r)
          · obtain ⟨x1, x2⟩ := fz_tup (K := F.K) E3.sub hp (r.cut l u)
            exact q _ _ _ (E3.ext x1) (((s1.trans s2).trans s3).trans x1.s) x2
      | str z =>
        simp only [fSl] at ef
        split at ef
        · rename_i hz
          cases ef
          exact .inr (.inr ⟨z, rr.str, size_of hz, q _ _ _ E3 ((s1.trans s2).trans s3) (.str _)⟩)
        · cases ef
      | _ => exact nomatch ef
  · rcases Res.bind_exc e with e1 | ⟨x1, ρ1, e1, e⟩
    · exact ha.exc E e1 q
    · refine ha.ok E e1 fun vx S1 H1 E1 s1 rx => ?_
      rcases Res.bind_exc e with e2 | ⟨l, ρ2, e2, e⟩
      · exact hl.exc E1 e2 q
      · refine hl.ok E1 e2 fun l' S2 H2 E2 s2 rl => ?_
        rcases Res.bind_exc e with e3 | ⟨u, ρ3, e3, e⟩
        · exact hh.exc E2 e3 q
        · cases q1 : rdO ρ3 x1 with
          | none => rw [q1] at e; cases e
          | some a =>
            rw [q1] at e
            exact (ofO_exc e).elim
theorem lf_sl {tl th : TO} {κ κ' : Env → Res (Option Int)} (ha : LO F W ta τa) (hl : LPt F W tl κ) (hh : LPt F W th κ') : LF F W (tSl (rSlG F.K) ta tl th) (dSlF τa κ κ') := by
  intro ρ σ S H E
  cases e : dSlF τa κ κ' ρ with
  | bad => trivial
  | ok c ρ' =>
    intro Q q
    obtain ⟨x, ρ1, e1, e⟩ := Res.bind_ok e
    obtain ⟨l, ρ2, e2, e⟩ := Res.bind_ok e
    obtain ⟨u, ρ3, e3, e⟩ := Res.bind_ok e
    refine ha.ok E e1 fun vx S1 H1 E1 s1 rx => hl.ok E1 e2 fun l' S2 H2 E2 s2 rl => hh.ok E2 e3 fun u' S3 H3 E3 s3 ru => ?_
    subst rl ru
    cases q1 : rdO ρ3 x with
    | none => rw [q1] at e; cases e
    | some a =>
      rw [q1] at e
      obtain ⟨zs, ef, rfl, rfl⟩ := ofL_ok e
      have rr := rdO_rel E3 ((rx.mono s2).mono s3) q1
      cases a with
      | sq lb ds =>
        cases lb with
        | true =>
          cases ef
          obtain ⟨p, ws, rfl, h, r⟩ := rr.lst E3.sub
          refine .inl ⟨p, ws, rfl, SqL.of h, fun p2 hp => ?_⟩
          obtain ⟨E4, oc, n1, n2, n3⟩ := newl E3 hp (r.cut l u)
          exact q p2 S3 _ E4 ((s1.trans s2).trans s3) oc n1 n2 n3
        | false => exact nomatch ef
      | _ => exact nomatch ef
  | exc c x ρ' =>
    intro Q q
    rcases Res.bind_exc e with e1 | ⟨x1, ρ1, e1, e⟩
    · exact ha.exc E e1 q
    · refine ha.ok E e1 fun vx S1 H1 E1 s1 rx => ?_
      rcases Res.bind_exc e with e2 | ⟨l, ρ2, e2, e⟩
      · exact hl.exc E1 e2 q
      · refine hl.ok E1 e2 fun l' S2 H2 E2 s2 rl => ?_
        rcases Res.bind_exc e with e3 | ⟨u, ρ3, e3, e⟩
        · exact hh.exc E2 e3 q
        · cases q1 : rdO ρ3 x1 with
          | none => rw [q1] at e; cases e
          | some a =>
            rw [q1] at e
            exact (ofL_exc e).elim

/-! ### isinstance with built-in classes -/
def tyName : D → String
  | .non => "NoneType"
  | .bl _ => "bool"
  | .int _ => "int"
  | .str _ => "str"
  | .sq true _ => "list"
  | .sq false _ => "tuple"
  | .dk _ => "dict"
  | .dt _ => "dict"
  | .ob _ _ => "object"
  | .fz _ => "list"
def plainD : D → Bool
  | .ob _ _ => false
  | .fz _ => false
  | _ => true
theorem tyX_of {K : PySem.W.Frag} {S H : Hp} {d : D} {v : V} (sub : Same S H) (r : RpR K S H d v) (hp : plainD d = true) : TyX K H v (.type (tyName d)) := by
  cases r with
  | st r =>
    cases r with
    | non => exact .base .non
    | bl b => exact .base (.bl b)
    | int i => exact .base (.int i)
    | str x => exact .base (.str x)
    | sqL h _ => exact .base (.lst (sub _ _ h))
    | sqT h _ =>
      rcases h with (h | ⟨o, h⟩) | ⟨o, its, n, hk, hc, _⟩
      · exact .base (.tup (sub _ _ h))
      · exact .fTuple (sub _ _ h)
      · exact .kTuple hk hc
    | dk h _ => exact .base (.dK (sub _ _ h))
    | dt h _ => exact .base (.dT (sub _ _ h))
    | ob => exact nomatch hp
    | fz => cases hp
  | @ow c a oc hs =>
    cases c with
    | l ds =>
      obtain ⟨vs, hv, _⟩ := oc
      exact .base (.lst hv)
    | dk ds =>
      obtain ⟨vs, hv, _⟩ := oc
      exact .base (.dK hv)
    | dt ds =>
      obtain ⟨vs, hv, _⟩ := oc
      exact .base (.dT hv)
/-- is a thing of the type a one of these types -/
def isAny (a : String) : List String → Option Bool
  | [] => some false
  | b :: bs => match kitB a b, isAny a bs with
    | some x, some y => some (x || y)
    | _, _ => none
theorem isAny_kit {K : PySem.W.Frag} {a : String} : ∀ {bs : List String} {r : Bool}, isAny a bs = some r → PySem.W.kitAny K (.type a) (bs.map Value.type) = some r
  | [], _, e => by
    cases e
    exact kitAny_nil
  | b :: bs, r, e => by
    have e' : (match kitB a b, isAny a bs with | some x, some y => some (x || y) | _, _ => none) = some r := e
    cases h1 : kitB a b with
    | none => rw [h1] at e'; cases e'
    | some x =>
      cases h2 : isAny a bs with
      | none => rw [h1, h2] at e'; cases e'
      | some y =>
        rw [h1, h2] at e'
        cases e'
        refine kitAny_cons (kit_ty h1) (fun hx => ?_) (fun hx => ?_)
        · subst hx
          exact isAny_kit h2
        · subst hx
          rfl
def fIsi (bs : List String) (d : D) : Option D := if plainD d then (isAny (tyName d) bs).map .bl else none
def tyArgs : List String → TA
  | [] => tNil
  | b :: bs => tCons (tC (.ty b)) (tyArgs bs)
theorem tyArgs_run (bs : List String) (σ : L2.St) : ∀ (H : Hp) (Q : List V → Hp → Prop), Q (bs.map V.ty) H → tyArgs bs σ H Q := by
  induction bs with
  | nil => exact fun H Q q => q
  | cons b bs ih => exact fun H Q q => ih H (fun vs H1 => Q (V.ty b :: vs) H1) q
theorem clsV_tys : ∀ bs : List String, Paired ClsV (bs.map V.ty) (bs.map Value.type)
  | [] => .nil
  | b :: bs => .cons (.ty b) (clsV_tys bs)
def dIsi (bs : List String) (τ : Env → Res Opd) : DE := dOp1 (fIsi bs) τ
theorem isi_num {bs : List String} (h : bs.length ≤ 10) : (bs.map V.ty).length ≤ sizeLine := size_of (by rw [List.length_map]; omega)
theorem le_isiT {bs : List String} (hb : bs.length ≤ 10) (ha : LO F W ta τa) : LE F W (tCB (rIsiT F.K) (tCons ta (tCons (tTup (tyArgs bs)) tNil))) (dIsi bs τa) := by
  refine LG.of (fun ρ ρ' σ S H d E e Q q => ?_) (fun ρ ρ' σ S H c x E e Q q => ?_)
  · obtain ⟨x, ρ1, e1, e⟩ := Res.bind_ok e
    refine ha.ok E e1 fun vx S1 H1 E1 s1 rx => ?_
    cases q1 : rdO ρ1 x with
    | none => rw [q1] at e; cases e
    | some a =>
      rw [q1] at e
      obtain ⟨ef, rfl⟩ := ofO_ok e
      unfold fIsi at ef
      split at ef
      · rename_i hp
        cases h : isAny (tyName a) bs with
        | none => rw [h] at ef; cases ef
        | some b =>
          rw [h] at ef
          cases ef
          refine tyArgs_run bs σ H1 _ ⟨isi_num hb, fun p hpn => ?_⟩
          have rr := rdO_rel E1 rx q1
          have E2 := E1.laid (o := .tup (bs.map V.ty)) hpn
          have s2 : Same S1 (upd S1 p (.tup (bs.map V.ty))) := same_new (E1.freshS hpn)
          have rr2 : RpR F.K (upd S1 p (.tup (bs.map V.ty))) (upd H1 p (.tup (bs.map V.ty))) a vx := rdO_rel E2 (rx.mono s2) q1
          exact ⟨vx, p, bs.map V.ty, _, bs.map Value.type, b, rfl, upd_same, clsV_tys bs, tyX_of E2.sub rr2 hp, isAny_kit h, q _ _ _ E2 (s1.trans s2) (.bl b)⟩
      · cases ef
  · rcases Res.bind_exc e with e1 | ⟨x1, ρ1, e1, e⟩
    · exact ha.exc E e1 q
    · cases q1 : rdO ρ1 x1 with
      | none => rw [q1] at e; cases e
      | some a =>
        rw [q1] at e
        exact (ofO_exc e).elim
theorem le_isi1 {b : String} (ha : LO F W ta τa) : LE F W (tCB (rIsi F.K) (tCons ta (tCons (tC (.ty b)) tNil))) (dIsi [b] τa) := by
  refine LG.of (fun ρ ρ' σ S H d E e Q q => ?_) (fun ρ ρ' σ S H c x E e Q q => ?_)
  · obtain ⟨x, ρ1, e1, e⟩ := Res.bind_ok e
    refine ha.ok E e1 fun vx S1 H1 E1 s1 rx => ?_
    cases q1 : rdO ρ1 x with
    | none => rw [q1] at e; cases e
    | some a =>
      rw [q1] at e
      obtain ⟨ef, rfl⟩ := ofO_ok e
      unfold fIsi at ef
      split at ef
      · rename_i hp
        simp only [isAny] at ef
        cases h : kitB (tyName a) b with
        | none => rw [h] at ef; cases ef
        | some r =>
          rw [h] at ef
          simp only [Bool.or_false, Option.map_some] at ef
          cases ef
          exact ⟨vx, .ty b, _, .type b, r, rfl, .ty b, tyX_of E1.sub (rdO_rel E1 rx q1) hp, kit_ty h, q _ _ _ E1 s1 (.bl _)⟩
      · cases ef
  · rcases Res.bind_exc e with e1 | ⟨x1, ρ1, e1, e⟩
    · exact ha.exc E e1 q
    · cases q1 : rdO ρ1 x1 with
      | none => rw [q1] at e; cases e
      | some a =>
        rw [q1] at e
        exact (ofO_exc e).elim

/-! ### truth -/
def fTru : D → Option Bool
  | .non => some false
  | .bl b => some b
  | .int i => some (i != 0)
  | .str x => if x.length ≤ MX then some ((x.length : Int) != 0) else none
  | .sq _ ds => some (!ds.isEmpty)
  | .dk ds => some (!ds.isEmpty)
  | _ => none
def dTru (τ : Env → Res Opd) : Env → Res Bool := fun ρ => (τ ρ).bind fun x ρ1 => match rdO ρ1 x with
  | some a => ofO (fTru a) ρ1
  | none => .bad
def tTru (K : PySem.W.Frag) (te : TE) : TT := fun σ H Q => te σ H fun x H1 => ∃ k, TruV K x H1 k ∧ Q k H1
theorem lt_tru (ha : LO F W ta τa) : LT F W (tTru F.K ta) (dTru τa) := by
  refine LG.of (fun ρ ρ' σ S H d E e Q q => ?_) (fun ρ ρ' σ S H c x E e Q q => ?_)
  · obtain ⟨x, ρ1, e1, e⟩ := Res.bind_ok e
    refine ha.ok E e1 fun vx S1 H1 E1 s1 rx => ?_
    cases q1 : rdO ρ1 x with
    | none => rw [q1] at e; cases e
    | some a =>
      rw [q1] at e
      obtain ⟨ef, rfl⟩ := ofO_ok e
      have rr := rdO_rel E1 rx q1
      refine ⟨d, ?_, q _ _ _ E1 s1 rfl⟩
      cases a with
      | non => cases ef; rw [rr.non]; rfl
      | bl b => cases ef; rw [rr.bl]; rfl
      | int i => cases ef; rw [rr.int]; rfl
      | str x =>
        simp only [fTru] at ef
        split at ef
        · rename_i hz
          cases ef
          rw [rr.str]
          exact ⟨size_of hz, rfl⟩
        · cases ef
      | sq l ds =>
        cases ef
        obtain ⟨p, ws, rfl, h, r⟩ := rr.sq E1.sub
        have he : (!ds.isEmpty) = !ws.isEmpty := by cases r <;> rfl
        rcases h with h | h
        · exact .inl ⟨ws, h, he⟩
        · exact .inr (.inl ⟨ws, h, he⟩)
      | dk ds =>
        cases ef
        obtain ⟨p, ws, rfl, h, r⟩ := rr.dkL E1.sub
        have he : (!ds.isEmpty) = !ws.isEmpty := by cases r <;> rfl
        exact .inr (.inr ⟨ws, h, he⟩)
      | dt ds => cases ef
      | ob _ _ => cases ef
      | fz _ => cases ef
  · rcases Res.bind_exc e with e1 | ⟨x1, ρ1, e1, e⟩
    · exact ha.exc E e1 q
    · cases q1 : rdO ρ1 x1 with
      | none => rw [q1] at e; cases e
      | some a =>
        rw [q1] at e
        exact (ofO_exc e).elim
/-- the chain a < b < c -/
theorem le_chain {tc : TE} {τc : Env → Res Opd} {r r' : R2} {f g : D → D → Option D} (ho : Op2 F.K r f) (ho' : Op2 F.K r' g) (ha : LO F W ta τa) (hb : LO F W tb τb) (hc : LO F W tc τc) : LE F W (tChain r r' ta tb tc) (dChain f g τa τb τc) := by
  refine LG.of (fun ρ ρ' σ S H d E e Q q => ?_) (fun ρ ρ' σ S H c x E e Q q => ?_)
  · obtain ⟨x, ρ1, e1, e⟩ := Res.bind_ok e
    obtain ⟨y, ρ2, e2, e⟩ := Res.bind_ok e
    refine ha.ok E e1 fun vx S1 H1 E1 s1 rx => hb.ok E1 e2 fun vy S2 H2 E2 s2 ry => ?_
    cases q1 : rdO ρ2 x with
    | none => rw [q1] at e; cases e
    | some a =>
      cases q2 : rdO ρ2 y with
      | none => rw [q1, q2] at e; cases e
      | some b =>
        rw [q1, q2] at e
        simp only at e
        cases h : f a b with
        | none => rw [h] at e; cases e
        | some w =>
          rw [h] at e
          refine ho S2 H2 a b w vx vy E2.sub (rdO_rel E2 (rx.mono s2) q1) (rdO_rel E2 ry q2) h _ fun v S3 H3 x3 rv => ?_
          have E3 := E2.ext x3
          cases rv with
          | bl k =>
            refine ⟨k, rfl, ?_⟩
            cases k with
            | false =>
              cases e
              exact q _ S3 H3 E3 ((s1.trans s2).trans x3.s) (.bl _)
            | true =>
              rw [if_pos rfl]
              obtain ⟨z, ρ3, e3, e⟩ := Res.bind_ok e
              refine hc.ok E3 e3 fun vz S4 H4 E4 s4 rz => ?_
              cases q3 : rdO ρ3 y with
              | none => rw [q3] at e; cases e
              | some b2 =>
                cases q4 : rdO ρ3 z with
                | none => rw [q3, q4] at e; cases e
                | some c2 =>
                  rw [q3, q4] at e
                  obtain ⟨ef, rfl⟩ := ofO_ok e
                  exact ho' S4 H4 b2 c2 d vy vz E4.sub (rdO_rel E4 ((ry.mono x3.s).mono s4) q3) (rdO_rel E4 rz q4) ef Q fun v5 S5 H5 x5 rv5 => q v5 S5 H5 (E4.ext x5) ((((s1.trans s2).trans x3.s).trans s4).trans x5.s) rv5
          | non => cases e
          | int => cases e
          | str => cases e
          | sqL => cases e
          | sqT => cases e
          | dk => cases e
          | dt => cases e
          | ob => cases e
          | fz => cases e
  · rcases Res.bind_exc e with e1 | ⟨x1, ρ1, e1, e⟩
    · exact ha.exc E e1 q
    · refine ha.ok E e1 fun vx S1 H1 E1 s1 rx => ?_
      rcases Res.bind_exc e with e2 | ⟨y, ρ2, e2, e⟩
      · exact hb.exc E1 e2 q
      · refine hb.ok E1 e2 fun vy S2 H2 E2 s2 ry => ?_
        cases q1 : rdO ρ2 x1 with
        | none => rw [q1] at e; cases e
        | some a =>
          cases q2 : rdO ρ2 y with
          | none => rw [q1, q2] at e; cases e
          | some b =>
            rw [q1, q2] at e
            simp only at e
            cases h : f a b with
            | none => rw [h] at e; cases e
            | some w =>
              rw [h] at e
              refine ho S2 H2 a b w vx vy E2.sub (rdO_rel E2 (rx.mono s2) q1) (rdO_rel E2 ry q2) h _ fun v S3 H3 x3 rv => ?_
              have E3 := E2.ext x3
              cases rv with
              | bl k =>
                refine ⟨k, rfl, ?_⟩
                cases k with
                | false => cases e
                | true =>
                  rw [if_pos rfl]
                  rcases Res.bind_exc e with e3 | ⟨z, ρ3, e3, e⟩
                  · exact hc.exc E3 e3 q
                  · cases q3 : rdO ρ3 y with
                    | none => rw [q3] at e; cases e
                    | some b2 =>
                      cases q4 : rdO ρ3 z with
                      | none => rw [q3, q4] at e; cases e
                      | some c2 =>
                        rw [q3, q4] at e
                        exact (ofO_exc e).elim
              | non => cases e
              | int => cases e
              | str => cases e
              | sqL => cases e
              | sqT => cases e
              | dk => cases e
              | dt => cases e
              | ob => cases e
              | fz => cases e
end
end Pd

/-! Pd4: statements, targets, loops, comprehensions. -/
namespace Pd
open PySem L2 PyProof.Rows PySem.Spec

inductive SR where
  | nx (ρ : Env) | ret (d : D) (ρ : Env) | retO (c : OC) (ρ : Env) | bk (ρ : Env) | ct (ρ : Env) | exc (c : Str) (x : D) (ρ : Env) | bad
abbrev DS := Env → SR
def Res.bindS {α : Type} (r : Res α) (f : α → Env → SR) : SR := match r with
  | .ok a ρ => f a ρ
  | .exc c x ρ => .exc c x ρ
  | .bad => .bad
def ExcS (F : Fx) (W : WX) (c : Str) (x : D) (ρ : Env) : Prop := ∀ σ, ExcK F W σ c x ρ
/-- what a statement's end must give -/
def SRok (F : Fx) (W : WX) (S : Hp) (r : SR) (G : Ends → Prop) : Prop := match r with
  | .nx ρ' => ∀ D : Ends, (∀ σ' S' H', EO F ρ' σ' S' H' → Same S S' → D.nx σ' H') → G D
  | .bk ρ' => ∀ D : Ends, (∀ σ' S' H', EO F ρ' σ' S' H' → Same S S' → D.bk σ' H') → G D
  | .ct ρ' => ∀ D : Ends, (∀ σ' S' H', EO F ρ' σ' S' H' → Same S S' → D.ct σ' H') → G D
  | .ret d ρ' => ∀ D : Ends, (∀ v σ' S' H', EO F ρ' σ' S' H' → Rp F.K S' d v → D.rt v H') → G D
  | .retO c ρ' => ∀ D : Ends, (∀ a σ' S' H', EO F ρ' σ' S' H' → OCat F.K S' H' a c → S' a = none → F.H0 a = none → D.rt (.ref a) H') → G D
  | .exc c x ρ' => ∀ D : Ends, ExcS F W c x ρ' → G D
  | .bad => True
/-- THE LIFT of a statement -/
def LS (F : Fx) (W : WX) (t : TS) (τ : DS) : Prop := ∀ (ρ : Env) (σ : L2.St) (S H : Hp), EO F ρ σ S H → SRok F W S (τ ρ) fun D => t D σ H
theorem SRok.imp {F : Fx} {W : WX} {S S1 : Hp} {r : SR} {G G1 : Ends → Prop} (h : SRok F W S1 r G1) (s : Same S S1) (g : ∀ D, G1 D → G D) : SRok F W S r G := by
  cases r with
  | nx ρ => exact fun D k => g D (h D fun σ' S' H' E s' => k σ' S' H' E (s.trans s'))
  | bk ρ => exact fun D k => g D (h D fun σ' S' H' E s' => k σ' S' H' E (s.trans s'))
  | ct ρ => exact fun D k => g D (h D fun σ' S' H' E s' => k σ' S' H' E (s.trans s'))
  | ret d ρ => exact fun D k => g D (h D k)
  | retO d ρ => exact fun D k => g D (h D k)
  | exc c x ρ => exact fun D k => g D (h D k)
  | bad => trivial
section
variable {F : Fx} {W : WX} {t u : TS} {a b : DS} {ta tb te : TE} {τ : DE} {κ : Env → Res Bool} {tc : TT}

theorem SRok.all {ι : Type} {S : Hp} {r : SR} {G : Ends → Prop} (C : ι → Prop) (S1 : ι → Hp) (Gi : ι → Ends → Prop) (hs : ∀ i, C i → Same S (S1 i)) (h : ∀ i, C i → SRok F W (S1 i) r (Gi i)) (g : ∀ D, (∀ i, C i → Gi i D) → G D) : SRok F W S r G := by
  cases r with
  | nx ρ => exact fun D k => g D fun i c => h i c D fun σ' S' H' E s' => k σ' S' H' E ((hs i c).trans s')
  | bk ρ => exact fun D k => g D fun i c => h i c D fun σ' S' H' E s' => k σ' S' H' E ((hs i c).trans s')
  | ct ρ => exact fun D k => g D fun i c => h i c D fun σ' S' H' E s' => k σ' S' H' E ((hs i c).trans s')
  | ret d ρ => exact fun D k => g D fun i c => h i c D k
  | retO d ρ => exact fun D k => g D fun i c => h i c D k
  | exc c x ρ => exact fun D k => g D fun i c => h i c D k
  | bad => trivial
/-- from an expression: its reading t1 with the rest P -/
theorem ls_bind {α β : Type} {R : L2.St → Hp → Hp → α → β → Prop} {t1 : L2.St → Hp → (β → Hp → Prop) → Prop} {τ1 : Env → Res α} {f : α → Env → SR} (h : LG F W R t1 τ1) {T : TS} {P : Ends → L2.St → β → Hp → Prop} (eT : ∀ D σ H, T D σ H = t1 σ H (P D σ))
    (k : ∀ ρ1 σ S1 H1 x v, EO F ρ1 σ S1 H1 → R σ S1 H1 x v → SRok F W S1 (f x ρ1) fun D => P D σ v H1) : LS F W T (fun ρ => (τ1 ρ).bindS f) := by
  intro ρ σ S H E
  have z := h ρ σ S H E
  show SRok F W S ((τ1 ρ).bindS f) fun D => T D σ H
  cases e : τ1 ρ with
  | bad => trivial
  | exc c x ρ' =>
    rw [e] at z
    exact fun D q => by
      show T D σ H
      rw [eT]
      exact z _ (q σ)
  | ok x ρ1 =>
    rw [e] at z
    show SRok F W S (f x ρ1) fun D => T D σ H
    refine SRok.all (ι := β × Hp × Hp) (fun i => EO F ρ1 σ i.2.1 i.2.2 ∧ Same S i.2.1 ∧ R σ i.2.1 i.2.2 x i.1) (fun i => i.2.1) (fun i D => P D σ i.1 i.2.2) (fun i c => c.2.1) (fun i c => k ρ1 σ i.2.1 i.2.2 x i.1 c.1 c.2.2) fun D q => ?_
    rw [eT]
    exact z _ fun v S1 H1 E1 s1 r => q (v, S1, H1) ⟨E1, s1, r⟩

def sSeq (a b : DS) : DS := fun ρ => match a ρ with
  | .nx ρ1 => b ρ1
  | r => r
theorem ls_seq (h1 : LS F W t a) (h2 : LS F W u b) : LS F W (tSeq t u) (sSeq a b) := by
  intro ρ σ S H E
  have z := h1 ρ σ S H E
  unfold sSeq
  cases e : a ρ with
  | nx ρ1 =>
    rw [e] at z
    show SRok F W S (b ρ1) fun D => tSeq t u D σ H
    refine SRok.all (ι := L2.St × Hp × Hp) (fun i => EO F ρ1 i.1 i.2.1 i.2.2 ∧ Same S i.2.1) (fun i => i.2.1) (fun i D => u D i.1 i.2.2) (fun i c => c.2) (fun i c => h2 ρ1 i.1 i.2.1 i.2.2 c.1) fun D q => ?_
    exact z { D with nx := u D } fun σ1 S1 H1 E1 s1 => q (σ1, S1, H1) ⟨E1, s1⟩
  | bad => trivial
  | bk ρ' =>
    rw [e] at z
    exact fun D q => z { D with nx := u D } q
  | ct ρ' =>
    rw [e] at z
    exact fun D q => z { D with nx := u D } q
  | ret d ρ' =>
    rw [e] at z
    exact fun D q => z { D with nx := u D } q
  | retO d ρ' =>
    rw [e] at z
    exact fun D q => z { D with nx := u D } q
  | exc c x ρ' =>
    rw [e] at z
    exact fun D q => z { D with nx := u D } q
def sNext : DS := fun ρ => .nx ρ
theorem ls_next : LS F W tNext sNext := fun ρ σ S H E D q => q σ S H E (Same.refl S)
def sBrk : DS := fun ρ => .bk ρ
theorem ls_brk : LS F W tBreak sBrk := fun ρ σ S H E D q => q σ S H E (Same.refl S)
def sCont : DS := fun ρ => .ct ρ
theorem ls_cont : LS F W tCont sCont := fun ρ σ S H E D q => q σ S H E (Same.refl S)
def sBad : DS := fun _ => .bad
theorem ls_never : LS F W tNever sBad := fun ρ σ S H E => trivial
def sDrop (τ : DE) : DS := fun ρ => (τ ρ).bindS fun _ ρ1 => .nx ρ1
theorem ls_drop (h : LE F W te τ) : LS F W (tDrop te) (sDrop τ) := ls_bind h (fun D σ H => rfl) fun ρ1 σ S1 H1 x v E r D q => q σ S1 H1 E (Same.refl S1)
def sRet (τ : DE) : DS := fun ρ => (τ ρ).bindS fun d ρ1 => .ret d ρ1
theorem ls_ret (h : LE F W te τ) : LS F W (tRet te) (sRet τ) := ls_bind (P := fun D _ => D.rt) h (fun D σ H => rfl) fun ρ1 σ S1 H1 x v E r D q => q v σ S1 H1 E r
def sRetN : DS := fun ρ => .ret .non ρ
theorem ls_retN : LS F W tRetN sRetN := fun ρ σ S H E D q => q .non σ S H E .non
def sIf (c : Env → Res Bool) (a b : DS) : DS := fun ρ => (c ρ).bindS fun x ρ1 => if x = true then a ρ1 else b ρ1
theorem ls_if (hc : LT F W tc κ) (h1 : LS F W t a) (h2 : LS F W u b) : LS F W (tIfS tc t u) (sIf κ a b) := ls_bind (P := fun D σ b H1 => if b = true then t D σ H1 else u D σ H1) hc (fun D σ H => rfl) fun ρ1 σ S1 H1 x v E r => by
  subst r
  cases x with
  | true =>
    show SRok F W S1 (a ρ1) fun D => t D σ H1
    exact h1 ρ1 σ S1 H1 E
  | false =>
    show SRok F W S1 (b ρ1) fun D => u D σ H1
    exact h2 ρ1 σ S1 H1 E
def sAsg (i : Nat) (τ : DE) : DS := fun ρ => (τ ρ).bindS fun d ρ1 => if canSet ρ1 i = true then .nx (ρ1.set i (.val d)) else .bad
theorem ls_asg {i : Nat} (h : LE F W te τ) : LS F W (tAsg te (gName i)) (sAsg i τ) := ls_bind (P := fun D σ v H1 => D.nx (σ.set i (some v)) H1) h (fun D σ H => rfl) fun ρ1 σ S1 H1 x v E r => by
  by_cases hi : canSet ρ1 i = true
  · rw [if_pos hi]
    exact fun D q => q _ S1 H1 (E.setV hi r) (Same.refl S1)
  · rw [if_neg hi]
    trivial
/-- a fresh object, owned by the name -/
def sAsgO (i : Nat) (τ : Env → Res OC) : DS := fun ρ => (τ ρ).bindS fun c ρ1 => if canSet ρ1 i = true then .nx (ρ1.set i (.own false c)) else .bad
theorem ls_asgO {i : Nat} {τ : Env → Res OC} (h : LF F W te τ) : LS F W (tAsg te (gName i)) (sAsgO i τ) := by
  intro ρ σ S H E
  have z := h ρ σ S H E
  unfold sAsgO
  cases e : τ ρ with
  | bad => trivial
  | exc c x ρ' =>
    rw [e] at z
    exact fun D q => z _ (q σ)
  | ok c ρ1 =>
    rw [e] at z
    show SRok F W S (if canSet ρ1 i = true then .nx (ρ1.set i (.own false c)) else .bad) _
    by_cases hi : canSet ρ1 i = true
    · rw [if_pos hi]
      exact fun D q => z (fun x H1 => gName i x σ H1 D.nx) fun a S1 H1 E1 s1 oc n1 n2 n3 => q _ S1 H1 (E1.setO hi oc n1 n2 n3) s1
    · rw [if_neg hi]
      trivial
def sRetO (τ : Env → Res OC) : DS := fun ρ => (τ ρ).bindS fun c ρ1 => .retO c ρ1
theorem ls_retO {τ : Env → Res OC} (h : LF F W te τ) : LS F W (tRet te) (sRetO τ) := by
  intro ρ σ S H E
  have z := h ρ σ S H E
  unfold sRetO
  cases e : τ ρ with
  | bad => trivial
  | exc c x ρ' =>
    rw [e] at z
    exact fun D q => z _ (q σ)
  | ok c ρ1 =>
    rw [e] at z
    exact fun D q => z D.rt fun a S1 H1 E1 s1 oc n1 n2 n3 => q a σ S1 H1 E1 oc n1 n2
/-- a name whose owned object is handed on as fresh -/
def fVar (i : Nat) : Env → Res OC := fun ρ => match ρ[i]? with
  | some (.own false c) => .ok c (ρ.set i .unk)
  | _ => .bad
theorem lf_var {i : Nat} : LF F W (tVar i) (fVar i) := by
  intro ρ σ S H E
  unfold fVar
  cases hs : ρ[i]? with
  | none => trivial
  | some s =>
    cases s with
    | unk => trivial
    | hold => trivial
    | val d => trivial
    | own p c =>
      cases p with
      | true => trivial
      | false =>
        intro Q q
        obtain ⟨a, ha, oc, n1, _, n2⟩ := E.own i false c hs
        have cs : canSet ρ i = true := by unfold canSet; rw [hs]; rfl
        have hl := (List.getElem?_eq_some_iff.mp hs).1
        have E1 : EO F (ρ.set i .unk) (σ.set i (some (.ref a))) S H := E.setU cs
        have e1 : σ.set i (some (V.ref a)) = σ := by
          refine List.ext_getElem? fun j => ?_
          by_cases hj : j = i
          · subst hj
            rw [List.getElem?_set_self (E.len ▸ hl), ha]
          · rw [List.getElem?_set_ne (Ne.symm hj)]
        rw [e1] at E1
        refine ⟨.ref a, ha, q a S H E1 (Same.refl S) oc n1 (n2 rfl) ⟨fun j p d hj hs2 => ?_, fun x hx e => (E.kp x hx).2.2 i false c hs (e ▸ ha)⟩⟩
        by_cases hji : j = i
        · subst hji
          rw [List.getElem?_set_self hl] at hj
          cases hj
        · rw [List.getElem?_set_ne (Ne.symm hji)] at hj
          exact hji (E.dis j i p false d c a hj hs hs2 ha)
/-- x op= e -/
def sAug (f : D → D → Option D) (i : Nat) (τ : DE) : DS := fun ρ => match ρ[i]? with
  | some (.val d) => (τ ρ).bindS fun y ρ1 => match f d y with
    | some z => if canSet ρ1 i = true then .nx (ρ1.set i (.val z)) else .bad
    | none => .bad
  | _ => .bad
theorem ls_aug {i : Nat} {ti : TIp} {f : D → D → Option D} (ho : Op2 F.K ti f) (h : LE F W te τ) : LS F W (tAug i te ti) (sAug f i τ) := by
  intro ρ σ S H E
  unfold sAug
  cases hs : ρ[i]? with
  | none => trivial
  | some s =>
    cases s with
    | unk => trivial
    | hold => trivial
    | own p c => trivial
    | val d =>
      obtain ⟨v, hv, r⟩ := E.val i d hs
      have z := h ρ σ S H E
      show SRok F W S ((τ ρ).bindS _) _
      cases e : τ ρ with
      | bad => trivial
      | exc c x ρ' =>
        rw [e] at z
        exact fun D q => ⟨v, hv, z _ (q σ)⟩
      | ok y ρ1 =>
        rw [e] at z
        show SRok F W S (match f d y with | some z => if canSet ρ1 i = true then .nx (ρ1.set i (.val z)) else .bad | none => .bad) _
        cases ef : f d y with
        | none => trivial
        | some w =>
          show SRok F W S (if canSet ρ1 i = true then .nx (ρ1.set i (.val w)) else .bad) _
          by_cases hi : canSet ρ1 i = true
          · rw [if_pos hi]
            refine fun D q => ⟨v, hv, z _ fun vy S1 H1 E1 s1 ry => ?_⟩
            exact ho S1 H1 d y w v vy E1.sub (.st (r.mono s1)) (.st ry) ef _ fun v2 S2 H2 x2 rv => q _ S2 H2 ((E1.ext x2).setV hi rv) (s1.trans x2.s)
          · rw [if_neg hi]
            trivial

/-! ### owned lists changed -/
def slotL (ρ : Env) (i : Nat) : Option (Bool × List D) := match ρ[i]? with
  | some (.own p (.l ds)) => some (p, ds)
  | _ => none
theorem slotL_eq {ρ : Env} {i : Nat} {p : Bool} {ds : List D} (h : slotL ρ i = some (p, ds)) : ρ[i]? = some (.own p (.l ds)) := by
  unfold slotL at h
  split at h
  · rename_i e
    cases h
    exact e
  · cases h
theorem EO.list {ρ : Env} {σ : L2.St} {S H : Hp} (E : EO F ρ σ S H) {i : Nat} {p : Bool} {ds : List D} (h : slotL ρ i = some (p, ds)) : ∃ a vs, σ[i]? = some (some (.ref a)) ∧ H a = some (.lst vs) ∧ RpL F.K S ds vs ∧
    ∀ es ws, RpL F.K S es ws → EO F (ρ.set i (.own p (.l es))) σ S (upd H a (.lst ws)) := by
  have hs := slotL_eq h
  obtain ⟨a, ha, ⟨vs, hv, r⟩, n1, _⟩ := E.own i p _ hs
  exact ⟨a, vs, ha, hv, r, fun es ws r2 => E.mut hs ha ⟨ws, upd_same, r2⟩⟩
/-- x.append(e) -/
def sApp (i : Nat) (τ : DE) : DS := fun ρ => (τ ρ).bindS fun d ρ1 => match slotL ρ1 i with
  | some (p, ds) => if ds.length < MX then .nx (ρ1.set i (.own p (.l (ds ++ [d])))) else .bad
  | none => .bad
theorem rp_one {K : PySem.W.Frag} {S : Hp} {d : D} {v : V} (r : Rp K S d v) : RpL K S [d] [v] := .cons r .nil
def isOwn (ρ : Env) (i : Nat) : Bool := match ρ[i]? with
  | some (.own _ (.l _)) => true
  | _ => false
theorem ls_app {i : Nat} (h : LE F W te τ) : LS F W (tDrop (tBM F.K "list" rAppend (tVar i) (tCons te tNil))) (fun ρ => if isOwn ρ i = true then sApp i τ ρ else .bad) := by
  intro ρ σ S H E
  by_cases ho : isOwn ρ i = true
  · show SRok F W S (if isOwn ρ i = true then sApp i τ ρ else .bad) _
    rw [if_pos ho]
    obtain ⟨p0, ds0, h0⟩ : ∃ p ds, slotL ρ i = some (p, ds) := by
      unfold isOwn at ho
      unfold slotL
      split at ho
      · rename_i p ds e
        exact ⟨p, ds, rfl⟩
      · cases ho
    obtain ⟨a0, vs0, ha0, hv0, _, _⟩ := E.list h0
    have ty0 : tyV F.K "list" (.ref a0) H := Or.inl ⟨rfl, _, Or.inl (Or.inl hv0)⟩
    have z := h ρ σ S H E
    unfold sApp
    cases e : τ ρ with
    | bad => trivial
    | exc c x ρ' =>
      rw [e] at z
      exact fun D q => ⟨.ref a0, ha0, ty0, z _ (q σ)⟩
    | ok d ρ1 =>
      rw [e] at z
      show SRok F W S (match slotL ρ1 i with | some (p, ds) => if ds.length < MX then .nx (ρ1.set i (.own p (.l (ds ++ [d])))) else .bad | none => .bad) _
      cases hs : slotL ρ1 i with
      | none => trivial
      | some x =>
        obtain ⟨p, ds⟩ := x
        show SRok F W S (if ds.length < MX then .nx (ρ1.set i (.own p (.l (ds ++ [d])))) else .bad) _
        by_cases hz : ds.length < MX
        · rw [if_pos hz]
          refine fun D q => ⟨.ref a0, ha0, ty0, z _ fun v S1 H1 E1 s1 r => ?_⟩
          obtain ⟨a, vs, ha, hv, rs, k⟩ := E1.list hs
          rw [ha0] at ha
          cases ha
          exact ⟨a0, vs, v, rfl, rfl, hv, size_lt (by rw [← rs.length]; exact Nat.le_of_lt hz), q σ S1 _ (k _ _ (rs.append (rp_one r))) s1⟩
        · rw [if_neg hz]
          trivial
  · show SRok F W S (if isOwn ρ i = true then sApp i τ ρ else .bad) _
    rw [if_neg ho]
    trivial
/-- x.reverse() -/
def sRev (i : Nat) : DS := fun ρ => match slotL ρ i with
  | some (p, ds) => .nx (ρ.set i (.own p (.l ds.reverse)))
  | none => .bad
theorem ls_rev {i : Nat} : LS F W (tDrop (tBM0 F.K "list" rReverse (tVar i))) (sRev i) := by
  intro ρ σ S H E
  unfold sRev
  cases hs : slotL ρ i with
  | none => trivial
  | some x =>
    obtain ⟨p, ds⟩ := x
    obtain ⟨a, vs, ha, hv, rs, k⟩ := E.list hs
    exact fun D q => ⟨.ref a, ha, Or.inl ⟨rfl, _, Or.inl (Or.inl hv)⟩, a, vs, rfl, rfl, hv, q σ S _ (k _ _ rs.reverse) (Same.refl S)⟩
/-- x.pop() -/
def dPop (i : Nat) : DE := fun ρ => match slotL ρ i with
  | some (p, ds) => match ds[ds.length - 1]? with
    | some d => .ok d (ρ.set i (.own p (.l ds.dropLast)))
    | none => .bad
  | none => .bad
theorem le_pop {i : Nat} : LE F W (tBM0 F.K "list" rPop (tVar i)) (dPop i) := by
  refine LG.of (fun ρ ρ' σ S H d E e Q q => ?_) (fun ρ ρ' σ S H c x E e Q q => ?_)
  · unfold dPop at e
    cases hs : slotL ρ i with
    | none => rw [hs] at e; cases e
    | some x =>
      obtain ⟨p, ds⟩ := x
      rw [hs] at e
      obtain ⟨a, vs, ha, hv, rs, k⟩ := E.list hs
      simp only at e
      cases hd : ds[ds.length - 1]? with
      | none => rw [hd] at e; cases e
      | some d =>
        rw [hd] at e
        cases e
        obtain ⟨v, hv2, r⟩ := rs.get hd
        rw [rs.length] at hv2
        exact ⟨.ref a, ha, Or.inl ⟨rfl, _, Or.inl (Or.inl hv)⟩, a, vs, v, rfl, rfl, hv, hv2, q v S _ (k _ _ rs.dropLast) (Same.refl S) r⟩
  · unfold dPop at e
    cases hs : slotL ρ i with
    | none => rw [hs] at e; cases e
    | some y =>
      obtain ⟨p, ds⟩ := y
      rw [hs] at e
      simp only at e
      cases hd : ds[ds.length - 1]? with
      | none => rw [hd] at e; cases e
      | some d => rw [hd] at e; cases e
/-- x[i] = e -/
def setAt (i : Nat) (d j : D) (ρ : Env) : SR := match j with
  | .int n => match slotL ρ i with
    | some (p, ds) => match ixN ds.length n with
      | some k => .nx (ρ.set i (.own p (.l (ds.set k d))))
      | none => .bad
    | none => .bad
  | _ => .bad
def sSetL (i : Nat) (τi τ : DE) : DS := fun ρ => (τ ρ).bindS fun d ρ1 => if isOwn ρ1 i = true then (τi ρ1).bindS (setAt i d) else .bad
theorem isOwn_some {ρ : Env} {i : Nat} (ho : isOwn ρ i = true) : ∃ p ds, slotL ρ i = some (p, ds) := by
  unfold isOwn at ho
  unfold slotL
  split at ho
  · rename_i p ds e
    exact ⟨p, ds, rfl⟩
  · cases ho
theorem ls_setL {i : Nat} {τi : DE} {ti : TE} (hi : LE F W ti τi) (h : LE F W te τ) : LS F W (tAsg te (gSub (tVar i) ti rSetL)) (sSetL i τi τ) := by
  refine ls_bind (P := fun D σ v H1 => gSub (tVar i) ti rSetL v σ H1 D.nx) h (fun D σ H => rfl) fun ρ1 σ S1 H1 d v E r => ?_
  by_cases ho : isOwn ρ1 i = true
  · rw [if_pos ho]
    obtain ⟨p0, ds0, h0⟩ := isOwn_some ho
    obtain ⟨a0, vs0, ha0, hv0, _, _⟩ := E.list h0
    have z := hi ρ1 σ S1 H1 E
    cases e : τi ρ1 with
    | bad => trivial
    | exc c x ρ' =>
      rw [e] at z
      exact fun D q => ⟨.ref a0, ha0, z _ (q σ)⟩
    | ok j ρ2 =>
      rw [e] at z
      show SRok F W S1 (setAt i d j ρ2) _
      unfold setAt
      cases j with
      | int n =>
        simp only
        cases hs : slotL ρ2 i with
        | none => trivial
        | some x =>
          obtain ⟨p, ds⟩ := x
          simp only
          cases hk : ixN ds.length n with
          | none => trivial
          | some k =>
            refine fun D q => ⟨.ref a0, ha0, z _ fun vj S2 H2 E2 s2 rj => ?_⟩
            cases rj
            obtain ⟨a, vs, ha, hv, rs, kk⟩ := E2.list hs
            rw [ha0] at ha
            cases ha
            rw [rs.length] at hk
            exact ⟨a0, vs, n, k, rfl, rfl, hv, hk, q σ S2 _ (kk _ _ (rs.set (r.mono s2) k)) s2⟩
      | _ => trivial
  · rw [if_neg ho]
    trivial

/-! ### targets -/
inductive Tgt where
  | n (i : Nat) | t (ts : List Tgt)
mutual
def Tgt.nm : Tgt → List Nat
  | .n i => [i]
  | .t ts => Tgt.nms ts
def Tgt.nms : List Tgt → List Nat
  | [] => []
  | t :: ts => Tgt.nm t ++ Tgt.nms ts
end
/-- σ and σ' differ at is only -/
def Off (is : List Nat) (σ σ' : L2.St) : Prop := σ'.length = σ.length ∧ ∀ i, i ∉ is → σ'[i]? = σ[i]?
theorem Off.refl (is : List Nat) (σ : L2.St) : Off is σ σ := ⟨rfl, fun _ _ => rfl⟩
theorem Off.set {i : Nat} {o : Option V} (σ : L2.St) : Off [i] σ (σ.set i o) := ⟨by simp, fun j hj => by
  have : i ≠ j := fun e => hj (by simp [e])
  rw [List.getElem?_set_ne this]⟩
theorem Off.append {a b : List Nat} {σ σ1 σ2 : L2.St} (h : Off a σ σ1) (k : Off b σ1 σ2) : Off (a ++ b) σ σ2 := ⟨k.1.trans h.1, fun i hi => by
  rw [List.mem_append] at hi
  rw [k.2 i fun z => hi (.inr z), h.2 i fun z => hi (.inl z)]⟩
mutual
def tgSet : Tgt → D → Env → Option Env
  | .n i, d, ρ => if canSet ρ i = true then some (ρ.set i (.val d)) else none
  | .t ts, d, ρ => match d with
    | .sq _ ds => if ds.length = ts.length then tgSets ts ds ρ else none
    | _ => none
def tgSets : List Tgt → List D → Env → Option Env
  | [], [], ρ => some ρ
  | t :: ts, d :: ds, ρ => match tgSet t d ρ with
    | some ρ1 => tgSets ts ds ρ1
    | none => none
  | _, _, _ => none
end
/-- a target's lift -/
def LTg (F : Fx) (g : TG) (t : Tgt) : Prop := ∀ (ρ ρ' : Env) (σ : L2.St) (S H : Hp) (d : D) (v : V), EO F ρ σ S H → Rp F.K S d v → tgSet t d ρ = some ρ' → ∀ Q : L2.St → Hp → Prop, (∀ σ', EO F ρ' σ' S H → Off t.nm σ σ' → Q σ' H) → g v σ H Q
def LTgs (F : Fx) (g : TGs) (t : List Tgt) : Prop := ∀ (ρ ρ' : Env) (σ : L2.St) (S H : Hp) (d : List D) (v : List V), EO F ρ σ S H → RpL F.K S d v → tgSets t d ρ = some ρ' → ∀ Q : L2.St → Hp → Prop, (∀ σ', EO F ρ' σ' S H → Off (Tgt.nms t) σ σ' → Q σ' H) → g v σ H Q
theorem tg_name {i : Nat} : LTg F (gName i) (.n i) := fun ρ ρ' σ S H d v E r e Q q => by
  rw [tgSet] at e
  split at e
  · rename_i hi
    cases e
    exact q _ (E.setV hi r) (by rw [Tgt.nm]; exact Off.set σ)
  · cases e
theorem tgSets_nil {ρ : Env} : tgSets [] [] ρ = some ρ := by simp [tgSets]
theorem tgSets_nc {d : D} {ds : List D} {ρ : Env} : tgSets [] (d :: ds) ρ = none := by simp [tgSets]
theorem tgSets_cn {t : Tgt} {ts : List Tgt} {ρ : Env} : tgSets (t :: ts) [] ρ = none := by simp [tgSets]
theorem tgSets_cc {t : Tgt} {ts : List Tgt} {d : D} {ds : List D} {ρ : Env} : tgSets (t :: ts) (d :: ds) ρ = (match tgSet t d ρ with | some ρ1 => tgSets ts ds ρ1 | none => none) := by simp [tgSets]
theorem tgs_nil : LTgs F gNil [] := fun ρ ρ' σ S H d v E r e Q q => by
  cases r with
  | nil =>
    rw [tgSets_nil] at e
    cases e
    exact ⟨rfl, q σ E (Off.refl _ σ)⟩
  | cons => rw [tgSets_nc] at e; cases e
theorem tgs_cons {g : TG} {gs : TGs} {t : Tgt} {ts : List Tgt} (h : LTg F g t) (hs : LTgs F gs ts) : LTgs F (gCons g gs) (t :: ts) := fun ρ ρ' σ S H d v E r e Q q => by
  cases r with
  | nil => rw [tgSets_cn] at e; cases e
  | @cons d v ds vs r rs =>
    rw [tgSets_cc] at e
    cases e1 : tgSet t d ρ with
    | none => rw [e1] at e; cases e
    | some ρ1 =>
      rw [e1] at e
      exact ⟨v, vs, rfl, h ρ ρ1 σ S H d v E r e1 _ fun σ1 E1 o1 => hs ρ1 ρ' σ1 S H ds vs E1 rs e Q fun σ2 E2 o2 => q σ2 E2 (by rw [Tgt.nms]; exact o1.append o2)⟩
/-- a, b, .. = a tuple or a list -/
def gSeq (K : PySem.W.Frag) (n : Nat) (t : TGs) : TG := fun v σ H Q => gTup K n t v σ H Q ∨ gLst K n t v σ H Q
theorem pg_seq {X : Cx} {es : List Expr} {k : Nat} {t : TGs} {n : Nat} {pos : Pos} (hc : X.calm = true) (h : PGs X es t)
    (hn : (assignEach es X.env).length = n := by rfl) (hst : (assignEach es X.env).findIdx? (·.1) = none := by rfl) : PG X (.Tuple es k pos) (gSeq X.K n t) := by
  refine ⟨fun pins s σ H v u Q I r hw => ?_⟩
  rcases hw with hw | hw
  · exact (pg_tup hc h hn hst).run pins s σ H v u Q I r hw
  · exact (pg_lst hc h hn hst).run pins s σ H v u Q I r hw
theorem tgSet_sq {ts : List Tgt} {l : Bool} {ds : List D} {ρ : Env} : tgSet (.t ts) (.sq l ds) ρ = if ds.length = ts.length then tgSets ts ds ρ else none := by simp [tgSet]
theorem tg_seq {gs : TGs} {ts : List Tgt} {n : Nat} (hn : ts.length = n) (hs : LTgs F gs ts) : LTg F (gSeq F.K n gs) (.t ts) := fun ρ ρ' σ S H d v E r e Q q => by
  cases r with
  | sqL h r =>
    rw [tgSet_sq] at e
    split at e
    · rename_i hl
      exact .inr ⟨_, _, rfl, SqL.of (E.sub _ _ h), by rw [← r.length, hl, hn], hs ρ ρ' σ S H _ _ E r e Q fun σ2 E2 o2 => q σ2 E2 (by rw [Tgt.nm]; exact o2)⟩
    · cases e
  | sqT h r =>
    rw [tgSet_sq] at e
    split at e
    · rename_i hl
      exact .inl ⟨_, _, rfl, same_t E.sub h, by rw [← r.length, hl, hn], hs ρ ρ' σ S H _ _ E r e Q fun σ2 E2 o2 => q σ2 E2 (by rw [Tgt.nm]; exact o2)⟩
    · cases e
  | non => simp [tgSet] at e
  | bl => simp [tgSet] at e
  | int => simp [tgSet] at e
  | str => simp [tgSet] at e
  | dk => simp [tgSet] at e
  | dt => simp [tgSet] at e
  | ob => simp [tgSet] at e
  | fz => simp [tgSet] at e
/-- target = e -/
def sTg (t : Tgt) (τ : DE) : DS := fun ρ => (τ ρ).bindS fun d ρ1 => match tgSet t d ρ1 with
  | some ρ2 => .nx ρ2
  | none => .bad
theorem ls_tg {g : TG} {tg : Tgt} (hg : LTg F g tg) (h : LE F W te τ) : LS F W (tAsg te g) (sTg tg τ) := ls_bind (P := fun D σ v H1 => g v σ H1 D.nx) h (fun D σ H => rfl) fun ρ1 σ S1 H1 d v E r => by
  cases e : tgSet tg d ρ1 with
  | none => trivial
  | some ρ2 => exact fun D q => hg ρ1 ρ2 σ S1 H1 d v E r e _ fun σ' E' _ => q σ' S1 H1 E' (Same.refl S1)
/-- a, b = e1, e2 (plain names) -/
def sPar (i j : Nat) (τs : Env → Res (List D)) : DS := fun ρ => (τs ρ).bindS fun ds ρ1 => match ds with
  | [a, b] => if canSet ρ1 i = true then (if canSet (ρ1.set i (.val a)) j = true then .nx ((ρ1.set i (.val a)).set j (.val b)) else .bad) else .bad
  | _ => .bad
theorem ls_par {i j : Nat} {tas : TA} {τs : Env → Res (List D)} (h : LA F W tas τs) : LS F W (tPar i j tas) (sPar i j τs) := ls_bind (P := fun D σ vs H1 => ∃ v w, vs = [v, w] ∧ D.nx ((σ.set i (some v)).set j (some w)) H1) h (fun D σ H => rfl) fun ρ1 σ S1 H1 ds vs E r => by
  match ds, vs, r with
  | [], _, _ => trivial
  | [_], _, _ => trivial
  | _ :: _ :: _ :: _, _, _ => trivial
  | [a, b], _, .cons (v := v) ra (.cons (v := w) rb .nil) =>
    show SRok F W S1 (if canSet ρ1 i = true then (if canSet (ρ1.set i (.val a)) j = true then .nx ((ρ1.set i (.val a)).set j (.val b)) else .bad) else .bad) _
    by_cases hi : canSet ρ1 i = true
    · rw [if_pos hi]
      by_cases hj : canSet (ρ1.set i (.val a)) j = true
      · rw [if_pos hj]
        exact fun D q => ⟨v, w, rfl, q _ S1 H1 ((E.setV hi ra).setV hj rb) (Same.refl S1)⟩
      · rw [if_neg hj]
        trivial
    · rw [if_neg hi]
      trivial
end
end Pd

/-! Pd5: what is walked; loops; comprehensions. -/
namespace Pd
open PySem L2 PyProof.Rows PySem.Spec RT RZ

/-- J walks the pure items ds -/
def Wk (K : PySem.W.Frag) (S1 : Hp) (J : It) (ds : List D) : Prop := ∀ S H, Same S1 S → Same S H → ∀ i, (ds.length ≤ i → J.stop i H) ∧
  ∀ d, ds[i]? = some d → J.go i H ∧ ∀ x H', J.yld i H x H' → ∃ S', Ext S H S' H' ∧ Rp K S' d x
abbrev LI (F : Fx) (W : WX) (wi : TI) (τ : Env → Res (List D)) : Prop := LG F W (fun _ S _ ds J => Wk F.K S J ds) wi τ

section
variable {K : PySem.W.Frag} {S1 : Hp}
theorem SqT.one {K : PySem.W.Frag} {H : Hp} {a : Addr} {xs ys : List V} (h : SqT K H a xs) (k : SqT K H a ys) (q : ∀ xs ys, SqT K H a xs → SqT K H a ys → xs = ys) : xs = ys := q _ _ h k
theorem wk_list {a : Addr} {vs : List V} {ds : List D} (h : S1 a = some (.lst vs)) (r : RpL K S1 ds vs) : Wk K S1 (Itl K a) ds := by
  intro S H s1 s2 i
  have hl : SqL K H a vs := SqL.of (s2 _ _ (s1 _ _ h))
  refine ⟨fun hi => ⟨vs, hl, by rw [← r.length]; exact hi⟩, fun d hd => ?_⟩
  obtain ⟨v, hv, rv⟩ := r.get hd
  refine ⟨⟨vs, v, hl, hv⟩, fun x H' y => ?_⟩
  obtain ⟨rfl, y⟩ := y
  have := y vs hl
  rw [hv] at this
  cases this
  exact ⟨S, Ext.refl s2, rv.mono s1⟩
theorem wk_tup {a : Addr} {vs : List V} {ds : List D} (h : SqT K S1 a vs) (r : RpL K S1 ds vs) : Wk K S1 (Itt K a) ds := by
  intro S H s1 s2 i
  have hl : SqT K H a vs := same_t s2 (same_t s1 h)
  refine ⟨fun hi => ⟨vs, hl, by rw [← r.length]; exact hi⟩, fun d hd => ?_⟩
  obtain ⟨v, hv, rv⟩ := r.get hd
  refine ⟨⟨vs, v, hl, hv⟩, fun x H' y => ?_⟩
  obtain ⟨rfl, y⟩ := y
  have := y vs hl
  rw [hv] at this
  cases this
  exact ⟨S, Ext.refl s2, rv.mono s1⟩
theorem wk_rev {a : Addr} {vs : List V} {ds : List D} (h : S1 a = some (.lst vs)) (r : RpL K S1 ds vs) : Wk K S1 (Itv K a vs.length) ds.reverse := by
  intro S H s1 s2 i
  have hl : SqL K H a vs := SqL.of (s2 _ _ (s1 _ _ h))
  have hn := r.length
  refine ⟨fun hi => (by rw [← hn, ← List.length_reverse]; exact hi : vs.length ≤ i), fun d hd => ?_⟩
  have hi : i < ds.length := by have := (List.getElem?_eq_some_iff.mp hd).1; simpa using this
  rw [List.getElem?_reverse hi, hn] at hd
  obtain ⟨v, hv, rv⟩ := r.get hd
  refine ⟨⟨hn ▸ hi, vs, v, hl, hv⟩, fun x H' y => ?_⟩
  obtain ⟨rfl, y⟩ := y
  have := y vs hl
  rw [hv] at this
  cases this
  exact ⟨S, Ext.refl s2, rv.mono s1⟩
theorem wk_revT {a : Addr} {vs : List V} {ds : List D} (h : SqT K S1 a vs) (r : RpL K S1 ds vs) : Wk K S1 (ItvT K a vs.length) ds.reverse := by
  intro S H s1 s2 i
  have hl : SqT K H a vs := same_t s2 (same_t s1 h)
  have hn := r.length
  refine ⟨fun hi => (by rw [← hn, ← List.length_reverse]; exact hi : vs.length ≤ i), fun d hd => ?_⟩
  have hi : i < ds.length := by have := (List.getElem?_eq_some_iff.mp hd).1; simpa using this
  rw [List.getElem?_reverse hi, hn] at hd
  obtain ⟨v, hv, rv⟩ := r.get hd
  refine ⟨⟨hn ▸ hi, vs, v, hl, hv⟩, fun x H' y => ?_⟩
  obtain ⟨rfl, y⟩ := y
  have := y vs hl
  rw [hv] at this
  cases this
  exact ⟨S, Ext.refl s2, rv.mono s1⟩
def strD (x : Str) : List D := x.cps.toList.map fun c => .str ⟨#[c]⟩
theorem wk_str {x : Str} : Wk K S1 (Its x) (strD x) := by
  intro S H s1 s2 i
  refine ⟨fun hi => (by simpa [strD] using hi : x.cps.size ≤ i), fun d hd => ?_⟩
  unfold strD at hd
  rw [List.getElem?_map, Array.getElem?_toList] at hd
  cases hc : x.cps[i]? with
  | none => rw [hc] at hd; cases hd
  | some c =>
    rw [hc] at hd
    cases hd
    refine ⟨(Array.getElem?_eq_some_iff.mp hc).1, fun v H' y => ?_⟩
    obtain ⟨rfl, c', hc', rfl⟩ := y
    rw [hc] at hc'
    cases hc'
    exact ⟨S, Ext.refl s2, .str _⟩
/-- lo, lo + c, .. -/
def rngD (lo c : Int) (n : Nat) : List D := (List.range n).map fun (i : Nat) => .int (lo + i * c)
theorem wk_range {lo c : Int} {n : Nat} : Wk K S1 (Itc lo c n) (rngD lo c n) := by
  intro S H s1 s2 i
  refine ⟨fun hi => (by simpa [rngD] using hi : n ≤ i), fun d hd => ?_⟩
  unfold rngD at hd
  rw [List.getElem?_map] at hd
  by_cases hi : i < n
  · rw [List.getElem?_range hi] at hd
    cases hd
    refine ⟨hi, fun v H' y => ?_⟩
    obtain ⟨rfl, rfl⟩ := y
    exact ⟨S, Ext.refl s2, .int _⟩
  · rw [List.getElem?_eq_none (by simpa using hi)] at hd
    cases hd
theorem wk_range1 {lo : Int} {n : Nat} : Wk K S1 (Itr lo n) (rngD lo 1 n) := by
  intro S H s1 s2 i
  refine ⟨fun hi => (by simpa [rngD] using hi : n ≤ i), fun d hd => ?_⟩
  unfold rngD at hd
  rw [List.getElem?_map] at hd
  by_cases hi : i < n
  · rw [List.getElem?_range hi] at hd
    cases hd
    refine ⟨hi, fun v H' y => ?_⟩
    obtain ⟨rfl, rfl⟩ := y
    exact ⟨S, Ext.refl s2, by show Rp K S (.int (lo + (i : Int) * 1)) (.int (lo + i)); rw [Int.mul_one]; exact .int _⟩
  · rw [List.getElem?_eq_none (by simpa using hi)] at hd
    cases hd
def enumD : Nat → List D → List D
  | _, [] => []
  | i, d :: ds => .sq false [.int i, d] :: enumD (i + 1) ds
theorem enumD_get : ∀ {ds : List D} {i k : Nat}, (enumD k ds)[i]? = ds[i]?.map fun d => .sq false [.int ((k + i : Nat) : Int), d]
  | [], _, _ => rfl
  | d :: ds, 0, k => rfl
  | d :: ds, i + 1, k => by
    show (enumD (k + 1) ds)[i]? = _
    rw [enumD_get, show k + 1 + i = k + (i + 1) from by omega]
    rfl
theorem enumD_length : ∀ (ds : List D) (k : Nat), (enumD k ds).length = ds.length
  | [], _ => rfl
  | d :: ds, k => congrArg (· + 1) (enumD_length ds (k + 1))
theorem wk_enum {a : Addr} {vs : List V} {ds : List D} (h : S1 a = some (.lst vs)) (r : RpL K S1 ds vs) : Wk K S1 (Ite K a) (enumD 0 ds) := by
  intro S H s1 s2 i
  have hl : SqL K H a vs := SqL.of (s2 _ _ (s1 _ _ h))
  refine ⟨fun hi => ⟨vs, hl, by rw [← r.length, ← enumD_length ds 0]; exact hi⟩, fun d hd => ?_⟩
  rw [enumD_get] at hd
  cases hd0 : ds[i]? with
  | none => rw [hd0] at hd; cases hd
  | some e =>
    rw [hd0] at hd
    cases hd
    obtain ⟨v, hv, rv⟩ := r.get hd0
    refine ⟨⟨vs, v, hl, hv⟩, fun x H' y => ?_⟩
    obtain ⟨T, z, rfl, hT, rfl, y⟩ := y
    have := y vs hl
    rw [hv] at this
    cases this
    have hs := s2.free hT
    refine ⟨_, Ext.laid s2 hT, .sqT (.inl (.inl upd_same)) ?_⟩
    exact .cons (by rw [Nat.zero_add]; exact .int _) (.cons (rv.mono (s1.trans (same_new hs))) .nil)
def zipD : List D → List D → List D
  | a :: as, b :: bs => .sq false [a, b] :: zipD as bs
  | _, _ => []
theorem zipD_get : ∀ {as bs : List D} {i : Nat}, (zipD as bs)[i]? = match as[i]?, bs[i]? with | some a, some b => some (.sq false [a, b]) | _, _ => none
  | [], bs, i => by simp [zipD]
  | a :: as, [], i => by
    rw [zipD]
    simp only [List.getElem?_nil]
    split <;> simp_all
    simp
  | a :: as, b :: bs, 0 => rfl
  | a :: as, b :: bs, i + 1 => by
    show (zipD as bs)[i]? = _
    rw [zipD_get]
    rfl
theorem zipD_len : ∀ (as bs : List D), (zipD as bs).length = min as.length bs.length
  | [], bs => by simp [zipD]
  | a :: as, [] => by simp [zipD]
  | a :: as, b :: bs => by
    show (zipD as bs).length + 1 = _
    rw [zipD_len]
    simp only [List.length_cons]
    omega
theorem zip_step {S H H' : Hp} {as bs : List D} {vs ws : List V} {i : Nat} {d : D} (ra : RpL K S1 as vs) (rb : RpL K S1 bs ws) (s1 : Same S1 S) (s2 : Same S H) (hd : (zipD as bs)[i]? = some d) :
    ∃ x y, vs[i]? = some x ∧ ws[i]? = some y ∧ ∀ T H', H T = none → H' = upd H T (.tup [x, y]) → ∃ S', Ext S H S' H' ∧ Rp K S' d (.ref T) := by
  rw [zipD_get] at hd
  cases ha : as[i]? with
  | none => rw [ha] at hd; cases hd
  | some a =>
    cases hb : bs[i]? with
    | none => rw [ha, hb] at hd; cases hd
    | some b =>
      rw [ha, hb] at hd
      cases hd
      obtain ⟨x, hx, rx⟩ := ra.get ha
      obtain ⟨y, hy, ry⟩ := rb.get hb
      refine ⟨x, y, hx, hy, fun T H' hT e => ?_⟩
      subst e
      have hs := s2.free hT
      exact ⟨_, Ext.laid s2 hT, .sqT (.inl (.inl upd_same)) (.cons (rx.mono (s1.trans (same_new hs))) (.cons (ry.mono (s1.trans (same_new hs))) .nil))⟩
theorem wk_zip {a b : Addr} {vs ws : List V} {as bs : List D} (h : S1 a = some (.lst vs)) (r : RpL K S1 as vs) (h2 : S1 b = some (.lst ws)) (r2 : RpL K S1 bs ws) : Wk K S1 (Itz K a b) (zipD as bs) := by
  intro S H s1 s2 i
  have hl : SqL K H a vs := SqL.of (s2 _ _ (s1 _ _ h))
  have hl2 : SqL K H b ws := SqL.of (s2 _ _ (s1 _ _ h2))
  refine ⟨fun hi => ⟨vs, ws, hl, hl2, ?_⟩, fun d hd => ?_⟩
  · rw [zipD_len, r.length, r2.length] at hi
    omega
  · obtain ⟨x, y, hx, hy, k⟩ := zip_step (H' := H) r r2 s1 s2 hd
    refine ⟨⟨vs, ws, x, y, hl, hl2, hx, hy⟩, fun v H' yy => ?_⟩
    obtain ⟨T, x', y', rfl, hT, e, q1, q2⟩ := yy
    have z1 := q1 vs hl
    have z2 := q2 ws hl2
    rw [hx] at z1
    rw [hy] at z2
    cases z1
    cases z2
    exact k T H' hT e
theorem wk_zipT {a b : Addr} {vs ws : List V} {as bs : List D} (h : SqT K S1 a vs) (r : RpL K S1 as vs) (h2 : SqT K S1 b ws) (r2 : RpL K S1 bs ws) : Wk K S1 (ItzT K a b) (zipD as bs) := by
  intro S H s1 s2 i
  have hl : SqT K H a vs := same_t s2 (same_t s1 h)
  have hl2 : SqT K H b ws := same_t s2 (same_t s1 h2)
  refine ⟨fun hi => ⟨vs, ws, hl, hl2, ?_⟩, fun d hd => ?_⟩
  · rw [zipD_len, r.length, r2.length] at hi
    omega
  · obtain ⟨x, y, hx, hy, k⟩ := zip_step (H' := H) r r2 s1 s2 hd
    refine ⟨⟨vs, ws, x, y, hl, hl2, hx, hy⟩, fun v H' yy => ?_⟩
    obtain ⟨T, x', y', rfl, hT, e, q1, q2⟩ := yy
    have z1 := q1 vs hl
    have z2 := q2 ws hl2
    rw [hx] at z1
    rw [hy] at z2
    cases z1
    cases z2
    exact k T H' hT e
end

/-! ### the forms -/
section
variable {X : Cx} {tg e : Expr} {te : TE}
/-- for x in e: a list, a tuple, a text -/
def iSeq (K : PySem.W.Frag) (te : TE) : TI := fun σ H R => te σ H fun x H1 => (∃ a, x = .ref a ∧ (∃ xs, SqL K H1 a xs) ∧ R (Itl K a) H1) ∨ (∃ a, x = .ref a ∧ (∃ xs, SqT K H1 a xs) ∧ R (Itt K a) H1) ∨ ∃ t, x = .str t ∧ R (Its t) H1
theorem pi_seq (he : PE X e te) : PI X tg e (iSeq X.K te) := by
  refine ⟨fun pins s σ H R I h => ?_⟩
  refine thn (he.run pins s σ H _ I h) fun w s1 hx => ?_
  obtain ⟨x, H1, I1, rx, q⟩ := hx
  rcases q with ⟨a, ex, ⟨xs, hq⟩, q⟩ | ⟨a, ex, ⟨xs, hq⟩, q⟩ | ⟨t, ex, q⟩
  · subst ex
    obtain rfl : w = Value.ref a := rx
    obtain ⟨ys, ry, pl, _⟩ := I1.list hq
    exact wpAny_pyIter_list pl.isList (pi_one (tk := s1.toks) I1 _ (turn_list a _) ⟨_, Heap.get?_push_size _ rfl, rfl, rfl⟩ q)
  · subst ex
    obtain rfl : w = Value.ref a := rx
    obtain ⟨ys, ry, pt, _⟩ := I1.tuple hq
    exact wpAny_pyIter_tuple (show s1.heap.IsTuple a ys.toArray from pt) (pi_one (tk := s1.toks) I1 _ (turn_tuple a _) ⟨_, Heap.get?_push_size _ rfl, rfl, rfl⟩ q)
  · subst ex
    obtain ⟨tk, rfl⟩ := rx
    by_cases hz : t.cps.all (· < 128) = true
    · exact wpAny_pyIter_ascii hz (pi_one (tk := s1.toks) I1 _ (turn_str _ t tk "str_ascii_iterator" (.inl rfl)) ⟨_, Heap.get?_push_size _ rfl, rfl, rfl⟩ q)
    · exact wpAny_pyIter_wide (Bool.eq_false_iff.mpr hz) (pi_one (tk := s1.toks) I1 _ (turn_str _ t tk "str_iterator" (.inr rfl)) ⟨_, Heap.get?_push_size _ rfl, rfl, rfl⟩ q)
end

section
variable {F : Fx} {W : WX} {te tb : TE} {tas : TA} {τ τ' : DE} {τs : Env → Res (List D)}
def seqD : D → Option (List D)
  | .sq _ ds => some ds
  | .str x => some (strD x)
  | _ => none
def iD (τ : DE) : Env → Res (List D) := fun ρ => (τ ρ).bind fun d ρ1 => ofO (seqD d) ρ1
/-- the shape of all the lifts here -/
theorem li_of {t : L2.St → Hp → VK → Prop} {wi : TI} {f : D → Option (List D)} {P : V → Hp → (It → Hp → Prop) → Prop} (he : LE F W t τ) (eW : ∀ σ H R, wi σ H R = t σ H fun x H1 => P x H1 R)
    (k : ∀ S H d v ds R, Same S H → Rp F.K S d v → f d = some ds → (∀ J, Wk F.K S J ds → R J H) → P v H R) : LI F W wi (fun ρ => (τ ρ).bind fun d ρ1 => ofO (f d) ρ1) := by
  refine LG.of (fun ρ ρ' σ S H ds E e Q q => ?_) (fun ρ ρ' σ S H c x E e Q q => ?_)
  · obtain ⟨d, ρ1, e1, e⟩ := Res.bind_ok e
    obtain ⟨ef, rfl⟩ := ofO_ok e
    rw [eW]
    exact he.ok E e1 fun v S1 H1 E1 s1 r => k S1 H1 d v ds Q E1.sub r ef fun J w => q J S1 H1 E1 s1 w
  · rw [eW]
    rcases Res.bind_exc e with e1 | ⟨d, ρ1, e1, e⟩
    · exact he.exc E e1 q
    · exact (ofO_exc e).elim
theorem lis_of {wi : TI} {f : List D → Option (List D)} {P : List V → Hp → (It → Hp → Prop) → Prop} (he : LA F W tas τs) (eW : ∀ σ H R, wi σ H R = tas σ H fun x H1 => P x H1 R)
    (k : ∀ S H d v ds R, Same S H → RpL F.K S d v → f d = some ds → (∀ J, Wk F.K S J ds → R J H) → P v H R) : LI F W wi (fun ρ => (τs ρ).bind fun d ρ1 => ofO (f d) ρ1) := by
  refine LG.of (fun ρ ρ' σ S H ds E e Q q => ?_) (fun ρ ρ' σ S H c x E e Q q => ?_)
  · obtain ⟨d, ρ1, e1, e⟩ := Res.bind_ok e
    obtain ⟨ef, rfl⟩ := ofO_ok e
    rw [eW]
    exact he.ok E e1 fun v S1 H1 E1 s1 r => k S1 H1 d v ds Q E1.sub r ef fun J w => q J S1 H1 E1 s1 w
  · rw [eW]
    rcases Res.bind_exc e with e1 | ⟨d, ρ1, e1, e⟩
    · exact he.exc E e1 q
    · exact (ofO_exc e).elim
theorem li_seq (he : LE F W te τ) : LI F W (iSeq F.K te) (iD τ) := li_of (P := fun x H1 R => (∃ a, x = .ref a ∧ (∃ xs, SqL F.K H1 a xs) ∧ R (Itl F.K a) H1) ∨ (∃ a, x = .ref a ∧ (∃ xs, SqT F.K H1 a xs) ∧ R (Itt F.K a) H1) ∨ ∃ t, x = .str t ∧ R (Its t) H1) he (fun σ H R => rfl) fun S H d v ds R sub r ef k => by
  cases r with
  | sqL h r =>
    cases ef
    exact .inl ⟨_, rfl, ⟨_, SqL.of (sub _ _ h)⟩, k _ (wk_list h r)⟩
  | sqT h r =>
    cases ef
    exact .inr (.inl ⟨_, rfl, ⟨_, same_t sub h⟩, k _ (wk_tup h r)⟩)
  | str x =>
    cases ef
    exact .inr (.inr ⟨x, rfl, k _ wk_str⟩)
  | non => cases ef
  | bl => cases ef
  | int => cases ef
  | dk => cases ef
  | dt => cases ef
  | ob => cases ef
  | fz => cases ef
def okI (i : Int) : Bool := decide (-(2 ^ 62) ≤ i) && decide (i < 2 ^ 62)
theorem okI_iff {i : Int} (h : okI i = true) : -(2 ^ 62) ≤ i ∧ i < 2 ^ 62 := by
  unfold okI at h
  simpa using h
def rng1 : List D → Option (List D)
  | [.int j] => if okI j then some (rngD 0 1 j.toNat) else none
  | _ => none
def rng2 : List D → Option (List D)
  | [.int i, .int j] => if okI i && okI j then some (rngD i 1 (j - i).toNat) else none
  | _ => none
def rng3 : List D → Option (List D)
  | [.int i, .int j, .int c] => if okI i && okI j && (c == -1) then some (rngD i (-1) (i - j).toNat) else none
  | _ => none
def iDs (f : List D → Option (List D)) (τs : Env → Res (List D)) : Env → Res (List D) := fun ρ => (τs ρ).bind fun d ρ1 => ofO (f d) ρ1
theorem ints1 {K : PySem.W.Frag} {S : Hp} {i : Int} {vs : List V} (r : RpL K S [.int i] vs) : vs = [.int i] := by
  cases r with | cons a b => cases a; cases b; rfl
theorem ints2 {K : PySem.W.Frag} {S : Hp} {i j : Int} {vs : List V} (r : RpL K S [.int i, .int j] vs) : vs = [.int i, .int j] := by
  cases r with | cons a b => cases a; rw [ints1 b]
theorem ints3 {K : PySem.W.Frag} {S : Hp} {i j k : Int} {vs : List V} (r : RpL K S [.int i, .int j, .int k] vs) : vs = [.int i, .int j, .int k] := by
  cases r with | cons a b => cases a; rw [ints2 b]
theorem li_rng1 (ha : LA F W tas τs) : LI F W (iRng1 tas) (iDs rng1 τs) := lis_of (P := fun vs H1 R => ∃ j : Int, vs = [.int j] ∧ -(2 ^ 62) ≤ j ∧ j < 2 ^ 62 ∧ R (Itr 0 j.toNat) H1) ha (fun σ H R => rfl) fun S H d v ds R sub r ef k => by
  unfold rng1 at ef
  split at ef
  · rename_i j
    split at ef
    · rename_i h
      cases ef
      obtain ⟨h1, h2⟩ := okI_iff h
      exact ⟨j, ints1 r, h1, h2, k _ wk_range1⟩
    · cases ef
  · cases ef
theorem li_rng2 (ha : LA F W tas τs) : LI F W (iRng2 tas) (iDs rng2 τs) := lis_of (P := fun vs H1 R => ∃ i j : Int, vs = [.int i, .int j] ∧ (-(2 ^ 62) ≤ i ∧ i < 2 ^ 62 ∧ -(2 ^ 62) ≤ j ∧ j < 2 ^ 62) ∧ R (Itr i (j - i).toNat) H1) ha (fun σ H R => rfl) fun S H d v ds R sub r ef k => by
  unfold rng2 at ef
  split at ef
  · rename_i i j
    split at ef
    · rename_i h
      cases ef
      rw [Bool.and_eq_true] at h
      obtain ⟨h1, h2⟩ := okI_iff h.1
      obtain ⟨h3, h4⟩ := okI_iff h.2
      exact ⟨i, j, ints2 r, ⟨h1, h2, h3, h4⟩, k _ wk_range1⟩
    · cases ef
  · cases ef
theorem li_rng3 (ha : LA F W tas τs) : LI F W (iRng3 tas) (iDs rng3 τs) := lis_of (P := fun vs H1 R => ∃ (i j c : Int) (n : Nat), vs = [.int i, .int j, .int c] ∧ RgC i j c n ∧ R (Itc i c n) H1) ha (fun σ H R => rfl) fun S H d v ds R sub r ef k => by
  unfold rng3 at ef
  split at ef
  · rename_i i j c
    split at ef
    · rename_i h
      cases ef
      rw [Bool.and_eq_true, Bool.and_eq_true] at h
      obtain ⟨h1, h2⟩ := okI_iff h.1.1
      obtain ⟨h3, h4⟩ := okI_iff h.1.2
      have hc : c = -1 := by simpa using h.2
      subst hc
      exact ⟨i, j, -1, (i - j).toNat, ints3 r, RgC.neg h1 h2 h3 h4, k _ wk_range⟩
    · cases ef
  · cases ef
def enumL : List D → Option (List D)
  | [.sq true ds] => some (enumD 0 ds)
  | _ => none
theorem li_enum (ha : LA F W tas τs) : LI F W (iEnum F.K tas) (iDs enumL τs) := lis_of (P := fun vs H1 R => ∃ a xs, vs = [.ref a] ∧ SqL F.K H1 a xs ∧ R (Ite F.K a) H1) ha (fun σ H R => rfl) fun S H d v ds R sub r ef k => by
  unfold enumL at ef
  split at ef
  · cases ef
    cases r with
    | cons a b =>
      cases b
      cases a with
      | sqL h r => exact ⟨_, _, rfl, SqL.of (sub _ _ h), k _ (wk_enum h r)⟩
  · cases ef
def zipL : List D → Option (List D)
  | [.sq true as, .sq true bs] => some (zipD as bs)
  | [.sq false as, .sq false bs] => some (zipD as bs)
  | _ => none
theorem li_zip (ha : LA F W tas τs) : LI F W (iZipA F.K tas) (iDs zipL τs) := lis_of (P := fun vs H1 R => ∃ a b xs ys, vs = [.ref a, .ref b] ∧ ((SqL F.K H1 a xs ∧ SqL F.K H1 b ys ∧ R (Itz F.K a b) H1) ∨ (SqT F.K H1 a xs ∧ SqT F.K H1 b ys ∧ R (ItzT F.K a b) H1))) ha (fun σ H R => rfl) fun S H d v ds R sub r ef k => by
  unfold zipL at ef
  split at ef
  · cases ef
    cases r with
    | cons a b =>
      cases b with
      | cons b c =>
        cases c
        cases a with
        | sqL h r => cases b with
          | sqL h2 r2 => exact ⟨_, _, _, _, rfl, .inl ⟨SqL.of (sub _ _ h), SqL.of (sub _ _ h2), k _ (wk_zip h r h2 r2)⟩⟩
  · cases ef
    cases r with
    | cons a b =>
      cases b with
      | cons b c =>
        cases c
        cases a with
        | sqT h r => cases b with
          | sqT h2 r2 => exact ⟨_, _, _, _, rfl, .inr ⟨same_t sub h, same_t sub h2, k _ (wk_zipT h r h2 r2)⟩⟩
  · cases ef
def revL : D → Option (List D)
  | .sq _ ds => some ds.reverse
  | _ => none
def iRevD (τ : DE) : Env → Res (List D) := fun ρ => (τ ρ).bind fun d ρ1 => ofO (revL d) ρ1
theorem li_rev (he : LE F W te τ) : LI F W (iRevA F.K te) (iRevD τ) := li_of (P := fun v H1 R => ∃ (a : Addr) (xs : List V), v = .ref a ∧ ((SqL F.K H1 a xs ∧ R (Itv F.K a xs.length) H1) ∨ (SqT F.K H1 a xs ∧ R (ItvT F.K a xs.length) H1))) he (fun σ H R => rfl) fun S H d v ds R sub r ef k => by
  cases r with
  | sqL h r =>
    cases ef
    exact ⟨_, _, rfl, .inl ⟨SqL.of (sub _ _ h), k _ (wk_rev h r)⟩⟩
  | sqT h r =>
    cases ef
    exact ⟨_, _, rfl, .inr ⟨same_t sub h, k _ (wk_revT h r)⟩⟩
  | str x => cases ef
  | non => cases ef
  | bl => cases ef
  | int => cases ef
  | dk => cases ef
  | dt => cases ef
  | ob => cases ef
  | fz => cases ef
end
end Pd

/-! Pd6: loops; comprehensions. -/
namespace Pd
open PySem L2 PyProof.Rows PySem.Spec

def Dok (F : Fx) (W : WX) (S : Hp) (r : SR) (D : Ends) : Prop := match r with
  | .nx ρ' => ∀ σ' S' H', EO F ρ' σ' S' H' → Same S S' → D.nx σ' H'
  | .bk ρ' => ∀ σ' S' H', EO F ρ' σ' S' H' → Same S S' → D.bk σ' H'
  | .ct ρ' => ∀ σ' S' H', EO F ρ' σ' S' H' → Same S S' → D.ct σ' H'
  | .ret d ρ' => ∀ v σ' S' H', EO F ρ' σ' S' H' → Rp F.K S' d v → D.rt v H'
  | .retO c ρ' => ∀ a σ' S' H', EO F ρ' σ' S' H' → OCat F.K S' H' a c → S' a = none → F.H0 a = none → D.rt (.ref a) H'
  | .exc c x ρ' => ExcS F W c x ρ'
  | .bad => False
theorem SRok.use {F : Fx} {W : WX} {S : Hp} {r : SR} {G : Ends → Prop} (h : SRok F W S r G) {D : Ends} (k : Dok F W S r D) : G D := by
  cases r with
  | bad => exact k.elim
  | _ => exact h D k
theorem SRok.of {F : Fx} {W : WX} {S : Hp} {r : SR} {G : Ends → Prop} (h : ∀ D, Dok F W S r D → G D) : SRok F W S r G := by
  cases r with
  | bad => trivial
  | _ => exact fun D k => h D k
theorem Dok.mono {F : Fx} {W : WX} {S S1 : Hp} {r : SR} {D : Ends} (s : Same S S1) (k : Dok F W S r D) : Dok F W S1 r D := by
  cases r with
  | nx ρ => exact fun σ' S' H' E e => k σ' S' H' E (s.trans e)
  | bk ρ => exact fun σ' S' H' E e => k σ' S' H' E (s.trans e)
  | ct ρ => exact fun σ' S' H' E e => k σ' S' H' E (s.trans e)
  | ret d ρ => exact k
  | retO d ρ => exact k
  | exc c x ρ => exact k
  | bad => exact k

/-! ### for -/
def forL (tg : Tgt) (body : DS) : List D → Env → SR
  | [], ρ => .nx ρ
  | d :: ds, ρ => match tgSet tg d ρ with
    | none => .bad
    | some ρ1 => match body ρ1 with
      | .nx ρ2 => forL tg body ds ρ2
      | .ct ρ2 => forL tg body ds ρ2
      | .bk ρ2 => .nx ρ2
      | .ret d ρ2 => .ret d ρ2
      | .retO c ρ2 => .retO c ρ2
      | .exc c x ρ2 => .exc c x ρ2
      | .bad => .bad
def sFor (tg : Tgt) (τi : Env → Res (List D)) (body : DS) : DS := fun ρ => (τi ρ).bindS fun ds ρ1 => forL tg body ds ρ1
section
variable {F : Fx} {W : WX} {g : TG} {tg : Tgt} {tb : TS} {body : DS} {wi : TI} {τi : Env → Res (List D)}
theorem drop_cons {α : Type} {ds : List α} {i : Nat} {d : α} {r : List α} (h : ds.drop i = d :: r) : ds[i]? = some d ∧ ds.drop (i + 1) = r ∧ i < ds.length := by
  have hl : i < ds.length := by
    rcases Nat.lt_or_ge i ds.length with z | z
    · exact z
    · rw [List.drop_eq_nil_of_le z] at h
      cases h
  rw [List.drop_eq_getElem_cons hl] at h
  cases h
  exact ⟨List.getElem?_eq_getElem hl, rfl, hl⟩
theorem ls_for (hi : LI F W wi τi) (hg : LTg F g tg) (hb : LS F W tb body) : LS F W (tFor wi g tb) (sFor tg τi body) := by
  refine ls_bind (P := fun D σ J H1 => ∃ W : Nat → Nat → L2.St → Hp → Prop, (∃ m, W 0 m σ H1) ∧ ∀ i m σ H, W i m σ H →
    (J.stop i H ∧ D.nx σ H) ∨ (J.go i H ∧ ∃ N : L2.St → Hp → Prop, (∀ σ' H', N σ' H' → ∃ m', m' < m ∧ W (i + 1) m' σ' H') ∧ ∀ x H', J.yld i H x H' → g x σ H' fun σ2 H2 => tb { D with nx := N, ct := N, bk := D.nx } σ2 H2)) hi (fun D σ H => rfl) fun ρ1 σ S1 H1 ds J E wk => ?_
  refine SRok.of fun D k => ?_
  refine ⟨fun i m σ' H' => ∃ ρi Si, EO F ρi σ' Si H' ∧ Same S1 Si ∧ i + m = ds.length ∧ forL tg body (ds.drop i) ρi = forL tg body ds ρ1, ⟨ds.length, ρ1, S1, E, Same.refl S1, Nat.zero_add _, rfl⟩, ?_⟩
  rintro i m σ' H' ⟨ρi, Si, Ei, si, hm, hr⟩
  obtain ⟨w1, w2⟩ := wk Si H' si Ei.sub i
  rw [← hr] at k
  cases hd : ds.drop i with
  | nil =>
    rw [hd] at k
    have hlen : ds.length ≤ i := by simpa using hd
    exact .inl ⟨w1 hlen, k σ' Si H' Ei si⟩
  | cons d r =>
    rw [hd] at k hr
    obtain ⟨h1, h2, h3⟩ := drop_cons hd
    obtain ⟨go, y⟩ := w2 d h1
    refine .inr ⟨go, fun σ2 H2 => ∃ ρj Sj, EO F ρj σ2 Sj H2 ∧ Same S1 Sj ∧ (i + 1) + (m - 1) = ds.length ∧ forL tg body (ds.drop (i + 1)) ρj = forL tg body ds ρ1, fun σ2 H2 hN => ⟨m - 1, by omega, hN⟩, fun x H2 hy => ?_⟩
    obtain ⟨S2, x2, rx⟩ := y x H2 hy
    rw [forL] at k hr
    cases ht : tgSet tg d ρi with
    | none =>
      rw [ht] at k
      exact k.elim
    | some ρ2 =>
      rw [ht] at k hr
      refine hg ρi ρ2 σ' S2 H2 d x (Ei.ext x2) rx ht _ fun σ3 E3 _ => ?_
      have z := hb ρ2 σ3 S2 H2 E3
      refine z.use ?_
      cases eb : body ρ2 with
      | bad =>
        simp only [eb] at k
        exact k.elim
      | nx ρ3 =>
        simp only [eb] at hr
        exact fun σ4 S4 H4 E4 s4 => ⟨ρ3, S4, E4, si.trans (x2.s.trans s4), by omega, by rw [h2]; exact hr⟩
      | ct ρ3 =>
        simp only [eb] at hr
        exact fun σ4 S4 H4 E4 s4 => ⟨ρ3, S4, E4, si.trans (x2.s.trans s4), by omega, by rw [h2]; exact hr⟩
      | bk ρ3 =>
        simp only [eb] at k
        exact fun σ4 S4 H4 E4 s4 => k σ4 S4 H4 E4 (si.trans (x2.s.trans s4))
      | ret d ρ3 =>
        simp only [eb] at k
        exact k
      | retO d ρ3 =>
        simp only [eb] at k
        exact k
      | exc c x ρ3 =>
        simp only [eb] at k
        exact k

/-! ### while -/
def whL (c : Env → Res Bool) (body : DS) : Nat → Env → SR
  | 0, _ => .bad
  | n + 1, ρ => match c ρ with
    | .bad => .bad
    | .exc c x ρ1 => .exc c x ρ1
    | .ok false ρ1 => .nx ρ1
    | .ok true ρ1 => match body ρ1 with
      | .nx ρ2 => whL c body n ρ2
      | .ct ρ2 => whL c body n ρ2
      | .bk ρ2 => .nx ρ2
      | .ret d ρ2 => .ret d ρ2
      | .retO c ρ2 => .retO c ρ2
      | .exc c x ρ2 => .exc c x ρ2
      | .bad => .bad
def sWhile (n : Nat) (c : Env → Res Bool) (body : DS) : DS := fun ρ => whL c body n ρ
theorem ls_while {n : Nat} {tc : TT} {κ : Env → Res Bool} (hc : LT F W tc κ) (hb : LS F W tb body) : LS F W (tWhile tc tb) (sWhile n κ body) := by
  intro ρ σ S H E
  refine SRok.of fun D k => ?_
  refine ⟨fun m σ' H' => ∃ ρi Si, EO F ρi σ' Si H' ∧ Same S Si ∧ whL κ body m ρi = whL κ body n ρ, ⟨n, ρ, S, E, Same.refl S, rfl⟩, ?_⟩
  rintro m σ' H' ⟨ρi, Si, Ei, si, hr⟩
  have k : Dok F W S (whL κ body m ρi) D := by rw [hr]; exact k
  cases m with
  | zero => exact k.elim
  | succ m =>
    rw [whL] at k hr
    have z := hc ρi σ' Si H' Ei
    cases e : κ ρi with
    | bad =>
      rw [e] at k
      exact k.elim
    | exc c x ρ1 =>
      rw [e] at k z
      exact z _ (k σ')
    | ok b ρ1 =>
      rw [e] at k z hr
      refine z _ fun v S1 H1 E1 s1 r => ?_
      subst r
      cases b with
      | false => exact k σ' S1 H1 E1 (si.trans s1)
      | true =>
        show ∃ N : L2.St → Hp → Prop, _
        have z2 := hb ρ1 σ' S1 H1 E1
        refine ⟨fun σ2 H2 => ∃ ρj Sj, EO F ρj σ2 Sj H2 ∧ Same S Sj ∧ whL κ body m ρj = whL κ body n ρ, fun σ2 H2 hN => ⟨m, Nat.lt_succ_self m, hN⟩, ?_⟩
        refine z2.use ?_
        cases eb : body ρ1 with
        | bad =>
          simp only [eb] at k
          exact k.elim
        | nx ρ3 =>
          simp only [eb] at hr
          exact fun σ4 S4 H4 E4 s4 => ⟨ρ3, S4, E4, si.trans (s1.trans s4), hr⟩
        | ct ρ3 =>
          simp only [eb] at hr
          exact fun σ4 S4 H4 E4 s4 => ⟨ρ3, S4, E4, si.trans (s1.trans s4), hr⟩
        | bk ρ3 =>
          simp only [eb] at k
          exact fun σ4 S4 H4 E4 s4 => k σ4 S4 H4 E4 (si.trans (s1.trans s4))
        | ret d ρ3 =>
          simp only [eb] at k
          exact k
        | retO d ρ3 =>
          simp only [eb] at k
          exact k
        | exc c x ρ3 =>
          simp only [eb] at k
          exact k
end
end Pd

/-! Pd7: comprehensions. -/
namespace Pd
open PySem L2 PyProof.Rows PySem.Spec

section
variable {F : Fx} {ρ ρ' : Env} {σ σ' : L2.St} {S S' H H' : Hp} {a : Addr} {o o' : HO}
/-- an object that nobody owns, kept in sight -/
theorem EO.keep (E : EO F ρ σ S H) (ho : H a = some o) (hs : S a = none) (hf : Free F ρ σ a) : EO (F.wk a o) ρ σ S H :=
  ⟨E.len, E.sub0, E.sub, E.new, E.frame, E.val, E.own, E.dis, E.po, fun x hx => by
    rcases List.mem_cons.mp hx with rfl | hx
    · exact ⟨ho, hs, hf.1⟩
    · exact E.kp x hx, E.hd⟩
theorem EO.unkeep (E : EO (F.wk a o) ρ σ S H) : EO F ρ σ S H := ⟨E.len, E.sub0, E.sub, E.new, E.frame, E.val, E.own, E.dis, E.po, fun x hx => E.kp x (List.mem_cons_of_mem _ hx), E.hd⟩
theorem EO.kept (E : EO (F.wk a o) ρ σ S H) : H a = some o ∧ S a = none ∧ ∀ (i : Nat) (p : Bool) (c : OC), ρ[i]? = some (.own p c) → σ[i]? ≠ some (some (.ref a)) := E.kp (a, o) List.mem_cons_self
theorem EO.rekeep (E : EO (F.wk a o) ρ σ S H) (h0 : F.H0 a = none) (hn : ∀ x ∈ F.kp, x.1 ≠ a) : EO (F.wk a o') ρ σ S (upd H a o') := by
  obtain ⟨k1, k2, k3⟩ := E.kept
  refine ⟨E.len, E.sub0, fun b u e => ?_, E.new, fun b u hp e => ?_, E.val, fun i p c h => ?_, E.dis, E.po, fun x hx => ?_, E.hd⟩
  · have hne : b ≠ a := fun z => by
      rw [z, k2] at e
      cases e
    rw [upd_ne hne]
    exact E.sub b u e
  · have hne : b ≠ a := fun z => by
      rw [z] at e
      have e' : F.H0 a = some u := e
      rw [h0] at e'
      cases e'
    rw [upd_ne hne]
    exact E.frame b u hp e
  · obtain ⟨b, hb, oc, q⟩ := E.own i p c h
    refine ⟨b, hb, oc.mono (Same.refl S) fun u hu => ?_, q⟩
    have hne : b ≠ a := fun z => k3 i p c h (z ▸ hb)
    rw [upd_ne hne]
    exact hu
  · rcases List.mem_cons.mp hx with rfl | hx
    · exact ⟨upd_same, k2, k3⟩
    · obtain ⟨q1, q2, q3⟩ := E.kp x (List.mem_cons_of_mem _ hx)
      refine ⟨?_, q2, q3⟩
      rw [upd_ne (hn x hx)]
      exact q1

/-! ### the block's own names -/
def wipeE (ρ : Env) : List Nat → Env
  | [] => ρ
  | v :: vs => (wipeE ρ vs).set v .unk
def backE (ρ0 ρ : Env) : List Nat → Env
  | [] => ρ
  | v :: vs => match ρ0[v]? with
    | some s => (backE ρ0 ρ vs).set v s
    | none => backE ρ0 ρ vs
def lcOk (ρ : Env) (vs : List Nat) : Bool := vs.all fun v => match ρ[v]? with
  | some .unk => true
  | some (.val _) => true
  | _ => false
theorem wipeE_length (ρ : Env) : ∀ vs, (wipeE ρ vs).length = ρ.length
  | [] => rfl
  | v :: vs => by rw [wipeE, List.length_set, wipeE_length ρ vs]
theorem wipeE_in {ρ : Env} {v : Nat} : ∀ {vs : List Nat}, v ∈ vs → v < ρ.length → (wipeE ρ vs)[v]? = some .unk
  | w :: vs, h, hl => by
    rw [wipeE]
    by_cases e : w = v
    · subst e
      rw [List.getElem?_set_self (by rw [wipeE_length]; exact hl)]
    · rw [List.getElem?_set_ne e]
      exact wipeE_in ((List.mem_cons.mp h).resolve_left fun z => e z.symm) hl
theorem wipeE_out {ρ : Env} {v : Nat} : ∀ {vs : List Nat}, v ∉ vs → (wipeE ρ vs)[v]? = ρ[v]?
  | [], _ => rfl
  | w :: vs, h => by
    rw [wipeE, List.getElem?_set_ne fun e => h (by rw [e]; exact List.mem_cons_self)]
    exact wipeE_out fun z => h (List.mem_cons_of_mem _ z)
theorem wipe_out' {σ : L2.St} {v : Nat} : ∀ {vs : List Nat}, v ∉ vs → (wipe σ vs)[v]? = σ[v]?
  | [], _ => rfl
  | w :: vs, h => by
    rw [wipe, List.getElem?_set_ne fun e => h (by rw [e]; exact List.mem_cons_self)]
    exact wipe_out' fun z => h (List.mem_cons_of_mem _ z)
theorem wipe_in' {σ : L2.St} {v : Nat} : ∀ {vs : List Nat}, v ∈ vs → v < σ.length → (wipe σ vs)[v]? = some none
  | w :: vs, h, hl => by
    rw [wipe]
    by_cases e : w = v
    · subst e
      rw [List.getElem?_set_self (by rw [wipe_length]; exact hl)]
    · rw [List.getElem?_set_ne e]
      exact wipe_in' ((List.mem_cons.mp h).resolve_left fun z => e z.symm) hl
theorem wipe_eq {σ σ' : L2.St} {is vs : List Nat} (h : Off is (wipe σ vs) σ') (hi : ∀ i ∈ is, i ∈ vs) : wipe σ' vs = wipe σ vs := by
  have hl : σ'.length = σ.length := h.1.trans (wipe_length σ vs)
  refine List.ext_getElem? fun j => ?_
  by_cases hj : j ∈ vs
  · by_cases hlt : j < σ.length
    · rw [wipe_in' hj hlt, wipe_in' hj (hl ▸ hlt)]
    · rw [List.getElem?_eq_none (by rw [wipe_length]; omega), List.getElem?_eq_none (by rw [wipe_length]; omega)]
  · rw [wipe_out' hj, h.2 j fun z => hj (hi j z)]
theorem off_out {σ σ' : L2.St} {is vs : List Nat} (h : Off is (wipe σ vs) σ') (hi : ∀ i ∈ is, i ∈ vs) {j : Nat} (hj : j ∉ vs) : σ'[j]? = σ[j]? := by
  rw [h.2 j fun z => hj (hi j z), wipe_out' hj]
theorem lcOk_at {vs : List Nat} (h : lcOk ρ vs = true) {v : Nat} (hv : v ∈ vs) : ρ[v]? = some .unk ∨ ∃ d, ρ[v]? = some (.val d) := by
  have z := List.all_eq_true.mp h v hv
  split at z
  · rename_i e
    exact .inl e
  · rename_i d e
    exact .inr ⟨d, e⟩
  · cases z
theorem EO.wipe (E : EO F ρ σ S H) : ∀ {vs : List Nat}, lcOk ρ vs = true → EO F (wipeE ρ vs) (wipe σ vs) S H
  | [], _ => E
  | v :: vs, h => by
    have h2 : lcOk ρ vs = true := List.all_eq_true.mpr fun w hw => List.all_eq_true.mp h w (List.mem_cons_of_mem _ hw)
    have ih := EO.wipe E h2
    refine ih.setU ?_
    have hlt : v < ρ.length := by
      rcases lcOk_at h List.mem_cons_self with e | ⟨d, e⟩ <;> exact (List.getElem?_eq_some_iff.mp e).1
    unfold canSet
    by_cases hv : v ∈ vs
    · rw [wipeE_in hv hlt]
    · rw [wipeE_out hv]
      rcases lcOk_at h List.mem_cons_self with e | ⟨d, e⟩ <;> rw [e]
theorem backE_length (ρ0 ρ : Env) : ∀ vs, (backE ρ0 ρ vs).length = ρ.length
  | [] => rfl
  | v :: vs => by
    rw [backE]
    split
    · rw [List.length_set, backE_length ρ0 ρ vs]
    · exact backE_length ρ0 ρ vs
theorem backE_in {ρ0 ρ : Env} (hl : ρ.length = ρ0.length) {v : Nat} : ∀ {vs : List Nat}, v ∈ vs → (backE ρ0 ρ vs)[v]? = ρ0[v]?
  | w :: vs, h => by
    rw [backE]
    by_cases e : w = v
    · subst e
      split
      · rename_i s hs
        rw [List.getElem?_set_self (by rw [backE_length, hl]; exact (List.getElem?_eq_some_iff.mp hs).1), hs]
      · rename_i hs
        have : ρ0.length ≤ w := by simpa using hs
        rw [hs, List.getElem?_eq_none (by rw [backE_length]; omega)]
    · have hv := (List.mem_cons.mp h).resolve_left fun z => e z.symm
      split
      · rw [List.getElem?_set_ne e]
        exact backE_in hl hv
      · exact backE_in hl hv
theorem backE_out {ρ0 ρ : Env} {v : Nat} : ∀ {vs : List Nat}, v ∉ vs → (backE ρ0 ρ vs)[v]? = ρ[v]?
  | [], _ => rfl
  | w :: vs, h => by
    have hw : w ≠ v := fun e => h (by rw [e]; exact List.mem_cons_self)
    have hv : v ∉ vs := fun z => h (List.mem_cons_of_mem _ z)
    rw [backE]
    split
    · rw [List.getElem?_set_ne hw]
      exact backE_out hv
    · exact backE_out hv
theorem EO.back {vs : List Nat} (E : EO F ρ σ S H) (E3 : EO F ρ' σ' S' H') (s : Same S S') (hl : σ'.length = σ.length) (off : ∀ i, i ∉ vs → σ'[i]? = σ[i]?) (ok : lcOk ρ vs = true) : EO F (backE ρ ρ' vs) σ S' H' := by
  have l1 : ρ'.length = ρ.length := by rw [E3.len, E.len, hl]
  have own : ∀ i p c, (backE ρ ρ' vs)[i]? = some (.own p c) → ρ'[i]? = some (.own p c) ∧ i ∉ vs := fun i p c h => by
    by_cases hi : i ∈ vs
    · rw [backE_in l1 hi] at h
      rcases lcOk_at ok hi with e | ⟨d, e⟩ <;> (rw [e] at h; cases h)
    · rw [backE_out hi] at h
      exact ⟨h, hi⟩
  refine ⟨by rw [backE_length, l1, E.len], E3.sub0, E3.sub, E3.new, E3.frame, fun i d h => ?_, fun i p c h => ?_, fun i j p q c d a h1 h2 h3 h4 => ?_, fun x hx => ?_, fun x hx => ?_, fun x hx => ?_⟩
  · by_cases hi : i ∈ vs
    · rw [backE_in l1 hi] at h
      obtain ⟨v, hv, r⟩ := E.val i d h
      exact ⟨v, hv, r.mono s⟩
    · rw [backE_out hi] at h
      obtain ⟨v, hv, r⟩ := E3.val i d h
      exact ⟨v, by rw [← off i hi]; exact hv, r⟩
  · obtain ⟨h', hi⟩ := own i p c h
    obtain ⟨a, ha, q⟩ := E3.own i p c h'
    exact ⟨a, by rw [← off i hi]; exact ha, q⟩
  · obtain ⟨h1', hi⟩ := own i p c h1
    obtain ⟨h2', hj⟩ := own j q d h2
    exact E3.dis i j p q c d a h1' h2' (by rw [off i hi]; exact h3) (by rw [off j hj]; exact h4)
  · obtain ⟨⟨c, hc⟩, hs⟩ := E3.po x hx
    have hi : x.1 ∉ vs := fun hi => by
      obtain ⟨⟨c0, hc0⟩, _⟩ := E.po x hx
      rcases lcOk_at ok hi with e | ⟨d, e⟩ <;> (rw [e] at hc0; cases hc0)
    exact ⟨⟨c, by rw [backE_out hi]; exact hc⟩, by rw [← off _ hi]; exact hs⟩
  · obtain ⟨k1, k2, k3⟩ := E3.kp x hx
    refine ⟨k1, k2, fun i p c h => ?_⟩
    obtain ⟨h', hi⟩ := own i p c h
    rw [← off i hi]
    exact k3 i p c h'
  · obtain ⟨hc, hs⟩ := E3.hd x hx
    have hi : x.1 ∉ vs := fun hi => by
      obtain ⟨hc0, _⟩ := E.hd x hx
      rcases lcOk_at ok hi with e | ⟨d, e⟩ <;> (rw [e] at hc0; cases hc0)
    exact ⟨by rw [backE_out hi]; exact hc, by rw [← off _ hi]; exact hs⟩
end

/-! ### the loop of a comprehension -/
def genL (step : D → Env → Res (List D)) : List D → Env → Res (List D)
  | [], ρ => .ok [] ρ
  | d :: ds, ρ => (step d ρ).bind fun ys ρ1 => (genL step ds ρ1).bind fun zs ρ2 => .ok (ys ++ zs) ρ2
section
variable {F : Fx} {S1 : Hp}
theorem lc_gen {σ : L2.St} {L : Addr} {J : It} {ds : List D} {step : D → Env → Res (List D)} {B : V → Hp → (Hp → Prop) → Prop} {Fin : Hp → Prop} {ρ1 ρf : Env} {ys accD : List D} {accV : List V} {H1 : Hp}
    (wk : Wk F.K S1 J ds) (E : EO (F.wk L (.lst accV)) ρ1 σ S1 H1) (ra : RpL F.K S1 accD accV) (e : genL step ds ρ1 = .ok ys ρf) (hz : accD.length + ys.length ≤ MX)
    (hB : ∀ (d : D) (x : V) (ρi ρj : Env) (zs accD : List D) (accV : List V) (Si Hi : Hp) (Nx : Hp → Prop), EO (F.wk L (.lst accV)) ρi σ Si Hi → RpL F.K Si accD accV → accD.length + zs.length ≤ MX → Rp F.K Si d x → step d ρi = .ok zs ρj →
      (∀ S' accV' H', EO (F.wk L (.lst accV')) ρj σ S' H' → Same Si S' → RpL F.K S' (accD ++ zs) accV' → Nx H') → B x Hi Nx)
    (hF : ∀ S' accV' H', EO (F.wk L (.lst accV')) ρf σ S' H' → Same S1 S' → RpL F.K S' (accD ++ ys) accV' → Fin H') :
    ∃ W : Nat → Nat → Hp → Prop, (∃ m, W 0 m H1) ∧ ∀ i m H, W i m H → (J.stop i H ∧ Fin H) ∨ (J.go i H ∧ ∃ Nx : Hp → Prop, (∀ H', Nx H' → ∃ m', m' < m ∧ W (i + 1) m' H') ∧ ∀ x H', J.yld i H x H' → B x H' Nx) := by
  refine ⟨fun i m H' => ∃ ρi Si aD aV rest, EO (F.wk L (.lst aV)) ρi σ Si H' ∧ Same S1 Si ∧ RpL F.K Si aD aV ∧ genL step (ds.drop i) ρi = .ok rest ρf ∧ aD ++ rest = accD ++ ys ∧ i + m = ds.length, ⟨ds.length, ρ1, S1, accD, accV, ys, E, Same.refl S1, ra, e, rfl, Nat.zero_add _⟩, ?_⟩
  rintro i m H' ⟨ρi, Si, aD, aV, rest, Ei, si, ri, ei, ti, hm⟩
  obtain ⟨w1, w2⟩ := wk Si H' si Ei.sub i
  cases hd : ds.drop i with
  | nil =>
    rw [hd] at ei
    have hlen : ds.length ≤ i := by simpa using hd
    cases ei
    rw [List.append_nil] at ti
    subst ti
    exact .inl ⟨w1 hlen, hF Si aV H' Ei si ri⟩
  | cons d r =>
    rw [hd] at ei
    obtain ⟨h1, h2, h3⟩ := drop_cons hd
    obtain ⟨go, y⟩ := w2 d h1
    obtain ⟨zs, ρ2, e2, ei⟩ := Res.bind_ok ei
    obtain ⟨us, ρ3, e3, ei⟩ := Res.bind_ok ei
    cases ei
    refine .inr ⟨go, fun H2 => ∃ ρi Si aD aV rest, EO (F.wk L (.lst aV)) ρi σ Si H2 ∧ Same S1 Si ∧ RpL F.K Si aD aV ∧ genL step (ds.drop (i + 1)) ρi = .ok rest ρf ∧ aD ++ rest = accD ++ ys ∧ (i + 1) + (m - 1) = ds.length, fun H2 hN => ⟨m - 1, by omega, hN⟩, fun x H2 hy => ?_⟩
    obtain ⟨S2, x2, rx⟩ := y x H2 hy
    have hz2 : aD.length + zs.length ≤ MX := by
      have : (aD ++ (zs ++ us)).length = (accD ++ ys).length := by rw [ti]
      simp only [List.length_append] at this
      omega
    refine hB d x ρi ρ2 zs aD aV S2 H2 _ (Ei.ext x2) (ri.mono x2.s) hz2 rx e2 fun S3 aV3 H3 E3 s3 r3 => ?_
    exact ⟨ρ2, S3, aD ++ zs, aV3, us, E3, si.trans (x2.s.trans s3), r3, by rw [h2]; exact e3, by rw [List.append_assoc]; exact ti, by omega⟩
end

/-- one clause's turn -/
def lcStep (tg : Tgt) (vs : List Nat) (κ : Env → Res Bool) (step : Env → Res (List D)) : D → Env → Res (List D) := fun d ρ =>
  if lcOk ρ vs = true then match tgSet tg d (wipeE ρ vs) with
    | none => .bad
    | some ρ1 => (κ ρ1).bind fun b ρ2 => if b = true then (step ρ2).bind fun ys ρ3 => .ok ys (backE ρ ρ3 vs) else .ok [] (backE ρ ρ2 vs)
  else .bad
def lcOne (τ : DE) : Env → Res (List D) := fun ρ => (τ ρ).bind fun y ρ1 => .ok [y] ρ1
def ofLc (r : Res (List D)) : Res OC := match r with
  | .ok ys ρ => if ys.length ≤ MX then .ok (.l ys) ρ else .bad
  | _ => .bad
def noEx {α : Type} (r : Res α) : Res α := match r with
  | .ok a ρ => .ok a ρ
  | _ => .bad
/-- [elt for tg in it if test] -/
def dLc (vs : List Nat) (τi : Env → Res (List D)) (tg : Tgt) (κ : Env → Res Bool) (τ : DE) : Env → Res OC := fun ρ => (τi ρ).bind fun ds ρ1 => ofLc (genL (lcStep tg vs κ (lcOne τ)) ds ρ1)
def dYes : Env → Res Bool := fun ρ => .ok true ρ
section
variable {F : Fx} {W W' : WX} {g g1 : TG} {tg tg1 : Tgt} {wi wi1 : TI} {τi τi1 : Env → Res (List D)} {tt tt1 : TT} {κ κ1 : Env → Res Bool} {te : TE} {τ : DE} {vs vs1 : List Nat}
theorem lt_yes : LT F W tYes dYes := fun ρ σ S H E Q q => q true S H E (Same.refl S) rfl
def inV (is vs : List Nat) : Bool := is.all fun i => vs.contains i
theorem inV_mem {is vs : List Nat} (h : inV is vs = true) : ∀ i ∈ is, i ∈ vs := fun i hi => by
  have := List.all_eq_true.mp h i hi
  simpa using this
theorem lc_step {L : Addr} {σ : L2.St} (h0 : F.H0 L = none) (hn : ∀ x ∈ F.kp, x.1 ≠ L) (hv : inV tg.nm vs = true) (hg : ∀ o, LTg (F.wk L o) g tg) (ht : ∀ o, LT (F.wk L o) W tt κ) {step : Env → Res (List D)} {B : L2.St → Hp → (Hp → Prop) → Prop}
    (hB : ∀ (ρi ρj : Env) (σ2 : L2.St) (zs accD : List D) (accV : List V) (Si Hi : Hp) (Nx : Hp → Prop), EO (F.wk L (.lst accV)) ρi σ2 Si Hi → RpL F.K Si accD accV → accD.length + zs.length ≤ MX → step ρi = .ok zs ρj →
      (∀ S' accV' H', EO (F.wk L (.lst accV')) ρj σ2 S' H' → Same Si S' → RpL F.K S' (accD ++ zs) accV' → Nx H') → B σ2 Hi Nx)
    (d : D) (x : V) (ρi ρj : Env) (zs accD : List D) (accV : List V) (Si Hi : Hp) (Nx : Hp → Prop) (E : EO (F.wk L (.lst accV)) ρi σ Si Hi) (ra : RpL F.K Si accD accV) (hz : accD.length + zs.length ≤ MX) (rx : Rp F.K Si d x) (e : lcStep tg vs κ step d ρi = .ok zs ρj)
    (k : ∀ S' accV' H', EO (F.wk L (.lst accV')) ρj σ S' H' → Same Si S' → RpL F.K S' (accD ++ zs) accV' → Nx H') :
    g x (wipe σ vs) Hi fun σ2 H2 => wipe σ2 vs = wipe σ vs ∧ tt σ2 H2 fun b H3 => if b = true then B σ2 H3 Nx else Nx H3 := by
  unfold lcStep at e
  by_cases hok : lcOk ρi vs = true
  · rw [if_pos hok] at e
    cases e1 : tgSet tg d (wipeE ρi vs) with
    | none => rw [e1] at e; cases e
    | some ρ1 =>
      rw [e1] at e
      obtain ⟨b, ρ2, e2, e⟩ := Res.bind_ok e
      refine hg _ _ ρ1 _ Si Hi d x (E.wipe hok) rx e1 _ fun σ2 E2 o2 => ⟨wipe_eq o2 (inV_mem hv), ?_⟩
      refine (ht _).ok E2 e2 fun b' S3 H3 E3 s3 rb => ?_
      subst rb
      have hl : σ2.length = σ.length := o2.1.trans (wipe_length σ vs)
      cases b with
      | false =>
        rw [if_neg Bool.false_ne_true] at e ⊢
        cases e
        exact k S3 accV H3 (E.back E3 s3 hl (fun i hi => off_out o2 (inV_mem hv) hi) hok) s3 (by rw [List.append_nil]; exact ra.mono s3)
      | true =>
        rw [if_pos rfl] at e ⊢
        obtain ⟨ys, ρ3, e3, e⟩ := Res.bind_ok e
        cases e
        refine hB ρ2 ρ3 σ2 zs accD accV S3 H3 Nx E3 (ra.mono s3) hz e3 fun S4 accV4 H4 E4 s4 r4 => ?_
        have E0 : EO (F.wk L (.lst accV4)) ρi σ Si (upd Hi L (.lst accV4)) := E.rekeep h0 hn
        exact k S4 accV4 H4 (E0.back E4 (s3.trans s4) hl (fun i hi => off_out o2 (inV_mem hv) hi) hok) (s3.trans s4) r4
  · rw [if_neg hok] at e
    cases e
/-- the element -/
theorem lc_elt {L : Addr} (h0 : F.H0 L = none) (hn : ∀ x ∈ F.kp, x.1 ≠ L) (he : ∀ o, LE (F.wk L o) W te τ) (ρi ρj : Env) (σ2 : L2.St) (zs accD : List D) (accV : List V) (Si Hi : Hp) (Nx : Hp → Prop) (E : EO (F.wk L (.lst accV)) ρi σ2 Si Hi) (ra : RpL F.K Si accD accV) (hz : accD.length + zs.length ≤ MX) (e : lcOne τ ρi = .ok zs ρj)
    (k : ∀ S' accV' H', EO (F.wk L (.lst accV')) ρj σ2 S' H' → Same Si S' → RpL F.K S' (accD ++ zs) accV' → Nx H') :
    te σ2 Hi fun y H4 => ∃ acc, H4 L = some (.lst acc) ∧ acc.length < sizeLine ∧ Nx (upd H4 L (.lst (acc ++ [y]))) := by
  obtain ⟨y, ρ1, e1, e⟩ := Res.bind_ok e
  cases e
  refine (he _).ok E e1 fun v S4 H4 E4 s4 rv => ?_
  refine ⟨accV, E4.kept.1, size_lt (by rw [← ra.length]; exact Nat.le_of_succ_le hz), ?_⟩
  exact k S4 _ _ (E4.rekeep h0 hn) s4 ((ra.mono s4).append (rp_one rv))
theorem lf_wrap {t : TE} {τ : Env → Res OC}
    (h1 : ∀ (ρ ρ' : Env) (σ : L2.St) (S H : Hp) (d : OC), EO F ρ σ S H → τ ρ = .ok d ρ' → ∀ Q : VK, (∀ a S' H', EO F ρ' σ S' H' → Same S S' → OCat F.K S' H' a d → S' a = none → F.H0 a = none → Free F ρ' σ a → Q (.ref a) H') → t σ H Q)
    (h2 : ∀ (ρ ρ' : Env) (σ : L2.St) (S H : Hp) (c : Str) (x : D), EO F ρ σ S H → τ ρ = .exc c x ρ' → ∀ Q : VK, ExcK F W σ c x ρ' → t σ H Q) : LF F W t τ := fun ρ σ S H E => by
  cases e : τ ρ with
  | ok d ρ' => exact h1 ρ ρ' σ S H d E e
  | exc c x ρ' => exact h2 ρ ρ' σ S H c x E e
  | bad => trivial
theorem ofLc_ok {r : Res (List D)} {c : OC} {ρ : Env} (h : ofLc r = .ok c ρ) : ∃ ys, r = .ok ys ρ ∧ c = .l ys ∧ ys.length ≤ MX := by
  unfold ofLc at h
  split at h
  · rename_i ys ρ1
    split at h
    · cases h
      exact ⟨ys, rfl, rfl, by assumption⟩
    · cases h
  · cases h
theorem ofLc_exc {r : Res (List D)} {c : Str} {x : D} {ρ : Env} (h : ofLc r = .exc c x ρ) : False := by
  unfold ofLc at h
  split at h
  · split at h <;> cases h
  · cases h
/-- the frame of every comprehension -/
theorem lf_lcG {t : TE} {step : D → Env → Res (List D)} {B : L2.St → Addr → V → Hp → (Hp → Prop) → Prop} (hi : LI F W wi τi)
    (eT : ∀ σ H Q, t σ H Q = wi σ H fun J H1 => ∀ L, H1 L = none → ∃ W : Nat → Nat → Hp → Prop, (∃ m, W 0 m (upd H1 L (.lst []))) ∧ ∀ i m H, W i m H → (J.stop i H ∧ Q (.ref L) H) ∨ (J.go i H ∧ ∃ Nx : Hp → Prop, (∀ H', Nx H' → ∃ m', m' < m ∧ W (i + 1) m' H') ∧ ∀ x H', J.yld i H x H' → B σ L x H' Nx))
    (hB : ∀ (L : Addr) (σ : L2.St), F.H0 L = none → (∀ x ∈ F.kp, x.1 ≠ L) → ∀ (d : D) (x : V) (ρi ρj : Env) (zs accD : List D) (accV : List V) (Si Hi : Hp) (Nx : Hp → Prop), EO (F.wk L (.lst accV)) ρi σ Si Hi → RpL F.K Si accD accV → accD.length + zs.length ≤ MX → Rp F.K Si d x → step d ρi = .ok zs ρj →
      (∀ S' accV' H', EO (F.wk L (.lst accV')) ρj σ S' H' → Same Si S' → RpL F.K S' (accD ++ zs) accV' → Nx H') → B σ L x Hi Nx) : LF F W t (fun ρ => (τi ρ).bind fun ds ρ1 => ofLc (genL step ds ρ1)) := by
  refine lf_wrap (fun ρ ρ' σ S H c E e Q q => ?_) (fun ρ ρ' σ S H c x E e Q q => ?_)
  · obtain ⟨ds, ρ1, e1, e⟩ := Res.bind_ok e
    obtain ⟨ys, e2, rfl, hz⟩ := ofLc_ok e
    rw [eT]
    refine hi.ok E e1 fun J S1 H1 E1 s1 wk L hL => ?_
    have hS := E1.freshS hL
    have h0 := E1.fresh0 hL
    have hf := E1.free hL
    have Ek : EO (F.wk L (.lst [])) ρ1 σ S1 (upd H1 L (.lst [])) := (E1.temp hL).keep upd_same hS hf
    refine lc_gen (F := F) (accD := []) wk Ek .nil e2 (by simpa using hz) (hB L σ h0 hf.2) fun S2 aV H2 E2 s2 r2 => ?_
    rw [List.nil_append] at r2
    obtain ⟨k1, k2, k3⟩ := E2.kept
    exact q L S2 H2 E2.unkeep (s1.trans s2) ⟨aV, k1, r2⟩ k2 h0 ⟨k3, hf.2⟩
  · rw [eT]
    rcases Res.bind_exc e with e1 | ⟨ds, ρ1, e1, e⟩
    · exact hi.exc E e1 q
    · exact (ofLc_exc e).elim
theorem lf_lc (hi : LI F W wi τi) (hv : inV tg.nm vs = true) (hg : ∀ L o, LTg (F.wk L o) g tg) (ht : ∀ L o, LT (F.wk L o) W' tt κ) (he : ∀ L o, LE (F.wk L o) W' te τ) : LF F W (tLc wi g tt te vs) (dLc vs τi tg κ τ) :=
  lf_lcG (B := fun σ L x H' Nx => g x (wipe σ vs) H' fun σ2 H2 => wipe σ2 vs = wipe σ vs ∧ tt σ2 H2 fun b H3 => if b = true then te σ2 H3 fun y H4 => ∃ acc, H4 L = some (.lst acc) ∧ acc.length < sizeLine ∧ Nx (upd H4 L (.lst (acc ++ [y]))) else Nx H3) hi (fun σ H Q => rfl)
    fun L σ h0 hn d x ρi ρj zs accD accV Si Hi Nx E ra hz rx e k =>
      lc_step (B := fun σ2 H3 Nx => te σ2 H3 fun y H4 => ∃ acc, H4 L = some (.lst acc) ∧ acc.length < sizeLine ∧ Nx (upd H4 L (.lst (acc ++ [y])))) h0 hn hv (hg L) (ht L) (lc_elt h0 hn (he L)) d x ρi ρj zs accD accV Si Hi Nx E ra hz rx e k
/-- [elt for tg in it if test for tg1 in it1 if test1] -/
def lcIn (τi1 : Env → Res (List D)) (step : D → Env → Res (List D)) : Env → Res (List D) := fun ρ => (τi1 ρ).bind fun ds ρ1 => genL step ds ρ1
def dLc2 (vs vs1 : List Nat) (τi : Env → Res (List D)) (tg : Tgt) (κ : Env → Res Bool) (τi1 : Env → Res (List D)) (tg1 : Tgt) (κ1 : Env → Res Bool) (τ : DE) : Env → Res OC := fun ρ => (τi ρ).bind fun ds ρ1 => ofLc (genL (lcStep tg vs κ (lcIn τi1 (lcStep tg1 vs1 κ1 (lcOne τ)))) ds ρ1)
theorem lf_lc2 (hi : LI F W wi τi) (hv : inV tg.nm vs = true) (hg : ∀ L o, LTg (F.wk L o) g tg) (ht : ∀ L o, LT (F.wk L o) W' tt κ) (hi1 : ∀ L o, LI (F.wk L o) W' wi1 τi1) (hv1 : inV tg1.nm vs1 = true) (hg1 : ∀ L o, LTg (F.wk L o) g1 tg1) (ht1 : ∀ L o, LT (F.wk L o) W' tt1 κ1)
    (he : ∀ L o, LE (F.wk L o) W' te τ) : LF F W (tLc2 wi g tt wi1 g1 tt1 te vs vs1) (dLc2 vs vs1 τi tg κ τi1 tg1 κ1 τ) :=
  lf_lcG (B := fun σ L x H' Nx => g x (wipe σ vs) H' fun σ2 H2 => wipe σ2 vs = wipe σ vs ∧ tt σ2 H2 fun b H3 => if b = true then wi1 σ2 H3 fun J1 H4 => ∃ W1 : Nat → Nat → Hp → Prop, (∃ m, W1 0 m H4) ∧ ∀ j k H, W1 j k H →
      (J1.stop j H ∧ Nx H) ∨ (J1.go j H ∧ ∃ Nx1 : Hp → Prop, (∀ H', Nx1 H' → ∃ k', k' < k ∧ W1 (j + 1) k' H') ∧ ∀ x H', J1.yld j H x H' → g1 x (wipe σ2 vs1) H' fun σ3 H5 => wipe σ3 vs1 = wipe σ2 vs1 ∧ tt1 σ3 H5 fun b H6 =>
        if b = true then te σ3 H6 fun y H7 => ∃ acc, H7 L = some (.lst acc) ∧ acc.length < sizeLine ∧ Nx1 (upd H7 L (.lst (acc ++ [y]))) else Nx1 H6) else Nx H3) hi (fun σ H Q => rfl)
    fun L σ h0 hn d x ρi ρj zs accD accV Si Hi Nx E ra hz rx e k =>
      lc_step (B := fun σ2 H3 Nx => wi1 σ2 H3 fun J1 H4 => ∃ W1 : Nat → Nat → Hp → Prop, (∃ m, W1 0 m H4) ∧ ∀ j k H, W1 j k H →
      (J1.stop j H ∧ Nx H) ∨ (J1.go j H ∧ ∃ Nx1 : Hp → Prop, (∀ H', Nx1 H' → ∃ k', k' < k ∧ W1 (j + 1) k' H') ∧ ∀ x H', J1.yld j H x H' → g1 x (wipe σ2 vs1) H' fun σ3 H5 => wipe σ3 vs1 = wipe σ2 vs1 ∧ tt1 σ3 H5 fun b H6 =>
        if b = true then te σ3 H6 fun y H7 => ∃ acc, H7 L = some (.lst acc) ∧ acc.length < sizeLine ∧ Nx1 (upd H7 L (.lst (acc ++ [y]))) else Nx1 H6)) h0 hn hv (hg L) (ht L)
        (fun ρi ρj σ2 zs accD accV Si Hi Nx E ra hz e k => by
          obtain ⟨ds, ρ1, e1, e⟩ := Res.bind_ok e
          refine (hi1 L _).ok E e1 fun J S1 H1 E1 s1 wk => ?_
          refine lc_gen (F := F) wk E1 (ra.mono s1) e hz (fun d x ρi ρj zs accD accV Si Hi Nx E ra hz rx e k => ?_) fun S' aV' H' E' s' r' => k S' aV' H' E' (s1.trans s') r'
          exact lc_step (B := fun σ2 H3 Nx => te σ2 H3 fun y H4 => ∃ acc, H4 L = some (.lst acc) ∧ acc.length < sizeLine ∧ Nx (upd H4 L (.lst (acc ++ [y])))) h0 hn hv1 (hg1 L) (ht1 L) (lc_elt h0 hn (he L)) d x ρi ρj zs accD accV Si Hi Nx E ra hz rx e k)
        d x ρi ρj zs accD accV Si Hi Nx E ra hz rx e k
end
end Pd

/-! Pd8: defs, calls. -/
namespace Pd
open PySem L2 PyProof.Rows PySem.Spec

inductive Arg where
  | d (x : D) | o (c : OC)
  deriving Inhabited
inductive Out where
  | ret (d : D) (o : Option OC) | retO (c : OC) (o : Option OC) | exc (c : Str) (x : D) (o : Option OC) | bad
  deriving Inhabited
inductive ArgsR (K : PySem.W.Frag) (S H : Hp) : Option Addr → List Arg → List V → Prop
  | nil : ArgsR K S H none [] []
  | d {oa : Option Addr} {x : D} {v : V} {as : List Arg} {vs : List V} : Rp K S x v → ArgsR K S H oa as vs → ArgsR K S H oa (.d x :: as) (v :: vs)
  | o {a : Addr} {c : OC} {as : List Arg} {vs : List V} : OCat K S H a c → S a = none → ArgsR K S H none as vs → ArgsR K S H (some a) (.o c :: as) (.ref a :: vs)
/-- what a call may do to the heaps -/
structure Gr (K : PySem.W.Frag) (S H S' H' : Hp) (oa : Option Addr) (o : Option OC) : Prop where
  s : Same S S'
  sh : Same S' H'
  n : ∀ a u, S' a = some u → S a = some u ∨ H a = none
  fr : ∀ a u, oa ≠ some a → H a = some u → H' a = some u
  ow : ∀ a, oa = some a → ∃ c, o = some c ∧ OCat K S' H' a c ∧ S' a = none
/-- THE SPEC of a def whose pure form is m -/
def spOf (K : PySem.W.Frag) (ca : Str → Addr) (m : List Arg → Out) : Sp := fun vs H Q E => ∃ (args : List Arg) (oa : Option Addr) (S : Hp), Same S H ∧ ArgsR K S H oa args vs ∧ match m args with
  | .ret d o => ∀ v S' H', Gr K S H S' H' oa o → Rp K S' d v → Q v H'
  | .retO c o => ∀ a S' H', Gr K S H S' H' oa o → OCat K S' H' a c → S' a = none → H a = none → oa ≠ some a → Q (.ref a) H'
  | .exc c x o => ∀ v dd S' H', Gr K S H S' H' oa o → H' dd = some (.xd [(fld c, v)]) → S' dd = none → H dd = none → Rp K S' x v → E (.ref (ca c)) (some dd) H'
  | .bad => False
theorem ArgsR.length {K : PySem.W.Frag} {S H : Hp} : ∀ {oa : Option Addr} {as : List Arg} {vs : List V}, ArgsR K S H oa as vs → as.length = vs.length
  | _, _, _, .nil => rfl
  | _, _, _, .d _ r => congrArg (· + 1) r.length
  | _, _, _, .o _ _ r => congrArg (· + 1) r.length

/-! ### the caller -/
def argsOf (ρ : Env) : List Opd → Option (Option Nat × List Arg)
  | [] => some (none, [])
  | .d x :: r => match argsOf ρ r with
    | some (k, as) => some (k, .d x :: as)
    | none => none
  | .o i :: r => match ρ[i]? with
    | some (.own _ c) => match argsOf ρ r with
      | some (none, as) => some (some i, .o c :: as)
      | _ => none
    | _ => none
def putO (ρ : Env) (k : Option Nat) (o : Option OC) : Option Env := match k with
  | none => some ρ
  | some i => match o with
    | some c => match ρ[i]? with
      | some (.own p _) => some (ρ.set i (.own p c))
      | _ => none
    | none => none
/-- the owned argument's place -/
def Own1 (ρ : Env) (σ : L2.St) (k : Option Nat) (oa : Option Addr) : Prop := match k with
  | none => oa = none
  | some i => ∃ a p c, oa = some a ∧ ρ[i]? = some (.own p c) ∧ σ[i]? = some (some (.ref a))
section
variable {F : Fx} {W : WX} {ρ : Env} {σ : L2.St} {S H : Hp}
theorem args_rel (E : EO F ρ σ S H) : ∀ {xs : List Opd} {vs : List V} {k : Option Nat} {as : List Arg}, OpdsR F.K σ S xs vs → argsOf ρ xs = some (k, as) → ∃ oa, ArgsR F.K S H oa as vs ∧ Own1 ρ σ k oa
  | _, _, k, as, .nil, e => by
    cases e
    exact ⟨none, .nil, rfl⟩
  | _, _, k, as, .cons (x := .d x) (xs := xs) h r, e => by
    rw [argsOf] at e
    cases q : argsOf ρ xs with
    | none => rw [q] at e; cases e
    | some y =>
      obtain ⟨k', as'⟩ := y
      rw [q] at e
      cases e
      obtain ⟨oa, r', w⟩ := args_rel E r q
      exact ⟨oa, .d h r', w⟩
  | _, _, k, as, .cons (x := .o i) (xs := xs) h r, e => by
    rw [argsOf] at e
    cases q0 : ρ[i]? with
    | none => rw [q0] at e; cases e
    | some s =>
      rw [q0] at e
      cases s with
      | unk => cases e
      | hold => cases e
      | val d => cases e
      | own p c =>
        simp only at e
        cases q : argsOf ρ xs with
        | none => rw [q] at e; cases e
        | some y =>
          obtain ⟨k', as'⟩ := y
          rw [q] at e
          cases k' with
          | some z => cases e
          | none =>
            cases e
            obtain ⟨a, hv, hs⟩ := h
            subst hv
            obtain ⟨b, hb, oc, n1, _⟩ := E.own i p c q0
            rw [hs] at hb
            cases hb
            obtain ⟨oa, r', w⟩ := args_rel E r q
            have w' : oa = none := w
            subst w'
            exact ⟨some a, .o oc n1 r', a, p, c, rfl, q0, hs⟩
theorem gr_eo {S' H' : Hp} {k : Option Nat} {oa : Option Addr} {o : Option OC} {ρ2 : Env} (E : EO F ρ σ S H) (w : Own1 ρ σ k oa) (G : Gr F.K S H S' H' oa o) (e : putO ρ k o = some ρ2) :
    EO F ρ2 σ S' H' ∧ ∀ a, Free F ρ σ a → Free F ρ2 σ a := by
  cases k with
  | none =>
    cases e
    have w' : oa = none := w
    subst w'
    exact ⟨E.grow G.s G.sh G.n fun a u h => G.fr a u (fun z => by cases z) h, fun a h => h⟩
  | some i =>
    obtain ⟨a, p, c, rfl, hi, hs⟩ := w
    obtain ⟨c', rfl, oc, n1⟩ := G.ow a rfl
    have e' : (match ρ[i]? with | some (.own p _) => some (ρ.set i (.own p c')) | _ => none) = some ρ2 := e
    rw [hi] at e'
    cases e'
    have hl := (List.getElem?_eq_some_iff.mp hi).1
    refine ⟨?_, fun b hb => ⟨fun j q d hj => ?_, hb.2⟩⟩
    · refine E.step G.s G.sh G.n (fun b => b = a) (fun b u hb h => G.fr b u (fun z => hb (Option.some.inj z).symm) h) (fun b hb => ⟨i, p, c, hi, hb ▸ hs⟩) (fun j => ?_) (fun j q d b hj hsj hb => ?_) (by simp)
      · by_cases hj : j = i
        · subst hj
          exact .inr ⟨p, c, c', a, hi, List.getElem?_set_self hl, hs, rfl⟩
        · exact .inl (List.getElem?_set_ne (Ne.symm hj))
      · subst hb
        by_cases hji : j = i
        · subst hji
          rw [List.getElem?_set_self hl] at hj
          cases hj
          exact oc
        · rw [List.getElem?_set_ne (Ne.symm hji)] at hj
          exact absurd (E.dis j i q p d c _ hj hi hsj hs) hji
    · by_cases hji : j = i
      · subst hji
        exact hb.1 j p c hi
      · rw [List.getElem?_set_ne (Ne.symm hji)] at hj
        exact hb.1 j q d hj

def callE (ρ : Env) (k : Option Nat) : Out → Res D
  | .ret d o => ofO ((putO ρ k o).map fun ρ2 => (d, ρ2)) ρ |>.bind fun p _ => .ok p.1 p.2
  | .retO c o => ofO ((putO ρ k o).map fun ρ2 => (c.toD, ρ2)) ρ |>.bind fun p _ => .ok p.1 p.2
  | .exc c x o => match putO ρ k o with
    | some ρ2 => .exc c x ρ2
    | none => .bad
  | .bad => .bad
def callF (ρ : Env) (k : Option Nat) : Out → Res OC
  | .retO c o => ofO ((putO ρ k o).map fun ρ2 => (c, ρ2)) ρ |>.bind fun p _ => .ok p.1 p.2
  | .exc c x o => match putO ρ k o with
    | some ρ2 => .exc c x ρ2
    | none => .bad
  | _ => .bad
def dCall (m : List Arg → Out) (τs : Env → Res (List Opd)) : DE := fun ρ => (τs ρ).bind fun xs ρ1 => match argsOf ρ1 xs with
  | some (k, as) => callE ρ1 k (m as)
  | none => .bad
def dCallF (m : List Arg → Out) (τs : Env → Res (List Opd)) : Env → Res OC := fun ρ => (τs ρ).bind fun xs ρ1 => match argsOf ρ1 xs with
  | some (k, as) => callF ρ1 k (m as)
  | none => .bad
theorem put_ok {α : Type} {ρ : Env} {k : Option Nat} {o : Option OC} {x y : α} {ρ' : Env} (h : ((ofO ((putO ρ k o).map fun ρ2 => (x, ρ2)) ρ).bind fun p _ => Res.ok p.1 p.2) = .ok y ρ') : x = y ∧ putO ρ k o = some ρ' := by
  cases q : putO ρ k o with
  | none => rw [q] at h; cases h
  | some ρ2 => rw [q] at h; cases h; exact ⟨rfl, rfl⟩
theorem put_exc {α : Type} {ρ : Env} {k : Option Nat} {o : Option OC} {x : α} {c : Str} {z : D} {ρ' : Env} (h : ((ofO ((putO ρ k o).map fun ρ2 => (x, ρ2)) ρ).bind fun p _ => Res.ok p.1 p.2) = .exc c z ρ') : False := by
  cases q : putO ρ k o with
  | none => rw [q] at h; cases h
  | some ρ2 => rw [q] at h; cases h
variable {m : List Arg → Out} {tas : TA} {τs : Env → Res (List Opd)}
theorem call_exc {E : L2.St → XK} (hE : ∀ cls d H, W cls d σ H → E σ cls d H) {ρ1 ρ2 : Env} {xs : List Opd} {vs : List V} {k : Option Nat} {as : List Arg} {c : Str} {x : D} {o : Option OC} (E1 : EO F ρ1 σ S H) (rx : OpdsR F.K σ S xs vs) (ea : argsOf ρ1 xs = some (k, as)) (em : m as = .exc c x o) (ep : putO ρ1 k o = some ρ2)
    {Q : VK} (q : ExcK F W σ c x ρ2) : spOf F.K F.ca m vs H Q (E σ) := by
  obtain ⟨oa, ra, w⟩ := args_rel E1 rx ea
  refine ⟨as, oa, S, E1.sub, ra, ?_⟩
  rw [em]
  intro v dd S' H' G hx n1 n2 r
  obtain ⟨E2, fr⟩ := gr_eo E1 w G ep
  exact hE _ _ _ (q v dd S' H' E2 hx n1 (E1.fresh0 n2) (fr dd (E1.free n2)) r)
theorem le_callG {E : L2.St → XK} (hE : ∀ σ cls d H, W cls d σ H → E σ cls d H) (ha : LOs F W tas τs) : LE F W (tCallS (spOf F.K F.ca m) E tas) (dCall m τs) := by
  refine LG.of (fun ρ ρ' σ S H d EO0 e Q q => ?_) (fun ρ ρ' σ S H c x EO0 e Q q => ?_)
  · obtain ⟨xs, ρ1, e1, e⟩ := Res.bind_ok e
    refine ha.ok EO0 e1 fun vs S1 H1 E1 s1 rx => ?_
    cases ea : argsOf ρ1 xs with
    | none => rw [ea] at e; cases e
    | some y =>
      obtain ⟨k, as⟩ := y
      rw [ea] at e
      obtain ⟨oa, ra, w⟩ := args_rel E1 rx ea
      refine ⟨as, oa, S1, E1.sub, ra, ?_⟩
      cases em : m as with
      | bad => simp only [em] at e; cases e
      | ret d' o =>
        simp only [em] at e
        obtain ⟨rfl, ep⟩ := put_ok e
        exact fun v S' H' G r => q v S' H' (gr_eo E1 w G ep).1 (s1.trans G.s) r
      | retO c o =>
        simp only [em] at e
        obtain ⟨rfl, ep⟩ := put_ok e
        intro a S' H' G oc n1 n2 _
        obtain ⟨E2, fr⟩ := gr_eo E1 w G ep
        obtain ⟨u, hu⟩ := oc.there
        exact q _ _ _ (E2.adopt (fr a (E1.free n2)) n1 (E1.fresh0 n2) hu) (s1.trans (G.s.trans (same_new n1))) (oc.freeze n1 hu)
      | exc c x o =>
        simp only [em, callE] at e
        split at e <;> cases e
  · rcases Res.bind_exc e with e1 | ⟨xs, ρ1, e1, e⟩
    · exact ha.exc EO0 e1 q
    · refine ha.ok EO0 e1 fun vs S1 H1 E1 s1 rx => ?_
      cases ea : argsOf ρ1 xs with
      | none => rw [ea] at e; cases e
      | some y =>
        obtain ⟨k, as⟩ := y
        rw [ea] at e
        cases em : m as with
        | bad => simp only [em] at e; cases e
        | ret d' o => simp only [em] at e; exact (put_exc e).elim
        | retO d' o => simp only [em] at e; exact (put_exc e).elim
        | exc c' x' o =>
          simp only [em, callE] at e
          split at e
          · rename_i ρ2 ep
            cases e
            exact call_exc (hE σ) E1 rx ea em ep q
          · cases e
theorem lf_callG {E : L2.St → XK} (hE : ∀ σ cls d H, W cls d σ H → E σ cls d H) (ha : LOs F W tas τs) : LF F W (tCallS (spOf F.K F.ca m) E tas) (dCallF m τs) := by
  refine lf_wrap (fun ρ ρ' σ S H d EO0 e Q q => ?_) (fun ρ ρ' σ S H c x EO0 e Q q => ?_)
  · obtain ⟨xs, ρ1, e1, e⟩ := Res.bind_ok e
    refine ha.ok EO0 e1 fun vs S1 H1 E1 s1 rx => ?_
    cases ea : argsOf ρ1 xs with
    | none => rw [ea] at e; cases e
    | some y =>
      obtain ⟨k, as⟩ := y
      rw [ea] at e
      obtain ⟨oa, ra, w⟩ := args_rel E1 rx ea
      refine ⟨as, oa, S1, E1.sub, ra, ?_⟩
      cases em : m as with
      | bad => simp only [em] at e; cases e
      | ret d' o => simp only [em] at e; cases e
      | retO c o =>
        simp only [em] at e
        obtain ⟨rfl, ep⟩ := put_ok e
        intro a S' H' G oc n1 n2 _
        obtain ⟨E2, fr⟩ := gr_eo E1 w G ep
        exact q a S' H' E2 (s1.trans G.s) oc n1 (E1.fresh0 n2) (fr a (E1.free n2))
      | exc c x o =>
        simp only [em, callF] at e
        split at e <;> cases e
  · rcases Res.bind_exc e with e1 | ⟨xs, ρ1, e1, e⟩
    · exact ha.exc EO0 e1 q
    · refine ha.ok EO0 e1 fun vs S1 H1 E1 s1 rx => ?_
      cases ea : argsOf ρ1 xs with
      | none => rw [ea] at e; cases e
      | some y =>
        obtain ⟨k, as⟩ := y
        rw [ea] at e
        cases em : m as with
        | bad => simp only [em] at e; cases e
        | ret d' o => simp only [em] at e; cases e
        | retO d' o => simp only [em] at e; exact (put_exc e).elim
        | exc c' x' o =>
          simp only [em, callF] at e
          split at e
          · rename_i ρ2 ep
            cases e
            exact call_exc (hE σ) E1 rx ea em ep q
          · cases e
theorem le_call (ha : LOs F W tas τs) : LE F W (tCallS (spOf F.K F.ca m) (WE W) tas) (dCall m τs) := le_callG (fun _ _ _ _ h => h) ha
theorem lf_call (ha : LOs F W tas τs) : LF F W (tCallS (spOf F.K F.ca m) (WE W) tas) (dCallF m τs) := lf_callG (fun _ _ _ _ h => h) ha
end
/-- .. where no exception may come: W is the impossible wish -/
def W0 : WX := fun _ _ _ _ => False
section
variable {F : Fx} {m : List Arg → Out} {tas : TA} {τs : Env → Res (List Opd)}
theorem le_call0 (ha : LOs F W0 tas τs) : LE F W0 (tCall (spOf F.K F.ca m) [] E0 tas) (dCall m τs) := by
  have h := le_callG (F := F) (W := W0) (m := m) (E := fun _ => E0) (fun _ _ _ _ h => h) ha
  have e : tCall (spOf F.K F.ca m) [] E0 tas = tCallS (spOf F.K F.ca m) (fun _ => E0) tas := by
    funext σ H Q
    show tas σ H (fun vs H1 => spOf F.K F.ca m (vs ++ []) H1 Q E0) = tas σ H fun vs H1 => spOf F.K F.ca m vs H1 Q E0
    have : (fun (vs : List V) (H1 : Hp) => spOf F.K F.ca m (vs ++ []) H1 Q E0) = fun vs H1 => spOf F.K F.ca m vs H1 Q E0 := by
      funext vs H1
      rw [List.append_nil]
    rw [this]
  rw [e]
  exact h
end

/-! ### a def -/
def argS : Arg → Slot
  | .d x => .val x
  | .o c => .own true c
def env0 (N : Nat) (args : List Arg) : Env := args.map argS ++ List.replicate (N - args.length) .unk
def ownPos : List Arg → Option Nat
  | [] => none
  | .o _ :: _ => some 0
  | .d _ :: r => (ownPos r).map (· + 1)
def ownC (k : Option Nat) (ρ : Env) : Option OC := match k with
  | none => none
  | some i => match ρ[i]? with
    | some (.own _ c) => some c
    | _ => none
def outOf (k : Option Nat) : SR → Out
  | .nx ρ => .ret .non (ownC k ρ)
  | .ret d ρ => .ret d (ownC k ρ)
  | .retO c ρ => .retO c (ownC k ρ)
  | .exc c x ρ => .exc c x (ownC k ρ)
  | _ => .bad
def fnRun (n N : Nat) (τ : DS) (args : List Arg) : Out := if args.length = n then outOf (ownPos args) (τ (env0 N args)) else .bad
def poOf : List Arg → List V → List (Nat × Addr)
  | .o _ :: _, .ref a :: _ => [(0, a)]
  | .d _ :: r, _ :: vs => (poOf r vs).map fun p => (p.1 + 1, p.2)
  | _, _ => []
theorem po_facts {K : PySem.W.Frag} {S H : Hp} : ∀ {oa : Option Addr} {as : List Arg} {vs : List V}, ArgsR K S H oa as vs →
    (oa = none ∧ ownPos as = none ∧ poOf as vs = []) ∨ ∃ a i c, oa = some a ∧ ownPos as = some i ∧ poOf as vs = [(i, a)] ∧ as[i]? = some (.o c) ∧ vs[i]? = some (.ref a) ∧ OCat K S H a c ∧ S a = none
  | _, _, _, .nil => .inl ⟨rfl, rfl, rfl⟩
  | _, _, _, .d (v := v) h r => by
    rcases po_facts r with ⟨h1, h2, h3⟩ | ⟨a, i, c, h1, h2, h3, h4, h5, h6⟩
    · exact .inl ⟨h1, by rw [ownPos, h2]; rfl, by rw [poOf, h3]; rfl⟩
    · exact .inr ⟨a, i + 1, c, h1, by rw [ownPos, h2]; rfl, by rw [poOf, h3]; rfl, by simpa using h4, by simpa using h5, h6⟩
  | _, _, _, .o (a := a) (c := c) h n r => .inr ⟨a, 0, c, rfl, rfl, rfl, rfl, rfl, h, n⟩
theorem args_at {K : PySem.W.Frag} {S H : Hp} : ∀ {oa : Option Addr} {as : List Arg} {vs : List V} {i : Nat} {x : D}, ArgsR K S H oa as vs → as[i]? = some (.d x) → ∃ v, vs[i]? = some v ∧ Rp K S x v
  | _, _, _, i, x, .nil, e => by simp at e
  | _, _, _, 0, x, .d h r, e => by simp at e; subst e; exact ⟨_, rfl, h⟩
  | _, _, _, i + 1, x, .d h r, e => by
    obtain ⟨v, h1, h2⟩ := args_at (i := i) r (by simpa using e)
    exact ⟨v, by simpa using h1, h2⟩
  | _, _, _, 0, x, .o h n r, e => by simp at e
  | _, _, _, i + 1, x, .o h n r, e => by
    obtain ⟨v, h1, h2⟩ := args_at (i := i) r (by simpa using e)
    exact ⟨v, by simpa using h1, h2⟩
theorem own_one {K : PySem.W.Frag} {S H : Hp} : ∀ {oa : Option Addr} {as : List Arg} {vs : List V} {i : Nat} {c : OC}, ArgsR K S H oa as vs → as[i]? = some (.o c) → ownPos as = some i
  | _, _, _, i, c, .nil, e => by simp at e
  | _, _, _, 0, c, .d h r, e => by simp at e
  | _, _, _, i + 1, c, .d h r, e => by
    have := own_one (i := i) r (by simpa using e)
    rw [ownPos, this]
    rfl
  | _, _, _, 0, c, .o h n r, e => rfl
  | _, _, _, i + 1, c, .o h n r, e => by
    have z := own_one (i := i) r (by simpa using e)
    rcases po_facts r with ⟨_, h2, _⟩ | ⟨a, j, c', h1, _⟩
    · rw [h2] at z; cases z
    · cases h1
theorem start_get {N : List Str} {vs : List V} {i : Nat} {v : V} (h : vs[i]? = some v) : (L2.start N vs)[i]? = some (some v) := by
  unfold L2.start
  rw [List.getElem?_append_left (by rw [List.length_map]; exact (List.getElem?_eq_some_iff.mp h).1), List.getElem?_map, h]
  rfl
theorem env0_get {N : Nat} {as : List Arg} {i : Nat} {s : Slot} (h : (env0 N as)[i]? = some s) : (∃ a, as[i]? = some a ∧ s = argS a) ∨ s = .unk := by
  unfold env0 at h
  by_cases hi : i < (as.map argS).length
  · rw [List.getElem?_append_left hi, List.getElem?_map] at h
    cases q : as[i]? with
    | none => rw [q] at h; cases h
    | some a =>
      rw [q] at h
      cases h
      exact .inl ⟨a, rfl, rfl⟩
  · rw [List.getElem?_append_right (Nat.le_of_not_lt hi)] at h
    have := List.mem_of_getElem? h
    exact .inr (List.eq_of_mem_replicate this)
/-- at the entry -/
theorem EO.entry {K : PySem.W.Frag} {ca : Str → Addr} {S H : Hp} {N : List Str} {oa : Option Addr} {as : List Arg} {vs : List V} (sub : Same S H) (r : ArgsR K S H oa as vs) :
    EO ⟨K, ca, poOf as vs, S, H, [], []⟩ (env0 N.length as) (L2.start N vs) S H := by
  have hl := r.length
  refine ⟨by unfold env0 L2.start; simp only [List.length_append, List.length_map, List.length_replicate, hl], Same.refl S, sub, fun a o h => .inl h, fun a o _ h => h, fun i d h => ?_, fun i p c h => ?_, fun i j p q c d a h1 h2 h3 h4 => ?_, fun x hx => ?_, fun x hx => (nomatch hx), fun x hx => (nomatch hx)⟩
  · rcases env0_get h with ⟨a, h1, h2⟩ | h2
    · cases a with
      | d x =>
        cases h2
        obtain ⟨v, hv, rv⟩ := args_at r h1
        exact ⟨v, start_get hv, rv⟩
      | o c => cases h2
    · cases h2
  · rcases env0_get h with ⟨a, h1, h2⟩ | h2
    · cases a with
      | d x => cases h2
      | o c =>
        cases h2
        have ho := own_one r h1
        rcases po_facts r with ⟨_, q, _⟩ | ⟨a, j, c', e1, e2, e3, e4, e5, e6, e7⟩
        · rw [ho] at q; cases q
        · rw [ho] at e2
          cases e2
          rw [h1] at e4
          cases e4
          exact ⟨a, start_get e5, e6, e7, fun _ => by show (i, a) ∈ poOf as vs; rw [e3]; exact List.mem_singleton.mpr rfl, fun z => Bool.noConfusion z⟩
    · cases h2
  · rcases env0_get h1 with ⟨a1, g1, g2⟩ | g2
    · rcases env0_get h2 with ⟨a2, k1, k2⟩ | k2
      · cases a1 with
        | d x => cases g2
        | o c1 => cases a2 with
          | d x => cases k2
          | o c2 =>
            have z1 := own_one r g1
            have z2 := own_one r k1
            rw [z1] at z2
            exact Option.some.inj z2
      · cases k2
    · cases g2
  · rcases po_facts r with ⟨_, _, q⟩ | ⟨a, j, c', e1, e2, e3, e4, e5, e6, e7⟩
    · have hx' : x ∈ poOf as vs := hx
      rw [q] at hx'
      cases hx'
    · have hx' : x ∈ poOf as vs := hx
      rw [e3] at hx'
      obtain rfl := List.mem_singleton.mp hx'
      refine ⟨⟨c', ?_⟩, start_get e5⟩
      unfold env0
      rw [List.getElem?_append_left (by rw [List.length_map]; exact (List.getElem?_eq_some_iff.mp e4).1), List.getElem?_map, e4]
      rfl
/-- at the end -/
theorem EO.gr {K : PySem.W.Frag} {ca : Str → Addr} {S H S' H' : Hp} {oa : Option Addr} {as : List Arg} {vs : List V} {ρ : Env} {σ : L2.St} (r : ArgsR K S H oa as vs) (E : EO ⟨K, ca, poOf as vs, S, H, [], []⟩ ρ σ S' H') : Gr K S H S' H' oa (ownC (ownPos as) ρ) := by
  refine ⟨E.sub0, E.sub, E.new, fun a u ha h => E.frame a u (fun x hx e => ?_) h, fun a ha => ?_⟩
  · rcases po_facts r with ⟨_, _, q⟩ | ⟨b, j, c', e1, e2, e3, _⟩
    · have hx' : x ∈ poOf as vs := hx
      rw [q] at hx'
      cases hx'
    · have hx' : x ∈ poOf as vs := hx
      rw [e3] at hx'
      obtain rfl := List.mem_singleton.mp hx'
      exact ha (by rw [e1, ← e])
  · rcases po_facts r with ⟨q, _, _⟩ | ⟨b, j, c', e1, e2, e3, _⟩
    · rw [ha] at q; cases q
    · rw [ha] at e1
      cases e1
      have hm : (j, a) ∈ poOf as vs := by rw [e3]; exact List.mem_singleton.mpr rfl
      obtain ⟨⟨c, hc⟩, hs⟩ := E.po (j, a) hm
      obtain ⟨b, hb, oc, n1, _⟩ := E.own _ _ _ hc
      rw [hs] at hb
      cases hb
      refine ⟨c, ?_, oc, n1⟩
      rw [e2]
      show (match ρ[j]? with | some (.own _ c) => some c | _ => none) = some c
      rw [hc]
theorem fnRun_len {n N : Nat} {τ : DS} {args : List Arg} (h : fnRun n N τ args ≠ .bad) : args.length = n := by
  unfold fnRun at h
  split at h
  · assumption
  · exact absurd rfl h
/-- the end of a def's walk -/
theorem fn_end {K : PySem.W.Frag} {n : Nat} {N : List Str} {ca : Str → Addr} {τ : DS} {vs : List V} {H : Hp} {Q : VK} {E : XK} {t : TS} (hsp : spOf K ca (fnRun n N.length τ) vs H Q E)
    (lt : ∀ (po : List (Nat × Addr)) (S0 H0 : Hp) (kp : List (Addr × HO)) (hd : List (Nat × Addr)), LS ⟨K, ca, po, S0, H0, kp, hd⟩ (fun cls d _ H => E cls d H) t τ) : t { nx := fun _ H' => Q .non H', rt := Q } (L2.start N vs) H := by
  obtain ⟨args, oa, S, sub, r, h⟩ := hsp
  have hlen : args.length = n := fnRun_len (N := N.length) (τ := τ) fun e => by
    rw [e] at h
    exact h
  unfold fnRun at h
  rw [if_pos hlen] at h
  have E0 := EO.entry (ca := ca) (N := N) sub r
  refine (lt _ _ _ _ _ _ _ _ _ E0).use ?_
  cases e : τ (env0 N.length args) with
  | bad => rw [e] at h; exact h
  | bk ρ => rw [e] at h; exact h.elim
  | ct ρ => rw [e] at h; exact h.elim
  | nx ρ =>
    rw [e] at h
    exact fun σ' S' H' E' _ => h .non S' H' (E'.gr r) .non
  | ret d ρ =>
    rw [e] at h
    exact fun v σ' S' H' E' rv => h v S' H' (E'.gr r) rv
  | retO c ρ =>
    rw [e] at h
    intro a σ' S' H' E' oc n1 n2
    refine h a S' H' (E'.gr r) oc n1 n2 fun z => ?_
    rcases po_facts r with ⟨q, _⟩ | ⟨b, j, c', e1, e2, e3, e4, e5, e6, e7⟩
    · rw [z] at q; cases q
    · rw [z] at e1
      cases e1
      obtain ⟨u, hu⟩ := e6.there
      have n2' : H a = none := n2
      rw [n2'] at hu
      cases hu
  | exc c x ρ =>
    rw [e] at h
    intro σ' v dd S' H' E' hx n1 n2 _ rv
    exact h v dd S' H' (E'.gr r) hx n1 n2 rv
end Pd

/-! Pd9: exceptions. -/
namespace Pd
open PySem L2 PyProof.Rows PySem.Spec

/-! ### what the written part says of the errors -/
structure ErrC (K : PySem.W.Frag) (C : Addr) (f : Str) : Prop where
  o : OexC K C
  xf : XfC K C
  no : PySem.W.findIn K (.ref C) f = some none
  ic : (PySem.W.clsIn K C).isSome = true
  ha : PySem.W.findIn K (.ref C) "__class__" = some (some (.builtin "object.__class__"))
  hm : PySem.W.mroIn K C (.type "object") = some true
  ini : PySem.W.findIn K (.ref C) "__init__" = some (some (.ref (He.ma K C "__init__")))
  ty : PySem.W.typeIn K (.ref (He.ma K C "__init__")) = some (.type "function")
def oexB (K : PySem.W.Frag) (C : Addr) : Bool := (match K.lookup C with
  | some ⟨.type "type", _, .cls cd, sl⟩ => (match cd.mro, sl.toList with
    | .ref C' :: bm, [_, _, _, _, some (.builtin n), _] => C' == C && n == "ValueError.__new__" && !cd.hasDel && cd.hasDict && PySem.HandSPX.refsVE bm
    | _, _ => false)
  | _ => false) && decide (PySem.W.findIn K (.ref C) "__setattr__" = some (some (.builtin "object.__setattr__"))) && decide (PySem.W.subIn K (.ref C) (.type "BaseException") = some true) &&
  decide (PySem.W.typeIn K (.ref C) = some (.type "type")) && PySem.W.keepIn K (.ref C)
theorem oexB_ok {K : PySem.W.Frag} {C : Addr} (h : oexB K C = true) : OexC K C := by
  unfold oexB at h
  simp only [Bool.and_eq_true, decide_eq_true_eq] at h
  obtain ⟨⟨⟨⟨q, h1⟩, h2⟩, h3⟩, h4⟩ := h
  refine ⟨?_, h1, h2, h3, h4⟩
  split at q
  · rename_i dd cd sl ho
    split at q
    · rename_i C' bm k0 k1 k2 k3 n k5 hm hs
      simp only [Bool.and_eq_true, beq_iff_eq, Bool.not_eq_true'] at q
      obtain ⟨⟨⟨⟨rfl, rfl⟩, hdel⟩, hdict⟩, hv⟩ := q
      obtain ⟨nm, bs, mro, ns, qn, hd, sn, sub, ab, col, del⟩ := cd
      dsimp only at hm hdel hdict
      subst hm hdel hdict
      have hsl : sl = #[k0, k1, k2, k3, some (.builtin "ValueError.__new__"), k5] := by
        obtain ⟨l⟩ := sl
        simp only at hs
        rw [hs]
      subst hsl
      exact ⟨nm, qn, ns, bs, bm, sn, sub, ab, col, dd, k0, k1, k2, k3, k5, ho, hv⟩
    · cases q
  · cases q
def errB (K : PySem.W.Frag) (C : Addr) (f : Str) : Bool := oexB K C && (xfB K C && (decide (PySem.W.findIn K (.ref C) f = some none) && ((PySem.W.clsIn K C).isSome && (decide (PySem.W.findIn K (.ref C) "__class__" = some (some (.builtin "object.__class__"))) &&
  (decide (PySem.W.mroIn K C (.type "object") = some true) && (decide (PySem.W.findIn K (.ref C) "__init__" = some (some (.ref (He.ma K C "__init__")))) && decide (PySem.W.typeIn K (.ref (He.ma K C "__init__")) = some (.type "function"))))))))
theorem errB_ok {K : PySem.W.Frag} {C : Addr} {f : Str} (h : errB K C f = true) : ErrC K C f := by
  unfold errB at h
  simp only [Bool.and_eq_true, decide_eq_true_eq] at h
  obtain ⟨h1, h2, h3, h4, h5, h6, h7, h8⟩ := h
  exact ⟨oexB_ok h1, xfB_ok h2, h3, h4, h5, h6, h7, h8⟩
/-- the error c is a d -/
def subB (c d : Str) : Bool := c == d || d == "PressError"
structure ErrTab (K : PySem.W.Frag) (ca : Str → Addr) (errs : List Str) : Prop where
  err : ∀ c ∈ errs, ErrC K (ca c) (fld c)
  kit : ∀ c ∈ errs, ∀ d ∈ ("PressError" : Str) :: errs, PySem.W.kitOne K (.ref (ca c)) (.ref (ca d)) = some (subB c d)
  exm : ∀ c ∈ errs, ∀ d ∈ ("PressError" : Str) :: errs, PySem.W.exmOne K (.ref (ca c)) (.ref (ca d)) = some (subB c d)
  hn : PySem.W.specialIn K (.builtin "object.__class__") "__get__" = some (some (.builtin "getset_descriptor.__get__"))
  ht : PySem.W.takesIn K (.builtin "object.__class__") = some true
def errTabB (K : PySem.W.Frag) (ca : Str → Addr) (errs : List Str) : Bool := (errs.all fun c => errB K (ca c) (fld c)) && ((errs.all fun c => (("PressError" : Str) :: errs).all fun d => decide (PySem.W.kitOne K (.ref (ca c)) (.ref (ca d)) = some (subB c d)) && decide (PySem.W.exmOne K (.ref (ca c)) (.ref (ca d)) = some (subB c d))) &&
  (decide (PySem.W.specialIn K (.builtin "object.__class__") "__get__" = some (some (.builtin "getset_descriptor.__get__"))) && decide (PySem.W.takesIn K (.builtin "object.__class__") = some true)))
theorem errTabB_ok {K : PySem.W.Frag} {ca : Str → Addr} {errs : List Str} (h : errTabB K ca errs = true) : ErrTab K ca errs := by
  unfold errTabB at h
  simp only [Bool.and_eq_true, decide_eq_true_eq, List.all_eq_true] at h
  obtain ⟨h1, h2, h3, h4⟩ := h
  exact ⟨fun c hc => errB_ok (h1 c hc), fun c hc d hd => (h2 c hc d hd).1, fun c hc d hd => (h2 c hc d hd).2, h3, h4⟩

/-! ### PressError.__init__(self, ..) -/
structure PInit (K : PySem.W.Frag) (Cp : Addr) : Prop where
  ga : PySem.W.specialIn K (.ref Cp) "__getattribute__" = some (some (.builtin "type.__getattribute__"))
  rd : PySem.W.readsIn K Cp (.type "type") = true
  at_ : PySem.W.findCls K (.ref Cp) (.type "type") "__init__" = some (.val (.builtin "ValueError.__init__"))
def pinitB (K : PySem.W.Frag) (Cp : Addr) : Bool := decide (PySem.W.specialIn K (.ref Cp) "__getattribute__" = some (some (.builtin "type.__getattribute__"))) && (PySem.W.readsIn K Cp (.type "type") &&
  (match PySem.W.findCls K (.ref Cp) (.type "type") "__init__" with | some (.val (.builtin s)) => s == "ValueError.__init__" | _ => false))
theorem pinitB_ok {K : PySem.W.Frag} {Cp : Addr} (h : pinitB K Cp = true) : PInit K Cp := by
  unfold pinitB at h
  simp only [Bool.and_eq_true, decide_eq_true_eq] at h
  obtain ⟨h1, h2, h3⟩ := h
  refine ⟨h1, h2, ?_⟩
  split at h3
  · rename_i s e
    rw [e, beq_iff_eq.mp h3]
  · cases h3
theorem pe_pinit {X : Cx} {e : Expr} {es : List Expr} {ta : TA} {x : Str} {Cp : Addr} {p1 p2 pos : Pos} {pl : Sem Bool} (hg : Gl X x) (hm : X.mg x = some (.ref Cp)) (T : PInit X.K Cp) (ha : PA X (e :: es) ta) (hdb : (x == ("__debug__" : Str)) = false := by decide)
    (hc : eval (.Call (.Attribute (.Name x p1) "__init__" p2) (e :: es) [] pos) X.env = (do
      let ov ← eval (.Name x p1) X.env
      standAt p2.atName
      let (f, first) ← holding [ov] (getMethod ov "__init__" pl)
      callWith pos f first (backTo pos (starEach (e :: es) X.env)) (backToKw pos (keywordEach [] X.env))) := by rfl)
    (he : starEach (e :: es) X.env = (false, eval e X.env) :: starEach es X.env := by rfl) (hpl : (backTo pos (starEach es X.env)).any (·.1) = false := by rfl) :
    PE X (.Call (.Attribute (.Name x p1) "__init__" p2) (e :: es) [] pos) (tVeI X.K ta) := by
  refine ⟨fun pins s σ H Q I h => ?_⟩
  refine PySem.W.methodCall_KW (ld_glob I hg hm ?_ hdb) hc
  refine PySem.W.method_cls I.kIn T.ga (PySem.W.cls_value I.kIn T.rd T.at_ rfl ?_)
  show wpAny _ _ (callWith pos (Value.builtin "ValueError.__init__") [] (backTo pos (starEach (e :: es) X.env)) []) _ _ _
  refine PyProof.Rows.callWith_method1 (thn (ha.run pos pins _ σ H _ (I.tok _) h) fun us s1 hh => ?_) he hpl
  obtain ⟨vs, H1, I1, r1, a, C, ws, ev, hl, T2, ea, q⟩ := hh
  subst ev
  cases r1 with
  | @cons _ u0 _ ur ra rw' =>
    obtain rfl : u0 = Value.ref a := ra
    have hlen : ur.length ≤ sizeLine := by
      rw [← Paired.length rw', sizeLine_eq]
      omega
    exact oinit_ok T2 I1 ea hlen fun s' J => ⟨.non, H1, J, rfl, q⟩

/-! ### __init__ -/
def okX (c : Str) : D → Bool
  | .str x => !(c == "InvalidLine") && decide (x.length ≤ 1000)
  | .int i => c == "InvalidLine" && decide (i.natAbs.log2 < 1920)
  | _ => false
def OkV (c : Str) (v : V) : Prop := (c ≠ "InvalidLine" ∧ ∃ x : Str, v = .str x ∧ x.length ≤ 1000) ∨ (c = "InvalidLine" ∧ ∃ i : Int, v = .int i ∧ i.natAbs.log2 < 1920)
def spInit (c : Str) (C : Addr) : Sp := fun vs H Q E => ∃ a v, vs = [.ref a, v] ∧ OkV c v ∧ H a = some (exo a C none) ∧ ∀ dx, H dx = none → dx ≠ a → Q .non (upd (upd H dx (exd dx [(fld c, v)])) a (exo a C (some dx)))
theorem rp_okX {K : PySem.W.Frag} {S : Hp} {c : Str} {x : D} {v : V} (r : Rp K S x v) (h : okX c x = true) : OkV c v := by
  cases r with
  | str x =>
    simp only [okX, Bool.and_eq_true, Bool.not_eq_true', decide_eq_true_eq, beq_eq_false_iff_ne] at h
    exact .inl ⟨h.1, x, rfl, h.2⟩
  | int i =>
    simp only [okX, Bool.and_eq_true, decide_eq_true_eq, beq_iff_eq] at h
    exact .inr ⟨h.1, i, rfl, h.2⟩
  | non => cases h
  | bl => cases h
  | sqL => cases h
  | sqT => cases h
  | dk => cases h
  | dt => cases h
  | ob => cases h
  | fz => cases h
/-- "..." + what -/
theorem init_read {K : PySem.W.Frag} {c : Str} {C : Addr} {m : Str} {vs : List V} {H : Hp} {Q : VK} {E : XK} {N : List Str} (hN : 2 ≤ N.length) (hm : m.length ≤ 1000) (hc : c ≠ "InvalidLine") (T : OexC K C) (hno : PySem.W.findIn K (.ref C) (fld c) = some none) (h : spInit c C vs H Q E) :
    tSeq (tDrop (tVeI K (tCons (tVar 0) (tCons (tOp (rAddG K) (tC (.str m)) (tVar 1)) tNil)))) (tOst K (fld c) (tVar 0) (tVar 1)) { nx := fun _ H' => Q .non H', rt := Q } (L2.start N vs) H := by
  obtain ⟨a, v, rfl, ok, ha, q⟩ := h
  have g0 : (L2.start N [V.ref a, v])[0]? = some (some (.ref a)) := rfl
  have g1 : (L2.start N [V.ref a, v])[1]? = some (some v) := rfl
  rcases ok with ⟨_, x, rfl, hx⟩ | ⟨e, _⟩
  · refine ⟨_, g0, ?_⟩
    refine ⟨_, g1, ?_⟩
    refine .inr (.inl ⟨m, x, rfl, rfl, size_of (by omega), ?_⟩)
    refine ⟨a, C, [_], rfl, (by decide : 1 ≤ 1000), T, ha, ?_⟩
    refine ⟨_, g1, _, g0, a, C, rfl, T, hno, .inl ⟨ha, fun dx n ne => q dx n ne⟩⟩
  · exact absurd e hc
/-! ### raise -/
def sRaise (c : Str) (τ : DE) : DS := fun ρ => (τ ρ).bindS fun x ρ1 => if okX c x = true then .exc c x ρ1 else .bad
theorem del_mk {H : Hp} {a d C : Addr} {f : Str} {v : V} (ha : H a = none) (hd : H d = none) (hne : d ≠ a) : upd (del (upd (upd (upd H a (exo a C none)) d (exd d [(f, v)])) a (exo a C (some d))) a) d (.xd [(f, v)]) = upd H d (.xd [(f, v)]) := by
  funext b
  by_cases hb : b = d
  · rw [hb, upd_same, upd_same]
  · rw [upd_ne hb, upd_ne hb]
    by_cases hb2 : b = a
    · rw [hb2, del_same, ha]
    · rw [del_ne hb2, upd_ne hb2, upd_ne hb, upd_ne hb2]
theorem exo_exd {a d C : Addr} {fs : List (Str × V)} {o : Option Addr} : exo a C o ≠ exd d fs ∨ True := .inr trivial
theorem ls_raise {F : Fx} {W : WX} {c : Str} {τ : DE} {te : TE} (he : LE F W te τ) : LS F W (fun _ σ H => tMkO (F.ca c) (spInit c (F.ca c)) [] (tCons te tNil) σ H fun cls d H' => W cls d σ H') (sRaise c τ) := by
  refine ls_bind (P := fun D σ v H1 => [v].length ≤ 1000 ∧ ∀ a, H1 a = none → spInit c (F.ca c) (.ref a :: ([v] ++ [])) (upd H1 a (exo a (F.ca c) none)) (fun v H2 => v = .non ∧ ∃ (d : Addr) (fs : List (Str × V)), H2 a = some (exo a (F.ca c) (some d)) ∧ H2 d = some (exd d fs) ∧ H1 d = none ∧ W (.ref (F.ca c)) (some d) σ (upd (del H2 a) d (.xd fs))) (fun _ _ _ => False))
    he (fun D σ H => rfl) fun ρ1 σ S1 H1 x v E r => ?_
  by_cases hx : okX c x = true
  · rw [if_pos hx]
    refine fun D q => ⟨(by decide : 1 ≤ 1000), fun a ha => ?_⟩
    refine ⟨a, v, rfl, rp_okX r hx, upd_same, fun dx hdx hne => ?_⟩
    have hd1 : H1 dx = none := by
      rw [upd_ne hne] at hdx
      exact hdx
    refine ⟨rfl, dx, [(fld c, v)], upd_same, by rw [upd_ne hne, upd_same], hd1, ?_⟩
    rw [del_mk ha hd1 hne]
    exact q σ v dx S1 _ (E.temp hd1) upd_same (E.freshS hd1) (E.fresh0 hd1) (E.free hd1) r
  · rw [if_neg hx]
    trivial
end Pd

/-! Pd10: try .. except .. as e. -/
namespace Pd
open PySem L2 PyProof.Rows PySem.Spec

section
variable {F : Fx} {ρ ρ' : Env} {σ : L2.St} {S H : Hp}
theorem EO.conv (E : EO F ρ σ S H) (hl : ρ'.length = ρ.length) (hv : ∀ (i : Nat) (d : D), ρ'[i]? = some (.val d) → ρ[i]? = some (.val d)) (ho : ∀ (i : Nat) (p : Bool) (c : OC), ρ'[i]? = some (.own p c) → ρ[i]? = some (.own p c))
    (hp : ∀ x ∈ F.po, ρ'[x.1]? = ρ[x.1]?) (hh : ∀ x ∈ F.hd, ρ'[x.1]? = ρ[x.1]?) : EO F ρ' σ S H := by
  refine ⟨hl.trans E.len, E.sub0, E.sub, E.new, E.frame, fun i d h => E.val i d (hv i d h), fun i p c h => E.own i p c (ho i p c h), fun i j p q c d a h1 h2 h3 h4 => E.dis i j p q c d a (ho i p c h1) (ho j q d h2) h3 h4, fun x hx => ?_, fun x hx => ?_, fun x hx => ?_⟩
  · rw [hp x hx]
    exact E.po x hx
  · obtain ⟨k1, k2, k3⟩ := E.kp x hx
    exact ⟨k1, k2, fun i p c h => k3 i p c (ho i p c h)⟩
  · rw [hh x hx]
    exact E.hd x hx
/-- in an except suite: slot i holds the exception at a, its dict at dd -/
abbrev Fx.sx (F : Fx) (i : Nat) (a dd : Addr) (c : Str) (v : V) (S : Hp) : Fx := ⟨F.K, F.ca, F.po, S, F.H0, (dd, .xd [(fld c, v)]) :: F.kp, (i, a) :: F.hd⟩
theorem EO.sx {i : Nat} {a dd : Addr} {c : Str} {v : V} (E : EO F ρ σ S H) (hi : canSet ρ i = true) (hx : H dd = some (.xd [(fld c, v)])) (n1 : S dd = none) (fr : Free F ρ σ dd) : EO (F.sx i a dd c v S) (ρ.set i .hold) (σ.set i (some (.ref a))) S H := by
  have hl := canSet_lt hi
  have hpo := canSet_po E hi
  have hhd := canSet_hd E hi
  have E1 : EO F (ρ.set i .unk) (σ.set i (some (.ref a))) S H := E.setU hi
  have ow : ∀ (j : Nat) (p : Bool) (c : OC), (ρ.set i .unk)[j]? = some (.own p c) → j ≠ i ∧ ρ[j]? = some (.own p c) := fun j p c h => by
    by_cases hj : j = i
    · subst hj
      rw [List.getElem?_set_self hl] at h
      cases h
    · rw [List.getElem?_set_ne (Ne.symm hj)] at h
      exact ⟨hj, h⟩
  have E2 : EO F (ρ.set i .hold) (σ.set i (some (.ref a))) S H := by
    refine E1.conv (by simp) (fun j d h => ?_) (fun j p c h => ?_) (fun x hx => ?_) (fun x hx => ?_)
    · by_cases hj : j = i
      · subst hj
        rw [List.getElem?_set_self hl] at h
        cases h
      · rw [List.getElem?_set_ne (Ne.symm hj)] at h ⊢
        exact h
    · by_cases hj : j = i
      · subst hj
        rw [List.getElem?_set_self hl] at h
        cases h
      · rw [List.getElem?_set_ne (Ne.symm hj)] at h ⊢
        exact h
    · have := hpo x hx
      rw [List.getElem?_set_ne (Ne.symm this), List.getElem?_set_ne (Ne.symm this)]
    · have := hhd x hx
      rw [List.getElem?_set_ne (Ne.symm this), List.getElem?_set_ne (Ne.symm this)]
  refine ⟨E2.len, Same.refl S, E2.sub, fun b u h => .inl h, E2.frame, E2.val, E2.own, E2.dis, E2.po, fun x hx' => ?_, fun x hx' => ?_⟩
  · rcases List.mem_cons.mp hx' with rfl | hx'
    · refine ⟨hx, n1, fun j p c h hs => ?_⟩
      by_cases hj : j = i
      · subst hj
        rw [List.getElem?_set_self hl] at h
        cases h
      · rw [List.getElem?_set_ne (Ne.symm hj)] at h hs
        exact fr.1 j p c h hs
    · exact E2.kp x hx'
  · rcases List.mem_cons.mp hx' with rfl | hx'
    · exact ⟨List.getElem?_set_self hl, List.getElem?_set_self (E.len ▸ hl)⟩
    · exact E2.hd x hx'
theorem EO.unsx {i : Nat} {a dd : Addr} {c : Str} {v : V} {S1 H1 : Hp} {ρ1 : Env} {σ1 : L2.St} (E0 : EO F ρ σ S H) (hpo : ∀ x ∈ F.po, x.1 ≠ i) (hhd : ∀ x ∈ F.hd, x.1 ≠ i) (E : EO (F.sx i a dd c v S) ρ1 σ1 S1 H1) (o : Option V) : EO F (ρ1.set i .unk) (σ1.set i o) S1 H1 := by
  obtain ⟨hi, _⟩ := E.hd (i, a) List.mem_cons_self
  have hl := (List.getElem?_eq_some_iff.mp hi).1
  have ow : ∀ (j : Nat) (p : Bool) (c : OC), (ρ1.set i .unk)[j]? = some (.own p c) → j ≠ i ∧ ρ1[j]? = some (.own p c) := fun j p c h => by
    by_cases hj : j = i
    · subst hj
      rw [List.getElem?_set_self hl] at h
      cases h
    · rw [List.getElem?_set_ne (Ne.symm hj)] at h
      exact ⟨hj, h⟩
  refine ⟨by simpa using E.len, E0.sub0.trans E.sub0, E.sub, fun b u h => ?_, E.frame, fun j d h => ?_, fun j p c h => ?_, fun j k p q c d b h1 h2 h3 h4 => ?_, fun x hx => ?_, fun x hx => ?_, fun x hx => ?_⟩
  · rcases E.new b u h with z | z
    · exact E0.new b u z
    · exact .inr z
  · by_cases hj : j = i
    · subst hj
      rw [List.getElem?_set_self hl] at h
      cases h
    · rw [List.getElem?_set_ne (Ne.symm hj)] at h ⊢
      exact E.val j d h
  · obtain ⟨hj, h'⟩ := ow j p c h
    rw [List.getElem?_set_ne (Ne.symm hj)]
    exact E.own j p c h'
  · obtain ⟨hj, h1'⟩ := ow j p c h1
    obtain ⟨hk, h2'⟩ := ow k q d h2
    rw [List.getElem?_set_ne (Ne.symm hj)] at h3
    rw [List.getElem?_set_ne (Ne.symm hk)] at h4
    exact E.dis j k p q c d b h1' h2' h3 h4
  · have := hpo x hx
    rw [List.getElem?_set_ne (Ne.symm this), List.getElem?_set_ne (Ne.symm this)]
    exact E.po x hx
  · obtain ⟨k1, k2, k3⟩ := E.kp x (List.mem_cons_of_mem _ hx)
    refine ⟨k1, k2, fun j p c h => ?_⟩
    obtain ⟨hj, h'⟩ := ow j p c h
    rw [List.getElem?_set_ne (Ne.symm hj)]
    exact k3 j p c h'
  · have := hhd x hx
    rw [List.getElem?_set_ne (Ne.symm this), List.getElem?_set_ne (Ne.symm this)]
    exact E.hd x (List.mem_cons_of_mem _ hx)
end

/-! ### the statement -/
def unhold (i : Nat) : SR → SR
  | .ret d ρ => .ret d (ρ.set i .unk)
  | _ => .bad
def sTry (i : Nat) (errs : List Str) (cl : Str) (body : DS) (suite : Str → D → DS) : DS := fun ρ => match body ρ with
  | .exc c x ρ1 => if errs.contains c = true then (if subB c cl = true then (if canSet ρ1 i = true then unhold i (suite c x (ρ1.set i .hold)) else .bad) else .exc c x ρ1) else .bad
  | r => r
theorem SRok.weak {F : Fx} {W : WX} {S : Hp} {r r' : SR} {G : Ends → Prop} (h : SRok F W S r G) (e : r = r') : SRok F W S r' G := e ▸ h
theorem ls_try {F : Fx} {Wout : WX} {i : Nat} {errs : List Str} {cl : Str} {tb : WX → TS} {ts : Addr → Value → Option Addr → TS} {body : DS} {suite : Str → D → DS} (T : ErrTab F.K F.ca errs) (hcl : cl ∈ ("PressError" : Str) :: errs) (hb : ∀ W, LS F W (tb W) body)
    (hs : ∀ (a dd : Addr) (v : V) (S : Hp) (c : Str) (x : D), c ∈ errs → Rp F.K S x v → LS (F.sx i a dd c v S) W0 (ts a (.ref (F.ca c)) (some dd)) (suite c x)) :
    LS F Wout (fun D σ H => tb (wAs F.K (.ref (F.ca cl)) i ts Wout D) D σ H) (sTry i errs cl body suite) := by
  intro ρ σ S H E
  refine SRok.of fun D k => ?_
  have z := hb (wAs F.K (.ref (F.ca cl)) i ts Wout D) ρ σ S H E
  unfold sTry at k
  refine z.use ?_
  cases e : body ρ with
  | bad => rw [e] at k; exact k
  | nx ρ1 => rw [e] at k; exact k
  | ret d ρ1 => rw [e] at k; exact k
  | retO c ρ1 => rw [e] at k; exact k
  | bk ρ1 => rw [e] at k; exact k
  | ct ρ1 => rw [e] at k; exact k
  | exc c x ρ1 =>
    rw [e] at k
    simp only at k
    by_cases hc : errs.contains c = true
    · rw [if_pos hc] at k
      have hc' : c ∈ errs := by simpa using hc
      intro σ1 v dd S1 H1 E1 hx n1 n2 fr r
      refine ⟨subB c cl, T.exm c hc' cl hcl, fun hb1 a ha => ?_, fun hb1 => ?_⟩
      · rw [if_pos hb1] at k
        by_cases hi : canSet ρ1 i = true
        · rw [if_pos hi] at k
          have Es := E1.sx (a := a) hi hx n1 fr
          have y := hs a dd v S1 c x hc' r (ρ1.set i .hold) (σ1.set i (some (.ref a))) S1 H1 Es
          have hpo := canSet_po E1 hi
          have hhd := canSet_hd E1 hi
          refine y.use ?_
          cases es : suite c x (ρ1.set i .hold) with
          | bad => rw [es] at k; exact k
          | retO c ρ2 => rw [es] at k; exact k.elim
          | exc c x ρ2 => rw [es] at k; exact k.elim
          | nx ρ2 => rw [es] at k; exact k.elim
          | bk ρ2 => rw [es] at k; exact k.elim
          | ct ρ2 => rw [es] at k; exact k.elim
          | ret d ρ2 =>
            rw [es] at k
            exact fun v' σ' S' H' E' r' => k v' _ S' H' (E1.unsx hpo hhd E' none) r'
        · rw [if_neg hi] at k
          exact k.elim
      · rw [if_neg (by rw [hb1]; exact Bool.false_ne_true)] at k
        exact k σ1 v dd S1 H1 E1 hx n1 n2 fr r
    · rw [if_neg hc] at k
      exact k.elim

/-! ### in the suite -/
/-- isinstance(error, C | (C, ..)) -/
def rIsEG (K : PySem.W.Frag) (a : Addr) (cls : Value) (d : Option Addr) : List V → Hp → VK → Prop := fun xs H Q => ∃ (C dd : Addr) (fs : List (Str × V)) (c : V) (b : Bool), cls = .ref C ∧ d = some dd ∧ H dd = some (.xd fs) ∧ xs = [.ref a, c] ∧
  (PySem.W.clsIn K C).isSome = true ∧ XfC K C ∧ PySem.W.findIn K (.ref C) "__class__" = some (some (.builtin "object.__class__")) ∧ PySem.W.mroIn K C (.type "object") = some true ∧
  PySem.W.specialIn K (.builtin "object.__class__") "__get__" = some (some (.builtin "getset_descriptor.__get__")) ∧ PySem.W.takesIn K (.builtin "object.__class__") = some true ∧
  ((∃ u, ClsV c u ∧ PySem.W.kitOne K (.ref C) u = some b) ∨ ∃ (tp : Addr) (cs : List V) (us : List Value), c = .ref tp ∧ H tp = some (.tup cs) ∧ Paired ClsV cs us ∧ PySem.W.kitAny K (.ref C) us = some b) ∧ Q (.bl b) H
theorem call_isEG {X : Cx} {a : Addr} {oe : Obj} {cls : Value} {d : Option Addr} {pn : List (Addr × Obj)} (hz : Zc cls d oe) (hf : ∃ vs, oe.data = .fields vs) : CallR (X.suite a ((a, oe) :: pn)) (.builtin "isinstance") (rIsEG X.K a cls d) := by
  intro pins s σ H xs us Q I r h
  obtain ⟨C, dd, fs, c, b, rfl, rfl, hd, rfl, ic, xf, ha, hm, hn, ht, hc, q⟩ := h
  obtain ⟨u1, u2, rfl, r1, r2⟩ := vals2 r
  obtain rfl : u1 = Value.ref a := r1
  obtain ⟨hget, _⟩ := I.pin (a, oe) (List.mem_append_left _ List.mem_cons_self)
  obtain ⟨vs, hv⟩ := hf
  have hx : ObjOk X.prog X.w H s.heap dd (.xd fs) := I.hok dd _ hd
  obtain ⟨mA, hns, hr⟩ := hx
  obtain ⟨od, ho, hl⟩ := lookIn_ns hns
  have J : PySem.W.InstAt s.heap a oe C (some od) := ⟨hget, hz.1, by unfold PySem.W.notCls; rw [hv] <;> rfl, by rw [hz.2]; exact ho⟩
  have Z := PySem.W.kitx_exc (K := X.K) (x := a) (od := some od) (ox := oe) ic xf.ga xf.gg xf.exC ha hn ht hm
  rcases hc with ⟨u, k, e⟩ | ⟨tp, cs, ws, rfl, hT, k, e⟩
  · have e2 := k.eq r2
    subst e2
    exact PySem.W.kia_one Z I.kIn J e (fun z => nomatch z) fun tk => ⟨.bl b, H, I.tok tk, rfl, q⟩
  · obtain rfl : u2 = Value.ref tp := r2
    obtain ⟨_, its, rv, o, h1, h2, n, h3⟩ := (show ObjOk X.prog X.w H s.heap tp (.tup cs) from I.hok tp _ hT)
    have e3 := ClsV.all k rv
    subst e3
    obtain ⟨oc, od', dt, sl⟩ := o
    simp only at h2 h3
    subst h2 h3
    exact PySem.W.kia_tup Z I.kIn J h1 e (fun z => nomatch z) fun tk => ⟨.bl b, H, I.tok tk, rfl, q⟩
/-- error.f -/
def tXfG (K : PySem.W.Frag) (a : Addr) (cls : Value) (d : Option Addr) (f : Str) (te : TE) : TE := fun σ H Q => ∃ C, XfC K C ∧ PySem.W.findIn K (.ref C) f = some none ∧ tXf a cls d C f te σ H Q
theorem pe_xfG {X : Cx} {a : Addr} {oe : Obj} {cls : Value} {d : Option Addr} {pn : List (Addr × Obj)} {e : Expr} {te : TE} {pos : Pos} {n : Str} (hz : Zc cls d oe) (hf : ∃ vs, oe.data = .fields vs) (he : PE (X.suite a ((a, oe) :: pn)) e te) (hb : attributeBase e n X.env (eval e X.env) = eval e X.env := by rfl) :
    PE (X.suite a ((a, oe) :: pn)) (.Attribute e n pos) (tXfG X.K a cls d n te) := by
  refine ⟨fun pins s σ H Q I h => ?_⟩
  obtain ⟨C, T, hno, h⟩ := h
  exact (pe_xf T hno hz hf he hb).run pins s σ H Q I h
def dIsE (c : Str) (cs : List Str) : DE := fun ρ => .ok (.bl (cs.any (subB c))) ρ
def dXf (c : Str) (x : D) (f : Str) : DE := fun ρ => if f = fld c then .ok x ρ else .bad
def clsArgs (ca : Str → Addr) : List Str → TA
  | [] => tNil
  | c :: cs => tCons (tC (.ref (ca c))) (clsArgs ca cs)
theorem clsArgs_run (ca : Str → Addr) (bs : List Str) (σ : L2.St) : ∀ (H : Hp) (Q : List V → Hp → Prop), Q (bs.map fun c => V.ref (ca c)) H → clsArgs ca bs σ H Q := by
  induction bs with
  | nil => exact fun H Q q => q
  | cons b bs ih => exact fun H Q q => ih H _ q
theorem clsV_refs (ca : Str → Addr) : ∀ bs : List Str, Paired ClsV (bs.map fun c => V.ref (ca c)) (bs.map fun c => Value.ref (ca c))
  | [] => .nil
  | b :: bs => .cons (.own (ca b)) (clsV_refs ca bs)
section
variable {F : Fx} {errs : List Str} {i : Nat} {a dd : Addr} {v : V} {S : Hp} {c : Str} {x : D}
theorem kit_any (T : ErrTab F.K F.ca errs) (hc : c ∈ errs) : ∀ {cs : List Str}, (∀ d ∈ cs, d ∈ ("PressError" : Str) :: errs) → PySem.W.kitAny F.K (.ref (F.ca c)) (cs.map fun d => Value.ref (F.ca d)) = some (cs.any (subB c))
  | [], _ => rfl
  | d :: cs, h => by
    have h1 := T.kit c hc d (h d List.mem_cons_self)
    have ih := kit_any T hc fun e he => h e (List.mem_cons_of_mem _ he)
    rw [List.map_cons, PySem.W.kitAny, h1, List.any_cons]
    cases subB c d with
    | true => rfl
    | false => exact ih
theorem le_isE1 (T : ErrTab F.K F.ca errs) (hc : c ∈ errs) {d : Str} (hd : d ∈ ("PressError" : Str) :: errs) : LE (F.sx i a dd c v S) W0 (tCB (rIsEG F.K a (.ref (F.ca c)) (some dd)) (tCons (tVar i) (tCons (tC (.ref (F.ca d))) tNil))) (dIsE c [d]) := by
  intro ρ σ S1 H1 E Q q
  obtain ⟨hi, hs⟩ := E.hd (i, a) List.mem_cons_self
  obtain ⟨k1, _⟩ := E.kp (dd, .xd [(fld c, v)]) List.mem_cons_self
  have C := T.err c hc
  refine ⟨.ref a, hs, F.ca c, dd, _, .ref (F.ca d), _, rfl, rfl, k1, rfl, C.ic, C.xf, C.ha, C.hm, T.hn, T.ht, .inl ⟨_, .own (F.ca d), T.kit c hc d hd⟩, ?_⟩
  exact q _ S1 H1 E (Same.refl S1) (by rw [List.any_cons, List.any_nil, Bool.or_false]; exact .bl _)
theorem le_isEN (T : ErrTab F.K F.ca errs) (hc : c ∈ errs) {cs : List Str} (hl : cs.length ≤ 100) (hd : ∀ d ∈ cs, d ∈ ("PressError" : Str) :: errs) : LE (F.sx i a dd c v S) W0 (tCB (rIsEG F.K a (.ref (F.ca c)) (some dd)) (tCons (tVar i) (tCons (tTup (clsArgs F.ca cs)) tNil))) (dIsE c cs) := by
  intro ρ σ S1 H1 E Q q
  obtain ⟨hi, hs⟩ := E.hd (i, a) List.mem_cons_self
  have C := T.err c hc
  refine ⟨.ref a, hs, clsArgs_run F.ca cs σ H1 _ ⟨size_of (by rw [List.length_map]; omega), fun p hp => ?_⟩⟩
  have E2 := E.temp (o := .tup (cs.map fun c => V.ref (F.ca c))) hp
  obtain ⟨k1, _⟩ := E2.kp (dd, .xd [(fld c, v)]) List.mem_cons_self
  refine ⟨F.ca c, dd, _, .ref p, _, rfl, rfl, k1, rfl, C.ic, C.xf, C.ha, C.hm, T.hn, T.ht, .inr ⟨p, _, _, rfl, upd_same, clsV_refs F.ca cs, kit_any T hc hd⟩, ?_⟩
  exact q _ S1 _ E2 (Same.refl S1) (.bl _)
theorem le_xf (T : ErrTab F.K F.ca errs) (hc : c ∈ errs) (r : Rp F.K S x v) {f : Str} : LE (F.sx i a dd c v S) W0 (tXfG F.K a (.ref (F.ca c)) (some dd) f (tVar i)) (dXf c x f) := by
  intro ρ σ S1 H1 E
  unfold dXf
  by_cases hf : f = fld c
  · rw [if_pos hf]
    intro Q q
    obtain ⟨hi, hs⟩ := E.hd (i, a) List.mem_cons_self
    obtain ⟨k1, _⟩ := E.kp (dd, .xd [(fld c, v)]) List.mem_cons_self
    have C := T.err c hc
    exact ⟨F.ca c, C.xf, by rw [hf]; exact C.no, .ref a, hs, rfl, rfl, dd, _, v, rfl, k1, by rw [hf]; simp [List.lookup], q v S1 H1 E (Same.refl S1) (r.mono E.sub0)⟩
  · rw [if_neg hf]
    trivial
end
end Pd

/-! Pd11: the rules as the printed terms use them (K written). -/
namespace Pd
open PySem L2 PyProof.Rows PySem.Spec RT RZ

section
variable {X : Cx} {K : PySem.W.Frag} {k : Nat}
theorem wAdd (hK : X.K = K) : OpR X (binaryOp .Add) (rAddG K) := hK ▸ op_addG
theorem wLt (hK : X.K = K) (hr : Room k X.A) : OpR X (compareOp .Lt) (rLtG K) := hK ▸ op_ltG hr.units0
theorem wEq (hK : X.K = K) (hr : Room k X.A) : OpR X (compareOp .Eq) (rEqG K) := hK ▸ op_eqG hr.units
theorem wNe (hK : X.K = K) (hr : Room k X.A) : OpR X (compareOp .NotEq) (rNeG K) := hK ▸ op_neG hr.units
theorem wIn (hK : X.K = K) (hr : Room k X.A) : OpR X (compareOp .In) (rInG K) := hK ▸ op_inG (by have := hr.un; omega)
theorem wNin (hK : X.K = K) (hr : Room k X.A) : OpR X (compareOp .NotIn) (rNinG K) := hK ▸ op_ninG (by have := hr.un; omega)
theorem cLen (hK : X.K = K) : CallR X (.builtin "len") (rLenG K) := hK ▸ call_lenG
theorem cSum (hK : X.K = K) (hc : X.calm = true) : CallR X (.builtin "sum") (rSumG K) := hK ▸ cr_sumG hc
theorem cMin (hK : X.K = K) (hc : X.calm = true) : CallR X (.builtin "min") (rMinG K) := hK ▸ cr_minG hc
theorem cMax (hK : X.K = K) (hc : X.calm = true) : CallR X (.builtin "max") (rMaxG K) := hK ▸ cr_maxG hc
theorem cAny (hK : X.K = K) (hc : X.calm = true) : CallR X (.builtin "any") (rAny K) := hK ▸ cr_any hc
theorem cAll (hK : X.K = K) (hc : X.calm = true) : CallR X (.builtin "all") (rAll K) := hK ▸ cr_all hc
theorem cSorted (hK : X.K = K) : CallR X (.builtin "sorted") (rSortedI K) := hK ▸ cr_sortedI
theorem cIsi (hK : X.K = K) : CallR X (.builtin "isinstance") (rIsi K) := hK ▸ call_isi
theorem cIsiT (hK : X.K = K) : CallR X (.builtin "isinstance") (rIsiT K) := hK ▸ call_isiT
theorem cList (hK : X.K = K) : CallR X (.type "list") (fun xs H Q => ∃ p ys, xs = [.ref p] ∧ (SqL K H p ys ∨ SqT K H p ys) ∧ ∀ l, H l = none → Q (.ref l) (upd H l (.lst ys))) := hK ▸ call_list_of
theorem cTuple (hK : X.K = K) : CallR X (.type "tuple") (fun xs H Q => ∃ p ys, xs = [.ref p] ∧ ((SqL K H p ys ∧ ∀ l, H l = none → Q (.ref l) (upd H l (.tup ys))) ∨ (SqT K H p ys ∧ Q (.ref p) H))) := hK ▸ call_tuple_of
theorem wIx (hK : X.K = K) : IxR X (rIx K) := hK ▸ ix_seq
theorem wSl (hK : X.K = K) : SlR X (rSlG K) := hK ▸ sl_any
section
variable {tg e e2 : Expr} {te : TE} {ta : TA} {p pos tpos : Pos} {elts : List Expr} {kk : Nat}
theorem wiSeq (hK : X.K = K) (he : PE X e te) : PI X tg e (iSeq K te) := hK ▸ pi_seq he
theorem wiEnum (hK : X.K = K) (hg : Gl X "enumerate") (hm : X.mg "enumerate" = none) (ha : PA X [e] ta) (hs : starEach [e] X.env = [(false, eval e X.env)] := by rfl) : PI X (.Tuple elts kk tpos) (.Call (.Name "enumerate" p) [e] [] pos) (iEnum K ta) := hK ▸ pi_enum hg hm ha hs
theorem wiZip (hK : X.K = K) (hg : Gl X "zip") (hm : X.mg "zip" = none) (ha : PA X [e, e2] ta)
    (hs : starEach [e, e2] X.env = (false, eval e X.env) :: starEach [e2] X.env := by rfl) (hpl : (backTo pos (starEach [e2] X.env)).any (·.1) = false := by rfl) : PI X (.Tuple elts kk tpos) (.Call (.Name "zip" p) [e, e2] [] pos) (iZipA K ta) := hK ▸ pi_zipA hg hm ha hs hpl
theorem wiRev (hK : X.K = K) (hg : Gl X "reversed") (hm : X.mg "reversed" = none) (he : PE X e te) (hs : starEach [e] X.env = (false, eval e X.env) :: starEach [] X.env := by rfl) : PI X tg (.Call (.Name "reversed" p) [e] [] pos) (iRevA K te) := hK ▸ pi_revA hg hm he hs
end
theorem wgSeq {es : List Expr} {k : Nat} {t : TGs} {n : Nat} {pos : Pos} (hK : X.K = K) (hc : X.calm = true) (h : PGs X es t)
    (hn : (assignEach es X.env).length = n := by rfl) (hst : (assignEach es X.env).findIdx? (·.1) = none := by rfl) : PG X (.Tuple es k pos) (gSeq K n t) := hK ▸ pg_seq hc h hn hst
theorem wTru {a : Expr} {ta : TE} (hK : X.K = K) (ha : PE X a ta) (he : ∀ whole, isTrue a X.env whole = (do let v ← whole; standAt a.pos; holding [v] (truthy v)) := by intro _; rfl) : PT X a (tTru K ta) := hK ▸ pt_truth ha he
section
variable {o e : Expr} {to te : TE} {apos cpos : Pos}
theorem wApp (hK : X.K = K) (ho : PE X o to) (he : PE X e te)
    (hbase : attributeBase o "append" X.env (eval o X.env) = eval o X.env := by rfl)
    (hfew : ((backTo cpos (starEach (e :: []) X.env)).all (fun x => !x.1) && (backToKw cpos (keywordEach [] X.env)).all (fun x => x.1.isSome)
      && decide ((e :: ([] : List Expr)).length + ([] : List Keyword).length + (if ([] : List Keyword).isEmpty then 0 else 1) < 30)) = true := by rfl)
    (hline : (apos.endLine == cpos.line) = true := by rfl) (hs : starEach (e :: []) X.env = (false, eval e X.env) :: starEach [] X.env := by rfl) (hplain : (backTo cpos (starEach [] X.env)).any (·.1) = false := by rfl) :
    PE X (.Call (.Attribute o "append" apos) [e] [] cpos) (tBM K "list" rAppend to (tCons te tNil)) := hK ▸ pe_bm PySem.F.plainAttrs_list PySem.F.slot_list_append PySem.F.type_list_append mt_append ho (pa_cons he pa_nil hs) hbase hfew hline hs hplain
theorem wPop (hK : X.K = K) (ho : PE X o to) (hbase : attributeBase o "pop" X.env (eval o X.env) = eval o X.env := by rfl) (hline : (apos.endLine == cpos.line) = true := by rfl) :
    PE X (.Call (.Attribute o "pop" apos) [] [] cpos) (tBM0 K "list" rPop to) := hK ▸ pe_bm0 PySem.F.plainAttrs_list PySem.F.slot_list_pop PySem.F.type_list_pop mt_pop ho hbase hline
theorem wRev (hK : X.K = K) (ho : PE X o to) (hbase : attributeBase o "reverse" X.env (eval o X.env) = eval o X.env := by rfl) (hline : (apos.endLine == cpos.line) = true := by rfl) :
    PE X (.Call (.Attribute o "reverse" apos) [] [] cpos) (tBM0 K "list" rReverse to) := hK ▸ pe_bm0 PySem.F.plainAttrs_list PySem.F.slot_list_reverse PySem.F.type_list_reverse mt_reverse ho hbase hline
end
/-! ### ints in place -/
def fAddI : D → D → Option D := f2I fun i j => some (.int (i + j))
def fSubI : D → D → Option D := f2I fun i j => some (.int (i - j))
theorem o2_addI : Op2 K (rI0 fun i j => .int (i + j)) fAddI := o2_int0 fun i j z e => by cases e; exact ⟨_, rfl, fun _ => .int _⟩
theorem o2_subI : Op2 K (rI0 fun i j => .int (i - j)) fSubI := o2_int0 fun i j z e => by cases e; exact ⟨_, rfl, fun _ => .int _⟩
theorem wpAdd : PIp X .Add (rI0 fun i j => .int (i + j)) := iop_add
theorem wpSub : PIp X .Sub (rI0 fun i j => .int (i - j)) := iop_sub
end

/-! ### own defs -/
structure OkF (P : Program) (w : World) (K : PySem.W.Frag) (mg : Str → Option Value) (base : Heap) (k : Nat) (f : Addr) (ps : List Str) (sp : Sp) : Prop where
  ex : ∃ fd, FnOk P w K mg base (L2.CX P w) k f fd ps sp ∧ Binds K fd ps []
  kp : PySem.W.keepIn K (.ref f) = true
abbrev FnP (K : PySem.W.Frag) (x qual : Str) (st : Stmt) (f : Addr) : Prop := ∃ fd, FunD K x qual (defArgs st) (defBody st) (defScope st) [] [] f fd
theorem okF {P : Program} {w : World} {K : PySem.W.Frag} {mg : Str → Option Value} {base : Heap} {x qual : Str} {st : Stmt} {f : Addr} {N ps : List Str} {k n NN : Nat} {ca : Str → Addr} {τ : DS} (F : FnP K x qual st f) (Sc : FnScope N ps (defScope st)) (hn : ps.length = n) (hNN : N.length = NN)
    (hbind : ∀ (kV doc pm : Value) (an : Option Addr) (cdv ct : Value) (us : List Value), us.length = ps.length → bindArgs (PySem.W.fnOf x qual (defArgs st) (defBody st) (defScope st) .none kV doc pm an cdv ct) ⟨us, []⟩ = pure (ps.zip us))
    (hb : ∀ (cdv : Value) (A : Around) (outer : List PySem.Env) (s : Shared) (H : Hp) (E : XK), Room k (A.deeper (envOfC qual (defScope st) s.heap.objs.size f cdv)) → ∃ t, PSs (cxOf (L2.CX P w) P w K mg base N qual (defScope st) f cdv A outer s H E) (defBody st) t ∧
      ∀ (po : List (Nat × Addr)) (S0 H0 : Hp) (kp : List (Addr × HO)) (hd : List (Nat × Addr)), LS ⟨K, ca, po, S0, H0, kp, hd⟩ (fun cls d _ H => E cls d H) t τ) :
    OkF P w K mg base (k + 1) f ps (spOf K ca (fnRun n NN τ)) := by
  obtain ⟨fd, F⟩ := F
  subst hNN
  refine ⟨⟨fd, ?_, F.bindsN hbind⟩, F.kp⟩
  refine F.ok Sc (fun vs H Q E h => ?_) fun cdv A outer s H vs Q E hr hsp => ?_
  · obtain ⟨args, oa, S, _, r, h⟩ := h
    rw [← r.length, hn]
    refine fnRun_len (N := N.length) (τ := τ) fun e => ?_
    rw [e] at h
    exact h
  · obtain ⟨t, pt, lt⟩ := hb cdv A outer s H E hr
    exact ⟨t, pt, fn_end hsp lt⟩
/-- the law's own def -/
theorem okLaw {P : Program} {w : World} {K : PySem.W.Frag} {mg : Str → Option Value} {x qual p : Str} {st : Stmt} {f : Addr} {N : List Str} {k NN : Nat} {ca : Str → Addr} {τ : DS} (F : FnP K x qual st f) (Sc : FnScope N [p] (defScope st)) (hNN : N.length = NN)
    (hbind : ∀ (kV doc pm : Value) (an : Option Addr) (cdv ct : Value) (us : List Value), us.length = ([p] : List Str).length → bindArgs (PySem.W.fnOf x qual (defArgs st) (defBody st) (defScope st) .none kV doc pm an cdv ct) ⟨us, []⟩ = pure (([p] : List Str).zip us))
    (hb : ∀ (base : Heap) (cdv : Value) (A : Around) (outer : List PySem.Env) (s : Shared) (H : Hp) (E : XK), Room k (A.deeper (envOfC qual (defScope st) s.heap.objs.size f cdv)) → ∃ t, PSs (cxOf (L2.CX P w) P w K mg base N qual (defScope st) f cdv A outer s H E) (defBody st) t ∧
      ∀ (po : List (Nat × Addr)) (S0 H0 : Hp) (kp : List (Addr × HO)) (hd : List (Nat × Addr)), LS ⟨K, ca, po, S0, H0, kp, hd⟩ (fun cls d _ H => E cls d H) t τ) :
    ∃ fd, (∀ (s : Shared) (u : Value), BindsTo s fd ⟨[u], []⟩ [(p, u)]) ∧ ∀ base : Heap, FnOk P w K mg base (L2.CX P w) (k + 1) f fd [p] (spOf K ca (fnRun 1 NN τ)) := by
  obtain ⟨fd, F⟩ := F
  subst hNN
  refine ⟨fd, fun s u => F.bindsA hbind s [u] rfl, fun base => F.ok Sc (fun vs H Q E h => ?_) fun cdv A outer s H vs Q E hr hsp => ?_⟩
  · obtain ⟨args, oa, S, _, r, h⟩ := h
    rw [← r.length]
    show args.length = 1
    refine fnRun_len (n := 1) (N := N.length) (τ := τ) fun e => ?_
    rw [e] at h
    exact h
  · obtain ⟨t, pt, lt⟩ := hb base cdv A outer s H E hr
    exact ⟨t, pt, fn_end hsp lt⟩
theorem law_sp {K : PySem.W.Frag} {ca : Str → Addr} {m : List Arg → Out} {H : Hp} {a : Addr} {ns : List Int} (h : SqL K H a (ns.map V.int)) (hm : m [.d (.fz ns)] = .ret (.bl true) none) : spOf K ca m [.ref a] H (fun v _ => v = .bl true) fun _ _ _ => False := by
  refine ⟨[.d (.fz ns)], none, H, Same.refl H, .d (.fz h) .nil, ?_⟩
  rw [hm]
  intro v S' H' G r
  cases r
  rfl
/-- the ground of what a def may let out, whatever the world -/
def CXA : CXT := fun outer H s E u s' => ∃ (P : Program) (w : World), L2.CX P w outer H s E u s'
theorem fn_cxa {P : Program} {w : World} {K : PySem.W.Frag} {mg : Str → Option Value} {base : Heap} {k : Nat} {f : Addr} {fd : FuncData} {ps : List Str} {sp : Sp} (F : FnOk P w K mg base (L2.CX P w) k f fd ps sp) : FnOk P w K mg base CXA k f fd ps sp :=
  ⟨F.len, fun A outer s H args us vs Q E hr he hb hv hs => codeAny_mono (F.run A outer s H args us vs Q E hr he hb hv hs) fun r s' h => by
    cases r with
    | error e => exact ⟨P, w, h⟩
    | ok fl => cases fl <;> exact h⟩
theorem cxa_none (H : Hp) (s : Shared) (e : Value) (s' : Shared) (h : CXA [] H s (fun _ _ _ => False) e s') : False := by
  obtain ⟨_, _, _, _, _, _, _, _, _, _, _, _, _, _, z⟩ := h
  exact z
theorem cx_none {P : Program} {w : World} (H : Hp) (s : Shared) (e : Value) (s' : Shared) (h : L2.CX P w [] H s (fun _ _ _ => False) e s') : False := by
  obtain ⟨_, _, _, _, _, _, _, _, _, _, _, _, z⟩ := h
  exact z
theorem okF0 {P : Program} {w : World} {K : PySem.W.Frag} {mg : Str → Option Value} {base : Heap} {x qual : Str} {st : Stmt} {f : Addr} {ps : List Str} {k : Nat} {ca : Str → Addr} (F : FnP K x qual st f)
    (hbind : ∀ (kV doc pm : Value) (an : Option Addr) (cdv ct : Value) (us : List Value), us.length = ps.length → bindArgs (PySem.W.fnOf x qual (defArgs st) (defBody st) (defScope st) .none kV doc pm an cdv ct) ⟨us, []⟩ = pure (ps.zip us)) :
    OkF P w K mg base k f ps (spOf K ca fun _ => .bad) := by
  obtain ⟨fd, F⟩ := F
  refine ⟨⟨fd, ⟨fun vs H Q E h => ?_, fun A outer s H args us vs Q E _ _ _ _ h => ?_⟩, F.bindsN hbind⟩, F.kp⟩
  · obtain ⟨_, _, _, _, _, z⟩ := h
    exact z.elim
  · obtain ⟨_, _, _, _, _, z⟩ := h
    exact z.elim
theorem OkF.mono {P : Program} {w : World} {K : PySem.W.Frag} {mg : Str → Option Value} {base : Heap} {j k : Nat} {f : Addr} {ps : List Str} {sp : Sp} (O : OkF P w K mg base j f ps sp) (h : j ≤ k) : OkF P w K mg base k f ps sp := by
  obtain ⟨fd, F, b⟩ := O.ex
  exact ⟨⟨fd, F.mono h, b⟩, O.kp⟩
section
variable {X : Cx} {k j : Nat} {f : Addr} {ps : List Str} {sp : Sp} {x : Str} {p pos : Pos} {e : Expr} {es : List Expr} {t : TA} {W : WX}
theorem wCall (O : OkF X.prog X.w X.K X.mg X.base j f ps sp) (hr : Room k X.A) (h : j ≤ k) (tk : Takes X W) (hg : Gl X x) (hm : X.mg x = some (.ref f)) (ha : PA X (e :: es) t) (hdb : (x == ("__debug__" : Str)) = false := by decide)
    (he : starEach (e :: es) X.env = (false, eval e X.env) :: starEach es X.env := by rfl) (hpl : (backTo pos (starEach es X.env)).any (·.1) = false := by rfl) : PE X (.Call (.Name x p) (e :: es) [] pos) (tCallS sp (WE W) t) := by
  obtain ⟨fd, F, b⟩ := O.ex
  exact pe_callS (F.mono h) hr hg hm O.kp b (fun σ => passAt tk σ) ha hdb he hpl
theorem wCall0 (O : OkF X.prog X.w X.K X.mg X.base j f ps sp) (hr : Room k X.A) (h : j ≤ k) (hg : Gl X x) (hm : X.mg x = some (.ref f)) (ha : PA X (e :: es) t) (hdb : (x == ("__debug__" : Str)) = false := by decide)
    (he : starEach (e :: es) X.env = (false, eval e X.env) :: starEach es X.env := by rfl) (hpl : (backTo pos (starEach es X.env)).any (·.1) = false := by rfl) : PE X (.Call (.Name x p) (e :: es) [] pos) (tCall sp [] E0 t) := by
  obtain ⟨fd, F, b⟩ := O.ex
  exact pe_call (F.mono h) hr hg hm O.kp b .nil passL ha hdb he hpl
end

/-! ### own errors -/
structure OkI (P : Program) (w : World) (K : PySem.W.Frag) (mg : Str → Option Value) (base : Heap) (c : Str) (C : Addr) : Prop where
  ex : ∃ fd, FnOk P w K mg base (L2.CX P w) 1 (He.ma K C "__init__") fd ["self", "what"] (spInit c C) ∧ Binds K fd ["self", "what"] []
theorem wRaise {X : Cx} {W : WX} {k : Nat} {K : PySem.W.Frag} {c x : Str} {C : Addr} {p pos pos2 : Pos} {e : Expr} {te : TE} (hK : X.K = K) (T : ErrC K C (fld c)) (O : OkI X.prog X.w X.K X.mg X.base c C) (hr : Room k X.A) (h : 2 ≤ k) (hc : X.calm = true) (tk : Takes X W) (hg : Gl X x) (hm : X.mg x = some (.ref C)) (he : PE X e te)
    (hdb : (x == ("__debug__" : Str)) = false := by decide) (hs : starEach (e :: []) X.env = (false, eval e X.env) :: starEach [] X.env := by rfl) (hpl : (backTo pos (starEach [] X.env)).any (·.1) = false := by rfl) :
    PS X (.Raise (some (.Call (.Name x p) [e] [] pos)) none pos2) (fun _ σ H => tMkO C (spInit c C) [] (tCons te tNil) σ H fun cls d H' => W cls d σ H') := by
  subst hK
  obtain ⟨fd, F, b⟩ := O.ex
  exact ps_raise hc tk (pmk_oex T.o T.ini T.ty F (hr.mono h) b .nil passL hg hm (pa_cons he pa_nil hs) hdb hs hpl)
/-- __init__ of an error: "..." + what -/
theorem mkI {P : Program} {w : World} {K : PySem.W.Frag} {mg : Str → Option Value} {base : Heap} {c : Str} {C : Addr} {qual : Str} {st : Stmt} (F : FnP K "__init__" qual st (He.ma K C "__init__")) (T : ErrC K C (fld c)) (Sc : FnScope ["self", "what"] ["self", "what"] (defScope st))
    (hbind : ∀ (kV doc pm : Value) (an : Option Addr) (cdv ct : Value) (us : List Value), us.length = (["self", "what"] : List Str).length → bindArgs (PySem.W.fnOf "__init__" qual (defArgs st) (defBody st) (defScope st) .none kV doc pm an cdv ct) ⟨us, []⟩ = pure ((["self", "what"] : List Str).zip us))
    {m : Str} (hm : m.length ≤ 1000) (hc : c ≠ "InvalidLine")
    (hb : ∀ (cdv : Value) (A : Around) (outer : List PySem.Env) (s : Shared) (H : Hp) (E : XK), PSs (cxOf (L2.CX P w) P w K mg base ["self", "what"] qual (defScope st) (He.ma K C "__init__") cdv A outer s H E) (defBody st)
      (tSeq (tDrop (tVeI K (tCons (tVar 0) (tCons (tOp (rAddG K) (tC (.str m)) (tVar 1)) tNil)))) (tOst K (fld c) (tVar 0) (tVar 1)))) : OkI P w K mg base c C := by
  obtain ⟨fd, F⟩ := F
  refine ⟨⟨fd, ?_, F.bindsN hbind⟩⟩
  refine F.ok Sc (fun vs H Q E h => ?_) fun cdv A outer s H vs Q E hr hsp => ?_
  · obtain ⟨a, v, rfl, _⟩ := h
    rfl
  · exact ⟨_, hb cdv A outer s H E, init_read (by decide) hm hc T.o T.no hsp⟩
theorem wPinit {X : Cx} {K : PySem.W.Frag} {e : Expr} {es : List Expr} {ta : TA} {x : Str} {Cp : Addr} {p1 p2 pos : Pos} {pl : Sem Bool} (hK : X.K = K) (hg : Gl X x) (hm : X.mg x = some (.ref Cp)) (T : PInit K Cp) (ha : PA X (e :: es) ta) (hdb : (x == ("__debug__" : Str)) = false := by decide)
    (hc : eval (.Call (.Attribute (.Name x p1) "__init__" p2) (e :: es) [] pos) X.env = (do
      let ov ← eval (.Name x p1) X.env
      standAt p2.atName
      let (f, first) ← holding [ov] (getMethod ov "__init__" pl)
      callWith pos f first (backTo pos (starEach (e :: es) X.env)) (backToKw pos (keywordEach [] X.env))) := by rfl)
    (he : starEach (e :: es) X.env = (false, eval e X.env) :: starEach es X.env := by rfl) (hpl : (backTo pos (starEach es X.env)).any (·.1) = false := by rfl) :
    PE X (.Call (.Attribute (.Name x p1) "__init__" p2) (e :: es) [] pos) (tVeI K ta) := hK ▸ pe_pinit hg hm (hK ▸ T) ha hdb hc he hpl
theorem wOst {X : Cx} {K : PySem.W.Frag} {o e : Expr} {to te : TE} {f : Str} {p' pos : Pos} (hK : X.K = K) (ho : PE X o to) (he : PE X e te) (hs : swapsWith e (some (.Attribute o f p')) pos.line X.env = pure false := by rfl) : PS X (.Assign [.Attribute o f p'] e pos) (tOst K f to te) := hK ▸ ps_ost ho he hs

/-! ### try -/
theorem wTry {X : Cx} {K : PySem.W.Frag} {x n : Str} {C : Addr} {i : Nat} {body suite : List Stmt} {b₀ : Stmt} {np pos pos' : Pos} {tb : WX → TS} {ts : Addr → Value → Option Addr → TS} {Wout : WX} (hK : X.K = K) (hs : X.stack = X.env :: X.outer) (hf : X.env.frame = some X.env.locals) (hN : X.N.Nodup) (hi : X.N[i]? = some n) (hln : X.env.kindOf n = some .local) (hg : Gl X x) (hm : X.mg x = some (.ref C)) (tk : Takes X Wout)
    (hb : ∀ (W : WX) (pn : List (Addr × Obj)) (xe : Value → Shared → Prop), Takes (X.tr pn xe) W → PassesOwn (model X.prog X.w) X.A X.env xe → PSs (X.tr pn xe) body (tb W))
    (hsu : ∀ (a : Addr) (oe : Obj) (cls : Value) (d : Option Addr) (pn : List (Addr × Obj)), Zc cls d oe → (∃ vs, oe.data = .fields vs) → PSs (X.suite a ((a, oe) :: pn)) (b₀ :: suite) (ts a cls d)) (hdb : (x == ("__debug__" : Str)) = false := by decide) :
    PS X (.Try body [.ExceptHandler (some (.Name x np)) (some n) (b₀ :: suite) pos'] [] [] pos) (fun D σ H => tb (wAs K (.ref C) i ts Wout D) D σ H) := hK ▸ ps_try_as hs hf hN hi hln ⟨hg, hdb, .inl hm⟩ tk hb hsu
theorem wIsE {X : Cx} {K : PySem.W.Frag} {a : Addr} {oe : Obj} {cls : Value} {d : Option Addr} {pn : List (Addr × Obj)} (hK : X.K = K) (hz : Zc cls d oe) (hf : ∃ vs, oe.data = .fields vs) : CallR (X.suite a ((a, oe) :: pn)) (.builtin "isinstance") (rIsEG K a cls d) := hK ▸ call_isEG hz hf
theorem wXf {X : Cx} {K : PySem.W.Frag} {a : Addr} {oe : Obj} {cls : Value} {d : Option Addr} {pn : List (Addr × Obj)} {e : Expr} {te : TE} {pos : Pos} {n : Str} (hK : X.K = K) (hz : Zc cls d oe) (hf : ∃ vs, oe.data = .fields vs) (he : PE (X.suite a ((a, oe) :: pn)) e te) (hb : attributeBase e n X.env (eval e X.env) = eval e X.env := by rfl) :
    PE (X.suite a ((a, oe) :: pn)) (.Attribute e n pos) (tXfG K a cls d n te) := hK ▸ pe_xfG hz hf he hb

/-! ### the Hook: the facts by names, a Bool more, the statics within -/
def asP (g : Addr → Option Obj) (n : Nat) : List Addr := He.asD g n ++ [cStatics]
abbrev AlP : Type := He.AlD × Bool
def obsK (fa : List He.Fa) (fn : List He.DefD) (ex : PySem.W.Frag → Bool) (K : PySem.W.Frag) : AlP := (He.obsD fa fn K, ex K)
def obsP (n : Nat) (fa : List He.Fa) (fn : List He.DefD) (ex : PySem.W.Frag → Bool) (g : Addr → Option Obj) : AlP := obsK fa fn ex (He.frG g (asP g n))
structure SaysP (fa : List He.Fa) (fn : List He.DefD) (ex : PySem.W.Frag → Bool) (K : PySem.W.Frag) : Prop where
  d : He.SaysD fa fn K
  more : ex K = true
def hookP (n : Nat) (fa : List He.Fa) (fn : List He.DefD) (ex : PySem.W.Frag → Bool) : PySem.W.Hook where
  α := AlP
  obs := fun s => obsP n fa fn ex s.heap.get?
  val := fun _ => (He.valD fn, true)
  says := fun _ h => ∃ K : PySem.W.Frag, K.In h ∧ SaysP fa fn ex K
  of := fun _ s e => ⟨He.frG s.heap.get? (asP s.heap.get? n), He.frG_in, congrArg (fun z : AlP => z.1) e, congrArg (fun z : AlP => z.2) e⟩
  keeps := fun _ _ _ ⟨K, hK, c⟩ k => ⟨K, PySem.W.Frag.In.keeps hK k, c⟩
theorem obsP_eq {n : Nat} {fa : List He.Fa} {fn : List He.DefD} {ex : PySem.W.Frag → Bool} {g : Addr → Option Obj} {s : Shared} (h : ∀ a, g a = s.heap.get? a) : obsP n fa fn ex g = (hookP n fa fn ex).obs s := by
  have e : g = s.heap.get? := funext h
  rw [e] <;> rfl
end Pd

/-! Pd12: more built-ins. -/
namespace Pd
open PySem L2 PyProof.Rows PySem.Spec RT RZ

section
variable {F : Fx} {W : WX} {K : PySem.W.Frag} {X : Cx}
/-! ### xs.index(y) -/
def idxD (x : D) : List D → Option Nat
  | [] => none
  | y :: ys => if eqF y x = true then some 0 else (idxD x ys).map (· + 1)
def fIndex (x y : D) : Option D := match x with
  | .sq true ds => if flatD y = true ∧ ds.all flatD = true then (idxD y ds).map fun n => .int (n : Int) else none
  | _ => none
theorem idxD_some {y : D} : ∀ {ds : List D} {j : Nat}, idxD y ds = some j → (∃ z, ds[j]? = some z ∧ eqF z y = true) ∧ ∀ m z, m < j → ds[m]? = some z → eqF z y = false
  | [], j, h => by cases h
  | d :: ds, j, h => by
    rw [idxD] at h
    by_cases hd : eqF d y = true
    · rw [if_pos hd] at h
      cases h
      exact ⟨⟨d, rfl, hd⟩, fun m z hm => absurd hm (Nat.not_lt_zero m)⟩
    · rw [if_neg hd] at h
      cases e : idxD y ds with
      | none => rw [e] at h; cases h
      | some k =>
        rw [e] at h
        cases h
        obtain ⟨⟨z, h1, h2⟩, h3⟩ := idxD_some e
        refine ⟨⟨z, by simpa using h1, h2⟩, fun m z' hm hz => ?_⟩
        cases m with
        | zero =>
          simp at hz
          subst hz
          exact Bool.eq_false_iff.mpr hd
        | succ m => exact h3 m z' (Nat.lt_of_succ_lt_succ hm) (by simpa using hz)
def dIndex (τa : Env → Res Opd) (τ : DE) : DE := fun ρ => (τa ρ).bind fun x ρ1 => match rdO ρ1 x with
  | some (.sq true _) => (τ ρ1).bind fun y ρ2 => match rdO ρ2 x with
    | some dx => ofO (fIndex dx y) ρ2
    | none => .bad
  | _ => .bad
theorem le_index {ta tb : TE} {τa : Env → Res Opd} {τ : DE} (ha : LO F W ta τa) (hb : LE F W tb τ) : LE F W (tBM F.K "list" (rIndex F.K) ta (tCons tb tNil)) (dIndex τa τ) := by
  refine LG.of (fun ρ ρ' σ S H d E e Q q => ?_) (fun ρ ρ' σ S H c x E e Q q => ?_)
  · obtain ⟨x, ρ1, e1, e⟩ := Res.bind_ok e
    refine ha.ok E e1 fun vx S1 H1 E1 s1 rx => ?_
    cases q1 : rdO ρ1 x with
    | none => rw [q1] at e; cases e
    | some dx =>
      rw [q1] at e
      have rr := rdO_rel E1 rx q1
      cases dx with
      | sq l ds =>
        cases l with
        | false => cases e
        | true =>
          obtain ⟨a, vs, hv, hl, rl⟩ := rr.lst E1.sub
          subst hv
          obtain ⟨y, ρ2, e2, e⟩ := Res.bind_ok e
          refine ⟨Or.inl ⟨rfl, _, Or.inl (Or.inl hl)⟩, ?_⟩
          refine hb.ok E1 e2 fun vy S2 H2 E2 s2 ry => ?_
          cases q2 : rdO ρ2 x with
          | none => rw [q2] at e; cases e
          | some dx2 =>
            rw [q2] at e
            obtain ⟨ef, rfl⟩ := ofO_ok e
            have rr2 := rdO_rel E2 (rx.mono s2) q2
            cases dx2 with
            | sq l2 ds2 =>
              cases l2 with
              | false => cases ef
              | true =>
                obtain ⟨a2, vs2, hv2, hl2, rl2⟩ := rr2.lst E2.sub
                cases hv2
                unfold fIndex at ef
                simp only at ef
                by_cases hf : flatD y = true ∧ ds2.all flatD = true
                · rw [if_pos hf] at ef
                  cases ei : idxD y ds2 with
                  | none => rw [ei] at ef; cases ef
                  | some j =>
                    rw [ei] at ef
                    cases ef
                    obtain ⟨⟨z, h1, h2⟩, h3⟩ := idxD_some ei
                    obtain ⟨vz, g1, g2⟩ := rl2.get h1
                    refine ⟨a, vs2, vy, j, vz, rfl, rfl, SqL.of hl2, flat_rel ry hf.1, flats_rel rl2 hf.2, g1, by rw [eqF_rel g2 ry]; exact h2, fun m z' hm hz' => ?_, q _ S2 H2 E2 (s1.trans s2) (.int _)⟩
                    obtain ⟨dz, k1, k2⟩ := rl2.getV hz'
                    rw [eqF_rel k2 ry]
                    exact h3 m dz hm k1
                · rw [if_neg hf] at ef
                  cases ef
            | _ => cases ef
      | _ => cases e
  · rcases Res.bind_exc e with e1 | ⟨x1, ρ1, e1, e⟩
    · exact ha.exc E e1 q
    · refine ha.ok E e1 fun vx S1 H1 E1 s1 rx => ?_
      cases q1 : rdO ρ1 x1 with
      | none => rw [q1] at e; cases e
      | some dx =>
        rw [q1] at e
        have rr := rdO_rel E1 rx q1
        cases dx with
        | sq l ds =>
          cases l with
          | false => cases e
          | true =>
            obtain ⟨a, vs, hv, hl, rl⟩ := rr.lst E1.sub
            subst hv
            refine ⟨Or.inl ⟨rfl, _, Or.inl (Or.inl hl)⟩, ?_⟩
            rcases Res.bind_exc e with e2 | ⟨y, ρ2, e2, e⟩
            · exact hb.exc E1 e2 q
            · cases q2 : rdO ρ2 x1 with
              | none => rw [q2] at e; cases e
              | some dx2 => rw [q2] at e; exact (ofO_exc e).elim
        | _ => cases e
theorem wIndex {o e : Expr} {to te : TE} {apos cpos : Pos} (hK : X.K = K) (ho : PE X o to) (he : PE X e te)
    (hbase : attributeBase o "index" X.env (eval o X.env) = eval o X.env := by rfl)
    (hfew : ((backTo cpos (starEach (e :: []) X.env)).all (fun x => !x.1) && (backToKw cpos (keywordEach [] X.env)).all (fun x => x.1.isSome)
      && decide ((e :: ([] : List Expr)).length + ([] : List Keyword).length + (if ([] : List Keyword).isEmpty then 0 else 1) < 30)) = true := by rfl)
    (hline : (apos.endLine == cpos.line) = true := by rfl) (hs : starEach (e :: []) X.env = (false, eval e X.env) :: starEach [] X.env := by rfl) (hplain : (backTo cpos (starEach [] X.env)).any (·.1) = false := by rfl) :
    PE X (.Call (.Attribute o "index" apos) [e] [] cpos) (tBM K "list" (rIndex K) to (tCons te tNil)) := hK ▸ pe_bm PySem.F.plainAttrs_list PySem.F.slot_list_index PySem.F.type_list_index mt_index ho (pa_cons he pa_nil hs) hbase hfew hline hs hplain

/-! ### the append that may fail to find its list -/
def sAppG (i : Nat) (τ : DE) : DS := fun ρ => if isOwn ρ i = true then sApp i τ ρ else .bad

/-! ### xs[i] += n -/
def rGetL (K : PySem.W.Frag) : V → V → Hp → VK → Prop := fun o i H Q => ∃ p xs k j x, o = .ref p ∧ i = .int k ∧ H p = some (.lst xs) ∧ ixN xs.length k = some j ∧ xs[j]? = some x ∧ Q x H
def sAugL (f : D → D → Option D) (i : Nat) (τi τ : DE) : DS := fun ρ => match slotL ρ i with
  | some _ => (τi ρ).bindS fun j ρ1 => match j with
    | .int n => match slotL ρ1 i with
      | some (p, ds) => match ixN ds.length n with
        | some k => match ds[k]? with
          | some x => (τ ρ1).bindS fun y ρ2 => match f x y with
            | some z => match slotL ρ2 i with
              | some (p2, ds2) => if ds2.length = ds.length then .nx (ρ2.set i (.own p2 (.l (ds2.set k z)))) else .bad
              | none => .bad
            | none => .bad
          | none => .bad
        | none => .bad
      | none => .bad
    | _ => .bad
  | none => .bad
end
end Pd

/-! Pd13: sorted pairs; xs[i] op= e. -/
namespace Pd
open PySem L2 PyProof.Rows PySem.Spec RT RZ

/-! ### sorted(list of pairs of ints) -/
def lexLe (p q : Int × Int) : Bool := decide (p.1 < q.1) || (decide (p.1 = q.1) && decide (p.2 ≤ q.2))
def sortP (ps : List (Int × Int)) : List (Int × Int) := ps.mergeSort lexLe
theorem lexLe_iff {p q : Int × Int} : lexLe p q = true ↔ p.1 < q.1 ∨ (p.1 = q.1 ∧ p.2 ≤ q.2) := by
  unfold lexLe
  simp
theorem sortP_uniq {ps qs : List (Int × Int)} (h1 : qs.Perm ps) (h2 : qs.Pairwise fun x y => lexLe x y = true) : qs = sortP ps := by
  have tr : ∀ a b c : Int × Int, lexLe a b = true → lexLe b c = true → lexLe a c = true := fun a b c x y => by
    rw [lexLe_iff] at x y ⊢
    omega
  have tot : ∀ a b : Int × Int, (lexLe a b || lexLe b a) = true := fun a b => by
    rw [Bool.or_eq_true, lexLe_iff, lexLe_iff]
    omega
  have p2 : (sortP ps).Pairwise fun x y => lexLe x y = true := List.pairwise_mergeSort tr tot ps
  refine List.Perm.eq_of_pairwise (le := fun x y => lexLe x y = true) (fun a b _ _ x y => ?_) h2 p2 (h1.trans (List.mergeSort_perm ps lexLe).symm)
  rw [lexLe_iff] at x y
  exact Prod.ext (by omega) (by omega)
def keyV (s : Shared) : Value → Int × Int
  | .ref t => match s.heap.get? t with
    | some o => match o.data with
      | .seq its _ => match its.toList with
        | [.int i _, .int j _] => (i, j)
        | _ => (0, 0)
      | _ => (0, 0)
    | none => (0, 0)
  | _ => (0, 0)
/-- x is a pair of these ints -/
def PairAt (K : PySem.W.Frag) (H : Hp) (x : V) (p : Int × Int) : Prop := ∃ t, x = V.ref t ∧ SqT K H t [.int p.1, .int p.2]
def rSortedPD (K : PySem.W.Frag) : List V → Hp → VK → Prop := fun vs H Q => ∃ (a : Addr) (xs : List V) (ps : List (Int × Int)) (R : V → Int × Int → Prop), vs = [V.ref a] ∧ SqL K H a xs ∧ (∀ x p, R x p → PairAt K H x p) ∧ Paired R xs ps ∧
  ∀ ys p, Paired R ys (sortP ps) → H p = none → Q (.ref p) (upd H p (.lst ys))
theorem paired_mem {α β : Type} {R : α → β → Prop} : ∀ {xs : List α} {ps : List β}, Paired R xs ps → ∀ x ∈ xs, ∃ p ∈ ps, R x p
  | _, _, .nil, x, h => nomatch h
  | _, _, .cons r t, x, h => by
    rcases List.mem_cons.mp h with rfl | h
    · exact ⟨_, List.mem_cons_self, r⟩
    · obtain ⟨p, hp, q⟩ := paired_mem t x h
      exact ⟨p, List.mem_cons_of_mem _ hp, q⟩
theorem paired_imp {α β : Type} {R R' : α → β → Prop} (h : ∀ x p, R x p → R' x p) : ∀ {xs : List α} {ps : List β}, Paired R xs ps → Paired R' xs ps
  | _, _, .nil => .nil
  | _, _, .cons r t => .cons (h _ _ r) (paired_imp h t)
theorem paired_fun {α β : Type} {R : α → β → Prop} (f : α → β) : ∀ {xs : List α}, (∀ x ∈ xs, R x (f x)) → Paired R xs (xs.map f)
  | [], _ => .nil
  | x :: xs, h => .cons (h x List.mem_cons_self) (paired_fun f fun y hy => h y (List.mem_cons_of_mem _ hy))
theorem cr_sortedPD {X : Cx} : CallR X (.builtin "sorted") (rSortedPD X.K) := by
  intro pins s σ H vs us Q I r h
  obtain ⟨a, xs, ps, R, rfl, hs, hR, hxR, q⟩ := h
  have hx : Paired (PairAt X.K H) xs ps := paired_imp hR hxR
  obtain ⟨its, rv, hl, hz⟩ := I.list hs
  obtain ⟨u, rfl, ru⟩ := vals1 r
  obtain rfl : u = Value.ref a := ru
  obtain ⟨e1, e2⟩ := refs_back rv fun x m => by
    obtain ⟨p, _, t, e, _⟩ := paired_mem hx x m
    exact ⟨t, e⟩
  -- what the tuples hold
  have at_ : ∀ {x : V} {p : Int × Int}, PairAt X.K H x p → ∃ t o t1 t2 n, x = V.ref t ∧ s.heap.get? t = some o ∧ o.cls = .type "tuple" ∧ o.data = .seq #[.int p.1 t1, .int p.2 t2] n := fun {x p} hp => by
    obtain ⟨t, ex, ht⟩ := hp
    obtain ⟨its2, r2, ⟨o, ho, hc, n, hd⟩, _⟩ := I.tuple ht
    obtain ⟨u1, u2, rfl, ri, rj⟩ := vals2 r2
    obtain ⟨t1, rfl⟩ := ri
    obtain ⟨t2, rfl⟩ := rj
    exact ⟨t, o, t1, t2, n, ex, ho, hc, hd⟩
  have key : ∀ {x : V} {u : Value} {p : Int × Int}, PairAt X.K H x p → RelV x u → keyV s u = p := fun {x u p} hp hu => by
    obtain ⟨t, o, t1, t2, n, rfl, ho, hc, hd⟩ := at_ hp
    obtain rfl : u = Value.ref t := hu
    show (match s.heap.get? t with | some o => _ | none => _) = p
    rw [ho]
    simp only [hd]
  have kmap : ∀ {xs : List V} {us : List Value} {ps : List (Int × Int)}, Paired (PairAt X.K H) xs ps → Vals xs us → us.map (keyV s) = ps := by
    intro xs us ps h1
    induction h1 generalizing us with
    | nil =>
      intro h2
      cases h2
      rfl
    | cons r t ih =>
      intro h2
      cases h2 with
      | cons r2 t2 => rw [List.map_cons, key r r2, ih t2]
  have kof : ∀ {xs : List V} {us : List Value} {ps : List (Int × Int)}, Paired R xs ps → Vals xs us → ∀ u ∈ us, R (backV u) (keyV s u) := by
    intro xs us ps h1
    induction h1 generalizing us with
    | nil =>
      intro h2 u hu
      cases h2
      cases hu
    | cons r t ih =>
      intro h2 u hu
      cases h2 with
      | cons r2 t2 =>
        rcases List.mem_cons.mp hu with rfl | hu
        · rw [key (hR _ _ r) r2]
          obtain ⟨t', ex, ht⟩ := hR _ _ r
          subst ex
          obtain rfl := (show _ = Value.ref t' from r2)
          exact r
        · exact ih t2 u hu
  refine SrtO.sorted_pairsO (k := keyV s) hl.isList (by rw [← rv.length]; exact hz) (fun v hv => ?_) fun h' d out h1 h2 kp hd hn => ?_
  · have hp := hR _ _ (kof hxR rv v hv)
    obtain ⟨t, o, t1, t2, n, ex, ho, hc, hd⟩ := at_ hp
    obtain ⟨t', rfl⟩ := e2 v hv
    have : t' = t := V.ref.inj ex
    subst this
    exact ⟨t', o, t1, t2, n, rfl, ho, hc, hd⟩
  · have h3 : ∀ u ∈ out, ∃ a, u = Value.ref a := fun u hu => e2 u (h2.perm.mem_iff.mp hu)
    obtain ⟨n, hn⟩ := hn
    have eq : out.map (keyV s) = sortP ps := by
      refine sortP_uniq ?_ ?_
      · rw [← kmap hx rv]
        exact h2.perm.map _
      · rw [List.pairwise_map]
        refine h1.imp fun {x y} hxy => ?_
        have z := SrtO.lexB_no.mp hxy
        rw [lexLe_iff]
        omega
    have hb : out.length ≤ sizeLine := by
      rw [h2.perm.length_eq, ← rv.length]
      exact hz
    refine ⟨.ref d, upd H d (.lst (out.map backV)), I.laid (t' := s.toks) kp hd ⟨by rw [List.length_map]; exact hb, out, n, vals_back h3, hn⟩, rfl, q _ d ?_ (I.hok.fresh hd)⟩
    have e : Paired R (out.map backV) (out.map (keyV s)) := by
      have : ∀ l : List Value, (∀ u ∈ l, R (backV u) (keyV s u)) → Paired R (l.map backV) (l.map (keyV s)) := by
        intro l
        induction l with
        | nil => exact fun _ => .nil
        | cons u l ih => exact fun h => .cons (h u List.mem_cons_self) (ih fun y hy => h y (List.mem_cons_of_mem _ hy))
      exact this out fun u hu => kof hxR rv u (h2.perm.mem_iff.mp hu)
    rw [eq] at e
    exact e

def rSortedG (K : PySem.W.Frag) : List V → Hp → VK → Prop := fun vs H Q => rSortedI K vs H Q ∨ rSortedPD K vs H Q
theorem cSortedG {X : Cx} {K : PySem.W.Frag} (hK : X.K = K) : CallR X (.builtin "sorted") (rSortedG K) := hK ▸ cr_sortedI.or cr_sortedPD
def pairD (p : Int × Int) : D := .sq false [.int p.1, .int p.2]
def pairsOf : List D → Option (List (Int × Int))
  | [] => some []
  | .sq false [.int i, .int j] :: r => (pairsOf r).map ((i, j) :: ·)
  | _ => none
def fSortedG : List D → Option (List D)
  | [.sq true ds] => match intsOf ds with
    | some ns => some ((sortI ns).map .int)
    | none => (pairsOf ds).map fun ps => (sortP ps).map pairD
  | _ => none
theorem pairsOf_eq : ∀ {ds : List D} {ps : List (Int × Int)}, pairsOf ds = some ps → ds = ps.map pairD
  | [], ps, e => by cases e; rfl
  | d :: ds, ps, e => by
    unfold pairsOf at e
    split at e
    · rename_i h
      cases h
    · rename_i i j r h
      cases h
      cases q : pairsOf ds with
      | none => rw [q] at e; cases e
      | some qs =>
        rw [q] at e
        cases e
        rw [List.map_cons, ← pairsOf_eq q]
        rfl
    · cases e
theorem rpl_paired {K : PySem.W.Frag} {S : Hp} : ∀ {ps : List (Int × Int)} {vs : List V}, RpL K S (ps.map pairD) vs → Paired (fun x p => Rp K S (pairD p) x) vs ps
  | [], _, .nil => .nil
  | _ :: _, _, .cons r t => .cons r (rpl_paired t)
theorem paired_rpl {K : PySem.W.Frag} {S : Hp} : ∀ {ps : List (Int × Int)} {vs : List V}, Paired (fun x p => Rp K S (pairD p) x) vs ps → RpL K S (ps.map pairD) vs
  | [], _, .nil => .nil
  | _ :: _, _, .cons r t => .cons r (paired_rpl t)
theorem pair_at {K : PySem.W.Frag} {S H : Hp} (sub : Same S H) {x : V} {p : Int × Int} (r : Rp K S (pairD p) x) : PairAt K H x p := by
  unfold pairD at r
  cases r with
  | @sqT a vs _ h r =>
    have e := ints2 r
    subst e
    exact ⟨a, rfl, same_t sub h⟩
theorem onf_sortedG {K : PySem.W.Frag} : OpNF K (rSortedG K) fSortedG := by
  intro S H xs zs vs sub r e Q q
  unfold fSortedG at e
  split at e
  · rename_i ds
    split at e
    · rename_i ns hn
      cases e
      exact .inl (onf_sorted S H [.sq true ds] _ vs sub r (by show Option.map _ (intsOf ds) = _; rw [hn]; rfl) Q q)
    · cases hp : pairsOf ds with
      | none => rw [hp] at e; cases e
      | some ps =>
        rw [hp] at e
        cases e
        have ed := pairsOf_eq hp
        subst ed
        cases r with
        | cons r rr =>
          cases rr
          obtain ⟨a, ws, rfl, h, rl⟩ := r.lst sub
          exact .inr ⟨a, ws, ps, fun x p => Rp K S (pairD p) x, rfl, SqL.of h, fun x p => pair_at sub, rpl_paired rl, fun ys p hy hp => q p ys hp (paired_rpl hy)⟩
  · cases e

/-! ### xs[i] op= n -/
theorem getL {X : Cx} {K : PySem.W.Frag} (hK : X.K = K) : PGet X (rIxL K) := by
  subst hK
  intro pins s σ H x y v u Q I rx ry h
  obtain ⟨p, xs, i, z, rfl, rfl, hq, he, q⟩ := h
  cases rx
  obtain ⟨t, rfl⟩ := ry
  obtain ⟨its, r, pl, hz⟩ := I.list hq
  obtain ⟨j, h1, h2, h3, h4, h5⟩ := atI_get he
  obtain ⟨w, ew, rw'⟩ := r.get h2
  have hl := r.length
  have hn := line63
  have fin : EP X pins σ Q w s := ⟨z, H, I, rw', q⟩
  by_cases h0 : 0 ≤ i
  · have hj : i.toNat = j := by
      rw [seqIndex_of h0 h5] at h1
      exact Option.some.inj h1
    exact wpAny_getItem_list pl.isList h0 (by omega) (by rw [hj]; simpa using ew) fin
  · have hj : (i + (its.toArray.size : Int)).toNat = j := by
      rw [seqIndex_neg (by omega) h4] at h1
      rw [List.size_toArray, ← hl]
      exact Option.some.inj h1
    exact wpAny_getItem_list_neg pl.isList (by omega) (by rw [List.size_toArray]; omega) (by omega) (by rw [hj]; simpa using ew) fin
/-- the right side is a stable value; the list stays as long as it was -/
theorem ls_augL {F : Fx} {W : WX} {ti te : TE} {tip : TIp} {f : D → D → Option D} {i : Nat} {τi τ : DE} (ho : Op2 F.K tip f) (hi : LE F W ti τi) (h : LE F W te τ) : LS F W (tAugS (tVar i) ti te (rIxL F.K) tip rSetL) (sAugL f i τi τ) := by
  intro ρ σ S H E
  refine SRok.of fun D k => ?_
  unfold sAugL at k
  cases hs0 : slotL ρ i with
  | none => rw [hs0] at k; exact (show False from k).elim
  | some x0 =>
    obtain ⟨p0, ds0⟩ := x0
    rw [hs0] at k
    simp only at k
    obtain ⟨a, vs0, ha, hv0, _, _⟩ := E.list hs0
    refine ⟨.ref a, ha, ?_⟩
    have z := hi ρ σ S H E
    cases e1 : τi ρ with
    | bad => rw [e1] at k; exact (show False from k).elim
    | exc c x ρ' => rw [e1] at k z; exact z _ (k σ)
    | ok j ρ1 =>
      rw [e1] at k z
      cases j with
      | int n =>
        simp only [Res.bindS] at k
        cases hs1 : slotL ρ1 i with
        | none => simp only [hs1] at k; exact (show False from k).elim
        | some x1 =>
          obtain ⟨p1, ds1⟩ := x1
          simp only [hs1] at k
          cases hk : ixN ds1.length n with
          | none => simp only [hk] at k; exact (show False from k).elim
          | some kk =>
            simp only [hk] at k
            cases hd : ds1[kk]? with
            | none => simp only [hd] at k; exact (show False from k).elim
            | some d1 =>
              simp only [hd] at k
              refine z _ fun vj S1 H1 E1 s1 rj => ?_
              cases rj
              obtain ⟨a1, vs1, ha1, hv1, rs1, _⟩ := E1.list hs1
              rw [ha] at ha1
              cases ha1
              obtain ⟨v1, hv, rv⟩ := rs1.get hd
              have hk1 : ixN vs1.length n = some kk := by rw [← rs1.length]; exact hk
              refine ⟨a, vs1, n, v1, rfl, rfl, SqL.of hv1, by unfold atI; rw [hk1]; exact hv, ?_⟩
              have z2 := h ρ1 σ S1 H1 E1
              cases e2 : τ ρ1 with
              | bad => rw [e2] at k; exact (show False from k).elim
              | exc c x ρ' => rw [e2] at k z2; exact z2 _ (k σ)
              | ok y ρ2 =>
                rw [e2] at k z2
                simp only [Res.bindS] at k
                cases ef : f d1 y with
                | none => simp only [ef] at k; exact (show False from k).elim
                | some w =>
                  simp only [ef] at k
                  refine z2 _ fun vy S2 H2 E2 s2 ry => ?_
                  refine ho S2 H2 d1 y w v1 vy E2.sub (.st (rv.mono s2)) (.st ry) ef _ fun v3 S3 H3 x3 r3 => ?_
                  have E3 := E2.ext x3
                  cases hs2 : slotL ρ2 i with
                  | none => simp only [hs2] at k; exact (show False from k).elim
                  | some x2 =>
                    obtain ⟨p2, ds2⟩ := x2
                    simp only [hs2] at k
                    by_cases hl : ds2.length = ds1.length
                    · rw [if_pos hl] at k
                      obtain ⟨a2, vs2, ha2, hv2, rs2, kk2⟩ := E3.list hs2
                      rw [ha] at ha2
                      cases ha2
                      refine ⟨a, vs2, n, kk, rfl, rfl, hv2, by rw [← rs2.length, hl]; exact hk, ?_⟩
                      exact k σ S3 _ (kk2 _ _ (rs2.set r3 kk)) (s1.trans (s2.trans x3.s))
                    · rw [if_neg hl] at k
                      exact (show False from k).elim
      | _ => exact (show False from k).elim
end Pd

/-! Pd14: the mirrors as simp reads them. -/
namespace Pd
open PySem L2

theorem nrfl {α : Type} {a b : α} (h : a = b) : a = b := h
@[simp] theorem bind_ok' {α β : Type} (a : α) (ρ : Env) (f : α → Env → Res β) : (Res.ok a ρ).bind f = f a ρ := nrfl rfl
@[simp] theorem bind_exc' {α β : Type} (c : Str) (x : D) (ρ : Env) (f : α → Env → Res β) : (Res.exc c x ρ).bind f = .exc c x ρ := nrfl rfl
@[simp] theorem bind_bad' {α β : Type} (f : α → Env → Res β) : (Res.bad).bind f = .bad := nrfl rfl
@[simp] theorem bindS_ok' {α : Type} (a : α) (ρ : Env) (f : α → Env → SR) : (Res.ok a ρ).bindS f = f a ρ := nrfl rfl
@[simp] theorem bindS_exc' {α : Type} (c : Str) (x : D) (ρ : Env) (f : α → Env → SR) : (Res.exc c x ρ).bindS f = .exc c x ρ := nrfl rfl
@[simp] theorem bindS_bad' {α : Type} (f : α → Env → SR) : (Res.bad).bindS f = .bad := nrfl rfl
@[simp] theorem ofO_some' {α : Type} (a : α) (ρ : Env) : ofO (some a) ρ = .ok a ρ := nrfl rfl
@[simp] theorem ofO_none' {α : Type} (ρ : Env) : ofO (none : Option α) ρ = .bad := nrfl rfl
@[simp] theorem ofL_some' (a : List D) (ρ : Env) : ofL (some a) ρ = .ok (.l a) ρ := nrfl rfl
@[simp] theorem rdO_d (x : D) (ρ : Env) : rdO ρ (.d x) = some x := nrfl rfl
@[simp] theorem rdO_o (i : Nat) (ρ : Env) : rdO ρ (.o i) = match ρ[i]? with | some (.own _ c) => some c.toD | _ => none := nrfl rfl
@[simp] theorem rdOs_nil (ρ : Env) : rdOs ρ [] = some [] := nrfl rfl
@[simp] theorem rdOs_cons (x : Opd) (xs : List Opd) (ρ : Env) : rdOs ρ (x :: xs) = match rdO ρ x, rdOs ρ xs with | some d, some ds => some (d :: ds) | _, _ => none := nrfl rfl
@[simp] theorem toD_l (xs : List D) : OC.toD (.l xs) = .sq true xs := nrfl rfl
@[simp] theorem dVar_s (i : Nat) (ρ : Env) : dVar i ρ = match ρ[i]? with | some (.val d) => .ok d ρ | some (.own false c) => .ok c.toD (ρ.set i (.val c.toD)) | _ => .bad := nrfl rfl
@[simp] theorem oVar_s (i : Nat) (ρ : Env) : oVar i ρ = match ρ[i]? with | some (.val d) => .ok (.d d) ρ | some (.own _ _) => .ok (.o i) ρ | _ => .bad := nrfl rfl
@[simp] theorem fVar_s (i : Nat) (ρ : Env) : fVar i ρ = match ρ[i]? with | some (.own false c) => .ok c (ρ.set i .unk) | _ => .bad := nrfl rfl
@[simp] theorem oE_s (τ : DE) (ρ : Env) : oE τ ρ = (τ ρ).bind fun d ρ1 => .ok (.d d) ρ1 := nrfl rfl
@[simp] theorem dC_s (d : D) (ρ : Env) : dC d ρ = .ok d ρ := nrfl rfl
@[simp] theorem osNil_s (ρ : Env) : osNil ρ = .ok [] ρ := nrfl rfl
@[simp] theorem osCons_s (τ : Env → Res Opd) (τs : Env → Res (List Opd)) (ρ : Env) : osCons τ τs ρ = (τ ρ).bind fun x ρ1 => (τs ρ1).bind fun xs ρ2 => .ok (x :: xs) ρ2 := nrfl rfl
@[simp] theorem asNil_s (ρ : Env) : asNil ρ = .ok [] ρ := nrfl rfl
@[simp] theorem asCons_s (τ : DE) (τs : Env → Res (List D)) (ρ : Env) : asCons τ τs ρ = (τ ρ).bind fun x ρ1 => (τs ρ1).bind fun xs ρ2 => .ok (x :: xs) ρ2 := nrfl rfl
@[simp] theorem dOp_s (f : D → D → Option D) (ta tb : Env → Res Opd) (ρ : Env) : dOp f ta tb ρ = (ta ρ).bind fun x ρ1 => (tb ρ1).bind fun y ρ2 => match rdO ρ2 x, rdO ρ2 y with | some a, some b => ofO (f a b) ρ2 | _, _ => .bad := nrfl rfl
@[simp] theorem dOp1_s (f : D → Option D) (ta : Env → Res Opd) (ρ : Env) : dOp1 f ta ρ = (ta ρ).bind fun x ρ1 => match rdO ρ1 x with | some a => ofO (f a) ρ1 | _ => .bad := nrfl rfl
@[simp] theorem dOpN_s (f : List D → Option D) (ta : Env → Res (List Opd)) (ρ : Env) : dOpN f ta ρ = (ta ρ).bind fun x ρ1 => match rdOs ρ1 x with | some a => ofO (f a) ρ1 | _ => .bad := nrfl rfl
@[simp] theorem dOpF_s (f : D → D → Option (List D)) (ta tb : Env → Res Opd) (ρ : Env) : dOpF f ta tb ρ = (ta ρ).bind fun x ρ1 => (tb ρ1).bind fun y ρ2 => match rdO ρ2 x, rdO ρ2 y with | some a, some b => ofL (f a b) ρ2 | _, _ => .bad := nrfl rfl
@[simp] theorem dOpNF_s (f : List D → Option (List D)) (ta : Env → Res (List Opd)) (ρ : Env) : dOpNF f ta ρ = (ta ρ).bind fun x ρ1 => match rdOs ρ1 x with | some a => ofL (f a) ρ1 | _ => .bad := nrfl rfl
@[simp] theorem dFz_s (τ : Env → Res OC) (ρ : Env) : dFz τ ρ = (τ ρ).bind fun c ρ1 => .ok c.toD ρ1 := nrfl rfl
@[simp] theorem dTup_s (τs : Env → Res (List D)) (ρ : Env) : dTup τs ρ = (τs ρ).bind fun xs ρ1 => if xs.length ≤ 1000000 then .ok (.sq false xs) ρ1 else .bad := nrfl rfl
@[simp] theorem dLst_s (τs : Env → Res (List D)) (ρ : Env) : dLst τs ρ = (τs ρ).bind fun xs ρ1 => if xs.length ≤ 1000000 then .ok (.l xs) ρ1 else .bad := nrfl rfl
@[simp] theorem dTest_s (τ : DE) (ρ : Env) : dTest τ ρ = (τ ρ).bind fun d ρ1 => match d with | .bl b => .ok b ρ1 | _ => .bad := nrfl rfl
@[simp] theorem dAnd_s (a b : Env → Res Bool) (ρ : Env) : dAnd a b ρ = (a ρ).bind fun x ρ1 => if x = true then b ρ1 else .ok false ρ1 := nrfl rfl
@[simp] theorem dOr_s (a b : Env → Res Bool) (ρ : Env) : dOr a b ρ = (a ρ).bind fun x ρ1 => if x = true then .ok true ρ1 else b ρ1 := nrfl rfl
@[simp] theorem dNot_s (a : Env → Res Bool) (ρ : Env) : dNot a ρ = (a ρ).bind fun x ρ1 => .ok (!x) ρ1 := nrfl rfl
@[simp] theorem dYes_s (ρ : Env) : dYes ρ = .ok true ρ := nrfl rfl
@[simp] theorem dAndV_s (a b : DE) (ρ : Env) : dAndV a b ρ = (a ρ).bind fun x ρ1 => match x with | .bl true => b ρ1 | .bl false => .ok (.bl false) ρ1 | _ => .bad := nrfl rfl
@[simp] theorem dOrV_s (a b : DE) (ρ : Env) : dOrV a b ρ = (a ρ).bind fun x ρ1 => match x with | .bl true => .ok (.bl true) ρ1 | .bl false => b ρ1 | _ => .bad := nrfl rfl
@[simp] theorem dNotV_s (a : DE) (ρ : Env) : dNotV a ρ = (a ρ).bind fun x ρ1 => match x with | .bl b => .ok (.bl (!b)) ρ1 | _ => .bad := nrfl rfl
@[simp] theorem dIfE_s (c : Env → Res Bool) (a b : DE) (ρ : Env) : dIfE c a b ρ = (c ρ).bind fun x ρ1 => if x = true then a ρ1 else b ρ1 := nrfl rfl
@[simp] theorem dChain_s (f g : D → D → Option D) (a b c : Env → Res Opd) (ρ : Env) : dChain f g a b c ρ = (a ρ).bind fun x ρ1 => (b ρ1).bind fun y ρ2 => match rdO ρ2 x, rdO ρ2 y with
  | some dx, some dy => match f dx dy with
    | some (.bl true) => (c ρ2).bind fun z ρ3 => match rdO ρ3 y, rdO ρ3 z with
      | some dy, some dz => ofO (g dy dz) ρ3
      | _, _ => .bad
    | some (.bl false) => .ok (.bl false) ρ2
    | _ => .bad
  | _, _ => .bad := nrfl rfl
@[simp] theorem dTru_s (τ : Env → Res Opd) (ρ : Env) : dTru τ ρ = (τ ρ).bind fun x ρ1 => match rdO ρ1 x with | some a => ofO (fTru a) ρ1 | none => .bad := nrfl rfl
@[simp] theorem dIsi_s (bs : List String) (τ : Env → Res Opd) (ρ : Env) : dIsi bs τ ρ = dOp1 (fIsi bs) τ ρ := nrfl rfl
@[simp] theorem dPop_s (i : Nat) (ρ : Env) : dPop i ρ = match slotL ρ i with | some (p, ds) => (match ds[ds.length - 1]? with | some d => .ok d (ρ.set i (.own p (.l ds.dropLast))) | none => .bad) | none => .bad := nrfl rfl
@[simp] theorem slotL_s (i : Nat) (ρ : Env) : slotL ρ i = match ρ[i]? with | some (.own p (.l ds)) => some (p, ds) | _ => none := nrfl rfl
@[simp] theorem isOwn_s (i : Nat) (ρ : Env) : isOwn ρ i = match ρ[i]? with | some (.own _ (.l _)) => true | _ => false := nrfl rfl
def canS : Slot → Bool
  | .unk => true
  | .val _ => true
  | .own p _ => !p
  | .hold => false
@[simp] theorem canS_u : canS .unk = true := nrfl rfl
@[simp] theorem canS_v (d : D) : canS (.val d) = true := nrfl rfl
@[simp] theorem canS_o (p : Bool) (c : OC) : canS (.own p c) = !p := nrfl rfl
@[simp] theorem canS_h : canS .hold = false := nrfl rfl
@[simp] theorem canSet_s (i : Nat) (ρ : Env) : canSet ρ i = match ρ[i]? with | some s => canS s | none => false := by
  unfold canSet
  cases ρ[i]? with
  | none => rfl
  | some s => cases s <;> rfl
def lcS : Slot → Bool
  | .unk => true
  | .val _ => true
  | _ => false
@[simp] theorem lcS_u : lcS .unk = true := nrfl rfl
@[simp] theorem lcS_v (d : D) : lcS (.val d) = true := nrfl rfl
@[simp] theorem pNone_s (ρ : Env) : pNone ρ = .ok none ρ := nrfl rfl
@[simp] theorem pSome_s (τ : DE) (ρ : Env) : pSome τ ρ = (τ ρ).bind fun d ρ1 => match d with | .int i => .ok (some i) ρ1 | _ => .bad := by
  unfold pSome
  rfl
@[simp] theorem iD_s (τ : DE) (ρ : Env) : iD τ ρ = (τ ρ).bind fun d ρ1 => ofO (seqD d) ρ1 := nrfl rfl
@[simp] theorem iDs_s (f : List D → Option (List D)) (τs : Env → Res (List D)) (ρ : Env) : iDs f τs ρ = (τs ρ).bind fun d ρ1 => ofO (f d) ρ1 := nrfl rfl
@[simp] theorem iRevD_s (τ : DE) (ρ : Env) : iRevD τ ρ = (τ ρ).bind fun d ρ1 => ofO (revL d) ρ1 := nrfl rfl
@[simp] theorem seqD_sq (l : Bool) (ds : List D) : seqD (.sq l ds) = some ds := nrfl rfl
/-! ### statements -/
@[simp] theorem sSeq_s (a b : DS) (ρ : Env) : sSeq a b ρ = match a ρ with | .nx ρ1 => b ρ1 | r => r := by
  unfold sSeq
  cases a ρ <;> rfl
@[simp] theorem sNext_s (ρ : Env) : sNext ρ = .nx ρ := nrfl rfl
@[simp] theorem sBrk_s (ρ : Env) : sBrk ρ = .bk ρ := nrfl rfl
@[simp] theorem sCont_s (ρ : Env) : sCont ρ = .ct ρ := nrfl rfl
@[simp] theorem sBad_s (ρ : Env) : sBad ρ = .bad := nrfl rfl
@[simp] theorem sDrop_s (τ : DE) (ρ : Env) : sDrop τ ρ = (τ ρ).bindS fun _ ρ1 => .nx ρ1 := nrfl rfl
@[simp] theorem sRet_s (τ : DE) (ρ : Env) : sRet τ ρ = (τ ρ).bindS fun d ρ1 => .ret d ρ1 := nrfl rfl
@[simp] theorem sRetN_s (ρ : Env) : sRetN ρ = .ret .non ρ := nrfl rfl
@[simp] theorem sRetO_s (τ : Env → Res OC) (ρ : Env) : sRetO τ ρ = (τ ρ).bindS fun d ρ1 => .retO d ρ1 := nrfl rfl
@[simp] theorem sIf_s (c : Env → Res Bool) (a b : DS) (ρ : Env) : sIf c a b ρ = (c ρ).bindS fun x ρ1 => if x = true then a ρ1 else b ρ1 := nrfl rfl
@[simp] theorem sAsg_s (i : Nat) (τ : DE) (ρ : Env) : sAsg i τ ρ = (τ ρ).bindS fun d ρ1 => if canSet ρ1 i = true then .nx (ρ1.set i (.val d)) else .bad := nrfl rfl
@[simp] theorem sAsgO_s (i : Nat) (τ : Env → Res OC) (ρ : Env) : sAsgO i τ ρ = (τ ρ).bindS fun c ρ1 => if canSet ρ1 i = true then .nx (ρ1.set i (.own false c)) else .bad := nrfl rfl
@[simp] theorem sAug_s (f : D → D → Option D) (i : Nat) (τ : DE) (ρ : Env) : sAug f i τ ρ = match ρ[i]? with | some (.val d) => ((τ ρ).bindS fun y ρ1 => match f d y with | some z => if canSet ρ1 i = true then .nx (ρ1.set i (.val z)) else .bad | none => .bad) | _ => .bad := nrfl rfl
@[simp] theorem sAppG_s (i : Nat) (τ : DE) (ρ : Env) : sAppG i τ ρ = if isOwn ρ i = true then ((τ ρ).bindS fun d ρ1 => match slotL ρ1 i with | some (p, ds) => if ds.length < MX then .nx (ρ1.set i (.own p (.l (ds ++ [d])))) else .bad | none => .bad) else .bad := nrfl rfl
@[simp] theorem sRev_s (i : Nat) (ρ : Env) : sRev i ρ = match slotL ρ i with | some (p, ds) => .nx (ρ.set i (.own p (.l ds.reverse))) | none => .bad := nrfl rfl
@[simp] theorem sSetL_s (i : Nat) (τi τ : DE) (ρ : Env) : sSetL i τi τ ρ = (τ ρ).bindS fun d ρ1 => if isOwn ρ1 i = true then (τi ρ1).bindS (setAt i d) else .bad := nrfl rfl
@[simp] theorem setAt_s (i : Nat) (d : D) (n : Int) (ρ : Env) : setAt i d (.int n) ρ = match slotL ρ i with | some (p, ds) => (match ixN ds.length n with | some k => .nx (ρ.set i (.own p (.l (ds.set k d)))) | none => .bad) | none => .bad := nrfl rfl
@[simp] theorem sTg_s (t : Tgt) (τ : DE) (ρ : Env) : sTg t τ ρ = (τ ρ).bindS fun d ρ1 => match tgSet t d ρ1 with | some ρ2 => .nx ρ2 | none => .bad := nrfl rfl
@[simp] theorem tgSet_n (i : Nat) (d : D) (ρ : Env) : tgSet (.n i) d ρ = if canSet ρ i then some (ρ.set i (.val d)) else none := by simp [tgSet]
@[simp] theorem tgSet_t (ts : List Tgt) (l : Bool) (ds : List D) (ρ : Env) : tgSet (.t ts) (.sq l ds) ρ = if ds.length = ts.length then tgSets ts ds ρ else none := by simp [tgSet]
@[simp] theorem tgSets_n (ρ : Env) : tgSets [] [] ρ = some ρ := by simp [tgSets]
@[simp] theorem tgSets_c (t : Tgt) (ts : List Tgt) (d : D) (ds : List D) (ρ : Env) : tgSets (t :: ts) (d :: ds) ρ = match tgSet t d ρ with | some ρ1 => tgSets ts ds ρ1 | none => none := by
  refine tgSets_cc.trans ?_
  cases tgSet t d ρ <;> rfl
@[simp] theorem sPar_s (i j : Nat) (τs : Env → Res (List D)) (ρ : Env) : sPar i j τs ρ = (τs ρ).bindS fun ds ρ1 => match ds with | [a, b] => if canSet ρ1 i = true then (if canSet (ρ1.set i (.val a)) j = true then .nx ((ρ1.set i (.val a)).set j (.val b)) else .bad) else .bad | _ => .bad := nrfl rfl
@[simp] theorem sFor_s (tg : Tgt) (τi : Env → Res (List D)) (body : DS) (ρ : Env) : sFor tg τi body ρ = (τi ρ).bindS fun ds ρ1 => forL tg body ds ρ1 := nrfl rfl
@[simp] theorem forL_nil (tg : Tgt) (body : DS) (ρ : Env) : forL tg body [] ρ = .nx ρ := nrfl rfl
theorem forL_cons (tg : Tgt) (body : DS) (d : D) (ds : List D) (ρ : Env) : forL tg body (d :: ds) ρ = match tgSet tg d ρ with
    | none => .bad
    | some ρ1 => match body ρ1 with
      | .nx ρ2 => forL tg body ds ρ2
      | .ct ρ2 => forL tg body ds ρ2
      | .bk ρ2 => .nx ρ2
      | .ret d ρ2 => .ret d ρ2
      | .retO c ρ2 => .retO c ρ2
      | .exc c x ρ2 => .exc c x ρ2
      | .bad => .bad := rfl
@[simp] theorem sAugL_s (f : D → D → Option D) (i : Nat) (τi τ : DE) (ρ : Env) : sAugL f i τi τ ρ = match slotL ρ i with
  | some _ => (τi ρ).bindS fun j ρ1 => match j with
    | .int n => match slotL ρ1 i with
      | some (p, ds) => match ixN ds.length n with
        | some k => match ds[k]? with
          | some x => (τ ρ1).bindS fun y ρ2 => match f x y with
            | some z => match slotL ρ2 i with
              | some (p2, ds2) => if ds2.length = ds.length then .nx (ρ2.set i (.own p2 (.l (ds2.set k z)))) else .bad
              | none => .bad
            | none => .bad
          | none => .bad
        | none => .bad
      | none => .bad
    | _ => .bad
  | none => .bad := nrfl rfl
@[simp] theorem fAddI_i (i j : Int) : fAddI (.int i) (.int j) = some (.int (i + j)) := nrfl rfl
@[simp] theorem fSubI_i (i j : Int) : fSubI (.int i) (.int j) = some (.int (i - j)) := nrfl rfl
@[simp] theorem dSl_s (τ : Env → Res Opd) (lo hi : Env → Res (Option Int)) (ρ : Env) : dSl τ lo hi ρ = (τ ρ).bind fun x ρ1 => (lo ρ1).bind fun l ρ2 => (hi ρ2).bind fun h ρ3 => match rdO ρ3 x with
  | some a => ofO (fSl a l h) ρ3
  | none => .bad := nrfl rfl
@[simp] theorem fSl_sq (l : Bool) (ds : List D) (lo hi : Option Int) : fSl (.sq l ds) lo hi = some (.sq l (cutD ds lo hi)) := nrfl rfl
/-! ### calls -/
@[simp] theorem argsOf_nil (ρ : Env) : argsOf ρ [] = some (none, []) := nrfl rfl
@[simp] theorem argsOf_d (x : D) (r : List Opd) (ρ : Env) : argsOf ρ (.d x :: r) = match argsOf ρ r with | some (k, as) => some (k, .d x :: as) | none => none := nrfl rfl
@[simp] theorem argsOf_o (i : Nat) (r : List Opd) (ρ : Env) : argsOf ρ (.o i :: r) = match ρ[i]? with | some (.own _ c) => (match argsOf ρ r with | some (none, as) => some (some i, .o c :: as) | _ => none) | _ => none := nrfl rfl
@[simp] theorem putO_none (ρ : Env) (o : Option OC) : putO ρ none o = some ρ := nrfl rfl
@[simp] theorem putO_some (ρ : Env) (i : Nat) (c : OC) : putO ρ (some i) (some c) = match ρ[i]? with | some (.own p _) => some (ρ.set i (.own p c)) | _ => none := nrfl rfl
@[simp] theorem dCall_s (m : List Arg → Out) (τs : Env → Res (List Opd)) (ρ : Env) : dCall m τs ρ = (τs ρ).bind fun xs ρ1 => match argsOf ρ1 xs with | some (k, as) => callE ρ1 k (m as) | none => .bad := nrfl rfl
@[simp] theorem dCallF_s (m : List Arg → Out) (τs : Env → Res (List Opd)) (ρ : Env) : dCallF m τs ρ = (τs ρ).bind fun xs ρ1 => match argsOf ρ1 xs with | some (k, as) => callF ρ1 k (m as) | none => .bad := nrfl rfl
@[simp] theorem callE_ret (ρ : Env) (k : Option Nat) (d : D) (o : Option OC) : callE ρ k (.ret d o) = match putO ρ k o with | some ρ2 => .ok d ρ2 | none => .bad := by
  show ((ofO ((putO ρ k o).map fun ρ2 => (d, ρ2)) ρ).bind fun p _ => Res.ok p.1 p.2) = _
  cases putO ρ k o <;> rfl
@[simp] theorem callE_retO (ρ : Env) (k : Option Nat) (c : OC) (o : Option OC) : callE ρ k (.retO c o) = match putO ρ k o with | some ρ2 => .ok c.toD ρ2 | none => .bad := by
  show ((ofO ((putO ρ k o).map fun ρ2 => (c.toD, ρ2)) ρ).bind fun p _ => Res.ok p.1 p.2) = _
  cases putO ρ k o <;> rfl
@[simp] theorem callE_exc (ρ : Env) (k : Option Nat) (c : Str) (x : D) (o : Option OC) : callE ρ k (.exc c x o) = match putO ρ k o with | some ρ2 => .exc c x ρ2 | none => .bad := nrfl rfl
@[simp] theorem callF_retO (ρ : Env) (k : Option Nat) (c : OC) (o : Option OC) : callF ρ k (.retO c o) = match putO ρ k o with | some ρ2 => .ok c ρ2 | none => .bad := by
  show ((ofO ((putO ρ k o).map fun ρ2 => (c, ρ2)) ρ).bind fun p _ => Res.ok p.1 p.2) = _
  cases putO ρ k o <;> rfl
@[simp] theorem ownPos_nil : ownPos [] = none := nrfl rfl
@[simp] theorem ownPos_o (c : OC) (r : List Arg) : ownPos (.o c :: r) = some 0 := nrfl rfl
@[simp] theorem ownPos_d (x : D) (r : List Arg) : ownPos (.d x :: r) = (ownPos r).map (· + 1) := nrfl rfl
@[simp] theorem ownC_none (ρ : Env) : ownC none ρ = none := nrfl rfl
@[simp] theorem ownC_some (i : Nat) (ρ : Env) : ownC (some i) ρ = match ρ[i]? with | some (.own _ c) => some c | _ => none := nrfl rfl
@[simp] theorem outOf_nx (k : Option Nat) (ρ : Env) : outOf k (.nx ρ) = .ret .non (ownC k ρ) := nrfl rfl
@[simp] theorem outOf_ret (k : Option Nat) (d : D) (ρ : Env) : outOf k (.ret d ρ) = .ret d (ownC k ρ) := nrfl rfl
@[simp] theorem outOf_retO (k : Option Nat) (c : OC) (ρ : Env) : outOf k (.retO c ρ) = .retO c (ownC k ρ) := nrfl rfl
@[simp] theorem outOf_exc (k : Option Nat) (c : Str) (x : D) (ρ : Env) : outOf k (.exc c x ρ) = .exc c x (ownC k ρ) := nrfl rfl
@[simp] theorem argS_d (x : D) : argS (.d x) = .val x := nrfl rfl
@[simp] theorem argS_o (c : OC) : argS (.o c) = .own true c := nrfl rfl
/-! ### comprehensions -/
@[simp] theorem dLc_s (vs : List Nat) (τi : Env → Res (List D)) (tg : Tgt) (κ : Env → Res Bool) (τ : DE) (ρ : Env) : dLc vs τi tg κ τ ρ = (τi ρ).bind fun ds ρ1 => ofLc (genL (lcStep tg vs κ (lcOne τ)) ds ρ1) := nrfl rfl
@[simp] theorem ofLc_ok' (ys : List D) (ρ : Env) : ofLc (.ok ys ρ) = if ys.length ≤ MX then .ok (.l ys) ρ else .bad := nrfl rfl
@[simp] theorem genL_nil (step : D → Env → Res (List D)) (ρ : Env) : genL step [] ρ = .ok [] ρ := nrfl rfl
theorem genL_cons (step : D → Env → Res (List D)) (d : D) (ds : List D) (ρ : Env) : genL step (d :: ds) ρ = (step d ρ).bind fun ys ρ1 => (genL step ds ρ1).bind fun zs ρ2 => .ok (ys ++ zs) ρ2 := rfl
@[simp] theorem lcStep_s (tg : Tgt) (vs : List Nat) (κ : Env → Res Bool) (step : Env → Res (List D)) (d : D) (ρ : Env) : lcStep tg vs κ step d ρ = if lcOk ρ vs = true then (match tgSet tg d (wipeE ρ vs) with | none => .bad | some ρ1 => (κ ρ1).bind fun b ρ2 => if b = true then (step ρ2).bind fun ys ρ3 => .ok ys (backE ρ ρ3 vs) else .ok [] (backE ρ ρ2 vs)) else .bad := nrfl rfl
@[simp] theorem lcOne_s (τ : DE) (ρ : Env) : lcOne τ ρ = (τ ρ).bind fun y ρ1 => .ok [y] ρ1 := nrfl rfl
@[simp] theorem lcOk_nil (ρ : Env) : lcOk ρ [] = true := nrfl rfl
@[simp] theorem lcOk_cons (ρ : Env) (v : Nat) (vs : List Nat) : lcOk ρ (v :: vs) = ((match ρ[v]? with | some s => lcS s | none => false) && lcOk ρ vs) := by
  show ((match ρ[v]? with | some .unk => true | some (.val _) => true | _ => false) && lcOk ρ vs) = _
  cases ρ[v]? with
  | none => rfl
  | some s => cases s <;> rfl
@[simp] theorem wipeE_nil (ρ : Env) : wipeE ρ [] = ρ := nrfl rfl
@[simp] theorem wipeE_cons (ρ : Env) (v : Nat) (vs : List Nat) : wipeE ρ (v :: vs) = (wipeE ρ vs).set v .unk := nrfl rfl
@[simp] theorem backE_nil (ρ ρ' : Env) : backE ρ ρ' [] = ρ' := nrfl rfl
@[simp] theorem backE_cons (ρ ρ' : Env) (v : Nat) (vs : List Nat) : backE ρ ρ' (v :: vs) = match ρ[v]? with | some s => (backE ρ ρ' vs).set v s | none => backE ρ ρ' vs := nrfl rfl

/-! ### the operators on ints -/
@[simp] theorem fAdd_i (i j : Int) : fAdd (.int i) (.int j) = some (.int (i + j)) := nrfl rfl
@[simp] theorem fSub_i (i j : Int) : fSub (.int i) (.int j) = some (.int (i - j)) := nrfl rfl
@[simp] theorem fLt_i (i j : Int) : fLt (.int i) (.int j) = some (.bl (decide (i < j))) := nrfl rfl
@[simp] theorem fLe_i (i j : Int) : fLe (.int i) (.int j) = some (.bl (decide (i ≤ j))) := nrfl rfl
@[simp] theorem fGt_i (i j : Int) : fGt (.int i) (.int j) = some (.bl (decide (j < i))) := nrfl rfl
@[simp] theorem fGe_i (i j : Int) : fGe (.int i) (.int j) = some (.bl (decide (j ≤ i))) := nrfl rfl
@[simp] theorem fIx_fz (ns : List Int) (i : Int) : fIx (.fz ns) (.int i) = (atI ns i).map .int := nrfl rfl
theorem bigW_of {i : Int} {n : Nat} (h : i.natAbs < 2 ^ n) (hn : n ≤ 400000) : bigW i = true := by
  unfold bigW
  refine decide_eq_true ?_
  by_cases h0 : i.natAbs = 0
  · rw [h0]
    decide
  · exact Nat.lt_of_lt_of_le ((Nat.log2_lt h0).mpr h) hn
theorem fMul_i {i j : Int} (hi : bigW i = true) (hj : bigW j = true) : fMul (.int i) (.int j) = some (.int (i * j)) := by
  show (if bigW i && bigW j then some (D.int (i * j)) else none) = _
  rw [hi, hj]
  rfl
theorem fFdiv_pos {i j : Int} (h : 0 < j) (hj : j.natAbs < 2 ^ 8000) : fFdiv (.int i) (.int j) = some (.int (i / j)) := by
  show (if 0 < j then (if j.natAbs.log2 < 9000 then some (D.int (i / j)) else none) else _) = _
  rw [if_pos h, if_pos]
  exact Nat.lt_of_lt_of_le ((Nat.log2_lt (by omega)).mpr hj) (by decide)
theorem fFdiv_s {i j : Int} (h : 0 < j) (hj : j < 18446744073709551616) : fFdiv (.int i) (.int j) = some (.int (i / j)) :=
  fFdiv_pos h (Nat.lt_of_lt_of_le (m := 2 ^ 64) (by omega) (Nat.pow_le_pow_right (by decide) (by decide)))
@[simp] theorem fInt_i (i : Int) : fInt (.int i) = some (.int i) := nrfl rfl
@[simp] theorem fInt_b (b : Bool) : fInt (.bl b) = some (.int (if b then 1 else 0)) := nrfl rfl
@[simp] theorem fLen_sq (l : Bool) (ds : List D) : fLen [.sq l ds] = some (.int ds.length) := nrfl rfl
@[simp] theorem fLen_fz (ds : List Int) : fLen [.fz ds] = some (.int ds.length) := nrfl rfl
@[simp] theorem fAbs_i (i : Int) : fAbs (.int i) = some (.int (if i < 0 then -i else i)) := nrfl rfl
theorem fMod_pos (i j : Int) (h : 0 < j) : fMod (.int i) (.int j) = some (.int (i % j)) := by
  show (if 0 < j then some (D.int (i % j)) else if j ≠ 0 then some (.int (i.fmod j)) else none) = _
  rw [if_pos h]
end Pd

/-! Pd15: what every law's text begins with. -/
namespace Pd
open L2
def c_deck : DS := (sSeq (sAsgO 3 (dLst asNil))
(sSeq (sAsg 4 (dOp fAdd (oE (dC (.int 7))) (oE (dOpN fLen (osCons (oVar 0) osNil)))))
(sSeq (sFor (.n 5) (iDs rng1 (asCons (dVar 1) asNil))
(sSeq (sAsg 6 (dC (.int 0)))
(sSeq (sIf (dTest (dOp fLt (oVar 5) (oE (dOpN fLen (osCons (oVar 0) osNil))))) (sAsg 6 (dOp fIx (oVar 0) (oVar 5))) sNext)
(sSeq (sAsg 7 (dOpN (fun xs => match xs with | [x] => fAbs x | _ => none) (osCons (oVar 6) osNil)))
(sIf (dTest (dOp fGe (oVar 7) (oE (dOp fPow (oE (dC (.int 10))) (oE (dC (.int 30))))))) (sFor (.n 8) (iDs rng1 (asCons (dVar 2) asNil))
(sSeq (sAppG 3 (dOp fMod (oE (dOpN (fun xs => match xs with | [x] => fInt x | _ => none) (osCons (oVar 7) osNil))) (oE (dC (.int 1000003)))))
(sAsg 7 (dOp fFdiv (oVar 7) (oE (dC (.int 1000003))))))) (sSeq (sAsg 4 (dOp fMod (oE (dOpN (fun xs => match xs with | [x] => fInt x | _ => none) (osCons (oE (dOp fAdd (oE (dOp fAdd (oE (dOp fAdd (oE (dOp fMul (oVar 4) (oE (dC (.int 48271))))) (oE (dOp fMul (oE (dC (.int 2))) (oVar 7))))) (oE (dOpN (fun xs => match xs with | [x] => fInt x | _ => none) (osCons (oE (dOp fLt (oVar 6) (oE (dC (.int 0))))) osNil))))) (oVar 5))) osNil))) (oE (dC (.int 2147483647)))))
(sFor (.n 8) (iDs rng1 (asCons (dVar 2) asNil))
(sSeq (sAsg 4 (dOp fMod (oE (dOpN (fun xs => match xs with | [x] => fInt x | _ => none) (osCons (oE (dOp fAdd (oE (dOp fAdd (oE (dOp fMul (oVar 4) (oE (dC (.int 69621))))) (oVar 8))) (oE (dC (.int 1))))) osNil))) (oE (dC (.int 2147483629)))))
(sAppG 3 (dOp fMod (oE (dOpN (fun xs => match xs with | [x] => fInt x | _ => none) (osCons (oE (dOp fFdiv (oVar 4) (oE (dC (.int 5))))) osNil))) (oE (dC (.int 1000003)))))))))))))
(sSeq (sRev 3)
(sRetO (fVar 3))))))
def cm_deck : List Pd.Arg → Out := fnRun 3 9 c_deck
def c_take : DS := (sSeq (sIf (dTest (dOp fEq (oE (dOpN fLen (osCons (oVar 0) osNil))) (oE (dC (.int 0))))) (sRet (dC (.int 0))) sNext)
(sRet (dOp fMod (oE (dOpN (fun xs => match xs with | [x] => fInt x | _ => none) (osCons (oE (dPop 0)) osNil))) (oVar 1))))
def cm_take : List Pd.Arg → Out := fnRun 2 2 c_take
def c_plain (cm_plain : Nat → List Pd.Arg → Out) (n : Nat) : DS := (sSeq (sIf (dTru (oE (dIsi ["tuple", "list"] (oVar 0)))) (sRet (dOp fAdd (oE (dFz (dLst (asCons (dIsi ["list"] (oVar 0)) asNil)))) (oE (dFz (dLc [1] (iD (dVar 0)) (.n 1) dYes (dCall (cm_plain n) (osCons (oE (dVar 1)) osNil))))))) sNext)
(sSeq (sIf (dOr (dTest (dOp fIsN (oVar 0) (oE (dC .non)))) (dTru (oE (dIsi ["bool"] (oVar 0))))) (sRet (dOp fIx (oE (dFz (dLst (asCons (dC (.str "None")) (asCons (dC (.str "False")) (asCons (dC (.str "True")) asNil)))))) (oE (dOp fAdd (oE (dOpN (fun xs => match xs with | [x] => fInt x | _ => none) (osCons (oE (dOp fNotN (oVar 0) (oE (dC .non)))) osNil))) (oE (dOpN (fun xs => match xs with | [x] => fInt x | _ => none) (osCons (oE (dOp fIsN (oVar 0) (oE (dC (.bl true))))) osNil))))))) sNext)
(sSeq (sIf (dTru (oE (dIsi ["int", "str"] (oVar 0)))) (sRet (dFz (dLst (asCons (dIsi ["str"] (oVar 0)) (asCons (dVar 0) asNil))))) sNext)
(sRet (dC (.str "another"))))))
def cm_plain : Nat → List Pd.Arg → Out
  | 0 => fun _ => .bad
  | n + 1 => fnRun 1 2 (c_plain (fun _ => cm_plain n) n)

/-! ### == of one thing -/
theorem eqB_refl {d : D} (h : okE 20 d = true) : eqB d d = some true := by
  have key : (if okE 20 d && okE 20 d then some (PySem.PyData.eqv d.toPy d.toPy) else none) = some true := by
    rw [h, Bool.and_self, if_pos rfl, PySem.SeqAt.eqv_refl _ (okE_py d 20 h).1]
  cases d with
  | int i => simp [eqB]
  | str x => simp [eqB]
  | non => rfl
  | bl b => exact key
  | sq l ds => exact key
  | dk l => exact key
  | dt l => exact key
  | ob l ds => exact key
  | fz l => exact key
theorem fEq_refl {d : D} (h : okE 20 d = true) : fEq d d = some (.bl true) := by unfold fEq; rw [eqB_refl h]; rfl
theorem fNe_refl {d : D} (h : okE 20 d = true) : fNe d d = some (.bl false) := by unfold fNe; rw [eqB_refl h]; rfl
@[simp] theorem fEq_i (i j : Int) : fEq (.int i) (.int j) = some (.bl (decide (i = j))) := rfl
@[simp] theorem fNe_i (i j : Int) : fNe (.int i) (.int j) = some (.bl (!decide (i = j))) := rfl
theorem genL_map {step : D → Env → Res (List D)} {ρ : Env} {f : D → D} : ∀ {ds : List D}, (∀ d ∈ ds, step d ρ = .ok [f d] ρ) → genL step ds ρ = .ok (ds.map f) ρ
  | [], _ => rfl
  | d :: ds, h => by
    rw [genL_cons, h d List.mem_cons_self, bind_ok', genL_map fun e he => h e (List.mem_cons_of_mem _ he)]
    rfl

/-! ### _law_take -/
theorem take_ok (ds : List Int) (m : Int) (hm : 0 < m) : cm_take [.o (.l (ds.map .int)), .d (.int m)] = .ret (.int ((ds.getLast?.getD 0) % m)) (some (.l (ds.dropLast.map .int))) := by
  rcases List.eq_nil_or_concat ds with rfl | ⟨xs, x, rfl⟩
  · simp [cm_take, fnRun, c_take, env0, fLen]
  · have h0 : ¬ ((xs.length : Int) + 1 = 0) := by omega
    simp [cm_take, fnRun, c_take, env0, fLen, fInt, fMod_pos _ _ hm, h0]

theorem take_ex (ds : List Int) (m : Int) (hm : 0 < m) : ∃ (v : Int) (ds' : List Int), cm_take [.o (.l (ds.map .int)), .d (.int m)] = .ret (.int v) (some (.l (ds'.map .int))) ∧ 0 ≤ v ∧ v < m :=
  ⟨_, _, take_ok ds m hm, Int.emod_nonneg _ (by omega), Int.emod_lt_of_pos _ hm⟩
theorem fIx2 (x0 x1 : D) (i : Int) (h0 : 0 ≤ i) (h3 : i < 2) : ∃ r, fIx (.sq true [x0, x1]) (.int i) = some r ∧ (r = x0 ∨ r = x1) := by
  have : i = 0 ∨ i = 1 := by omega
  rcases this with rfl | rfl
  · exact ⟨x0, rfl, .inl rfl⟩
  · exact ⟨x1, rfl, .inr rfl⟩
theorem fIx3 (x0 x1 x2 : D) (i : Int) (h0 : 0 ≤ i) (h3 : i < 3) : ∃ r, fIx (.sq true [x0, x1, x2]) (.int i) = some r ∧ (r = x0 ∨ r = x1 ∨ r = x2) := by
  have : i = 0 ∨ i = 1 ∨ i = 2 := by omega
  rcases this with rfl | rfl | rfl
  · exact ⟨x0, rfl, .inl rfl⟩
  · exact ⟨x1, rfl, .inr (.inl rfl)⟩
  · exact ⟨x2, rfl, .inr (.inr rfl)⟩
theorem fIx4 (x0 x1 x2 x3 : D) (i : Int) (h0 : 0 ≤ i) (h3 : i < 4) : ∃ r, fIx (.sq true [x0, x1, x2, x3]) (.int i) = some r ∧ (r = x0 ∨ r = x1 ∨ r = x2 ∨ r = x3) := by
  have : i = 0 ∨ i = 1 ∨ i = 2 ∨ i = 3 := by omega
  rcases this with rfl | rfl | rfl | rfl
  · exact ⟨x0, rfl, .inl rfl⟩
  · exact ⟨x1, rfl, .inr (.inl rfl)⟩
  · exact ⟨x2, rfl, .inr (.inr (.inl rfl))⟩
  · exact ⟨x3, rfl, .inr (.inr (.inr rfl))⟩

/-! ### _law_plain -/
def okPl : Nat → D → Bool
  | 0, _ => false
  | _ + 1, .bl _ => true
  | _ + 1, .int _ => true
  | _ + 1, .str x => x.cps.all (· < 0x110000)
  | n + 1, .sq _ ds => decide (ds.length < MX) && ds.all (okPl n)
  | _ + 1, _ => false
mutual
def plainF : D → D
  | .non => .str "None"
  | .bl false => .str "False"
  | .bl true => .str "True"
  | .int i => .sq true [.bl false, .int i]
  | .str x => .sq true [.bl true, .str x]
  | .sq l ds => .sq true (.bl l :: plainFs ds)
  | d => d
def plainFs : List D → List D
  | [] => []
  | d :: ds => plainF d :: plainFs ds
end
theorem plainFs_map : ∀ ds : List D, plainFs ds = ds.map plainF
  | [] => by simp [plainFs]
  | d :: ds => by simp [plainFs, plainFs_map ds]
theorem fIsi_tl (l : Bool) (ds : List D) : fIsi ["tuple", "list"] (.sq l ds) = some (.bl true) := by cases l <;> rfl
theorem fIsi_l (l : Bool) (ds : List D) : fIsi ["list"] (.sq l ds) = some (.bl l) := by cases l <;> rfl
theorem plain_ok : ∀ (n : Nat) (d : D), okPl n d = true → cm_plain n [.d d] = .ret (plainF d) none
  | 0, d, h => by simp [okPl] at h
  | n + 1, .sq l ds, h => by
    simp only [okPl, Bool.and_eq_true, decide_eq_true_eq, List.all_eq_true] at h
    have e : genL (lcStep (.n 1) [1] dYes (lcOne (dCall (cm_plain n) (osCons (oE (dVar 1)) osNil)))) ds [.val (.sq l ds), .unk] = .ok (ds.map plainF) [.val (.sq l ds), .unk] := by
      refine genL_map fun d hd => ?_
      simp [plain_ok n d (h.2 d hd)]
    have h1 : ds.length ≤ MX := Nat.le_of_lt h.1
    have h2 : 1 + ds.length ≤ MX := by omega
    simp [cm_plain, fnRun, c_plain, env0, fIsi_tl, fIsi_l, e, fTru, fAdd, h1, h2, plainF, plainFs_map]
  | n + 1, .non, h => by simp [okPl] at h
  | n + 1, .bl b, _ => by cases b <;> (simp only [plainF]; rfl)
  | n + 1, .int i, _ => by simp only [plainF]; rfl
  | n + 1, .str x, _ => by simp only [plainF]; rfl
  | n + 1, .dk _, h => by simp [okPl] at h
  | n + 1, .dt _, h => by simp [okPl] at h
  | n + 1, .ob _ _, h => by simp [okPl] at h
  | n + 1, .fz _, h => by simp [okPl] at h

/-! ### _law_deck -/
def dkE (ns : List Int) (C E : Int) (acc : List Int) (s : Int) (x5 x6 x7 x8 : Slot) : Env := [.val (.fz ns), .val (.int C), .val (.int E), .own false (.l (acc.map .int)), .val (.int s), x5, x6, x7, x8]
def bodyA : DS := sSeq (sAppG 3 (dOp fMod (oE (dOpN (fun xs => match xs with | [x] => fInt x | _ => none) (osCons (oVar 7) osNil))) (oE (dC (.int 1000003))))) (sAsg 7 (dOp fFdiv (oVar 7) (oE (dC (.int 1000003)))))
def bodyB : DS := sSeq (sAsg 4 (dOp fMod (oE (dOpN (fun xs => match xs with | [x] => fInt x | _ => none) (osCons (oE (dOp fAdd (oE (dOp fAdd (oE (dOp fMul (oVar 4) (oE (dC (.int 69621))))) (oVar 8))) (oE (dC (.int 1))))) osNil))) (oE (dC (.int 2147483629))))) (sAppG 3 (dOp fMod (oE (dOpN (fun xs => match xs with | [x] => fInt x | _ => none) (osCons (oE (dOp fFdiv (oVar 4) (oE (dC (.int 5))))) osNil))) (oE (dC (.int 1000003)))))
theorem loopA {ns : List Int} {C E s : Int} {x5 x6 : Slot} : ∀ (its : List Int) (acc : List Int) (r : Int) (x8 : Slot), canS x8 = true → acc.length + its.length ≤ MX →
    ∃ acc' r' x8', forL (.n 8) bodyA (its.map .int) (dkE ns C E acc s x5 x6 (.val (.int r)) x8) = .nx (dkE ns C E acc' s x5 x6 (.val (.int r')) x8') ∧ acc'.length = acc.length + its.length ∧ canS x8' = true
  | [], acc, r, x8, h8, hl => ⟨acc, r, x8, rfl, rfl, h8⟩
  | i :: its, acc, r, x8, h8, hl => by
    simp only [List.length_cons] at hl
    have hlt : acc.length < MX := by omega
    obtain ⟨acc', r', x8', e, h1, h2⟩ := loopA its (acc ++ [r % 1000003]) (r / 1000003) (.val (.int i)) rfl (by rw [List.length_append]; simp only [List.length_cons, List.length_nil]; omega)
    refine ⟨acc', r', x8', ?_, by rw [h1, List.length_append]; simp only [List.length_cons, List.length_nil]; omega, h2⟩
    rw [← e, List.map_cons, forL_cons]
    have hb : bodyA (dkE ns C E acc s x5 x6 (.val (.int r)) (.val (.int i))) = .nx (dkE ns C E (acc ++ [r % 1000003]) s x5 x6 (.val (.int (r / 1000003))) (.val (.int i))) := by
      simp [bodyA, dkE, fMod_pos, fFdiv_s, hlt]
    have ht : tgSet (.n 8) (.int i) (dkE ns C E acc s x5 x6 (.val (.int r)) x8) = some (dkE ns C E acc s x5 x6 (.val (.int r)) (.val (.int i))) := by
      simp [dkE, h8]
    rw [ht]
    simp only [hb]
theorem loopB {ns : List Int} {C E : Int} {x5 x6 x7 : Slot} : ∀ (its : List Int) (acc : List Int) (s : Int) (x8 : Slot), canS x8 = true → acc.length + its.length ≤ MX → 0 ≤ s → s < 2147483648 →
    ∃ acc' s' x8', forL (.n 8) bodyB (its.map .int) (dkE ns C E acc s x5 x6 x7 x8) = .nx (dkE ns C E acc' s' x5 x6 x7 x8') ∧ acc'.length = acc.length + its.length ∧ canS x8' = true ∧ 0 ≤ s' ∧ s' < 2147483648
  | [], acc, s, x8, h8, hl, hs, hs2 => ⟨acc, s, x8, rfl, rfl, h8, hs, hs2⟩
  | i :: its, acc, s, x8, h8, hl, hs, hs2 => by
    simp only [List.length_cons] at hl
    have hlt : acc.length < MX := by omega
    have hm1 : 0 ≤ (s * 69621 + i + 1) % 2147483629 := Int.emod_nonneg _ (by decide)
    have hm2 : (s * 69621 + i + 1) % 2147483629 < 2147483629 := Int.emod_lt_of_pos _ (by decide)
    obtain ⟨acc', s', x8', e, h1, h2⟩ := loopB its (acc ++ [(s * 69621 + i + 1) % 2147483629 / 5 % 1000003]) ((s * 69621 + i + 1) % 2147483629) (.val (.int i)) rfl (by rw [List.length_append]; simp only [List.length_cons, List.length_nil]; omega) hm1 (by omega)
    refine ⟨acc', s', x8', ?_, by rw [h1, List.length_append]; simp only [List.length_cons, List.length_nil]; omega, h2⟩
    rw [← e, List.map_cons, forL_cons]
    have b1 : bigW s = true := bigW_of (n := 32) (by omega) (by decide)
    have b2 : bigW 69621 = true := by decide
    have hb : bodyB (dkE ns C E acc s x5 x6 x7 (.val (.int i))) = .nx (dkE ns C E (acc ++ [(s * 69621 + i + 1) % 2147483629 / 5 % 1000003]) ((s * 69621 + i + 1) % 2147483629) x5 x6 x7 (.val (.int i))) := by
      simp [bodyB, dkE, fMod_pos, fFdiv_s, hlt, fMul_i b1 b2]
    have ht : tgSet (.n 8) (.int i) (dkE ns C E acc s x5 x6 x7 x8) = some (dkE ns C E acc s x5 x6 x7 (.val (.int i))) := by
      simp [dkE, h8]
    rw [ht]
    simp only [hb]

theorem atI_lt {α : Type} {xs : List α} {i : Int} (h0 : 0 ≤ i) (h : i < xs.length) : ∃ x, atI xs i = some x := by
  unfold atI ixN
  rw [if_pos h0, if_pos h]
  exact ⟨xs[i.toNat]'(by omega), List.getElem?_eq_getElem (by omega)⟩
def bodyK : DS := sSeq (sAsg 6 (dC (.int 0)))
 (sSeq (sIf (dTest (dOp fLt (oVar 5) (oE (dOpN fLen (osCons (oVar 0) osNil))))) (sAsg 6 (dOp fIx (oVar 0) (oVar 5))) sNext)
 (sSeq (sAsg 7 (dOpN (fun xs => match xs with | [x] => fAbs x | _ => none) (osCons (oVar 6) osNil)))
 (sIf (dTest (dOp fGe (oVar 7) (oE (dOp fPow (oE (dC (.int 10))) (oE (dC (.int 30))))))) (sFor (.n 8) (iDs rng1 (asCons (dVar 2) asNil)) bodyA)
 (sSeq (sAsg 4 (dOp fMod (oE (dOpN (fun xs => match xs with | [x] => fInt x | _ => none) (osCons (oE (dOp fAdd (oE (dOp fAdd (oE (dOp fAdd (oE (dOp fMul (oVar 4) (oE (dC (.int 48271))))) (oE (dOp fMul (oE (dC (.int 2))) (oVar 7))))) (oE (dOpN (fun xs => match xs with | [x] => fInt x | _ => none) (osCons (oE (dOp fLt (oVar 6) (oE (dC (.int 0))))) osNil))))) (oVar 5))) osNil))) (oE (dC (.int 2147483647)))))
 (sFor (.n 8) (iDs rng1 (asCons (dVar 2) asNil)) bodyB)))))
def rngI (n : Nat) : List Int := (List.range n).map fun (i : Nat) => (0 : Int) + (i : Int) * 1
theorem rngD_i (n : Nat) : rngD 0 1 n = (rngI n).map .int := by
  unfold rngD rngI
  rw [List.map_map]
  rfl
theorem rngI_length (n : Nat) : (rngI n).length = n := by simp [rngI]
theorem rng1_n (n : Nat) (h : n < 4000000000) : rng1 [.int (n : Int)] = some ((rngI n).map .int) := by
  have : okI (n : Int) = true := by
    unfold okI
    simp only [Bool.and_eq_true, decide_eq_true_eq]
    omega
  show (if okI (n : Int) then some (rngD 0 1 (n : Int).toNat) else none) = _
  rw [this, if_pos rfl, Int.toNat_natCast, rngD_i]
theorem bodyK_ok {ns : List Int} {C : Int} {e : Nat} {acc : List Int} {s k : Int} {x6 x7 x8 : Slot} (he : e < 4000000000) (h6 : canS x6 = true) (h7 : canS x7 = true) (h8 : canS x8 = true) (hl : acc.length + e ≤ MX) (hs : 0 ≤ s) (hs2 : s < 4294967296) (hk : 0 ≤ k) :
    ∃ acc' s' x6' x7' x8', bodyK (dkE ns C e acc s (.val (.int k)) x6 x7 x8) = .nx (dkE ns C e acc' s' (.val (.int k)) x6' x7' x8') ∧ acc'.length = acc.length + e ∧ canS x6' = true ∧ canS x7' = true ∧ canS x8' = true ∧ 0 ≤ s' ∧ s' < 4294967296 := by
  -- the cell
  obtain ⟨c, hc⟩ : ∃ c : Int, ∀ rest : DS, (sSeq (sAsg 6 (dC (.int 0))) (sSeq (sIf (dTest (dOp fLt (oVar 5) (oE (dOpN fLen (osCons (oVar 0) osNil))))) (sAsg 6 (dOp fIx (oVar 0) (oVar 5))) sNext) rest)) (dkE ns C e acc s (.val (.int k)) x6 x7 x8) = rest (dkE ns C e acc s (.val (.int k)) (.val (.int c)) x7 x8) := by
    by_cases hlt : k < ns.length
    · obtain ⟨c, hc⟩ := atI_lt hk hlt
      exact ⟨c, fun rest => by simp [dkE, h6, hlt, hc]⟩
    · exact ⟨0, fun rest => by simp [dkE, h6, hlt]⟩
  unfold bodyK
  rw [hc]
  have hp : fPow (.int 10) (.int 30) = some (.int 1000000000000000000000000000000) := by rfl
  have hr := rng1_n e he
  by_cases hbig : (1000000000000000000000000000000 : Int) ≤ (if c < 0 then -c else c)
  · obtain ⟨acc', r', x8', e1, e2, e3⟩ := loopA (ns := ns) (C := C) (E := e) (s := s) (x5 := .val (.int k)) (x6 := .val (.int c)) (rngI e) acc (if c < 0 then -c else c) x8 h8 (by rw [rngI_length]; exact hl)
    refine ⟨acc', s, .val (.int c), .val (.int r'), x8', ?_, by rw [e2, rngI_length], rfl, rfl, e3, hs, hs2⟩
    rw [← e1]
    simp [dkE, h7, hp, hbig, hr]
  · have b1 : bigW s = true := bigW_of (n := 33) (by omega) (by decide)
    have b2 : bigW 48271 = true := by decide
    have b3 : bigW 2 = true := by decide
    have b4 : bigW (if c < 0 then -c else c) = true := bigW_of (n := 128) (by split at hbig <;> split <;> omega) (by decide)
    obtain ⟨acc', s', x8', e1, e2, e3, e4, e5⟩ := loopB (ns := ns) (C := C) (E := e) (x5 := .val (.int k)) (x6 := .val (.int c)) (x7 := .val (.int (if c < 0 then -c else c))) (rngI e) acc ((s * 48271 + 2 * (if c < 0 then -c else c) + (if c < 0 then 1 else 0) + k) % 2147483647) x8 h8 (by rw [rngI_length]; exact hl) (Int.emod_nonneg _ (by decide)) (Int.lt_trans (Int.emod_lt_of_pos _ (by decide)) (by decide))
    refine ⟨acc', s', .val (.int c), .val (.int (if c < 0 then -c else c)), x8', ?_, by rw [e2, rngI_length], rfl, rfl, e3, e4, by omega⟩
    rw [← e1]
    simp [dkE, h7, hp, hbig, hr, fMul_i b1 b2, fMul_i b3 b4, fMod_pos]
theorem loopK {ns : List Int} {C : Int} {e : Nat} (he : e < 4000000000) : ∀ (its : List Int) (acc : List Int) (s : Int) (x5 x6 x7 x8 : Slot), (∀ k ∈ its, 0 ≤ k) → canS x5 = true → canS x6 = true → canS x7 = true → canS x8 = true → acc.length + its.length * e ≤ MX → 0 ≤ s → s < 4294967296 →
    ∃ acc' s' x5' x6' x7' x8', forL (.n 5) bodyK (its.map .int) (dkE ns C e acc s x5 x6 x7 x8) = .nx (dkE ns C e acc' s' x5' x6' x7' x8')
  | [], acc, s, x5, x6, x7, x8, _, _, _, _, _, _, _, _ => ⟨acc, s, x5, x6, x7, x8, rfl⟩
  | k :: its, acc, s, x5, x6, x7, x8, hk, h5, h6, h7, h8, hl, hs, hs2 => by
    rw [List.length_cons, Nat.succ_mul] at hl
    obtain ⟨acc', s', x6', x7', x8', e1, e2, g6, g7, g8, e4, e5⟩ := bodyK_ok (ns := ns) (C := C) (e := e) (acc := acc) (s := s) (k := k) he h6 h7 h8 (by omega) hs hs2 (hk k List.mem_cons_self)
    obtain ⟨a2, s2, y5, y6, y7, y8, q⟩ := loopK he its acc' s' (.val (.int k)) x6' x7' x8' (fun j hj => hk j (List.mem_cons_of_mem _ hj)) rfl g6 g7 g8 (by rw [e2]; omega) e4 e5
    refine ⟨a2, s2, y5, y6, y7, y8, ?_⟩
    rw [← q, List.map_cons, forL_cons]
    have ht : tgSet (.n 5) (.int k) (dkE ns C e acc s x5 x6 x7 x8) = some (dkE ns C e acc s (.val (.int k)) x6 x7 x8) := by
      simp [dkE, h5]
    rw [ht]
    simp only [e1]
/-- the deck: some ints -/
theorem deck_ok (ns : List Int) (hn : ns.length ≤ 63) (c e : Nat) (hc : c ≤ 1000) (he : e ≤ 1000) : ∃ ds : List Int, cm_deck [.d (.fz ns), .d (.int c), .d (.int e)] = .retO (.l (ds.map .int)) none := by
  have h1 : (rngI c).length * e ≤ MX := by
    rw [rngI_length]
    exact Nat.le_trans (Nat.mul_le_mul hc he) (by decide)
  obtain ⟨acc, s, x5, x6, x7, x8, q⟩ := loopK (ns := ns) (C := c) (e := e) (by omega) (rngI c) [] (7 + ns.length) .unk .unk .unk .unk (fun k hk => by
    unfold rngI at hk
    obtain ⟨i, _, rfl⟩ := List.mem_map.mp hk
    omega) rfl rfl rfl rfl (by simpa using h1) (by omega) (by omega)
  refine ⟨acc.reverse, ?_⟩
  have hr := rng1_n c (by omega)
  have e0 : c_deck = sSeq (sAsgO 3 (dLst asNil)) (sSeq (sAsg 4 (dOp fAdd (oE (dC (.int 7))) (oE (dOpN fLen (osCons (oVar 0) osNil))))) (sSeq (sFor (.n 5) (iDs rng1 (asCons (dVar 1) asNil)) bodyK) (sSeq (sRev 3) (sRetO (fVar 3))))) := rfl
  unfold dkE at q
  simp only [List.map_nil] at q
  simp [cm_deck, fnRun, env0, e0, hr, q]
end Pd

/-! Pd16: an exception that leaves a comprehension. -/
namespace Pd
open PySem L2 PyProof.Rows PySem.Spec

/-- in the air of X, in the frame L -/
def XEf (L : Addr) (X : Cx) (W : WX) (u : Value) (s' : Shared) : Prop :=
  ∃ (a : Addr) (B : Heap) (sI : Shared) (pins : List (Addr × Obj)) (σ : L2.St) (H : Hp) (cls : Value) (d : Option Addr),
    u = .ref a ∧ Inv X pins σ H sI ∧ (∀ b o, sI.heap.get? b = some o → b ∉ frs X.stack → B.get? b = some o) ∧ sI.heap.UpToSlots s'.heap ∧
      Sky B X.stack a (Zc cls d) L s'.heap ∧ H a = none ∧ s'.os = sI.os ∧ AllBare s'.gens ∧ W cls d σ H
def TakesF (X : Cx) (W : WX) : Prop := ∃ (L : Addr) (e0 : PySem.Env) (o : List PySem.Env), X.env.frame = some L ∧ X.stack = e0 :: o ∧ e0.frame = some L ∧ ∀ u s', XEf L X W u s' → X.xe u s'
theorem takesF {X : Cx} {W : WX} (hs : X.stack = X.env :: X.outer) (hf : X.env.frame = some X.env.locals) (tk : Takes X W) : TakesF X W := ⟨_, _, _, hf, hs, hf, tk⟩

section
variable {X : Cx} {pins : List (Addr × Obj)} {σ : L2.St} {H : Hp} {s s' : Shared} {W : WX} {E : XK} {L : Addr}
theorem XEf.of_call (I : Inv X pins σ H s) (hW : ∀ cls d H', E cls d H' → W cls d σ H') {u : Value} (c : L2.CX X.prog X.w X.stack H s E u s') : XEf L X W u s' := by
  obtain ⟨a, B, H', cls, d, rfl, fl, hok, ub, na, os, ag, hE⟩ := c
  obtain ⟨G, g1, g2⟩ := restrict s'.heap fun b => (B.get? b).isSome || decide (b ∈ frs X.stack)
  have st : B.StaysIn s'.heap := fl.1
  have gB : ∀ b o, B.get? b = some o → G.get? b = some o := fun b o e => by
    rw [g1 b (by simp [e])]
    exact st b o e
  have gF : ∀ b, b ∈ frs X.stack → G.get? b = s'.heap.get? b := fun b hb => g1 b (by simp [hb])
  have og : ∀ b o, G.get? b = some o → s'.heap.get? b = some o ∧ ((B.get? b).isSome = true ∨ b ∈ frs X.stack) := fun b o e => by
    cases q : ((B.get? b).isSome || decide (b ∈ frs X.stack)) with
    | false => rw [g2 b q] at e; cases e
    | true =>
      rw [g1 b q] at e
      exact ⟨e, by simpa [Bool.or_eq_true] using q⟩
  refine ⟨a, B, { s with heap := G, gens := s'.gens, drawn := s'.drawn, toks := s'.toks }, pins, σ, H', cls, d, rfl, ?_, fun b o e hb => ?_, Heap.UpToSlots.of_keeps fun b o e => (og b o e).1, .inr (.inl fl), na, os, ag, hW _ _ _ hE⟩
  · refine I.call (ch := []) ⟨fun b o e n hb _ => gB b o (ub.keep b o e n hb), fun b o e n hb _ => ?_, fun b o e n _ => ub.free b o e n, fun b o e _ => ?_, ub.tups, ub.frzs, ub.tbls⟩ (hok.kept gB) ag (fun _ z => nomatch z)
    · obtain ⟨sl, q⟩ := ub.slot b o e hb
      exact ⟨sl, by rw [gF b hb]; exact q⟩
    · by_cases hb : b ∈ frs X.stack
      · obtain ⟨sl, q⟩ := ub.slot b o e hb
        exact ⟨_, by rw [gF b hb]; exact q⟩
      · obtain ⟨o', q⟩ := ub.there b o e hb
        exact ⟨o', gB b o' q⟩
  · obtain ⟨e', h⟩ := og b o e
    rcases h with h | h
    · obtain ⟨o', q⟩ := Option.isSome_iff_exists.mp h
      have z := st b o' q
      rw [e'] at z; cases z
      exact q
    · exact absurd h hb
end
theorem passAtF {X : Cx} {W : WX} (tk : TakesF X W) (σ : L2.St) : PassesAt (L2.CX X.prog X.w) X σ (WE W σ) := fun _ _ _ e s' I c => by
  obtain ⟨L, e0, o, h1, h2, h3, t⟩ := tk
  exact t e s' (XEf.of_call I (fun _ _ _ h => h) c)

/-- the block's context, with a wish about exceptions -/
abbrev blkX (X : Cx) (s : Shared) (H : Hp) (scope : Scope) (cenv : PySem.Env) (fp : List Addr) : Cx := { X.blk s H scope cenv fp with xe := notedBy (model X.prog X.w) X.A cenv (CompFails (model X.prog X.w) X.A X.xe cenv) }
theorem inv_toX {X : Cx} {s : Shared} {H H' : Hp} {scope : Scope} {cenv : PySem.Env} {fp : List Addr} {pins : List (Addr × Obj)} {σ : L2.St} {s' : Shared} (I : Inv (X.blk s H scope cenv fp) pins σ H' s') : Inv (blkX X s H scope cenv fp) pins σ H' s' :=
  ⟨⟨I.ok.mod, I.ok.kind, I.ok.glob, I.ok.blt, I.ok.above, I.ok.inj, I.ok.has, I.ok.cab, I.ok.hd, I.ok.frames, I.ok.stk, I.ok.exf, I.ok.bs, I.ok.bsz, I.ok.noex, I.ok.exfs, I.ok.funs, I.ok.frf⟩, I.os, I.bare, I.base, I.loc, I.cell, I.free, I.freeC, I.pin, I.hok, I.len⟩

theorem funFrames_sub {B B' h : Heap} (hb : ∀ b, B.get? b = none → B'.get? b = none) : ∀ {l : List PySem.Env}, h.FunFrames B l → h.FunFrames B' l
  | [], _ => trivial
  | env :: l, hh => by
    obtain ⟨hk, ⟨L, o, hf, hn, ho, hd⟩, hr⟩ := hh
    exact ⟨hk, ⟨L, o, hf, hb L hn, ho, hd⟩, funFrames_sub hb hr⟩
theorem Sky.sub {B B' : Heap} {l : List PySem.Env} {a : Addr} {Z : Obj → Prop} {L : Addr} {h : Heap} (sub : ∀ b o, B'.get? b = some o → B.get? b = some o) (x : Sky B l a Z L h) : Sky B' l a Z L h := by
  have hb : ∀ b, B.get? b = none → B'.get? b = none := fun b e => by
    cases q : B'.get? b with
    | none => rfl
    | some o => rw [sub b o q] at e; cases e
  have tr : ∀ {fl : Value}, HandSPX.TracedZ h B a Z fl → HandSPX.TracedZ h B' a Z fl := fun {fl} ⟨oe, vs, T, oT, ts, he, hz, hd, h1, hnT, r⟩ => ⟨oe, vs, T, oT, ts, he, hz, hd, h1, hb T hnT, r⟩
  rcases x with ⟨f1, f2, f3, f4⟩ | ⟨f1, f2, f3, f4⟩ | ⟨f1, f2, f3, f4⟩
  · exact .inl ⟨fun b o e => f1 b o (sub b o e), hb a f2, funFrames_sub hb f3, f4⟩
  · exact .inr (.inl ⟨fun b o e => f1 b o (sub b o e), hb a f2, funFrames_sub hb f3, tr f4⟩)
  · exact .inr (.inr ⟨fun b o e => f1 b o (sub b o e), hb a f2, funFrames_sub hb f3, tr f4⟩)
/-- noted: held by the frame -/
theorem Sky.held {M : Model} {A : Around} {E₁ : Value → Shared → Prop} {s : Shared} {B : Heap} {env : PySem.Env} {outer : List PySem.Env} {L a : Addr} {Z : Obj → Prop} {Q : Unit → Shared → Prop} (hZ : HandSPX.Steady Z) (hfr : A.frames = some (env :: outer)) (hf : env.frame = some L)
    (x : Sky B (env :: outer) a Z L s.heap) (hQ : ∀ h', HandSPX.HeldZ B (env :: outer) a Z L h' → s.heap.UpToSlots h' → Q () { s with heap := h' }) : wpAny M A (noteFrame (.ref a) env) Q E₁ s := by
  rcases x with ⟨hB, hn, hl, oe, vs, he, hz, hd, h1⟩ | fl | hh
  · exact HandSPX.look_newZ hZ hfr hl hf he hB hn hd h1 hz hQ
  · exact HandSPX.looks_onZ hZ hfr hf fl hQ
  · exact HandSPX.againZ hf hh.2.2.2 (hQ s.heap hh (Heap.UpToSlots.refl _))
theorem tracedZ_sameBut {base h h' : Heap} {e C : Addr} {Z : Obj → Prop} {fl : Value} {m : Str → Option Value} (hn : h.Ns C m) (hs : Heap.SameBut C h h') (t : HandSPX.TracedZ h base e Z fl) : HandSPX.TracedZ h' base e Z fl := by
  obtain ⟨oe, vs, T, oT, ts, he, hz, hd, h1, hnT, hTe, hT, hdT, h3⟩ := t
  obtain ⟨oC, es, ep, hoC, hdC, r⟩ := hn
  have ne : ∀ b o (ws : Array Value), h.get? b = some o → o.data = .fields ws → b ≠ C := fun b o ws q qd z => by
    rw [z, hoC] at q; cases q; rw [hdC] at qd; cases qd
  exact ⟨oe, vs, T, oT, ts, (hs.2 e (ne e oe vs he hd)).trans he, hz, hd, h1, hnT, hTe, (hs.2 T (ne T oT ts hT hdT)).trans hT, hdT, h3⟩

/-- what leaves the block leaves the def -/
theorem takesF_blk {X : Cx} {W : WX} {pins : List (Addr × Obj)} {σ : L2.St} {H3 : Hp} {s3 : Shared} {scope : Scope} {cl : List (Str × Addr)} {fp : List Addr} (TF : TakesF X W) (I3 : Inv X pins σ H3 s3)
    (f3 : ∀ b ∈ fp, FpOk X pins H3 b ∧ b < s3.heap.objs.size) : TakesF (blkX X s3 H3 scope (compEnvC scope cl s3.heap.objs.size X.env) fp) (fun cls d _ H => W cls d σ H) := by
  obtain ⟨L, e0, o, h1, h2, h3, t⟩ := TF
  refine ⟨L, e0, o, h1, h2, h3, fun u s' x => ?_⟩
  obtain ⟨a, B, sI, pins', σ', H', cls, d, rfl, I, nb, up, sky, na, os, ag, w⟩ := x
  generalize hce : compEnvC scope cl s3.heap.objs.size X.env = ce at I nb sky ⊢
  have cL : ce.locals = s3.heap.objs.size := by subst hce; rfl
  have cF : ce.frame = some L := by subst hce; exact h1
  generalize hC : s3.heap.objs.size = C at cL
  show wpAny _ _ (noteFrame (.ref a) ce) _ _ s'
  rw [PySem.noteFrame_env (.ref a) (cF.trans h3.symm)]
  obtain ⟨B', b1, b2⟩ := restrict B fun b => decide (b ≠ C)
  obtain ⟨G, g1, g2⟩ := restrict sI.heap fun b => decide (b ≠ C)
  have bsub : ∀ b o, B'.get? b = some o → B.get? b = some o ∧ b ≠ C := fun b o e => by
    by_cases hb : b = C
    · rw [b2 b (by simp [hb])] at e; cases e
    · rw [b1 b (by simp [hb])] at e
      exact ⟨e, hb⟩
  have gsub : ∀ b o, G.get? b = some o → sI.heap.get? b = some o ∧ b ≠ C := fun b o e => by
    by_cases hb : b = C
    · rw [g2 b (by simp [hb])] at e; cases e
    · rw [g1 b (by simp [hb])] at e
      exact ⟨e, hb⟩
  have gne : ∀ b, b ≠ C → G.get? b = sI.heap.get? b := fun b hb => g1 b (by simp [hb])
  have hst : X.stack = e0 :: o := h2
  have hfr : X.A.frames = some (e0 :: o) := by rw [I3.ok.frames, hst]
  have sky : Sky B X.stack a (Zc cls d) L s'.heap := sky
  rw [hst] at sky
  refine Sky.held Zc.steady hfr h3 (Sky.sub (B' := B') (fun b o e => (bsub b o e).1) sky) fun h' hd up1 => ?_
  obtain ⟨m, hn, _⟩ := I.loc
  have hn : sI.heap.Ns ce.locals m := hn
  rw [cL] at hn
  have hn' : h'.Ns C m := (hn.upToSlots up).upToSlots up1
  refine ⟨m, by rw [cL]; exact hn', fun h₂ m₂ hn₂ hs₂ => ?_⟩
  rw [cL] at hn₂ hs₂
  obtain ⟨k1, k2, k3, k4⟩ := hd
  have st₂ : B'.StaysIn h₂ := fun b o e => (hs₂.2 b (bsub b o e).2).trans (k1 b o e)
  have ff₂ : h₂.FunFrames B' (e0 :: o) := Heap.FunFrames.sameBut hs₂ hn₂ k3
  have tr₂ : HandSPX.TracedZ h₂ B' a (Zc cls d) (rawInt L) := tracedZ_sameBut hn' hs₂ k4
  obtain ⟨oe, vs, T, oT, ts, q1, q2, q3, q4, q5⟩ := id tr₂
  unfold PySem.passOn
  refine wpAny_bind (wpAny_field q1 q3 q4 ?_)
  rw [if_neg (show ¬ ((Value.ref T == Value.none) = true) from by simp)]
  rw [cF]
  refine wpAny_bind (HandSPX.setFlight_onZ ⟨st₂, k2, ff₂, tr₂⟩ fun h₃ hd₃ up3 => wpAny_throw ?_)
  have inh : ∀ b o, s3.heap.get? b = some o → b ≠ C := fun b o e => by rw [← hC]; exact Nat.ne_of_lt (Heap.lt_size e)
  have hfree : H' C = none := by
    have z : H' ce.locals = none := I.free
    rw [cL] at z; exact z
  have base : Un (frs X.stack) fp H3 H' s3.heap sI.heap := I.base
  have hok : HOk X.prog X.w H' sI.heap := I.hok
  have Io : Inv X pins σ H' { sI with heap := G } := I3.call' (ch := fp) (s' := { sI with heap := G }) I.os
    ⟨fun b o e n hf hx => by rw [gne b (inh b o e)]; exact base.keep b o e n hf hx, fun b o e n hf hx => by rw [gne b (inh b o e)]; exact base.slot b o e n hf hx, base.free, fun b o e hx => by rw [gne b (inh b o e)]; exact base.there b o e hx, base.tups, base.frzs, base.tbls⟩
    (fun b u e => (hok b u e).stay (fun c v hc q => by
      have hcC : c ≠ C := fun z => by
        rcases hc with hc | hc
        · rw [← hc, z, hfree] at e; cases e
        · rw [z, hfree] at hc; cases hc
      show G.get? c = some v
      rw [gne c hcC]; exact q) (fun _ r => r) fun _ _ r => r) I.bare fun b hb => ⟨(f3 b hb).1.2.2.2.1, (f3 b hb).1.2.1, (f3 b hb).1.2.2.2.2.1, (f3 b hb).1.2.2.2.2.2⟩
  refine t _ _ ⟨a, B', { sI with heap := G }, pins, σ, H', cls, d, rfl, Io, fun b o e hb => ?_, fun b o e hnf => ?_, ?_, na, os, ag, w⟩
  · obtain ⟨e', hbC⟩ := gsub b o e
    rw [b1 b (by simp [hbC])]
    exact nb b o e' hb
  · obtain ⟨e', hbC⟩ := gsub b o e
    obtain ⟨sl1, r1⟩ := up b o e' hnf
    obtain ⟨sl2, r2⟩ := up1 b _ r1 hnf
    obtain ⟨sl3, r3⟩ := up3 b _ ((hs₂.2 b hbC).trans r2) hnf
    exact ⟨sl3, r3⟩
  · rw [hst]
    exact .inr (.inr hd₃)

/-- the list comprehension, with exceptions that leave it: the tests and the element know the slots at its start -/
def tLcX (wi : TI) (g : TG) (tt : L2.St → TT) (te : L2.St → TE) (vs : List Nat) : TE := fun σ H Q => tLc wi g (tt σ) (te σ) vs σ H Q
section
variable {X : Cx} {W : WX}
theorem lc_coreX {pins : List (Addr × Obj)} {s : Shared} {σ : L2.St} {H : Hp} {Q : VK} {elt tg iter : Expr} {ifs : List Expr} {scope : Scope} {own : List (Str × Nat)} {pos pos' : Pos} {wi : TI} {g : TG} {tt : TT} {te : TE} {use : Option (Value → Sem Unit)} {Qf : Value → Shared → Prop}
    (TF : TakesF X W) (hc : X.calm = true) (hN : X.N.Nodup) (I : Inv X pins σ H s) (hi : PI X tg iter wi) (ok : BlkOk X.N X.env.scope scope own)
    (hg : ∀ (s : Shared) (H : Hp) (C : Addr) (cl : List (Str × Addr)) (fp : List Addr), PG (blkX X s H scope (compEnvC scope cl C X.env) fp) tg g)
    (ht : ∀ (s : Shared) (H : Hp) (C : Addr) (cl : List (Str × Addr)) (fp : List Addr), TakesF (blkX X s H scope (compEnvC scope cl C X.env) fp) (fun cls d _ H => W cls d σ H) → PTs (blkX X s H scope (compEnvC scope cl C X.env) fp) ifs tt)
    (he : ∀ (s : Shared) (H : Hp) (C : Addr) (cl : List (Str × Addr)) (fp : List Addr), TakesF (blkX X s H scope (compEnvC scope cl C X.env) fp) (fun cls d _ H => W cls d σ H) → PE (blkX X s H scope (compEnvC scope cl C X.env) fp) elt te) (hs : ∀ x, foldedSetIterable iter X.env x = pure x)
    (h : tLc wi g tt te (own.map (·.2)) σ H Q)
    (hRR : ∀ D ce s' m H', Inv X pins σ H' s' → Q (.ref D) H' → s'.heap.Ns ce.locals m → FpOk X pins H' ce.locals → compEnds (model X.prog X.w) X.A X.xe use Qf (.ref D) ce (.ok .next) s') :
    wpAny (model X.prog X.w) X.A (comprehension (.ListComp elt [⟨tg, iter, ifs, 0⟩] scope pos) scope X.env pos' (newList []) false (eval iter X.env) use) Qf X.xe s := by
  have hfree : ∀ y ∈ scope.names, y.2 = .free → ∃ c, X.env.cells.lookup y.1 = some c := fun y hy e => by
    rcases ok.free y hy e with k | k
    · exact I.ok.has _ (.inl k)
    · exact I.ok.has _ (.inr k)
  refine comprehension_at (use := use) rfl hs (closure_ok hfree) ok.kind (fun y hy e => by rw [ok.uniq y hy, e])
    (thn (hi.run pins s σ H _ I h) fun xv s1 hx => thn hx fun itv s2 h2 => ?_)
  obtain ⟨it, fp, tn, J, H2, e, I2, T, st2, f2, q⟩ := h2
  subst e
  refine wpAny_newObj_type (newEnv_comp ?_) (by show 0 ≤ sizeLine; decide)
  generalize hD : s2.heap.objs.size = D
  have hDn : H2 D = none := I2.hok.fresh (Nat.le_of_eq hD)
  obtain ⟨W', ⟨m0, w0⟩, turn⟩ := q D hDn
  -- the new list
  generalize hs3 : ({ s2 with heap := s2.heap.push { cls := .type "list", data := .seq ([] : List Value).toArray } } : Shared) = s3
  have I3 : Inv X pins σ (upd H2 D (.lst [])) s3 := by
    rw [← hs3]
    refine I2.laid (t' := s2.toks) (fun b o e => Heap.get?_push_of_some _ e) (Nat.le_of_eq hD) ⟨Nat.zero_le _, [], 0, .nil, ?_⟩
    rw [← hD]
    exact Heap.get?_push_size _ rfl
  have h3 : s3.heap = s2.heap.push { cls := .type "list", data := .seq ([] : List Value).toArray } := by rw [← hs3]
  have sz : ∀ b ∈ fp, b < s2.heap.objs.size := fun b hb => by
    obtain ⟨o, e, _⟩ := T.obj _ _ st2 b hb
    exact Heap.lt_size e
  have f3 : ∀ b ∈ fp, FpOk X pins (upd H2 D (.lst [])) b ∧ b < s3.heap.objs.size := fun b hb => by
    have hlt := sz b hb
    refine ⟨⟨?_, (f2 b hb).2⟩, by rw [h3, Heap.size_push]; exact Nat.lt_succ_of_lt hlt⟩
    rw [upd_ne (by rw [← hD]; exact Nat.ne_of_lt hlt)]
    exact (f2 b hb).1
  have st3 : tn 0 s3.heap := T.keep _ _ _ st2 fun b _ o e => by rw [h3]; exact Heap.get?_push_of_some _ e
  have I4 := inv_toX (block_start I3 ok hN f3)
  have tf := takesF_blk (scope := scope) (cl := cellsFrom (s3.heap.objs.size + 1) scope.names (cloFrom X.env.cells scope.names [])) TF I3 f3
  have pg := hg s3 (upd H2 D (.lst [])) s3.heap.objs.size (cellsFrom (s3.heap.objs.size + 1) scope.names (cloFrom X.env.cells scope.names [])) fp
  have pt := ht s3 (upd H2 D (.lst [])) s3.heap.objs.size (cellsFrom (s3.heap.objs.size + 1) scope.names (cloFrom X.env.cells scope.names [])) fp tf
  have pe := he s3 (upd H2 D (.lst [])) s3.heap.objs.size (cellsFrom (s3.heap.objs.size + 1) scope.names (cloFrom X.env.cells scope.names [])) fp tf
  show codeAny _ _ (.compStart (.ListComp elt [⟨tg, iter, ifs, 0⟩] scope pos) 0 (.ref it) (.ref D) (compEnvC scope (cellsFrom (s3.heap.objs.size + 1) scope.names (cloFrom X.env.cells scope.names [])) s3.heap.objs.size X.env)) (compEnds (model X.prog X.w) X.A X.xe use Qf (.ref D) (compEnvC scope (cellsFrom (s3.heap.objs.size + 1) scope.names (cloFrom X.env.cells scope.names [])) s3.heap.objs.size X.env)) { s3 with heap := pushCells (s3.heap.push { cls := .type "dict", data := .dict #[] }) scope.names }
  have nfp : ∀ b ∈ fp, (upd H2 D (.lst [])) b = none := fun b hb => (f3 b hb).1.1
  clear tf
  generalize hce : compEnvC scope (cellsFrom (s3.heap.objs.size + 1) scope.names (cloFrom X.env.cells scope.names [])) s3.heap.objs.size X.env = ce at I4 pg pt pe ⊢
  have cL : ce.locals = s3.heap.objs.size := by subst hce; rfl
  generalize hH3 : upd H2 D (.lst []) = H3 at I3 I4 pg pt pe w0 nfp f3
  generalize hs4 : ({ s3 with heap := pushCells (s3.heap.push { cls := .type "dict", data := .dict #[] }) scope.names } : Shared) = s4 at I4 ⊢
  have st4 : tn 0 s4.heap := T.keep _ _ _ st3 fun b _ o e => by rw [← hs4]; exact pushCells_keeps _ _ _ _ (Heap.get?_push_of_some _ e)
  have stat : ∀ {σ' : L2.St} {H' : Hp} {s' : Shared}, Inv (blkX X s3 H3 scope ce fp) [] σ' H' s' → (∀ b ∈ fp, H' b = none) → ∀ b ∈ fp, FpOk (blkX X s3 H3 scope ce fp) [] H' b := fun {σ' H' s'} I' hn b hb =>
    ⟨hn b hb, (I'.ok.exf b hb).1, I'.ok.exfs b hb, .inl hb, fun x c e => (I'.ok.exf b hb).2 x c e, fun p hp => absurd (show p ∈ ([] : List (Addr × Obj)) ++ [] from hp) (by simp)⟩
  have hxe : (fun e s' => compEnds (model X.prog X.w) X.A X.xe use Qf (.ref D) ce (.error e) s') = CompFails (model X.prog X.w) X.A X.xe ce := by
    funext e s'
    cases use <;> rfl
  have loop : codeAny (model X.prog X.w) X.A (.compLoop (.ListComp elt [⟨tg, iter, ifs, 0⟩] scope pos) 0 (.ref it) (.ref D) ce) (compEnds (model X.prog X.w) X.A X.xe use Qf (.ref D) ce) s4 := by
    refine compLoop_any (fun n s' => ∃ i H', Inv (blkX X s3 H3 scope ce fp) [] (wipe σ (own.map (·.2))) H' s' ∧ tn i s'.heap ∧ (∀ b ∈ fp, H' b = none) ∧ W' i n H') ?_ m0 ⟨0, H3, I4, st4, nfp, w0⟩
    rintro n s5 ⟨i, H5, I5, st5, n5, w5⟩
    rw [hxe]
    rcases turn i n H5 w5 with ⟨stop, qq⟩ | ⟨go, Nx, hNx, step⟩
    · have td := T.done (blkX X s3 H3 scope ce fp) rfl rfl rfl hc i [] s5 _ H5 (fun _ _ => False) I5 (stat I5 n5) st5 stop
      refine thnF td fun r s6 ⟨hr, I6⟩ => ?_
      subst hr
      -- back in the def's context
      have I7 : Inv X pins σ H5 s6 := I3.call' (ch := fp) I6.os I6.base I6.hok I6.bare fun b hb => ⟨(f3 b hb).1.2.2.2.1, (f3 b hb).1.2.1, (f3 b hb).1.2.2.2.2.1, (f3 b hb).1.2.2.2.2.2⟩
      have nC : H5 ce.locals = none := I6.free
      obtain ⟨m, hn, _⟩ := I6.loc
      have hn : s6.heap.Ns ce.locals m := hn
      exact hRR D ce s6 m H5 I7 qq hn (I3.fpOk (Nat.le_of_eq cL.symm) nC)
    · have ti := T.item (blkX X s3 H3 scope ce fp) rfl rfl rfl hc i [] s5 _ H5 (fun _ _ => False) I5 (stat I5 n5) st5 go
      refine thnF ti fun r s6 ⟨u, hr, h6⟩ => ?_
      subst hr
      refine thnF h6 fun _ s7 ⟨x, H7, I7, r7, y7, st7, n7⟩ => ?_
      have I7' := I7.pinned (stat I7 n7) (T.obj _ _ st7)
      refine thn (pg.run _ s7 _ H7 x u _ I7' r7 (step x H7 y7)) fun _ s8 ⟨σ8, H8, I8, hw8, q8⟩ => ?_
      refine thn (pt.run _ s8 σ8 H8 _ I8 q8) fun b s9 ⟨H9, I9, q9⟩ => ?_
      -- the turn's end
      have fin : ∀ {s' : Shared} {H' : Hp}, Inv (blkX X s3 H3 scope ce fp) ([] ++ pinsAt fp s7.heap) σ8 H' s' → Nx H' → ∃ m, m < n ∧ ∃ i H', Inv (blkX X s3 H3 scope ce fp) [] (wipe σ (own.map (·.2))) H' s' ∧ tn i s'.heap ∧ (∀ b ∈ fp, H' b = none) ∧ W' i m H' := fun {s' H'} I' nx => by
        obtain ⟨m', hm, w'⟩ := hNx H' nx
        have pin' : ∀ b ∈ fp, ∀ o, s7.heap.get? b = some o → s'.heap.get? b = some o ∧ H' b = none := fun b hb o e =>
          let z := I'.pin (b, o) (List.mem_append_right _ (List.mem_append_right _ (mem_pinsAt hb e)))
          ⟨z.1, z.2.1⟩
        have hl : (wipe σ (own.map (·.2))).length = σ8.length := by rw [← hw8, wipe_length]
        refine ⟨m', hm, i + 1, H', (I'.unpinned (pins := [])).weak hl (fun j v e => ?_), T.keep _ _ _ st7 fun b hb o e => (pin' b hb o e).1, fun b hb => ?_, w'⟩
        · rw [← hw8] at e
          exact (wipe_some e).1
        · obtain ⟨o, e, _⟩ := T.obj _ _ st7 b hb
          exact (pin' b hb o e).2
      cases b with
      | false =>
        simp only [Bool.false_eq_true, if_false] at q9 ⊢
        exact fin I9 q9
      | true =>
        simp only [if_true] at q9 ⊢
        refine thn (pe.run _ s9 σ8 H9 _ I9 q9) fun z s10 ⟨yv, H10, I10, r10, acc, hD10, hz10, nx⟩ => ?_
        exact app_ok (X := blkX X s3 H3 scope ce fp) I10 hD10 hz10 r10 fun s11 I11 => fin I11 nx
  exact codeAny_compStart_list loop (T.self X.A 0 _ _ _ st4 loop)
theorem pe_lcX {elt tg iter : Expr} {ifs : List Expr} {scope : Scope} {own : List (Str × Nat)} {pos : Pos} {wi : TI} {g : TG} {tt : L2.St → TT} {te : L2.St → TE} (TF : TakesF X W) (hc : X.calm = true) (hN : X.N.Nodup) (hi : PI X tg iter wi) (ok : BlkOk X.N X.env.scope scope own)
    (hg : ∀ (s : Shared) (H : Hp) (C : Addr) (cl : List (Str × Addr)) (fp : List Addr), PG (blkX X s H scope (compEnvC scope cl C X.env) fp) tg g)
    (ht : ∀ (σ : L2.St) (s : Shared) (H : Hp) (C : Addr) (cl : List (Str × Addr)) (fp : List Addr), TakesF (blkX X s H scope (compEnvC scope cl C X.env) fp) (fun cls d _ H => W cls d σ H) → PTs (blkX X s H scope (compEnvC scope cl C X.env) fp) ifs (tt σ))
    (he : ∀ (σ : L2.St) (s : Shared) (H : Hp) (C : Addr) (cl : List (Str × Addr)) (fp : List Addr), TakesF (blkX X s H scope (compEnvC scope cl C X.env) fp) (fun cls d _ H => W cls d σ H) → PE (blkX X s H scope (compEnvC scope cl C X.env) fp) elt (te σ)) (hs : ∀ x, foldedSetIterable iter X.env x = pure x := by intro _; rfl) :
    PE X (.ListComp elt [⟨tg, iter, ifs, 0⟩] scope pos) (tLcX wi g tt te (own.map (·.2))) := by
  refine ⟨fun pins s σ H Q I h => ?_⟩
  rw [eval_ListComp]
  refine lc_coreX TF hc hN I hi ok hg (ht σ) (he σ) hs h fun D ce s' m H' I' q hn f => ⟨m, hn, fun h'' sb => ?_⟩
  obtain ⟨f0, f1, f2, f3, f4, f5⟩ := f
  exact ⟨.ref D, H', I'.turned (t' := s'.toks) (fun b o hb e => (sb.2 b hb).trans e) f0 f1 f3 f4 f5, rfl, q⟩
theorem ps_setLcX {i : Nat} {y : Str} {py : Pos} {elt tg iter : Expr} {ifs : List Expr} {scope : Scope} {own : List (Str × Nat)} {pos spos : Pos} {wi : TI} {g : TG} {tt : L2.St → TT} {te : L2.St → TE} (TF : TakesF X W) (hc : X.calm = true) (hN : X.N.Nodup) (hy : X.N[i]? = some y) (hyl : X.env.scope.names.lookup y = some .local)
    (hsw : swapsWith (.ListComp elt [⟨tg, iter, ifs, 0⟩] scope pos) (some (.Name y py)) spos.line X.env = pure true) (hi : PI X tg iter wi) (ok : BlkOk X.N X.env.scope scope own)
    (hg : ∀ (s : Shared) (H : Hp) (C : Addr) (cl : List (Str × Addr)) (fp : List Addr), PG (blkX X s H scope (compEnvC scope cl C X.env) fp) tg g)
    (ht : ∀ (σ : L2.St) (s : Shared) (H : Hp) (C : Addr) (cl : List (Str × Addr)) (fp : List Addr), TakesF (blkX X s H scope (compEnvC scope cl C X.env) fp) (fun cls d _ H => W cls d σ H) → PTs (blkX X s H scope (compEnvC scope cl C X.env) fp) ifs (tt σ))
    (he : ∀ (σ : L2.St) (s : Shared) (H : Hp) (C : Addr) (cl : List (Str × Addr)) (fp : List Addr), TakesF (blkX X s H scope (compEnvC scope cl C X.env) fp) (fun cls d _ H => W cls d σ H) → PE (blkX X s H scope (compEnvC scope cl C X.env) fp) elt (te σ)) (hs : ∀ x, foldedSetIterable iter X.env x = pure x := by intro _; rfl) :
    PS X (.Assign [.Name y py] (.ListComp elt [⟨tg, iter, ifs, 0⟩] scope pos) spos) (tAsg (tLcX wi g tt te (own.map (·.2))) (gName i)) := by
  refine ⟨fun pins s σ H D I h => ?_⟩
  rw [exec_Assign_Name_used _ _ _ _ hsw]
  refine wpAny_bind (wpAny_standAt (wpAny_bind ?_))
  show wpAny _ X.A (do let _ ← comprehension (.ListComp elt [⟨tg, iter, ifs, 0⟩] scope pos) scope X.env (firstIterPos [⟨tg, iter, ifs, 0⟩] pos) (newList []) false (eval iter X.env) (some (assign (.Name y py) X.env))) _ _ s
  have h : tLc wi g (tt σ) (te σ) (own.map (·.2)) σ H (fun x H1 => gName i x σ H1 D.nx) := h
  refine wpAny_bind (thn (lc_coreX (Qf := fun _ s' => SP X pins D .next s') TF hc hN I hi ok hg (ht σ) (he σ) hs h fun L ce s' m H' I' q hn f => ?_) fun _ s' hq => wpAny_pure (wpAny_pure hq))
  show wpAny _ _ (assign (.Name y py) X.env (.ref L)) _ _ _
  refine wpAny_assign_Name (store_ok2 (v := V.ref L) I' hN hy (.inl hyl) rfl (fun s2 I2 ⟨a, sb, ha⟩ => ?_) (.inr hyl))
  obtain ⟨f0, f1, f2, f3, f4, f5⟩ := f
  have haC : ce.locals ≠ a := by
    rcases ha with z | z
    · rw [z]; exact f1
    · exact fun e => f4 y a z e.symm
  refine ⟨m, hn.sameBut sb haC, fun h3 sb3 => ?_⟩
  exact ⟨_, H', I2.turned (t' := s2.toks) (fun b o hb e => (sb3.2 b hb).trans e) f0 f1 f3 f4 f5, q⟩
end
end Pd

/-! Pd17: comprehensions that let exceptions out: the lift. -/
namespace Pd
open PySem L2 PyProof.Rows PySem.Spec
section
variable {F : Fx} {ρ ρ' : Env} {σ σ' : L2.St} {S S' H H' : Hp} {a : Addr}
theorem EO.backU {vs : List Nat} (E : EO F ρ σ S H) (E3 : EO F ρ' σ' S' H') (hl : σ'.length = σ.length) (off : ∀ i, i ∉ vs → σ'[i]? = σ[i]?) (ok : lcOk ρ vs = true) : EO F (wipeE ρ' vs) σ S' H' := by
  have l1 : ρ'.length = ρ.length := by rw [E3.len, E.len, hl]
  have hlt : ∀ v ∈ vs, v < ρ'.length := fun v hv => by
    rw [l1]
    rcases lcOk_at ok hv with e | ⟨d, e⟩ <;> exact (List.getElem?_eq_some_iff.mp e).1
  have own : ∀ i p c, (wipeE ρ' vs)[i]? = some (.own p c) → ρ'[i]? = some (.own p c) ∧ i ∉ vs := fun i p c h => by
    by_cases hi : i ∈ vs
    · rw [wipeE_in hi (hlt i hi)] at h; cases h
    · rw [wipeE_out hi] at h
      exact ⟨h, hi⟩
  refine ⟨by rw [wipeE_length, l1, E.len], E3.sub0, E3.sub, E3.new, E3.frame, fun i d h => ?_, fun i p c h => ?_, fun i j p q c d a h1 h2 h3 h4 => ?_, fun x hx => ?_, fun x hx => ?_, fun x hx => ?_⟩
  · by_cases hi : i ∈ vs
    · rw [wipeE_in hi (hlt i hi)] at h; cases h
    · rw [wipeE_out hi] at h
      obtain ⟨v, hv, r⟩ := E3.val i d h
      exact ⟨v, by rw [← off i hi]; exact hv, r⟩
  · obtain ⟨h', hi⟩ := own i p c h
    obtain ⟨a, ha, q⟩ := E3.own i p c h'
    exact ⟨a, by rw [← off i hi]; exact ha, q⟩
  · obtain ⟨h1', hi⟩ := own i p c h1
    obtain ⟨h2', hj⟩ := own j q d h2
    exact E3.dis i j p q c d a h1' h2' (by rw [off i hi]; exact h3) (by rw [off j hj]; exact h4)
  · obtain ⟨⟨c, hc⟩, hs⟩ := E3.po x hx
    have hi : x.1 ∉ vs := fun hi => by
      obtain ⟨⟨c0, hc0⟩, _⟩ := E.po x hx
      rcases lcOk_at ok hi with e | ⟨d, e⟩ <;> (rw [e] at hc0; cases hc0)
    exact ⟨⟨c, by rw [wipeE_out hi]; exact hc⟩, by rw [← off _ hi]; exact hs⟩
  · obtain ⟨k1, k2, k3⟩ := E3.kp x hx
    refine ⟨k1, k2, fun i p c h => ?_⟩
    obtain ⟨h', hi⟩ := own i p c h
    rw [← off i hi]
    exact k3 i p c h'
  · obtain ⟨hc, hs⟩ := E3.hd x hx
    have hi : x.1 ∉ vs := fun hi => by
      obtain ⟨hc0, _⟩ := E.hd x hx
      rcases lcOk_at ok hi with e | ⟨d, e⟩ <;> (rw [e] at hc0; cases hc0)
    exact ⟨by rw [wipeE_out hi]; exact hc, by rw [← off _ hi]; exact hs⟩
end
/-- the block's names forgotten where an exception leaves it -/
def outE {α : Type} (vs : List Nat) (r : Res α) : Res α := match r with
  | .exc c x ρ => .exc c x (wipeE ρ vs)
  | .ok a ρ => .ok a ρ
  | .bad => .bad
def lcStepX (tg : Tgt) (vs : List Nat) (κ : Env → Res Bool) (τ : DE) : D → Env → Res (List D) := fun d ρ =>
  if lcOk ρ vs = true then match tgSet tg d (wipeE ρ vs) with
    | none => .bad
    | some ρ1 => (outE vs (κ ρ1)).bind fun b ρ2 => if b = true then (outE vs (τ ρ2)).bind fun y ρ3 => .ok [y] (backE ρ ρ3 vs) else .ok [] (backE ρ ρ2 vs)
  else .bad
def asL (r : Res (List D)) : Res OC := match r with
  | .ok ys ρ => .ok (.l ys) ρ
  | .exc c x ρ => .exc c x ρ
  | .bad => .bad
/-- [elt for tg in it if test] -/
def dLcX (vs : List Nat) (τi : Env → Res (List D)) (tg : Tgt) (κ : Env → Res Bool) (τ : DE) : Env → Res OC := fun ρ => (τi ρ).bind fun ds ρ1 => if ds.length ≤ MX then asL (genL (lcStepX tg vs κ τ) ds ρ1) else .bad
theorem outE_ok {α : Type} {vs : List Nat} {r : Res α} {x : α} {ρ : Env} (h : outE vs r = .ok x ρ) : r = .ok x ρ := by
  cases r <;> simp [outE] at h ⊢
  exact h
theorem outE_exc {α : Type} {vs : List Nat} {r : Res α} {c : Str} {x : D} {ρ : Env} (h : outE vs r = .exc c x ρ) : ∃ ρ1, r = .exc c x ρ1 ∧ ρ = wipeE ρ1 vs := by
  cases r with
  | exc c' x' ρ1 => cases h; exact ⟨ρ1, rfl, rfl⟩
  | ok => cases h
  | bad => cases h
theorem lcStepX_len {tg : Tgt} {vs : List Nat} {κ : Env → Res Bool} {τ : DE} {d : D} {ρ ρ' : Env} {ys : List D} (h : lcStepX tg vs κ τ d ρ = .ok ys ρ') : ys.length ≤ 1 := by
  unfold lcStepX at h
  split at h
  · split at h
    · cases h
    · obtain ⟨b, ρ2, _, h⟩ := Res.bind_ok h
      split at h
      · obtain ⟨y, ρ3, _, h⟩ := Res.bind_ok h
        cases h
        exact Nat.le_refl _
      · cases h
        exact Nat.zero_le _
  · cases h
theorem genL_len {step : D → Env → Res (List D)} (hs : ∀ d ρ ys ρ', step d ρ = .ok ys ρ' → ys.length ≤ 1) : ∀ {ds : List D} {ρ ρ' : Env} {ys : List D}, genL step ds ρ = .ok ys ρ' → ys.length ≤ ds.length
  | [], ρ, ρ', ys, h => by cases h; exact Nat.le_refl _
  | d :: ds, ρ, ρ', ys, h => by
    obtain ⟨zs, ρ1, h1, h⟩ := Res.bind_ok h
    obtain ⟨us, ρ2, h2, h⟩ := Res.bind_ok h
    cases h
    have := hs _ _ _ _ h1
    have := genL_len hs h2
    rw [List.length_append, List.length_cons]
    omega
section
variable {F : Fx} {S1 : Hp}
/-- the loop where an exception leaves it -/
theorem lc_genE {σ : L2.St} {L : Addr} {J : It} {ds : List D} {step : D → Env → Res (List D)} {B : V → Hp → (Hp → Prop) → Prop} {Fin : Hp → Prop} {ρ1 ρf : Env} {c : Str} {xx : D} {accD : List D} {accV : List V} {H1 : Hp}
    (wk : Wk F.K S1 J ds) (E : EO (F.wk L (.lst accV)) ρ1 σ S1 H1) (ra : RpL F.K S1 accD accV) (e : genL step ds ρ1 = .exc c xx ρf) (hz : accD.length + ds.length ≤ MX) (hs : ∀ d ρ ys ρ', step d ρ = .ok ys ρ' → ys.length ≤ 1)
    (hB : ∀ (d : D) (x : V) (ρi ρj : Env) (zs accD : List D) (accV : List V) (Si Hi : Hp) (Nx : Hp → Prop), EO (F.wk L (.lst accV)) ρi σ Si Hi → RpL F.K Si accD accV → accD.length + zs.length ≤ MX → Rp F.K Si d x → step d ρi = .ok zs ρj →
      (∀ S' accV' H', EO (F.wk L (.lst accV')) ρj σ S' H' → Same Si S' → RpL F.K S' (accD ++ zs) accV' → Nx H') → B x Hi Nx)
    (hX : ∀ (d : D) (x : V) (ρi : Env) (accV : List V) (Si Hi : Hp) (Nx : Hp → Prop), EO (F.wk L (.lst accV)) ρi σ Si Hi → Rp F.K Si d x → step d ρi = .exc c xx ρf → B x Hi Nx) :
    ∃ W : Nat → Nat → Hp → Prop, (∃ m, W 0 m H1) ∧ ∀ i m H, W i m H → (J.stop i H ∧ Fin H) ∨ (J.go i H ∧ ∃ Nx : Hp → Prop, (∀ H', Nx H' → ∃ m', m' < m ∧ W (i + 1) m' H') ∧ ∀ x H', J.yld i H x H' → B x H' Nx) := by
  refine ⟨fun i m H' => ∃ ρi Si aD aV, EO (F.wk L (.lst aV)) ρi σ Si H' ∧ Same S1 Si ∧ RpL F.K Si aD aV ∧ genL step (ds.drop i) ρi = .exc c xx ρf ∧ aD.length + (ds.drop i).length ≤ MX ∧ i + m = ds.length, ⟨ds.length, ρ1, S1, accD, accV, E, Same.refl S1, ra, e, hz, Nat.zero_add _⟩, ?_⟩
  rintro i m H' ⟨ρi, Si, aD, aV, Ei, si, ri, ei, ti, hm⟩
  obtain ⟨w1, w2⟩ := wk Si H' si Ei.sub i
  cases hd : ds.drop i with
  | nil =>
    rw [hd] at ei
    cases ei
  | cons d r =>
    rw [hd] at ei ti
    obtain ⟨h1, h2, h3⟩ := drop_cons hd
    obtain ⟨go, y⟩ := w2 d h1
    rcases Res.bind_exc ei with e2 | ⟨zs, ρ2, e2, ei⟩
    · refine .inr ⟨go, fun _ => False, fun _ z => z.elim, fun x H2 hy => ?_⟩
      obtain ⟨S2, x2, rx⟩ := y x H2 hy
      exact hX d x ρi aV S2 H2 _ (Ei.ext x2) rx e2
    · have e3 : genL step r ρ2 = .exc c xx ρf := by
        rcases Res.bind_exc ei with e3 | ⟨us, ρ3, _, e4⟩
        · exact e3
        · cases e4
      have hz1 := hs _ _ _ _ e2
      have ti' : aD.length + (r.length + 1) ≤ MX := by rw [← List.length_cons]; exact ti
      refine .inr ⟨go, fun H2 => ∃ ρi Si aD aV, EO (F.wk L (.lst aV)) ρi σ Si H2 ∧ Same S1 Si ∧ RpL F.K Si aD aV ∧ genL step (ds.drop (i + 1)) ρi = .exc c xx ρf ∧ aD.length + (ds.drop (i + 1)).length ≤ MX ∧ (i + 1) + (m - 1) = ds.length, fun H2 hN => ⟨m - 1, by omega, hN⟩, fun x H2 hy => ?_⟩
      obtain ⟨S2, x2, rx⟩ := y x H2 hy
      refine hB d x ρi ρ2 zs aD aV S2 H2 _ (Ei.ext x2) (ri.mono x2.s) (by omega) rx e2 fun S3 aV3 H3 E3 s3 r3 => ?_
      exact ⟨ρ2, S3, aD ++ zs, aV3, E3, si.trans (x2.s.trans s3), r3, by rw [h2]; exact e3, by rw [h2, List.length_append]; omega, by omega⟩
end
section
variable {F : Fx} {W : WX} {g : TG} {tg : Tgt} {wi : TI} {τi : Env → Res (List D)} {tt : L2.St → TT} {κ : Env → Res Bool} {te : L2.St → TE} {τ : DE} {vs : List Nat}
theorem excK_in {L : Addr} {accV : List V} {ρ ρ2 : Env} {σ σ2 : L2.St} {S0 H0 : Hp} {c : Str} {x : D} (h0 : F.H0 L = none) (E : EO (F.wk L (.lst accV)) ρ σ S0 H0) (ok : lcOk ρ vs = true) (hl : σ2.length = σ.length) (off : ∀ i, i ∉ vs → σ2[i]? = σ[i]?)
    (q : ExcK F W σ c x (wipeE ρ2 vs)) : ExcK (F.wk L (.lst accV)) (fun cls d _ H => W cls d σ H) σ2 c x ρ2 := fun v dd S H E2 hd hs h0d fr r => by
  have Eb := (E.backU E2 hl off ok)
  refine q v dd S H Eb.unkeep hd hs h0d ⟨fun i p cc h => ?_, fun y hy => fr.2 y (List.mem_cons_of_mem _ hy)⟩ r
  by_cases hi : i ∈ vs
  · have hlt : i < ρ2.length := by
      have := (List.getElem?_eq_some_iff.mp h).1
      rw [wipeE_length] at this
      exact this
    rw [wipeE_in hi hlt] at h; cases h
  · rw [wipeE_out hi] at h
    rw [← off i hi]
    exact fr.1 i p cc h
theorem lf_lcX (hi : LI F W wi τi) (hv : inV tg.nm vs = true) (hg : ∀ L o, LTg (F.wk L o) g tg) (ht : ∀ σ0 L o, LT (F.wk L o) (fun cls d _ H => W cls d σ0 H) (tt σ0) κ) (he : ∀ σ0 L o, LE (F.wk L o) (fun cls d _ H => W cls d σ0 H) (te σ0) τ) : LF F W (tLcX wi g tt te vs) (dLcX vs τi tg κ τ) := by
  have okS : ∀ (σ : L2.St) (L : Addr), F.H0 L = none → (∀ x ∈ F.kp, x.1 ≠ L) → ∀ (d : D) (x : V) (ρi ρj : Env) (zs accD : List D) (accV : List V) (Si Hi : Hp) (Nx : Hp → Prop), EO (F.wk L (.lst accV)) ρi σ Si Hi → RpL F.K Si accD accV → accD.length + zs.length ≤ MX → Rp F.K Si d x → lcStepX tg vs κ τ d ρi = .ok zs ρj →
      (∀ S' accV' H', EO (F.wk L (.lst accV')) ρj σ S' H' → Same Si S' → RpL F.K S' (accD ++ zs) accV' → Nx H') →
      g x (wipe σ vs) Hi fun σ2 H2 => wipe σ2 vs = wipe σ vs ∧ tt σ σ2 H2 fun b H3 => if b = true then te σ σ2 H3 fun y H4 => ∃ acc, H4 L = some (.lst acc) ∧ acc.length < sizeLine ∧ Nx (upd H4 L (.lst (acc ++ [y]))) else Nx H3 := by
    intro σ L h0 hn d x ρi ρj zs accD accV Si Hi Nx E ra hz rx e k
    unfold lcStepX at e
    by_cases hok : lcOk ρi vs = true
    · rw [if_pos hok] at e
      cases e1 : tgSet tg d (wipeE ρi vs) with
      | none => rw [e1] at e; cases e
      | some ρ1 =>
        rw [e1] at e
        obtain ⟨b, ρ2, e2, e⟩ := Res.bind_ok e
        have e2 := outE_ok e2
        refine hg _ _ _ ρ1 _ Si Hi d x (E.wipe hok) rx e1 _ fun σ2 E2 o2 => ⟨wipe_eq o2 (inV_mem hv), ?_⟩
        refine (ht _ _ _).ok E2 e2 fun b' S3 H3 E3 s3 rb => ?_
        subst rb
        have hl : σ2.length = σ.length := o2.1.trans (wipe_length σ vs)
        cases b with
        | false =>
          rw [if_neg Bool.false_ne_true] at e ⊢
          cases e
          exact k S3 accV H3 (E.back E3 s3 hl (fun i hi => off_out o2 (inV_mem hv) hi) hok) s3 (by rw [List.append_nil]; exact ra.mono s3)
        | true =>
          rw [if_pos rfl] at e ⊢
          obtain ⟨y, ρ3, e3, e⟩ := Res.bind_ok e
          have e3 := outE_ok e3
          cases e
          refine (he _ _ _).ok E3 e3 fun v S4 H4 E4 s4 rv => ?_
          have ra3 := ra.mono s3
          refine ⟨accV, E4.kept.1, size_lt (by rw [← ra.length]; exact Nat.le_of_succ_le hz), ?_⟩
          have E5 := E4.rekeep (o' := .lst (accV ++ [v])) h0 hn
          have E0 : EO (F.wk L (.lst (accV ++ [v]))) ρi σ Si (upd Hi L (.lst (accV ++ [v]))) := E.rekeep h0 hn
          exact k S4 _ _ (E0.back E5 (s3.trans s4) hl (fun i hi => off_out o2 (inV_mem hv) hi) hok) (s3.trans s4) (((ra.mono s3).mono s4).append (rp_one rv))
    · rw [if_neg hok] at e
      cases e
  have exS : ∀ (σ : L2.St) (L : Addr), F.H0 L = none → (∀ x ∈ F.kp, x.1 ≠ L) → ∀ (c : Str) (xx : D) (ρf : Env), ExcK F W σ c xx ρf → ∀ (d : D) (x : V) (ρi : Env) (accV : List V) (Si Hi : Hp) (Nx : Hp → Prop), EO (F.wk L (.lst accV)) ρi σ Si Hi → Rp F.K Si d x → lcStepX tg vs κ τ d ρi = .exc c xx ρf →
      g x (wipe σ vs) Hi fun σ2 H2 => wipe σ2 vs = wipe σ vs ∧ tt σ σ2 H2 fun b H3 => if b = true then te σ σ2 H3 fun y H4 => ∃ acc, H4 L = some (.lst acc) ∧ acc.length < sizeLine ∧ Nx (upd H4 L (.lst (acc ++ [y]))) else Nx H3 := by
    intro σ L h0 hn c xx ρf q d x ρi accV Si Hi Nx E rx e
    unfold lcStepX at e
    by_cases hok : lcOk ρi vs = true
    · rw [if_pos hok] at e
      cases e1 : tgSet tg d (wipeE ρi vs) with
      | none => rw [e1] at e; cases e
      | some ρ1 =>
        rw [e1] at e
        refine hg _ _ _ ρ1 _ Si Hi d x (E.wipe hok) rx e1 _ fun σ2 E2 o2 => ⟨wipe_eq o2 (inV_mem hv), ?_⟩
        have hl : σ2.length = σ.length := o2.1.trans (wipe_length σ vs)
        have off : ∀ i, i ∉ vs → σ2[i]? = σ[i]? := fun i hi => off_out o2 (inV_mem hv) hi
        rcases Res.bind_exc e with e2 | ⟨b, ρ2, e2, e⟩
        · obtain ⟨ρ2, e2', rfl⟩ := outE_exc e2
          exact (ht _ _ _).exc E2 e2' (excK_in h0 E hok hl off q)
        · have e2 := outE_ok e2
          refine (ht _ _ _).ok E2 e2 fun b' S3 H3 E3 s3 rb => ?_
          subst rb
          cases b with
          | false =>
            rw [if_neg Bool.false_ne_true] at e
            cases e
          | true =>
            rw [if_pos rfl] at e ⊢
            rcases Res.bind_exc e with e3 | ⟨y, ρ3, e3, e⟩
            · obtain ⟨ρ3, e3', rfl⟩ := outE_exc e3
              exact (he _ _ _).exc E3 e3' (excK_in h0 E hok hl off q)
            · cases e
    · rw [if_neg hok] at e
      cases e
  refine lf_wrap (fun ρ ρ' σ S H c E e Q q => ?_) (fun ρ ρ' σ S H c x E e Q q => ?_)
  · obtain ⟨ds, ρ1, e1, e⟩ := Res.bind_ok e
    by_cases hm : ds.length ≤ MX
    · rw [if_pos hm] at e
      obtain ⟨ys, e2, rfl⟩ : ∃ ys, genL (lcStepX tg vs κ τ) ds ρ1 = .ok ys ρ' ∧ c = .l ys := by
        cases r : genL (lcStepX tg vs κ τ) ds ρ1 with
        | ok ys ρ2 => rw [r] at e; cases e; exact ⟨ys, rfl, rfl⟩
        | exc => rw [r] at e; cases e
        | bad => rw [r] at e; cases e
      have hz : ys.length ≤ MX := Nat.le_trans (genL_len (fun _ _ _ _ => lcStepX_len) e2) hm
      show wi σ H _
      refine hi.ok E e1 fun J S1 H1 E1 s1 wk L hL => ?_
      have hS := E1.freshS hL
      have h0 := E1.fresh0 hL
      have hf := E1.free hL
      have Ek : EO (F.wk L (.lst [])) ρ1 σ S1 (upd H1 L (.lst [])) := (E1.temp hL).keep upd_same hS hf
      refine lc_gen (F := F) (accD := []) wk Ek .nil e2 (by simpa using hz) (okS σ L h0 hf.2) fun S2 aV H2 E2 s2 r2 => ?_
      rw [List.nil_append] at r2
      obtain ⟨k1, k2, k3⟩ := E2.kept
      exact q L S2 H2 E2.unkeep (s1.trans s2) ⟨aV, k1, r2⟩ k2 h0 ⟨k3, hf.2⟩
    · rw [if_neg hm] at e
      cases e
  · rcases Res.bind_exc e with e1 | ⟨ds, ρ1, e1, e⟩
    · exact hi.exc E e1 q
    · by_cases hm : ds.length ≤ MX
      · rw [if_pos hm] at e
        have e2 : genL (lcStepX tg vs κ τ) ds ρ1 = .exc c x ρ' := by
          cases r : genL (lcStepX tg vs κ τ) ds ρ1 with
          | ok ys ρ2 => rw [r] at e; cases e
          | exc => rw [r] at e; cases e; rfl
          | bad => rw [r] at e; cases e
        show wi σ H _
        refine hi.ok E e1 fun J S1 H1 E1 s1 wk L hL => ?_
        have hS := E1.freshS hL
        have h0 := E1.fresh0 hL
        have hf := E1.free hL
        have Ek : EO (F.wk L (.lst [])) ρ1 σ S1 (upd H1 L (.lst [])) := (E1.temp hL).keep upd_same hS hf
        exact lc_genE (F := F) (accD := []) wk Ek .nil e2 (by simpa using hm) (fun _ _ _ _ => lcStepX_len) (okS σ L h0 hf.2) (exS σ L h0 hf.2 c x ρ' q)
      · rw [if_neg hm] at e
        cases e
end
section
variable {X : Cx} {k j : Nat} {f : Addr} {ps : List Str} {sp : Sp} {x : Str} {p pos : Pos} {e : Expr} {es : List Expr} {t : TA} {W : WX}
theorem wCallF (O : OkF X.prog X.w X.K X.mg X.base j f ps sp) (hr : Room k X.A) (h : j ≤ k) (tk : TakesF X W) (hg : Gl X x) (hm : X.mg x = some (.ref f)) (ha : PA X (e :: es) t) (hdb : (x == ("__debug__" : Str)) = false := by decide)
    (he : starEach (e :: es) X.env = (false, eval e X.env) :: starEach es X.env := by rfl) (hpl : (backTo pos (starEach es X.env)).any (·.1) = false := by rfl) : PE X (.Call (.Name x p) (e :: es) [] pos) (tCallS sp (WE W) t) := by
  obtain ⟨fd, F, b⟩ := O.ex
  exact pe_callS (F.mono h) hr hg hm O.kp b (fun σ => passAtF tk σ) ha hdb he hpl
end
end Pd

/-! Pd18: simp lemmas for comprehensions that let exceptions out. -/
namespace Pd
open PySem L2
@[simp] theorem outE_ok' {α : Type} (vs : List Nat) (a : α) (ρ : Env) : outE vs (.ok a ρ) = .ok a ρ := nrfl rfl
@[simp] theorem outE_exc' {α : Type} (vs : List Nat) (c : Str) (x : D) (ρ : Env) : outE vs (.exc c x ρ : Res α) = .exc c x (wipeE ρ vs) := nrfl rfl
@[simp] theorem outE_bad' {α : Type} (vs : List Nat) : outE vs (.bad : Res α) = .bad := nrfl rfl
@[simp] theorem asL_ok (ys : List D) (ρ : Env) : asL (.ok ys ρ) = .ok (.l ys) ρ := nrfl rfl
@[simp] theorem asL_exc (c : Str) (x : D) (ρ : Env) : asL (.exc c x ρ) = .exc c x ρ := nrfl rfl
@[simp] theorem asL_bad : asL .bad = .bad := nrfl rfl
@[simp] theorem dLcX_s (vs : List Nat) (τi : Env → Res (List D)) (tg : Tgt) (κ : Env → Res Bool) (τ : DE) (ρ : Env) : dLcX vs τi tg κ τ ρ = (τi ρ).bind fun ds ρ1 => if ds.length ≤ MX then asL (genL (lcStepX tg vs κ τ) ds ρ1) else .bad := nrfl rfl
@[simp] theorem lcStepX_s (tg : Tgt) (vs : List Nat) (κ : Env → Res Bool) (τ : DE) (d : D) (ρ : Env) : lcStepX tg vs κ τ d ρ = if lcOk ρ vs = true then (match tgSet tg d (wipeE ρ vs) with | none => .bad | some ρ1 => (outE vs (κ ρ1)).bind fun b ρ2 => if b = true then (outE vs (τ ρ2)).bind fun y ρ3 => .ok [y] (backE ρ ρ3 vs) else .ok [] (backE ρ ρ2 vs)) else .bad := nrfl rfl
end Pd

namespace K44
open PySem PySem.Spec PyProof.Rows L2 Pd
def top (i : Nat) : Stmt := PySem.Challenge.pw_presswork_k44_separations.main.body.getD i (.Pass ⟨0, 0, 0, 0⟩)
def initOf (s : Stmt) : Stmt := match s with
  | .ClassDef _ _ _ b _ _ _ _ _ _ _ => b.getD 0 (.Pass ⟨0, 0, 0, 0⟩)
  | _ => .Pass ⟨0, 0, 0, 0⟩
def errs : List Str := ["InvalidLength", "InvalidItems", "InvalidRun", "InvalidColour", "TooMany"]
/-! ### the mirrors -/
def t_check_values : DS := (sIf (dOr (dTest (dOp fNe (oE (dOpN fLen (osCons (oVar 0) osNil))) (oVar 1))) (dTru (oE (dOpN (fun xs => match xs with | [x] => fAny x | _ => none) (osCons (oE (dFz (dLc [2] (iD (dVar 0)) (.n 2) dYes (dNotV (dChain fLe fLe (oE (dC (.int 0))) (oVar 2) (oE (dC (.int 255)))))))) osNil))))) (sRaise "InvalidColour" (dC (.str "values"))) sNext)
def m_check_values : List Pd.Arg → Out := fnRun 2 3 t_check_values
def t_separated : DS := (sSeq (sDrop (dCall m_check_values (osCons (oE (dVar 0)) (osCons (oE (dC (.int 3))) osNil))))
(sSeq (sIf (dNot (dTest (dChain fLe fLe (oE (dC (.int 0))) (oVar 1) (oE (dC (.int 100)))))) (sRaise "InvalidColour" (dC (.str "percent"))) sNext)
(sSeq (sAsg 2 (dFz (dLc [4] (iD (dVar 0)) (.n 4) dYes (dOp fSub (oE (dC (.int 255))) (oVar 4)))))
(sSeq (sAsg 3 (dOp fFdiv (oE (dOp fMul (oE (dOpN fMin (osCons (oVar 2) osNil))) (oVar 1))) (oE (dC (.int 100)))))
(sRet (dOpN (fun xs => match xs with | [x] => fTupleOf x | _ => none) (osCons (oE (dOp fAdd (oE (dFz (dLc [5] (iD (dVar 2)) (.n 5) dYes (dOp fSub (oVar 5) (oVar 3))))) (oE (dFz (dLst (asCons (dVar 3) asNil)))))) osNil)))))))
def m_separated : List Pd.Arg → Out := fnRun 2 6 t_separated
def t_shown : DS := (sSeq (sDrop (dCall m_check_values (osCons (oE (dVar 0)) (osCons (oE (dC (.int 4))) osNil))))
(sRet (dOpN (fun xs => match xs with | [x] => fTupleOf x | _ => none) (osCons (oE (dFz (dLc [1] (iD (dSl (oVar 0) pNone (pSome (dC (.int 3))))) (.n 1) dYes (dOp fSub (oE (dC (.int 255))) (oE (dOpN fMin (osCons (oE (dC (.int 255))) (osCons (oE (dOp fAdd (oVar 1) (oE (dOp fIx (oVar 0) (oE (dC (.int 3))))))) osNil)))))))) osNil))))
def m_shown : List Pd.Arg → Out := fnRun 1 2 t_shown
def t_total_ink : DS := (sSeq (sDrop (dCall m_check_values (osCons (oE (dVar 0)) (osCons (oE (dC (.int 4))) osNil))))
(sRet (dOpN (fun xs => match xs with | [x] => fSum x | _ => none) (osCons (oVar 0) osNil))))
def m_total_ink : List Pd.Arg → Out := fnRun 1 1 t_total_ink
def t_grey : DS := (sSeq (sDrop (dCall m_check_values (osCons (oE (dVar 0)) (osCons (oE (dC (.int 3))) osNil))))
(sRet (dOp fFdiv (oE (dOp fAdd (oE (dOp fAdd (oE (dOp fMul (oE (dC (.int 30))) (oE (dOp fIx (oVar 0) (oE (dC (.int 0))))))) (oE (dOp fMul (oE (dC (.int 59))) (oE (dOp fIx (oVar 0) (oE (dC (.int 1))))))))) (oE (dOp fMul (oE (dC (.int 11))) (oE (dOp fIx (oVar 0) (oE (dC (.int 2))))))))) (oE (dC (.int 100))))))
def m_grey : List Pd.Arg → Out := fnRun 1 1 t_grey
def t_gap : DS := (sSeq (sDrop (dCall m_check_values (osCons (oE (dVar 0)) (osCons (oE (dC (.int 3))) osNil))))
(sSeq (sDrop (dCall m_check_values (osCons (oE (dVar 1)) (osCons (oE (dC (.int 3))) osNil))))
(sRet (dOpN (fun xs => match xs with | [x] => fSum x | _ => none) (osCons (oE (dFz (dLc [2, 3] (iDs zipL (asCons (dVar 0) (asCons (dVar 1) asNil))) (.t [(.n 2), (.n 3)]) dYes (dOp fMul (oE (dOp fSub (oVar 2) (oVar 3))) (oE (dOp fSub (oVar 2) (oVar 3))))))) osNil)))))
def m_gap : List Pd.Arg → Out := fnRun 2 4 t_gap
def t_nearest : DS := (sSeq (sDrop (dCall m_check_values (osCons (oE (dVar 0)) (osCons (oE (dC (.int 3))) osNil))))
(sSeq (sIf (dNot (dTru (oVar 1))) (sRaise "InvalidColour" (dC (.str "palette"))) sNext)
(sSeq (sAsg 2 (dFz (dLcX [3] (iD (dVar 1)) (.n 3) dYes (dCall m_gap (osCons (oE (dVar 0)) (osCons (oE (dVar 3)) osNil))))))
(sRet (dIndex (oVar 2) (dOpN fMin (osCons (oVar 2) osNil)))))))
def m_nearest : List Pd.Arg → Out := fnRun 2 4 t_nearest
abbrev t__law_deck : DS := c_deck
abbrev m__law_deck : List Pd.Arg → Out := cm_deck
abbrev t__law_take : DS := c_take
abbrev m__law_take : List Pd.Arg → Out := cm_take
abbrev t__law_plain := c_plain
abbrev m__law_plain := cm_plain
def t__law_colour : DS := (sRet (dOpN (fun xs => match xs with | [x] => fTupleOf x | _ => none) (osCons (oE (dFz (dLc [1] (iDs rng1 (asCons (dC (.int 3)) asNil)) (.n 1) dYes (dOp fIx (oE (dFz (dLst (asCons (dCall cm_take (osCons (oVar 0) (osCons (oE (dC (.int 256))) osNil))) (asCons (dC (.int 0)) (asCons (dC (.int 255)) asNil)))))) (oE (dCall cm_take (osCons (oVar 0) (osCons (oE (dC (.int 3))) osNil)))))))) osNil)))
def m__law_colour : List Pd.Arg → Out := fnRun 1 2 t__law_colour
def t__law_why : DS := (sSeq (sTry 3 errs "PressError" (sIf (dTest (dOp fEq (oVar 0) (oE (dC (.int 0))))) (sDrop (dCall m_separated (osCons (oE (dVar 1)) (osCons (oE (dVar 2)) osNil)))) (sIf (dTest (dOp fEq (oVar 0) (oE (dC (.int 1))))) (sDrop (dCall m_shown (osCons (oE (dVar 1)) osNil))) (sIf (dTest (dOp fEq (oVar 0) (oE (dC (.int 2))))) (sDrop (dCall m_total_ink (osCons (oE (dVar 1)) osNil))) (sIf (dTest (dOp fEq (oVar 0) (oE (dC (.int 3))))) (sDrop (dCall m_grey (osCons (oE (dVar 1)) osNil))) (sIf (dTest (dOp fEq (oVar 0) (oE (dC (.int 4))))) (sDrop (dCall m_gap (osCons (oE (dVar 1)) (osCons (oE (dVar 2)) osNil)))) (sDrop (dCall m_nearest (osCons (oE (dVar 1)) (osCons (oE (dVar 2)) osNil))))))))) (fun ec ex => (sSeq (sIf (dAnd (dTru (oE (dIsE ec ["InvalidColour"]))) (dNot (dTru (oE (dIsE ec ["InvalidItems"]))))) (sRet (dXf ec ex "what")) sNext)
sBad)))
(sRet (dC .non)))
def m__law_why : List Pd.Arg → Out := fnRun 3 4 t__law_why
def t__law_parted : DS := (sSeq (sAsg 2 (dFz (dLc [4] (iD (dVar 0)) (.n 4) dYes (dOp fSub (oE (dC (.int 255))) (oVar 4)))))
(sSeq (sAsg 3 (dOp fFdiv (oE (dOp fMul (oE (dOpN fMin (osCons (oVar 2) osNil))) (oVar 1))) (oE (dC (.int 100)))))
(sRet (dTup (asCons (dOp fSub (oE (dOp fIx (oVar 2) (oE (dC (.int 0))))) (oVar 3)) (asCons (dOp fSub (oE (dOp fIx (oVar 2) (oE (dC (.int 1))))) (oVar 3)) (asCons (dOp fSub (oE (dOp fIx (oVar 2) (oE (dC (.int 2))))) (oVar 3)) (asCons (dVar 3) asNil))))))))
def m__law_parted : List Pd.Arg → Out := fnRun 2 5 t__law_parted
def t_law : DS := (sSeq (sAsgO 1 (dCallF cm_deck (osCons (oE (dVar 0)) (osCons (oE (dC (.int 30))) (osCons (oE (dC (.int 14))) osNil)))))
(sSeq (sAsg 2 (dCall m__law_colour (osCons (oVar 1) osNil)))
(sSeq (sAsg 3 (dOp fIx (oE (dFz (dLst (asCons (dC (.int 0)) (asCons (dC (.int 100)) (asCons (dCall cm_take (osCons (oVar 1) (osCons (oE (dC (.int 101))) osNil))) asNil)))))) (oE (dCall cm_take (osCons (oVar 1) (osCons (oE (dC (.int 3))) osNil))))))
(sSeq (sAsg 4 (dCall m__law_parted (osCons (oE (dVar 2)) (osCons (oE (dVar 3)) osNil))))
(sSeq (sAsg 5 (dFz (dOpNF fListL (osCons (oVar 2) osNil))))
(sSeq (sIf (dOr (dTest (dOp fNe (oE (dCall (cm_plain 40) (osCons (oE (dCall m_separated (osCons (oE (dVar 5)) (osCons (oE (dVar 3)) osNil)))) osNil))) (oE (dCall (cm_plain 40) (osCons (oE (dVar 4)) osNil))))) (dTest (dOp fNe (oVar 5) (oE (dFz (dOpNF fListL (osCons (oVar 2) osNil))))))) (sRet (dC (.bl false))) sNext)
(sSeq (sIf (dTest (dOp fNe (oE (dCall (cm_plain 40) (osCons (oE (dFz (dLst (asCons (dCall m_shown (osCons (oE (dVar 4)) osNil)) (asCons (dCall m_total_ink (osCons (oE (dVar 4)) osNil)) asNil))))) osNil))) (oE (dCall (cm_plain 40) (osCons (oE (dFz (dLst (asCons (dVar 2) (asCons (dOpN (fun xs => match xs with | [x] => fSum x | _ => none) (osCons (oVar 4) osNil)) asNil))))) osNil))))) (sRet (dC (.bl false))) sNext)
(sSeq (sAsg 6 (dCall cm_take (osCons (oVar 1) (osCons (oE (dOp fSub (oE (dC (.int 101))) (oVar 3))) osNil))))
(sSeq (sIf (dTest (dOp fGt (oE (dCall m_total_ink (osCons (oE (dCall m_separated (osCons (oE (dVar 2)) (osCons (oE (dOp fAdd (oVar 3) (oVar 6))) osNil)))) osNil))) (oE (dOpN (fun xs => match xs with | [x] => fSum x | _ => none) (osCons (oVar 4) osNil))))) (sRet (dC (.bl false))) sNext)
(sSeq (sAsg 7 (dOp fAdd (oE (dCall m__law_colour (osCons (oVar 1) osNil))) (oE (dTup (asCons (dCall cm_take (osCons (oVar 1) (osCons (oE (dC (.int 256))) osNil))) asNil)))))
(sSeq (sAsg 8 (dOpN (fun xs => match xs with | [x] => fTupleOf x | _ => none) (osCons (oE (dFz (dLc [19] (iD (dSl (oVar 7) pNone (pSome (dC (.int 3))))) (.n 19) dYes (dOpN fMax (osCons (oE (dC (.int 0))) (osCons (oE (dOp fSub (oE (dOp fSub (oE (dC (.int 255))) (oVar 19))) (oE (dOp fIx (oVar 7) (oE (dC (.int 3))))))) osNil)))))) osNil)))
(sSeq (sIf (dOr (dTest (dOp fNe (oE (dCall (cm_plain 40) (osCons (oE (dCall m_shown (osCons (oE (dFz (dOpNF fListL (osCons (oVar 7) osNil)))) osNil))) osNil))) (oE (dCall (cm_plain 40) (osCons (oE (dVar 8)) osNil))))) (dTest (dOp fNe (oE (dCall m_shown (osCons (oE (dCall m_separated (osCons (oE (dVar 8)) (osCons (oE (dC (.int 100))) osNil)))) osNil))) (oVar 8)))) (sRet (dC (.bl false))) sNext)
(sSeq (sAsg 9 (dCall cm_take (osCons (oVar 1) (osCons (oE (dC (.int 256))) osNil))))
(sSeq (sAsg 10 (dOp fFdiv (oE (dOp fAdd (oE (dOp fAdd (oE (dOp fMul (oE (dC (.int 30))) (oE (dOp fIx (oVar 2) (oE (dC (.int 0))))))) (oE (dOp fMul (oE (dC (.int 59))) (oE (dOp fIx (oVar 2) (oE (dC (.int 1))))))))) (oE (dOp fMul (oE (dC (.int 11))) (oE (dOp fIx (oVar 2) (oE (dC (.int 2))))))))) (oE (dC (.int 100)))))
(sSeq (sIf (dTest (dOp fNe (oE (dCall (cm_plain 40) (osCons (oE (dFz (dLst (asCons (dCall m_grey (osCons (oE (dVar 2)) osNil)) (asCons (dCall m_grey (osCons (oE (dTup (asCons (dVar 9) (asCons (dVar 9) (asCons (dVar 9) asNil))))) osNil)) asNil))))) osNil))) (oE (dCall (cm_plain 40) (osCons (oE (dFz (dLst (asCons (dVar 10) (asCons (dVar 9) asNil))))) osNil))))) (sRet (dC (.bl false))) sNext)
(sSeq (sAsg 11 (dFz (dLc [17] (iDs rng1 (asCons (dOp fAdd (oE (dC (.int 1))) (oE (dCall cm_take (osCons (oVar 1) (osCons (oE (dC (.int 6))) osNil))))) asNil)) (.n 17) dYes (dCall m__law_colour (osCons (oVar 1) osNil)))))
(sSeq (sAsg 12 (dFz (dLc [18] (iD (dVar 11)) (.n 18) dYes (dOpN (fun xs => match xs with | [x] => fSum x | _ => none) (osCons (oE (dFz (dLc [20] (iDs rng1 (asCons (dC (.int 3)) asNil)) (.n 20) dYes (dOp fMul (oE (dOp fSub (oE (dOp fIx (oVar 2) (oVar 20))) (oE (dOp fIx (oVar 18) (oVar 20))))) (oE (dOp fSub (oE (dOp fIx (oVar 2) (oVar 20))) (oE (dOp fIx (oVar 18) (oVar 20))))))))) osNil)))))
(sSeq (sAsg 13 (dFz (dLst (asCons (dFz (dLcX [18] (iD (dVar 11)) (.n 18) dYes (dCall m_gap (osCons (oE (dVar 2)) (osCons (oE (dVar 18)) osNil))))) (asCons (dFz (dLcX [18] (iD (dVar 11)) (.n 18) dYes (dCall m_gap (osCons (oE (dVar 18)) (osCons (oE (dVar 2)) osNil))))) (asCons (dCall m_nearest (osCons (oE (dVar 2)) (osCons (oE (dVar 11)) osNil))) asNil))))))
(sSeq (sIf (dTest (dOp fNe (oE (dCall (cm_plain 40) (osCons (oE (dVar 13)) osNil))) (oE (dCall (cm_plain 40) (osCons (oE (dFz (dLst (asCons (dVar 12) (asCons (dVar 12) (asCons (dIndex (oVar 12) (dOpN fMin (osCons (oVar 12) osNil))) asNil)))))) osNil))))) (sRet (dC (.bl false))) sNext)
(sSeq (sAsg 14 (dOp fIx (oE (dFz (dLst (asCons (dTup (asCons (dC (.int 1)) (asCons (dC (.int 2)) asNil))) (asCons (dTup (asCons (dC (.int 1)) (asCons (dC (.int 2)) (asCons (dC (.int 3)) (asCons (dC (.int 4)) asNil))))) (asCons (dTup (asCons (dC (.int 1)) (asCons (dC (.int 2)) (asCons (dC (.int 256)) asNil)))) (asCons (dTup (asCons (dOp1 fNeg (oE (dC (.int 1)))) (asCons (dC (.int 2)) (asCons (dC (.int 3)) asNil)))) (asCons (dTup asNil) asNil)))))))) (oE (dCall cm_take (osCons (oVar 1) (osCons (oE (dC (.int 5))) osNil))))))
(sSeq (sAsg 15 (dOp fIx (oE (dFz (dLst (asCons (dTup (asCons (dC (.int 1)) (asCons (dC (.int 2)) (asCons (dC (.int 3)) asNil)))) (asCons (dTup (asCons (dC (.int 1)) (asCons (dC (.int 2)) (asCons (dC (.int 3)) (asCons (dC (.int 4)) (asCons (dC (.int 5)) asNil)))))) (asCons (dTup (asCons (dC (.int 0)) (asCons (dC (.int 0)) (asCons (dC (.int 0)) (asCons (dC (.int 256)) asNil))))) (asCons (dTup (asCons (dC (.int 0)) (asCons (dOp1 fNeg (oE (dC (.int 1)))) (asCons (dC (.int 0)) (asCons (dC (.int 0)) asNil))))) asNil))))))) (oE (dCall cm_take (osCons (oVar 1) (osCons (oE (dC (.int 4))) osNil))))))
(sSeq (sAsg 16 (dFz (dLst (asCons (dCall m__law_why (osCons (oE (dC (.int 0))) (osCons (oE (dVar 14)) (osCons (oE (dOp1 fNeg (oE (dC (.int 1))))) osNil)))) (asCons (dCall m__law_why (osCons (oE (dC (.int 0))) (osCons (oE (dVar 2)) (osCons (oE (dOp fIx (oE (dFz (dLst (asCons (dOp1 fNeg (oE (dC (.int 1)))) (asCons (dC (.int 101)) asNil))))) (oE (dCall cm_take (osCons (oVar 1) (osCons (oE (dC (.int 2))) osNil)))))) osNil)))) (asCons (dCall m__law_why (osCons (oE (dC (.int 1))) (osCons (oE (dVar 15)) (osCons (oE (dC .non)) osNil)))) (asCons (dCall m__law_why (osCons (oE (dC (.int 2))) (osCons (oE (dVar 15)) (osCons (oE (dC .non)) osNil)))) asNil)))))))
(sSeq (sAsg 16 (dOp fAdd (oVar 16) (oE (dFz (dLst (asCons (dCall m__law_why (osCons (oE (dC (.int 3))) (osCons (oE (dVar 14)) (osCons (oE (dC .non)) osNil)))) (asCons (dCall m__law_why (osCons (oE (dC (.int 4))) (osCons (oE (dVar 2)) (osCons (oE (dVar 14)) osNil)))) (asCons (dCall m__law_why (osCons (oE (dC (.int 4))) (osCons (oE (dVar 14)) (osCons (oE (dVar 2)) osNil)))) (asCons (dCall m__law_why (osCons (oE (dC (.int 5))) (osCons (oE (dVar 14)) (osCons (oE (dFz (dLst asNil))) osNil)))) (asCons (dCall m__law_why (osCons (oE (dC (.int 5))) (osCons (oE (dVar 2)) (osCons (oE (dFz (dLst asNil))) osNil)))) asNil))))))))))
(sRet (dAndV (dOp fEq (oVar 16) (oE (dOp fAdd (oE (dOp fAdd (oE (dFz (dLst (asCons (dC (.str "values")) (asCons (dC (.str "percent")) asNil))))) (oE (dOp fMul (oE (dFz (dLst (asCons (dC (.str "values")) asNil)))) (oE (dC (.int 6))))))) (oE (dFz (dLst (asCons (dC (.str "palette")) asNil))))))) (dOp fEq (oE (dCall m__law_why (osCons (oE (dC (.int 5))) (osCons (oE (dVar 2)) (osCons (oE (dFz (dLst (asCons (dVar 2) (asCons (dVar 14) asNil))))) osNil))))) (oE (dC (.str "values")))))))))))))))))))))))))))))
def m_law : List Pd.Arg → Out := fnRun 1 21 t_law
/-! ### facts -/
structure TX (K : PySem.W.Frag) (mg : Str → Option Value) : Prop where
  g_PressError : mg "PressError" = some (.ref (He.ga K "PressError"))
  g_InvalidLength : mg "InvalidLength" = some (.ref (He.ga K "InvalidLength"))
  g_InvalidItems : mg "InvalidItems" = some (.ref (He.ga K "InvalidItems"))
  g_InvalidRun : mg "InvalidRun" = some (.ref (He.ga K "InvalidRun"))
  g_InvalidColour : mg "InvalidColour" = some (.ref (He.ga K "InvalidColour"))
  g_TooMany : mg "TooMany" = some (.ref (He.ga K "TooMany"))
  d_InvalidLength : FnP K "__init__" "InvalidLength.__init__" (initOf (top 2)) (He.ma K (He.ga K "InvalidLength") "__init__")
  d_InvalidItems : FnP K "__init__" "InvalidItems.__init__" (initOf (top 3)) (He.ma K (He.ga K "InvalidItems") "__init__")
  d_InvalidRun : FnP K "__init__" "InvalidRun.__init__" (initOf (top 4)) (He.ma K (He.ga K "InvalidRun") "__init__")
  d_InvalidColour : FnP K "__init__" "InvalidColour.__init__" (initOf (top 5)) (He.ma K (He.ga K "InvalidColour") "__init__")
  d_TooMany : FnP K "__init__" "TooMany.__init__" (initOf (top 6)) (He.ma K (He.ga K "TooMany") "__init__")
  g_check_values : mg "check_values" = some (.ref (He.ga K "check_values"))
  d_check_values : FnP K "check_values" "check_values" (top 9) (He.ga K "check_values")
  g_separated : mg "separated" = some (.ref (He.ga K "separated"))
  d_separated : FnP K "separated" "separated" (top 10) (He.ga K "separated")
  g_shown : mg "shown" = some (.ref (He.ga K "shown"))
  d_shown : FnP K "shown" "shown" (top 11) (He.ga K "shown")
  g_total_ink : mg "total_ink" = some (.ref (He.ga K "total_ink"))
  d_total_ink : FnP K "total_ink" "total_ink" (top 12) (He.ga K "total_ink")
  g_grey : mg "grey" = some (.ref (He.ga K "grey"))
  d_grey : FnP K "grey" "grey" (top 13) (He.ga K "grey")
  g_gap : mg "gap" = some (.ref (He.ga K "gap"))
  d_gap : FnP K "gap" "gap" (top 14) (He.ga K "gap")
  g_nearest : mg "nearest" = some (.ref (He.ga K "nearest"))
  d_nearest : FnP K "nearest" "nearest" (top 15) (He.ga K "nearest")
  g__law_deck : mg "_law_deck" = some (.ref (He.ga K "_law_deck"))
  d__law_deck : FnP K "_law_deck" "_law_deck" (top 17) (He.ga K "_law_deck")
  g__law_take : mg "_law_take" = some (.ref (He.ga K "_law_take"))
  d__law_take : FnP K "_law_take" "_law_take" (top 18) (He.ga K "_law_take")
  g__law_plain : mg "_law_plain" = some (.ref (He.ga K "_law_plain"))
  d__law_plain : FnP K "_law_plain" "_law_plain" (top 19) (He.ga K "_law_plain")
  g__law_colour : mg "_law_colour" = some (.ref (He.ga K "_law_colour"))
  d__law_colour : FnP K "_law_colour" "_law_colour" (top 21) (He.ga K "_law_colour")
  g__law_why : mg "_law_why" = some (.ref (He.ga K "_law_why"))
  d__law_why : FnP K "_law_why" "_law_why" (top 22) (He.ga K "_law_why")
  g__law_parted : mg "_law_parted" = some (.ref (He.ga K "_law_parted"))
  d__law_parted : FnP K "_law_parted" "_law_parted" (top 23) (He.ga K "_law_parted")
  g_law : mg "law" = some (.ref (He.ga K "law"))
  d_law : FnP K "law" "law" (top 24) (He.ga K "law")
  n_abs : mg "abs" = none
  n_any : mg "any" = none
  n_bool : mg "bool" = none
  n_int : mg "int" = none
  n_isinstance : mg "isinstance" = none
  n_len : mg "len" = none
  n_list : mg "list" = none
  n_max : mg "max" = none
  n_min : mg "min" = none
  n_range : mg "range" = none
  n_str : mg "str" = none
  n_sum : mg "sum" = none
  n_tuple : mg "tuple" = none
  n_zip : mg "zip" = none
  i_FULL : ∃ t, mg "FULL" = some (.int 255 t)
  errs : ErrTab K (He.ga K) errs
  pin : PInit K (He.ga K "PressError")
section
variable {P : Program} {w : World} {K : PySem.W.Frag} {mg : Str → Option Value} {base : Heap}
theorem sci_InvalidLength : FnScope ["self", "what"] ["self", "what"] (defScope (initOf (top 2))) := ⟨rfl, rfl, rfl, by decide +kernel, rfl, by decide +kernel, by decide +kernel⟩
theorem oki_InvalidLength (T : TX K mg) : OkI P w K mg base "InvalidLength" (He.ga K "InvalidLength") := mkI T.d_InvalidLength (T.errs.err _ (by decide)) sci_InvalidLength (fun _ _ _ _ _ _ us hl => match us, hl with | [_, _], _ => rfl) (m := "invalid length: ") (by decide) (by decide) fun cdv A outer s H E =>
  pss_cons (ps_expr (wPinit (K := K) rfl rfl T.g_PressError T.pin (pa_cons (pv 0) (pa_cons (pe_op (wAdd (K := K) rfl) pe_str (pv 1)) pa_nil)))) (pss_one (wOst (K := K) rfl (pv 0) (pv 1)))
theorem sci_InvalidItems : FnScope ["self", "what"] ["self", "what"] (defScope (initOf (top 3))) := ⟨rfl, rfl, rfl, by decide +kernel, rfl, by decide +kernel, by decide +kernel⟩
theorem oki_InvalidItems (T : TX K mg) : OkI P w K mg base "InvalidItems" (He.ga K "InvalidItems") := mkI T.d_InvalidItems (T.errs.err _ (by decide)) sci_InvalidItems (fun _ _ _ _ _ _ us hl => match us, hl with | [_, _], _ => rfl) (m := "invalid items: ") (by decide) (by decide) fun cdv A outer s H E =>
  pss_cons (ps_expr (wPinit (K := K) rfl rfl T.g_PressError T.pin (pa_cons (pv 0) (pa_cons (pe_op (wAdd (K := K) rfl) pe_str (pv 1)) pa_nil)))) (pss_one (wOst (K := K) rfl (pv 0) (pv 1)))
theorem sci_InvalidRun : FnScope ["self", "what"] ["self", "what"] (defScope (initOf (top 4))) := ⟨rfl, rfl, rfl, by decide +kernel, rfl, by decide +kernel, by decide +kernel⟩
theorem oki_InvalidRun (T : TX K mg) : OkI P w K mg base "InvalidRun" (He.ga K "InvalidRun") := mkI T.d_InvalidRun (T.errs.err _ (by decide)) sci_InvalidRun (fun _ _ _ _ _ _ us hl => match us, hl with | [_, _], _ => rfl) (m := "invalid run: ") (by decide) (by decide) fun cdv A outer s H E =>
  pss_cons (ps_expr (wPinit (K := K) rfl rfl T.g_PressError T.pin (pa_cons (pv 0) (pa_cons (pe_op (wAdd (K := K) rfl) pe_str (pv 1)) pa_nil)))) (pss_one (wOst (K := K) rfl (pv 0) (pv 1)))
theorem sci_InvalidColour : FnScope ["self", "what"] ["self", "what"] (defScope (initOf (top 5))) := ⟨rfl, rfl, rfl, by decide +kernel, rfl, by decide +kernel, by decide +kernel⟩
theorem oki_InvalidColour (T : TX K mg) : OkI P w K mg base "InvalidColour" (He.ga K "InvalidColour") := mkI T.d_InvalidColour (T.errs.err _ (by decide)) sci_InvalidColour (fun _ _ _ _ _ _ us hl => match us, hl with | [_, _], _ => rfl) (m := "invalid colour: ") (by decide) (by decide) fun cdv A outer s H E =>
  pss_cons (ps_expr (wPinit (K := K) rfl rfl T.g_PressError T.pin (pa_cons (pv 0) (pa_cons (pe_op (wAdd (K := K) rfl) pe_str (pv 1)) pa_nil)))) (pss_one (wOst (K := K) rfl (pv 0) (pv 1)))
theorem sci_TooMany : FnScope ["self", "what"] ["self", "what"] (defScope (initOf (top 6))) := ⟨rfl, rfl, rfl, by decide +kernel, rfl, by decide +kernel, by decide +kernel⟩
theorem oki_TooMany (T : TX K mg) : OkI P w K mg base "TooMany" (He.ga K "TooMany") := mkI T.d_TooMany (T.errs.err _ (by decide)) sci_TooMany (fun _ _ _ _ _ _ us hl => match us, hl with | [_, _], _ => rfl) (m := "too many ") (by decide) (by decide) fun cdv A outer s H E =>
  pss_cons (ps_expr (wPinit (K := K) rfl rfl T.g_PressError T.pin (pa_cons (pv 0) (pa_cons (pe_op (wAdd (K := K) rfl) pe_str (pv 1)) pa_nil)))) (pss_one (wOst (K := K) rfl (pv 0) (pv 1)))
theorem sc_check_values : FnScope ["values", "many", "value"] ["values", "many"] (defScope (top 9)) := ⟨rfl, rfl, rfl, by decide +kernel, rfl, by decide +kernel, by decide +kernel⟩
theorem ok_check_values (T : TX K mg) : OkF P w K mg base 3 (He.ga K "check_values") ["values", "many"] (spOf K (He.ga K) m_check_values) := okF (P := P) (w := w) (K := K) (mg := mg) (base := base) (k := 2) (τ := t_check_values) T.d_check_values sc_check_values rfl rfl (fun _ _ _ _ _ _ us hl => match us, hl with | [_, _], _ => rfl) fun cdv A outer s H E hr => ⟨_, (pss_one (ps_if (PW.pt (pw_or (pt_cmpR (wNe (K := K) rfl hr) (pe_callB (cLen (K := K) rfl) rfl T.n_len boot_len (pa_cons (pv 0) pa_nil)) (pv 1) (nomark _)) (pw_or1 (wTru (K := K) rfl (pe_callB (cAny (K := K) rfl rfl) rfl T.n_any boot_any (pa_cons (pe_lc rfl sc_check_values.nd (wiSeq (K := K) rfl (pv 0)) (blkOk_by (own := [("value", 2)]) (by kernel_rfl)) (fun s H C cl fp => (pg_name (i := 2) sc_check_values.nd rfl (by first | exact Or.inl rfl | exact Or.inr rfl))) (fun s H C cl fp => pts_nil) (fun s H C cl fp => (pe_not (pe_chain op_leG op_leG pe_int (pv 2) (pe_glob (v := .int 255) rfl (T.i_FULL).choose_spec ⟨_, rfl⟩))))) pa_nil)))))) (pss_one (wRaise (K := K) (c := "InvalidColour") rfl (T.errs.err _ (by decide)) (oki_InvalidColour T) hr (by decide) rfl (takes_of rfl rfl rfl rfl) rfl T.g_InvalidColour pe_str)) pss_nil)),
  fun po S0 H0 kp hd => (ls_if (lt_or (lt_test (le_op o2_ne (lo_e (le_opN on_len (los_cons lo_var los_nil))) lo_var)) (lt_tru (lo_e (le_opN on_any (los_cons (lo_e (le_fz (lf_lc (W' := W0) (li_seq le_var) rfl (fun L o => tg_name) (fun L o => lt_yes) (fun L o => (le_notV (le_chain o2_le o2_le (lo_e le_int) lo_var (lo_e le_int))))))) los_nil))))) (ls_raise le_str) ls_next)⟩
theorem sc_separated : FnScope ["colour", "percent", "inks", "black", "value", "ink"] ["colour", "percent"] (defScope (top 10)) := ⟨rfl, rfl, rfl, by decide +kernel, rfl, by decide +kernel, by decide +kernel⟩
theorem ok_separated (T : TX K mg) : OkF P w K mg base 4 (He.ga K "separated") ["colour", "percent"] (spOf K (He.ga K) m_separated) := okF (P := P) (w := w) (K := K) (mg := mg) (base := base) (k := 3) (τ := t_separated) T.d_separated sc_separated rfl rfl (fun _ _ _ _ _ _ us hl => match us, hl with | [_, _], _ => rfl) fun cdv A outer s H E hr => ⟨_, (pss_cons (ps_expr (wCall (ok_check_values T) hr (by omega) (takes_of rfl rfl rfl rfl) rfl T.g_check_values (pa_cons (pv 0) (pa_cons pe_int pa_nil))))
(pss_cons (ps_if (pt_not (pt_chain op_leG op_leG pe_int (pv 1) pe_int)) (pss_one (wRaise (K := K) (c := "InvalidColour") rfl (T.errs.err _ (by decide)) (oki_InvalidColour T) hr (by decide) rfl (takes_of rfl rfl rfl rfl) rfl T.g_InvalidColour pe_str)) pss_nil)
(pss_cons (ps_setLc (i := 2) rfl sc_separated.nd rfl rfl (sw_true rfl rfl rfl rfl) (wiSeq (K := K) rfl (pv 0)) (blkOk_by (own := [("value", 4)]) (by kernel_rfl)) (fun s H C cl fp => (pg_name (i := 4) sc_separated.nd rfl (by first | exact Or.inl rfl | exact Or.inr rfl))) (fun s H C cl fp => pts_nil) (fun s H C cl fp => (pe_op op_sub (pe_glob (v := .int 255) rfl (T.i_FULL).choose_spec ⟨_, rfl⟩) (pv 4))))
(pss_cons (ps_set (i := 3) sc_separated.nd rfl (by first | exact Or.inl rfl | exact Or.inr rfl) (pe_op op_fdivG (pe_op op_mulG (pe_callB (cMin (K := K) rfl rfl) rfl T.n_min boot_min (pa_cons (pv 2) pa_nil)) (pv 1)) pe_int))
(pss_one (ps_ret (pe_callTy (cTuple (K := K) rfl) rfl T.n_tuple boot_tuple (pa_cons (pe_op (wAdd (K := K) rfl) (pe_lc rfl sc_separated.nd (wiSeq (K := K) rfl (pv 2)) (blkOk_by (own := [("ink", 5)]) (by kernel_rfl)) (fun s H C cl fp => (pg_name (i := 5) sc_separated.nd rfl (by first | exact Or.inl rfl | exact Or.inr rfl))) (fun s H C cl fp => pts_nil) (fun s H C cl fp => (pe_op op_sub (pv 5) (pv 3)))) (pe_lst (pa_cons (pv 3) pa_nil))) pa_nil)))))))),
  fun po S0 H0 kp hd => (ls_seq (ls_drop (le_call (los_cons (lo_e le_var) (los_cons (lo_e le_int) los_nil))))
(ls_seq (ls_if (lt_not (lt_test (le_chain o2_le o2_le (lo_e le_int) lo_var (lo_e le_int)))) (ls_raise le_str) ls_next)
(ls_seq (ls_asg (le_fz (lf_lc (W' := W0) (li_seq le_var) rfl (fun L o => tg_name) (fun L o => lt_yes) (fun L o => (le_op o2_sub (lo_e le_int) lo_var)))))
(ls_seq (ls_asg (le_op o2_fdiv (lo_e (le_op o2_mul (lo_e (le_opN on_min (los_cons lo_var los_nil))) lo_var)) (lo_e le_int)))
(ls_ret (le_opN on_tuple (los_cons (lo_e (le_op o2_add (lo_e (le_fz (lf_lc (W' := W0) (li_seq le_var) rfl (fun L o => tg_name) (fun L o => lt_yes) (fun L o => (le_op o2_sub lo_var lo_var))))) (lo_e (le_fz (lf_lst (la_cons le_var la_nil)))))) los_nil)))))))⟩
theorem sc_shown : FnScope ["inks", "ink"] ["inks"] (defScope (top 11)) := ⟨rfl, rfl, rfl, by decide +kernel, rfl, by decide +kernel, by decide +kernel⟩
theorem ok_shown (T : TX K mg) : OkF P w K mg base 4 (He.ga K "shown") ["inks"] (spOf K (He.ga K) m_shown) := okF (P := P) (w := w) (K := K) (mg := mg) (base := base) (k := 3) (τ := t_shown) T.d_shown sc_shown rfl rfl (fun _ _ _ _ _ _ us hl => match us, hl with | [_], _ => rfl) fun cdv A outer s H E hr => ⟨_, (pss_cons (ps_expr (wCall (ok_check_values T) hr (by omega) (takes_of rfl rfl rfl rfl) rfl T.g_check_values (pa_cons (pv 0) (pa_cons pe_int pa_nil))))
(pss_one (ps_ret (pe_callTy (cTuple (K := K) rfl) rfl T.n_tuple boot_tuple (pa_cons (pe_lc rfl sc_shown.nd (wiSeq (K := K) rfl (pe_slice (wSl (K := K) rfl) (pv 0) po_none (po_some pe_int))) (blkOk_by (own := [("ink", 1)]) (by kernel_rfl)) (fun s H C cl fp => (pg_name (i := 1) sc_shown.nd rfl (by first | exact Or.inl rfl | exact Or.inr rfl))) (fun s H C cl fp => pts_nil) (fun s H C cl fp => (pe_op op_sub (pe_glob (v := .int 255) rfl (T.i_FULL).choose_spec ⟨_, rfl⟩) (pe_callB (cMin (K := K) rfl rfl) rfl T.n_min boot_min (pa_cons (pe_glob (v := .int 255) rfl (T.i_FULL).choose_spec ⟨_, rfl⟩) (pa_cons (pe_op (wAdd (K := K) rfl) (pv 1) (pe_ix (wIx (K := K) rfl) (pv 0) pe_int (fun _ _ => rfl))) pa_nil)))))) pa_nil))))),
  fun po S0 H0 kp hd => (ls_seq (ls_drop (le_call (los_cons (lo_e le_var) (los_cons (lo_e le_int) los_nil))))
(ls_ret (le_opN on_tuple (los_cons (lo_e (le_fz (lf_lc (W' := W0) (li_seq (le_sl lo_var lp_none (lp_some le_int))) rfl (fun L o => tg_name) (fun L o => lt_yes) (fun L o => (le_op o2_sub (lo_e le_int) (lo_e (le_opN on_min (los_cons (lo_e le_int) (los_cons (lo_e (le_op o2_add lo_var (lo_e (le_op o2_ix lo_var (lo_e le_int))))) los_nil))))))))) los_nil))))⟩
theorem sc_total_ink : FnScope ["inks"] ["inks"] (defScope (top 12)) := ⟨rfl, rfl, rfl, by decide +kernel, rfl, by decide +kernel, by decide +kernel⟩
theorem ok_total_ink (T : TX K mg) : OkF P w K mg base 4 (He.ga K "total_ink") ["inks"] (spOf K (He.ga K) m_total_ink) := okF (P := P) (w := w) (K := K) (mg := mg) (base := base) (k := 3) (τ := t_total_ink) T.d_total_ink sc_total_ink rfl rfl (fun _ _ _ _ _ _ us hl => match us, hl with | [_], _ => rfl) fun cdv A outer s H E hr => ⟨_, (pss_cons (ps_expr (wCall (ok_check_values T) hr (by omega) (takes_of rfl rfl rfl rfl) rfl T.g_check_values (pa_cons (pv 0) (pa_cons pe_int pa_nil))))
(pss_one (ps_ret (pe_callB (cSum (K := K) rfl rfl) rfl T.n_sum boot_sum (pa_cons (pv 0) pa_nil))))),
  fun po S0 H0 kp hd => (ls_seq (ls_drop (le_call (los_cons (lo_e le_var) (los_cons (lo_e le_int) los_nil))))
(ls_ret (le_opN on_sum (los_cons lo_var los_nil))))⟩
theorem sc_grey : FnScope ["colour"] ["colour"] (defScope (top 13)) := ⟨rfl, rfl, rfl, by decide +kernel, rfl, by decide +kernel, by decide +kernel⟩
theorem ok_grey (T : TX K mg) : OkF P w K mg base 4 (He.ga K "grey") ["colour"] (spOf K (He.ga K) m_grey) := okF (P := P) (w := w) (K := K) (mg := mg) (base := base) (k := 3) (τ := t_grey) T.d_grey sc_grey rfl rfl (fun _ _ _ _ _ _ us hl => match us, hl with | [_], _ => rfl) fun cdv A outer s H E hr => ⟨_, (pss_cons (ps_expr (wCall (ok_check_values T) hr (by omega) (takes_of rfl rfl rfl rfl) rfl T.g_check_values (pa_cons (pv 0) (pa_cons pe_int pa_nil))))
(pss_one (ps_ret (pe_op op_fdivG (pe_op (wAdd (K := K) rfl) (pe_op (wAdd (K := K) rfl) (pe_op op_mulG pe_int (pe_ix (wIx (K := K) rfl) (pv 0) pe_int (fun _ _ => rfl))) (pe_op op_mulG pe_int (pe_ix (wIx (K := K) rfl) (pv 0) pe_int (fun _ _ => rfl)))) (pe_op op_mulG pe_int (pe_ix (wIx (K := K) rfl) (pv 0) pe_int (fun _ _ => rfl)))) pe_int)))),
  fun po S0 H0 kp hd => (ls_seq (ls_drop (le_call (los_cons (lo_e le_var) (los_cons (lo_e le_int) los_nil))))
(ls_ret (le_op o2_fdiv (lo_e (le_op o2_add (lo_e (le_op o2_add (lo_e (le_op o2_mul (lo_e le_int) (lo_e (le_op o2_ix lo_var (lo_e le_int))))) (lo_e (le_op o2_mul (lo_e le_int) (lo_e (le_op o2_ix lo_var (lo_e le_int))))))) (lo_e (le_op o2_mul (lo_e le_int) (lo_e (le_op o2_ix lo_var (lo_e le_int))))))) (lo_e le_int))))⟩
theorem sc_gap : FnScope ["first", "second", "one", "two"] ["first", "second"] (defScope (top 14)) := ⟨rfl, rfl, rfl, by decide +kernel, rfl, by decide +kernel, by decide +kernel⟩
theorem ok_gap (T : TX K mg) : OkF P w K mg base 4 (He.ga K "gap") ["first", "second"] (spOf K (He.ga K) m_gap) := okF (P := P) (w := w) (K := K) (mg := mg) (base := base) (k := 3) (τ := t_gap) T.d_gap sc_gap rfl rfl (fun _ _ _ _ _ _ us hl => match us, hl with | [_, _], _ => rfl) fun cdv A outer s H E hr => ⟨_, (pss_cons (ps_expr (wCall (ok_check_values T) hr (by omega) (takes_of rfl rfl rfl rfl) rfl T.g_check_values (pa_cons (pv 0) (pa_cons pe_int pa_nil))))
(pss_cons (ps_expr (wCall (ok_check_values T) hr (by omega) (takes_of rfl rfl rfl rfl) rfl T.g_check_values (pa_cons (pv 1) (pa_cons pe_int pa_nil))))
(pss_one (ps_ret (pe_callB (cSum (K := K) rfl rfl) rfl T.n_sum boot_sum (pa_cons (pe_lc rfl sc_gap.nd (wiZip (K := K) rfl rfl T.n_zip (pa_cons (pv 0) (pa_cons (pv 1) pa_nil))) (blkOk_by (own := [("one", 2), ("two", 3)]) (by kernel_rfl)) (fun s H C cl fp => (wgSeq (K := K) rfl rfl (pgs_cons (pg_name (i := 2) sc_gap.nd rfl (by first | exact Or.inl rfl | exact Or.inr rfl)) (pgs_cons (pg_name (i := 3) sc_gap.nd rfl (by first | exact Or.inl rfl | exact Or.inr rfl)) pgs_nil)))) (fun s H C cl fp => pts_nil) (fun s H C cl fp => (pe_op op_mulG (pe_op op_sub (pv 2) (pv 3)) (pe_op op_sub (pv 2) (pv 3))))) pa_nil)))))),
  fun po S0 H0 kp hd => (ls_seq (ls_drop (le_call (los_cons (lo_e le_var) (los_cons (lo_e le_int) los_nil))))
(ls_seq (ls_drop (le_call (los_cons (lo_e le_var) (los_cons (lo_e le_int) los_nil))))
(ls_ret (le_opN on_sum (los_cons (lo_e (le_fz (lf_lc (W' := W0) (li_zip (la_cons le_var (la_cons le_var la_nil))) rfl (fun L o => (tg_seq rfl (tgs_cons tg_name (tgs_cons tg_name tgs_nil)))) (fun L o => lt_yes) (fun L o => (le_op o2_mul (lo_e (le_op o2_sub lo_var lo_var)) (lo_e (le_op o2_sub lo_var lo_var))))))) los_nil)))))⟩
theorem sc_nearest : FnScope ["colour", "palette", "gaps", "other"] ["colour", "palette"] (defScope (top 15)) := ⟨rfl, rfl, rfl, by decide +kernel, rfl, by decide +kernel, by decide +kernel⟩
theorem ok_nearest (T : TX K mg) : OkF P w K mg base 5 (He.ga K "nearest") ["colour", "palette"] (spOf K (He.ga K) m_nearest) := okF (P := P) (w := w) (K := K) (mg := mg) (base := base) (k := 4) (τ := t_nearest) T.d_nearest sc_nearest rfl rfl (fun _ _ _ _ _ _ us hl => match us, hl with | [_, _], _ => rfl) fun cdv A outer s H E hr => ⟨_, (pss_cons (ps_expr (wCall (ok_check_values T) hr (by omega) (takes_of rfl rfl rfl rfl) rfl T.g_check_values (pa_cons (pv 0) (pa_cons pe_int pa_nil))))
(pss_cons (ps_if (pt_not (wTru (K := K) rfl (pv 1))) (pss_one (wRaise (K := K) (c := "InvalidColour") rfl (T.errs.err _ (by decide)) (oki_InvalidColour T) hr (by decide) rfl (takes_of rfl rfl rfl rfl) rfl T.g_InvalidColour pe_str)) pss_nil)
(pss_cons (ps_setLcX (i := 2) (takesF rfl rfl (takes_of rfl rfl rfl rfl)) rfl sc_nearest.nd rfl rfl (sw_true rfl rfl rfl rfl) (wiSeq (K := K) rfl (pv 1)) (blkOk_by (own := [("other", 3)]) (by kernel_rfl)) (fun s H C cl fp => (pg_name (i := 3) sc_nearest.nd rfl (by first | exact Or.inl rfl | exact Or.inr rfl))) (fun _σ s H C cl fp tf => pts_nil) (fun _σ s H C cl fp tf => (wCallF (ok_gap T) hr (by omega) tf rfl T.g_gap (pa_cons (pv 0) (pa_cons (pv 3) pa_nil)))))
(pss_one (ps_ret (wIndex (K := K) rfl (pv 2) (pe_callB (cMin (K := K) rfl rfl) rfl T.n_min boot_min (pa_cons (pv 2) pa_nil)))))))),
  fun po S0 H0 kp hd => (ls_seq (ls_drop (le_call (los_cons (lo_e le_var) (los_cons (lo_e le_int) los_nil))))
(ls_seq (ls_if (lt_not (lt_tru lo_var)) (ls_raise le_str) ls_next)
(ls_seq (ls_asg (le_fz (lf_lcX (li_seq le_var) rfl (fun L o => tg_name) (fun _σ L o => lt_yes) (fun _σ L o => (le_call (los_cons (lo_e le_var) (los_cons (lo_e le_var) los_nil)))))))
(ls_ret (le_index lo_var (le_opN on_min (los_cons lo_var los_nil)))))))⟩
theorem sc__law_deck : FnScope ["script", "cells", "each", "deck", "seed", "k", "cell", "rest", "at"] ["script", "cells", "each"] (defScope (top 17)) := ⟨rfl, rfl, rfl, by decide +kernel, rfl, by decide +kernel, by decide +kernel⟩
theorem ok__law_deck (T : TX K mg) : OkF P w K mg base 3 (He.ga K "_law_deck") ["script", "cells", "each"] (spOf K (He.ga K) m__law_deck) := okF (P := P) (w := w) (K := K) (mg := mg) (base := base) (k := 2) (τ := t__law_deck) T.d__law_deck sc__law_deck rfl rfl (fun _ _ _ _ _ _ us hl => match us, hl with | [_, _, _], _ => rfl) fun cdv A outer s H E hr => ⟨_, (pss_cons (ps_set (i := 3) sc__law_deck.nd rfl (by first | exact Or.inl rfl | exact Or.inr rfl) (pe_lst pa_nil))
(pss_cons (ps_set (i := 4) sc__law_deck.nd rfl (by first | exact Or.inl rfl | exact Or.inr rfl) (pe_op (wAdd (K := K) rfl) pe_int (pe_callB (cLen (K := K) rfl) rfl T.n_len boot_len (pa_cons (pv 0) pa_nil))))
(pss_cons (ps_for (passes_of rfl) rfl (pi_range1 rfl T.n_range (pa_cons (pv 1) pa_nil)) (pg_name (i := 5) sc__law_deck.nd rfl (by first | exact Or.inl rfl | exact Or.inr rfl)) (pss_cons (ps_set (i := 6) sc__law_deck.nd rfl (by first | exact Or.inl rfl | exact Or.inr rfl) pe_int)
(pss_cons (ps_if (pt_cmpR (wLt (K := K) rfl hr) (pv 5) (pe_callB (cLen (K := K) rfl) rfl T.n_len boot_len (pa_cons (pv 0) pa_nil)) (nomark _)) (pss_one (ps_set (i := 6) sc__law_deck.nd rfl (by first | exact Or.inl rfl | exact Or.inr rfl) (pe_ix (wIx (K := K) rfl) (pv 0) (pv 5) (fun _ _ => rfl)))) pss_nil)
(pss_cons (ps_set (i := 7) sc__law_deck.nd rfl (by first | exact Or.inl rfl | exact Or.inr rfl) (pe_callB call_abs rfl T.n_abs boot_abs (pa_cons (pv 6) pa_nil)))
(pss_one (ps_if (pt_cmpR op_ge (pv 7) (pe_op op_pow pe_int pe_int) (nomark _)) (pss_one (ps_for (passes_of rfl) rfl (pi_range1 rfl T.n_range (pa_cons (pv 2) pa_nil)) (pg_name (i := 8) sc__law_deck.nd rfl (by first | exact Or.inl rfl | exact Or.inr rfl)) (pss_cons (ps_expr (wApp (K := K) rfl (pv 3) (pe_op op_modN (pe_callTy call_intG rfl T.n_int boot_int (pa_cons (pv 7) pa_nil)) pe_int)))
(pss_one (ps_set (i := 7) sc__law_deck.nd rfl (by first | exact Or.inl rfl | exact Or.inr rfl) (pe_op op_fdivG (pv 7) pe_int)))))) (pss_cons (ps_set (i := 4) sc__law_deck.nd rfl (by first | exact Or.inl rfl | exact Or.inr rfl) (pe_op op_modN (pe_callTy call_intG rfl T.n_int boot_int (pa_cons (pe_op (wAdd (K := K) rfl) (pe_op (wAdd (K := K) rfl) (pe_op (wAdd (K := K) rfl) (pe_op op_mulG (pv 4) pe_int) (pe_op op_mulG pe_int (pv 7))) (pe_callTy call_intG rfl T.n_int boot_int (pa_cons (pe_cmpR (wLt (K := K) rfl hr) (pv 6) pe_int (nomark _)) pa_nil))) (pv 5)) pa_nil)) pe_int))
(pss_one (ps_for (passes_of rfl) rfl (pi_range1 rfl T.n_range (pa_cons (pv 2) pa_nil)) (pg_name (i := 8) sc__law_deck.nd rfl (by first | exact Or.inl rfl | exact Or.inr rfl)) (pss_cons (ps_set (i := 4) sc__law_deck.nd rfl (by first | exact Or.inl rfl | exact Or.inr rfl) (pe_op op_modN (pe_callTy call_intG rfl T.n_int boot_int (pa_cons (pe_op (wAdd (K := K) rfl) (pe_op (wAdd (K := K) rfl) (pe_op op_mulG (pv 4) pe_int) (pv 8)) pe_int) pa_nil)) pe_int))
(pss_one (ps_expr (wApp (K := K) rfl (pv 3) (pe_op op_modN (pe_callTy call_intG rfl T.n_int boot_int (pa_cons (pe_op op_fdivG (pv 4) pe_int) pa_nil)) pe_int))))))))))))))
(pss_cons (ps_expr (wRev (K := K) rfl (pv 3)))
(pss_one (ps_ret (pv 3))))))),
  fun po S0 H0 kp hd => (ls_seq (ls_asgO (lf_lst la_nil))
(ls_seq (ls_asg (le_op o2_add (lo_e le_int) (lo_e (le_opN on_len (los_cons lo_var los_nil)))))
(ls_seq (ls_for (li_rng1 (la_cons le_var la_nil)) tg_name (ls_seq (ls_asg le_int)
(ls_seq (ls_if (lt_test (le_op o2_lt lo_var (lo_e (le_opN on_len (los_cons lo_var los_nil))))) (ls_asg (le_op o2_ix lo_var lo_var)) ls_next)
(ls_seq (ls_asg (le_opN on_abs (los_cons lo_var los_nil)))
(ls_if (lt_test (le_op o2_ge lo_var (lo_e (le_op o2_pow (lo_e le_int) (lo_e le_int))))) (ls_for (li_rng1 (la_cons le_var la_nil)) tg_name (ls_seq (ls_app (le_op o2_mod (lo_e (le_opN on_int (los_cons lo_var los_nil))) (lo_e le_int)))
(ls_asg (le_op o2_fdiv lo_var (lo_e le_int))))) (ls_seq (ls_asg (le_op o2_mod (lo_e (le_opN on_int (los_cons (lo_e (le_op o2_add (lo_e (le_op o2_add (lo_e (le_op o2_add (lo_e (le_op o2_mul lo_var (lo_e le_int))) (lo_e (le_op o2_mul (lo_e le_int) lo_var)))) (lo_e (le_opN on_int (los_cons (lo_e (le_op o2_lt lo_var (lo_e le_int))) los_nil))))) lo_var)) los_nil))) (lo_e le_int)))
(ls_for (li_rng1 (la_cons le_var la_nil)) tg_name (ls_seq (ls_asg (le_op o2_mod (lo_e (le_opN on_int (los_cons (lo_e (le_op o2_add (lo_e (le_op o2_add (lo_e (le_op o2_mul lo_var (lo_e le_int))) lo_var)) (lo_e le_int))) los_nil))) (lo_e le_int)))
(ls_app (le_op o2_mod (lo_e (le_opN on_int (los_cons (lo_e (le_op o2_fdiv lo_var (lo_e le_int))) los_nil))) (lo_e le_int)))))))))))
(ls_seq ls_rev
(ls_retO lf_var)))))⟩
theorem sc__law_take : FnScope ["deck", "many"] ["deck", "many"] (defScope (top 18)) := ⟨rfl, rfl, rfl, by decide +kernel, rfl, by decide +kernel, by decide +kernel⟩
theorem ok__law_take (T : TX K mg) : OkF P w K mg base 3 (He.ga K "_law_take") ["deck", "many"] (spOf K (He.ga K) m__law_take) := okF (P := P) (w := w) (K := K) (mg := mg) (base := base) (k := 2) (τ := t__law_take) T.d__law_take sc__law_take rfl rfl (fun _ _ _ _ _ _ us hl => match us, hl with | [_, _], _ => rfl) fun cdv A outer s H E hr => ⟨_, (pss_cons (ps_if (pt_cmpR (wEq (K := K) rfl hr) (pe_callB (cLen (K := K) rfl) rfl T.n_len boot_len (pa_cons (pv 0) pa_nil)) pe_int (nomark _)) (pss_one (ps_ret pe_int)) pss_nil)
(pss_one (ps_ret (pe_op op_modN (pe_callTy call_intG rfl T.n_int boot_int (pa_cons (wPop (K := K) rfl (pv 0)) pa_nil)) (pv 1))))),
  fun po S0 H0 kp hd => (ls_seq (ls_if (lt_test (le_op o2_eq (lo_e (le_opN on_len (los_cons lo_var los_nil))) (lo_e le_int))) (ls_ret le_int) ls_next)
(ls_ret (le_op o2_mod (lo_e (le_opN on_int (los_cons (lo_e le_pop) los_nil))) lo_var)))⟩
theorem sc__law_plain : FnScope ["value", "item"] ["value"] (defScope (top 19)) := ⟨rfl, rfl, rfl, by decide +kernel, rfl, by decide +kernel, by decide +kernel⟩
theorem ok__law_plain (T : TX K mg) : ∀ n : Nat, OkF P w K mg base (3 + n) (He.ga K "_law_plain") ["value"] (spOf K (He.ga K) (m__law_plain n))
  | 0 => okF0 T.d__law_plain (fun _ _ _ _ _ _ us hl => match us, hl with | [_], _ => rfl)
  | n + 1 => by
    have ih := ok__law_plain T n
    exact okF (P := P) (w := w) (K := K) (mg := mg) (base := base) (k := 3 + n) (τ := t__law_plain (fun _ => m__law_plain n) n) T.d__law_plain sc__law_plain rfl rfl (fun _ _ _ _ _ _ us hl => match us, hl with | [_], _ => rfl) fun cdv A outer s H E hr => ⟨_, (pss_cons (ps_if (wTru (K := K) rfl (pe_callB (cIsiT (K := K) rfl) rfl T.n_isinstance boot_isinstance (pa_cons (pv 0) (pa_cons (pe_tup (pa_cons (pe_bltn (v := .ty "tuple") rfl T.n_tuple boot_tuple rfl) (pa_cons (pe_bltn (v := .ty "list") rfl T.n_list boot_list rfl) pa_nil))) pa_nil)))) (pss_one (ps_ret (pe_op (wAdd (K := K) rfl) (pe_lst (pa_cons (pe_callB (cIsi (K := K) rfl) rfl T.n_isinstance boot_isinstance (pa_cons (pv 0) (pa_cons (pe_bltn (v := .ty "list") rfl T.n_list boot_list rfl) pa_nil))) pa_nil)) (pe_lc rfl sc__law_plain.nd (wiSeq (K := K) rfl (pv 0)) (blkOk_by (own := [("item", 1)]) (by kernel_rfl)) (fun s H C cl fp => (pg_name (i := 1) sc__law_plain.nd rfl (by first | exact Or.inl rfl | exact Or.inr rfl))) (fun s H C cl fp => pts_nil) (fun s H C cl fp => (wCall0 ih hr (by omega) rfl T.g__law_plain (pa_cons (pv 1) pa_nil))))))) pss_nil)
(pss_cons (ps_if (PW.pt (pw_or (pt_cmpR op_isG (pv 0) pe_non (nomark _)) (pw_or1 (wTru (K := K) rfl (pe_callB (cIsi (K := K) rfl) rfl T.n_isinstance boot_isinstance (pa_cons (pv 0) (pa_cons (pe_bltn (v := .ty "bool") rfl T.n_bool boot_bool rfl) pa_nil))))))) (pss_one (ps_ret (pe_ix (wIx (K := K) rfl) (pe_lst (pa_cons pe_str (pa_cons pe_str (pa_cons pe_str pa_nil)))) (pe_op (wAdd (K := K) rfl) (pe_callTy call_intG rfl T.n_int boot_int (pa_cons (pe_cmpR op_notG (pv 0) pe_non (nomark _)) pa_nil)) (pe_callTy call_intG rfl T.n_int boot_int (pa_cons (pe_cmpR op_isG (pv 0) pe_bl (nomark _)) pa_nil))) (fun _ _ => rfl)))) pss_nil)
(pss_cons (ps_if (wTru (K := K) rfl (pe_callB (cIsiT (K := K) rfl) rfl T.n_isinstance boot_isinstance (pa_cons (pv 0) (pa_cons (pe_tup (pa_cons (pe_bltn (v := .ty "int") rfl T.n_int boot_int rfl) (pa_cons (pe_bltn (v := .ty "str") rfl T.n_str boot_str rfl) pa_nil))) pa_nil)))) (pss_one (ps_ret (pe_lst (pa_cons (pe_callB (cIsi (K := K) rfl) rfl T.n_isinstance boot_isinstance (pa_cons (pv 0) (pa_cons (pe_bltn (v := .ty "str") rfl T.n_str boot_str rfl) pa_nil))) (pa_cons (pv 0) pa_nil))))) pss_nil)
(pss_one (ps_ret pe_str))))),
  fun po S0 H0 kp hd => (ls_seq (ls_if (lt_tru (lo_e (le_isiT (bs := ["tuple", "list"]) (by decide) lo_var))) (ls_ret (le_op o2_add (lo_e (le_fz (lf_lst (la_cons (le_isi1 lo_var) la_nil)))) (lo_e (le_fz (lf_lc (W' := W0) (li_seq le_var) rfl (fun L o => tg_name) (fun L o => lt_yes) (fun L o => (le_call0 (los_cons (lo_e le_var) los_nil)))))))) ls_next)
(ls_seq (ls_if (lt_or (lt_test (le_op o2_is lo_var (lo_e le_non))) (lt_tru (lo_e (le_isi1 lo_var)))) (ls_ret (le_op o2_ix (lo_e (le_fz (lf_lst (la_cons le_str (la_cons le_str (la_cons le_str la_nil)))))) (lo_e (le_op o2_add (lo_e (le_opN on_int (los_cons (lo_e (le_op o2_not lo_var (lo_e le_non))) los_nil))) (lo_e (le_opN on_int (los_cons (lo_e (le_op o2_is lo_var (lo_e le_bl))) los_nil))))))) ls_next)
(ls_seq (ls_if (lt_tru (lo_e (le_isiT (bs := ["int", "str"]) (by decide) lo_var))) (ls_ret (le_fz (lf_lst (la_cons (le_isi1 lo_var) (la_cons le_var la_nil))))) ls_next)
(ls_ret le_str))))⟩
theorem sc__law_colour : FnScope ["deck", "at"] ["deck"] (defScope (top 21)) := ⟨rfl, rfl, rfl, by decide +kernel, rfl, by decide +kernel, by decide +kernel⟩
theorem ok__law_colour (T : TX K mg) : OkF P w K mg base 4 (He.ga K "_law_colour") ["deck"] (spOf K (He.ga K) m__law_colour) := okF (P := P) (w := w) (K := K) (mg := mg) (base := base) (k := 3) (τ := t__law_colour) T.d__law_colour sc__law_colour rfl rfl (fun _ _ _ _ _ _ us hl => match us, hl with | [_], _ => rfl) fun cdv A outer s H E hr => ⟨_, (pss_one (ps_ret (pe_callTy (cTuple (K := K) rfl) rfl T.n_tuple boot_tuple (pa_cons (pe_lc rfl sc__law_colour.nd (pi_range1 rfl T.n_range (pa_cons pe_int pa_nil)) (blkOk_by (own := [("at", 1)]) (by kernel_rfl)) (fun s H C cl fp => (pg_name (i := 1) sc__law_colour.nd rfl (by first | exact Or.inl rfl | exact Or.inr rfl))) (fun s H C cl fp => pts_nil) (fun s H C cl fp => (pe_ix (wIx (K := K) rfl) (pe_lst (pa_cons (wCall0 (ok__law_take T) hr (by omega) rfl T.g__law_take (pa_cons (pv 0) (pa_cons pe_int pa_nil))) (pa_cons pe_int (pa_cons pe_int pa_nil)))) (wCall0 (ok__law_take T) hr (by omega) rfl T.g__law_take (pa_cons (pv 0) (pa_cons pe_int pa_nil))) (fun _ _ => rfl)))) pa_nil)))),
  fun po S0 H0 kp hd => (ls_ret (le_opN on_tuple (los_cons (lo_e (le_fz (lf_lc (W' := W0) (li_rng1 (la_cons le_int la_nil)) rfl (fun L o => tg_name) (fun L o => lt_yes) (fun L o => (le_op o2_ix (lo_e (le_fz (lf_lst (la_cons (le_call0 (los_cons lo_var (los_cons (lo_e le_int) los_nil))) (la_cons le_int (la_cons le_int la_nil)))))) (lo_e (le_call0 (los_cons lo_var (los_cons (lo_e le_int) los_nil))))))))) los_nil)))⟩
theorem sc__law_why : FnScope ["ask", "one", "two", "error"] ["ask", "one", "two"] (defScope (top 22)) := ⟨rfl, rfl, rfl, by decide +kernel, rfl, by decide +kernel, by decide +kernel⟩
theorem ok__law_why (T : TX K mg) : OkF P w K mg base 6 (He.ga K "_law_why") ["ask", "one", "two"] (spOf K (He.ga K) m__law_why) := okF (P := P) (w := w) (K := K) (mg := mg) (base := base) (k := 5) (τ := t__law_why) T.d__law_why sc__law_why rfl rfl (fun _ _ _ _ _ _ us hl => match us, hl with | [_, _, _], _ => rfl) fun cdv A outer s H E hr => ⟨_, (pss_cons (wTry (K := K) rfl rfl rfl sc__law_why.nd (i := 3) rfl rfl rfl T.g_PressError (takes_of rfl rfl rfl rfl) (fun W pn xe tkW hpo => (pss_one (ps_if (pt_cmpR (wEq (K := K) rfl hr) (pv 0) pe_int (nomark _)) (pss_one (ps_expr (wCall (ok_separated T) hr (by omega) tkW rfl T.g_separated (pa_cons (pv 1) (pa_cons (pv 2) pa_nil))))) (pss_one (ps_if (pt_cmpR (wEq (K := K) rfl hr) (pv 0) pe_int (nomark _)) (pss_one (ps_expr (wCall (ok_shown T) hr (by omega) tkW rfl T.g_shown (pa_cons (pv 1) pa_nil)))) (pss_one (ps_if (pt_cmpR (wEq (K := K) rfl hr) (pv 0) pe_int (nomark _)) (pss_one (ps_expr (wCall (ok_total_ink T) hr (by omega) tkW rfl T.g_total_ink (pa_cons (pv 1) pa_nil)))) (pss_one (ps_if (pt_cmpR (wEq (K := K) rfl hr) (pv 0) pe_int (nomark _)) (pss_one (ps_expr (wCall (ok_grey T) hr (by omega) tkW rfl T.g_grey (pa_cons (pv 1) pa_nil)))) (pss_one (ps_if (pt_cmpR (wEq (K := K) rfl hr) (pv 0) pe_int (nomark _)) (pss_one (ps_expr (wCall (ok_gap T) hr (by omega) tkW rfl T.g_gap (pa_cons (pv 1) (pa_cons (pv 2) pa_nil))))) (pss_one (ps_expr (wCall (ok_nearest T) hr (by omega) tkW rfl T.g_nearest (pa_cons (pv 1) (pa_cons (pv 2) pa_nil)))))))))))))))) (fun a oe cls d pn hz hf => (pss_cons (ps_if (PW.pt (pw_and (wTru (K := K) rfl (pe_callB (wIsE (K := K) rfl hz hf) rfl T.n_isinstance boot_isinstance (pa_cons (pv 3) (pa_cons (pe_glob (v := .ref (He.ga K "InvalidColour")) rfl T.g_InvalidColour rfl) pa_nil)))) (pw_and1 (pt_not (wTru (K := K) rfl (pe_callB (wIsE (K := K) rfl hz hf) rfl T.n_isinstance boot_isinstance (pa_cons (pv 3) (pa_cons (pe_glob (v := .ref (He.ga K "InvalidItems")) rfl T.g_InvalidItems rfl) pa_nil)))))))) (pss_one (ps_ret (wXf (K := K) rfl hz hf (pv 3)))) pss_nil)
(pss_one ps_never))))
(pss_one (ps_ret pe_non))),
  fun po S0 H0 kp hd => (ls_seq (ls_try T.errs (by decide) (fun W => (ls_if (lt_test (le_op o2_eq lo_var (lo_e le_int))) (ls_drop (le_call (los_cons (lo_e le_var) (los_cons (lo_e le_var) los_nil)))) (ls_if (lt_test (le_op o2_eq lo_var (lo_e le_int))) (ls_drop (le_call (los_cons (lo_e le_var) los_nil))) (ls_if (lt_test (le_op o2_eq lo_var (lo_e le_int))) (ls_drop (le_call (los_cons (lo_e le_var) los_nil))) (ls_if (lt_test (le_op o2_eq lo_var (lo_e le_int))) (ls_drop (le_call (los_cons (lo_e le_var) los_nil))) (ls_if (lt_test (le_op o2_eq lo_var (lo_e le_int))) (ls_drop (le_call (los_cons (lo_e le_var) (los_cons (lo_e le_var) los_nil)))) (ls_drop (le_call (los_cons (lo_e le_var) (los_cons (lo_e le_var) los_nil)))))))))) (fun a dd v S ec ex hc rx => (ls_seq (ls_if (lt_and (lt_tru (lo_e (le_isE1 T.errs hc (d := "InvalidColour") (by decide)))) (lt_not (lt_tru (lo_e (le_isE1 T.errs hc (d := "InvalidItems") (by decide)))))) (ls_ret (le_xf T.errs hc rx)) ls_next)
ls_never)))
(ls_ret le_non))⟩
theorem sc__law_parted : FnScope ["colour", "percent", "inks", "black", "value"] ["colour", "percent"] (defScope (top 23)) := ⟨rfl, rfl, rfl, by decide +kernel, rfl, by decide +kernel, by decide +kernel⟩
theorem ok__law_parted (T : TX K mg) : OkF P w K mg base 3 (He.ga K "_law_parted") ["colour", "percent"] (spOf K (He.ga K) m__law_parted) := okF (P := P) (w := w) (K := K) (mg := mg) (base := base) (k := 2) (τ := t__law_parted) T.d__law_parted sc__law_parted rfl rfl (fun _ _ _ _ _ _ us hl => match us, hl with | [_, _], _ => rfl) fun cdv A outer s H E hr => ⟨_, (pss_cons (ps_setLc (i := 2) rfl sc__law_parted.nd rfl rfl (sw_true rfl rfl rfl rfl) (wiSeq (K := K) rfl (pv 0)) (blkOk_by (own := [("value", 4)]) (by kernel_rfl)) (fun s H C cl fp => (pg_name (i := 4) sc__law_parted.nd rfl (by first | exact Or.inl rfl | exact Or.inr rfl))) (fun s H C cl fp => pts_nil) (fun s H C cl fp => (pe_op op_sub pe_int (pv 4))))
(pss_cons (ps_set (i := 3) sc__law_parted.nd rfl (by first | exact Or.inl rfl | exact Or.inr rfl) (pe_op op_fdivG (pe_op op_mulG (pe_callB (cMin (K := K) rfl rfl) rfl T.n_min boot_min (pa_cons (pv 2) pa_nil)) (pv 1)) pe_int))
(pss_one (ps_ret (pe_tup (pa_cons (pe_op op_sub (pe_ix (wIx (K := K) rfl) (pv 2) pe_int (fun _ _ => rfl)) (pv 3)) (pa_cons (pe_op op_sub (pe_ix (wIx (K := K) rfl) (pv 2) pe_int (fun _ _ => rfl)) (pv 3)) (pa_cons (pe_op op_sub (pe_ix (wIx (K := K) rfl) (pv 2) pe_int (fun _ _ => rfl)) (pv 3)) (pa_cons (pv 3) pa_nil))))))))),
  fun po S0 H0 kp hd => (ls_seq (ls_asg (le_fz (lf_lc (W' := W0) (li_seq le_var) rfl (fun L o => tg_name) (fun L o => lt_yes) (fun L o => (le_op o2_sub (lo_e le_int) lo_var)))))
(ls_seq (ls_asg (le_op o2_fdiv (lo_e (le_op o2_mul (lo_e (le_opN on_min (los_cons lo_var los_nil))) lo_var)) (lo_e le_int)))
(ls_ret (le_tup (la_cons (le_op o2_sub (lo_e (le_op o2_ix lo_var (lo_e le_int))) lo_var) (la_cons (le_op o2_sub (lo_e (le_op o2_ix lo_var (lo_e le_int))) lo_var) (la_cons (le_op o2_sub (lo_e (le_op o2_ix lo_var (lo_e le_int))) lo_var) (la_cons le_var la_nil))))))))⟩
theorem sc_law : FnScope ["script", "deck", "colour", "percent", "due", "handed", "more", "inks", "wanted", "value", "dark", "palette", "gaps", "told", "bad", "worse", "answers", "turn", "other", "ink", "at"] ["script"] (defScope (top 24)) := ⟨rfl, rfl, rfl, by decide +kernel, rfl, by decide +kernel, by decide +kernel⟩
theorem ok_law (T : TX K mg) : ∃ fd, (∀ (s : Shared) (u : Value), BindsTo s fd ⟨[u], []⟩ [("script", u)]) ∧ ∀ base : Heap, FnOk P w K mg base (L2.CX P w) 44 (He.ga K "law") fd ["script"] (spOf K (He.ga K) m_law) := okLaw (P := P) (w := w) (K := K) (mg := mg) (k := 43) (τ := t_law) T.d_law sc_law rfl (fun _ _ _ _ _ _ us hl => match us, hl with | [_], _ => rfl) fun base cdv A outer s H E hr => ⟨_, (pss_cons (ps_set (i := 1) sc_law.nd rfl (by first | exact Or.inl rfl | exact Or.inr rfl) (wCall (ok__law_deck T) hr (by omega) (takes_of rfl rfl rfl rfl) rfl T.g__law_deck (pa_cons (pv 0) (pa_cons pe_int (pa_cons pe_int pa_nil)))))
(pss_cons (ps_set (i := 2) sc_law.nd rfl (by first | exact Or.inl rfl | exact Or.inr rfl) (wCall (ok__law_colour T) hr (by omega) (takes_of rfl rfl rfl rfl) rfl T.g__law_colour (pa_cons (pv 1) pa_nil)))
(pss_cons (ps_set (i := 3) sc_law.nd rfl (by first | exact Or.inl rfl | exact Or.inr rfl) (pe_ix (wIx (K := K) rfl) (pe_lst (pa_cons pe_int (pa_cons pe_int (pa_cons (wCall (ok__law_take T) hr (by omega) (takes_of rfl rfl rfl rfl) rfl T.g__law_take (pa_cons (pv 1) (pa_cons pe_int pa_nil))) pa_nil)))) (wCall (ok__law_take T) hr (by omega) (takes_of rfl rfl rfl rfl) rfl T.g__law_take (pa_cons (pv 1) (pa_cons pe_int pa_nil))) (fun _ _ => rfl)))
(pss_cons (ps_set (i := 4) sc_law.nd rfl (by first | exact Or.inl rfl | exact Or.inr rfl) (wCall (ok__law_parted T) hr (by omega) (takes_of rfl rfl rfl rfl) rfl T.g__law_parted (pa_cons (pv 2) (pa_cons (pv 3) pa_nil))))
(pss_cons (ps_set (i := 5) sc_law.nd rfl (by first | exact Or.inl rfl | exact Or.inr rfl) (pe_callTy (cList (K := K) rfl) rfl T.n_list boot_list (pa_cons (pv 2) pa_nil)))
(pss_cons (ps_if (PW.pt (pw_or (pt_cmpR (wNe (K := K) rfl hr) (wCall (ok__law_plain T 40) hr (by omega) (takes_of rfl rfl rfl rfl) rfl T.g__law_plain (pa_cons (wCall (ok_separated T) hr (by omega) (takes_of rfl rfl rfl rfl) rfl T.g_separated (pa_cons (pv 5) (pa_cons (pv 3) pa_nil))) pa_nil)) (wCall (ok__law_plain T 40) hr (by omega) (takes_of rfl rfl rfl rfl) rfl T.g__law_plain (pa_cons (pv 4) pa_nil)) (nomark _)) (pw_or1 (pt_cmpR (wNe (K := K) rfl hr) (pv 5) (pe_callTy (cList (K := K) rfl) rfl T.n_list boot_list (pa_cons (pv 2) pa_nil)) (nomark _))))) (pss_one (ps_ret pe_bl)) pss_nil)
(pss_cons (ps_if (pt_cmpR (wNe (K := K) rfl hr) (wCall (ok__law_plain T 40) hr (by omega) (takes_of rfl rfl rfl rfl) rfl T.g__law_plain (pa_cons (pe_lst (pa_cons (wCall (ok_shown T) hr (by omega) (takes_of rfl rfl rfl rfl) rfl T.g_shown (pa_cons (pv 4) pa_nil)) (pa_cons (wCall (ok_total_ink T) hr (by omega) (takes_of rfl rfl rfl rfl) rfl T.g_total_ink (pa_cons (pv 4) pa_nil)) pa_nil))) pa_nil)) (wCall (ok__law_plain T 40) hr (by omega) (takes_of rfl rfl rfl rfl) rfl T.g__law_plain (pa_cons (pe_lst (pa_cons (pv 2) (pa_cons (pe_callB (cSum (K := K) rfl rfl) rfl T.n_sum boot_sum (pa_cons (pv 4) pa_nil)) pa_nil))) pa_nil)) (nomark _)) (pss_one (ps_ret pe_bl)) pss_nil)
(pss_cons (ps_set (i := 6) sc_law.nd rfl (by first | exact Or.inl rfl | exact Or.inr rfl) (wCall (ok__law_take T) hr (by omega) (takes_of rfl rfl rfl rfl) rfl T.g__law_take (pa_cons (pv 1) (pa_cons (pe_op op_sub pe_int (pv 3)) pa_nil))))
(pss_cons (ps_if (pt_cmpR op_gt (wCall (ok_total_ink T) hr (by omega) (takes_of rfl rfl rfl rfl) rfl T.g_total_ink (pa_cons (wCall (ok_separated T) hr (by omega) (takes_of rfl rfl rfl rfl) rfl T.g_separated (pa_cons (pv 2) (pa_cons (pe_op (wAdd (K := K) rfl) (pv 3) (pv 6)) pa_nil))) pa_nil)) (pe_callB (cSum (K := K) rfl rfl) rfl T.n_sum boot_sum (pa_cons (pv 4) pa_nil)) (nomark _)) (pss_one (ps_ret pe_bl)) pss_nil)
(pss_cons (ps_set (i := 7) sc_law.nd rfl (by first | exact Or.inl rfl | exact Or.inr rfl) (pe_op (wAdd (K := K) rfl) (wCall (ok__law_colour T) hr (by omega) (takes_of rfl rfl rfl rfl) rfl T.g__law_colour (pa_cons (pv 1) pa_nil)) (pe_tup (pa_cons (wCall (ok__law_take T) hr (by omega) (takes_of rfl rfl rfl rfl) rfl T.g__law_take (pa_cons (pv 1) (pa_cons pe_int pa_nil))) pa_nil))))
(pss_cons (ps_set (i := 8) sc_law.nd rfl (by first | exact Or.inl rfl | exact Or.inr rfl) (pe_callTy (cTuple (K := K) rfl) rfl T.n_tuple boot_tuple (pa_cons (pe_lc rfl sc_law.nd (wiSeq (K := K) rfl (pe_slice (wSl (K := K) rfl) (pv 7) po_none (po_some pe_int))) (blkOk_by (own := [("ink", 19)]) (by kernel_rfl)) (fun s H C cl fp => (pg_name (i := 19) sc_law.nd rfl (by first | exact Or.inl rfl | exact Or.inr rfl))) (fun s H C cl fp => pts_nil) (fun s H C cl fp => (pe_callB (cMax (K := K) rfl rfl) rfl T.n_max boot_max (pa_cons pe_int (pa_cons (pe_op op_sub (pe_op op_sub pe_int (pv 19)) (pe_ix (wIx (K := K) rfl) (pv 7) pe_int (fun _ _ => rfl))) pa_nil))))) pa_nil)))
(pss_cons (ps_if (PW.pt (pw_or (pt_cmpR (wNe (K := K) rfl hr) (wCall (ok__law_plain T 40) hr (by omega) (takes_of rfl rfl rfl rfl) rfl T.g__law_plain (pa_cons (wCall (ok_shown T) hr (by omega) (takes_of rfl rfl rfl rfl) rfl T.g_shown (pa_cons (pe_callTy (cList (K := K) rfl) rfl T.n_list boot_list (pa_cons (pv 7) pa_nil)) pa_nil)) pa_nil)) (wCall (ok__law_plain T 40) hr (by omega) (takes_of rfl rfl rfl rfl) rfl T.g__law_plain (pa_cons (pv 8) pa_nil)) (nomark _)) (pw_or1 (pt_cmpR (wNe (K := K) rfl hr) (wCall (ok_shown T) hr (by omega) (takes_of rfl rfl rfl rfl) rfl T.g_shown (pa_cons (wCall (ok_separated T) hr (by omega) (takes_of rfl rfl rfl rfl) rfl T.g_separated (pa_cons (pv 8) (pa_cons pe_int pa_nil))) pa_nil)) (pv 8) (nomark _))))) (pss_one (ps_ret pe_bl)) pss_nil)
(pss_cons (ps_set (i := 9) sc_law.nd rfl (by first | exact Or.inl rfl | exact Or.inr rfl) (wCall (ok__law_take T) hr (by omega) (takes_of rfl rfl rfl rfl) rfl T.g__law_take (pa_cons (pv 1) (pa_cons pe_int pa_nil))))
(pss_cons (ps_set (i := 10) sc_law.nd rfl (by first | exact Or.inl rfl | exact Or.inr rfl) (pe_op op_fdivG (pe_op (wAdd (K := K) rfl) (pe_op (wAdd (K := K) rfl) (pe_op op_mulG pe_int (pe_ix (wIx (K := K) rfl) (pv 2) pe_int (fun _ _ => rfl))) (pe_op op_mulG pe_int (pe_ix (wIx (K := K) rfl) (pv 2) pe_int (fun _ _ => rfl)))) (pe_op op_mulG pe_int (pe_ix (wIx (K := K) rfl) (pv 2) pe_int (fun _ _ => rfl)))) pe_int))
(pss_cons (ps_if (pt_cmpR (wNe (K := K) rfl hr) (wCall (ok__law_plain T 40) hr (by omega) (takes_of rfl rfl rfl rfl) rfl T.g__law_plain (pa_cons (pe_lst (pa_cons (wCall (ok_grey T) hr (by omega) (takes_of rfl rfl rfl rfl) rfl T.g_grey (pa_cons (pv 2) pa_nil)) (pa_cons (wCall (ok_grey T) hr (by omega) (takes_of rfl rfl rfl rfl) rfl T.g_grey (pa_cons (pe_tup (pa_cons (pv 9) (pa_cons (pv 9) (pa_cons (pv 9) pa_nil)))) pa_nil)) pa_nil))) pa_nil)) (wCall (ok__law_plain T 40) hr (by omega) (takes_of rfl rfl rfl rfl) rfl T.g__law_plain (pa_cons (pe_lst (pa_cons (pv 10) (pa_cons (pv 9) pa_nil))) pa_nil)) (nomark _)) (pss_one (ps_ret pe_bl)) pss_nil)
(pss_cons (ps_setLc (i := 11) rfl sc_law.nd rfl rfl (sw_true rfl rfl rfl rfl) (pi_range1 rfl T.n_range (pa_cons (pe_op (wAdd (K := K) rfl) pe_int (wCall (ok__law_take T) hr (by omega) (takes_of rfl rfl rfl rfl) rfl T.g__law_take (pa_cons (pv 1) (pa_cons pe_int pa_nil)))) pa_nil)) (blkOk_by (own := [("turn", 17)]) (by kernel_rfl)) (fun s H C cl fp => (pg_name (i := 17) sc_law.nd rfl (by first | exact Or.inl rfl | exact Or.inr rfl))) (fun s H C cl fp => pts_nil) (fun s H C cl fp => (wCall0 (ok__law_colour T) hr (by omega) rfl T.g__law_colour (pa_cons (pv 1) pa_nil))))
(pss_cons (ps_setLc (i := 12) rfl sc_law.nd rfl rfl (sw_true rfl rfl rfl rfl) (wiSeq (K := K) rfl (pv 11)) (blkOk_by (own := [("other", 18)]) (by kernel_rfl)) (fun s H C cl fp => (pg_name (i := 18) sc_law.nd rfl (by first | exact Or.inl rfl | exact Or.inr rfl))) (fun s H C cl fp => pts_nil) (fun s H C cl fp => (pe_callB (cSum (K := K) rfl rfl) rfl T.n_sum boot_sum (pa_cons (pe_lc rfl sc_law.nd (pi_range1 rfl T.n_range (pa_cons pe_int pa_nil)) (blkOk_by (own := [("at", 20)]) (by kernel_rfl)) (fun s H C cl fp => (pg_name (i := 20) sc_law.nd rfl (by first | exact Or.inl rfl | exact Or.inr rfl))) (fun s H C cl fp => pts_nil) (fun s H C cl fp => (pe_op op_mulG (pe_op op_sub (pe_ix (wIx (K := K) rfl) (pv 2) (pv 20) (fun _ _ => rfl)) (pe_ix (wIx (K := K) rfl) (pv 18) (pv 20) (fun _ _ => rfl))) (pe_op op_sub (pe_ix (wIx (K := K) rfl) (pv 2) (pv 20) (fun _ _ => rfl)) (pe_ix (wIx (K := K) rfl) (pv 18) (pv 20) (fun _ _ => rfl)))))) pa_nil))))
(pss_cons (ps_set (i := 13) sc_law.nd rfl (by first | exact Or.inl rfl | exact Or.inr rfl) (pe_lst (pa_cons (pe_lcX (takesF rfl rfl (takes_of rfl rfl rfl rfl)) rfl sc_law.nd (wiSeq (K := K) rfl (pv 11)) (blkOk_by (own := [("other", 18)]) (by kernel_rfl)) (fun s H C cl fp => (pg_name (i := 18) sc_law.nd rfl (by first | exact Or.inl rfl | exact Or.inr rfl))) (fun _σ s H C cl fp tf => pts_nil) (fun _σ s H C cl fp tf => (wCallF (ok_gap T) hr (by omega) tf rfl T.g_gap (pa_cons (pv 2) (pa_cons (pv 18) pa_nil))))) (pa_cons (pe_lcX (takesF rfl rfl (takes_of rfl rfl rfl rfl)) rfl sc_law.nd (wiSeq (K := K) rfl (pv 11)) (blkOk_by (own := [("other", 18)]) (by kernel_rfl)) (fun s H C cl fp => (pg_name (i := 18) sc_law.nd rfl (by first | exact Or.inl rfl | exact Or.inr rfl))) (fun _σ s H C cl fp tf => pts_nil) (fun _σ s H C cl fp tf => (wCallF (ok_gap T) hr (by omega) tf rfl T.g_gap (pa_cons (pv 18) (pa_cons (pv 2) pa_nil))))) (pa_cons (wCall (ok_nearest T) hr (by omega) (takes_of rfl rfl rfl rfl) rfl T.g_nearest (pa_cons (pv 2) (pa_cons (pv 11) pa_nil))) pa_nil)))))
(pss_cons (ps_if (pt_cmpR (wNe (K := K) rfl hr) (wCall (ok__law_plain T 40) hr (by omega) (takes_of rfl rfl rfl rfl) rfl T.g__law_plain (pa_cons (pv 13) pa_nil)) (wCall (ok__law_plain T 40) hr (by omega) (takes_of rfl rfl rfl rfl) rfl T.g__law_plain (pa_cons (pe_lst (pa_cons (pv 12) (pa_cons (pv 12) (pa_cons (wIndex (K := K) rfl (pv 12) (pe_callB (cMin (K := K) rfl rfl) rfl T.n_min boot_min (pa_cons (pv 12) pa_nil))) pa_nil)))) pa_nil)) (nomark _)) (pss_one (ps_ret pe_bl)) pss_nil)
(pss_cons (ps_set (i := 14) sc_law.nd rfl (by first | exact Or.inl rfl | exact Or.inr rfl) (pe_ix (wIx (K := K) rfl) (pe_lst (pa_cons (pe_tup (pa_cons pe_int (pa_cons pe_int pa_nil))) (pa_cons (pe_tup (pa_cons pe_int (pa_cons pe_int (pa_cons pe_int (pa_cons pe_int pa_nil))))) (pa_cons (pe_tup (pa_cons pe_int (pa_cons pe_int (pa_cons pe_int pa_nil)))) (pa_cons (pe_tup (pa_cons (pe_un un_neg pe_int) (pa_cons pe_int (pa_cons pe_int pa_nil)))) (pa_cons (pe_tup pa_nil) pa_nil)))))) (wCall (ok__law_take T) hr (by omega) (takes_of rfl rfl rfl rfl) rfl T.g__law_take (pa_cons (pv 1) (pa_cons pe_int pa_nil))) (fun _ _ => rfl)))
(pss_cons (ps_set (i := 15) sc_law.nd rfl (by first | exact Or.inl rfl | exact Or.inr rfl) (pe_ix (wIx (K := K) rfl) (pe_lst (pa_cons (pe_tup (pa_cons pe_int (pa_cons pe_int (pa_cons pe_int pa_nil)))) (pa_cons (pe_tup (pa_cons pe_int (pa_cons pe_int (pa_cons pe_int (pa_cons pe_int (pa_cons pe_int pa_nil)))))) (pa_cons (pe_tup (pa_cons pe_int (pa_cons pe_int (pa_cons pe_int (pa_cons pe_int pa_nil))))) (pa_cons (pe_tup (pa_cons pe_int (pa_cons (pe_un un_neg pe_int) (pa_cons pe_int (pa_cons pe_int pa_nil))))) pa_nil))))) (wCall (ok__law_take T) hr (by omega) (takes_of rfl rfl rfl rfl) rfl T.g__law_take (pa_cons (pv 1) (pa_cons pe_int pa_nil))) (fun _ _ => rfl)))
(pss_cons (ps_set (i := 16) sc_law.nd rfl (by first | exact Or.inl rfl | exact Or.inr rfl) (pe_lst (pa_cons (wCall (ok__law_why T) hr (by omega) (takes_of rfl rfl rfl rfl) rfl T.g__law_why (pa_cons pe_int (pa_cons (pv 14) (pa_cons (pe_un un_neg pe_int) pa_nil)))) (pa_cons (wCall (ok__law_why T) hr (by omega) (takes_of rfl rfl rfl rfl) rfl T.g__law_why (pa_cons pe_int (pa_cons (pv 2) (pa_cons (pe_ix (wIx (K := K) rfl) (pe_lst (pa_cons (pe_un un_neg pe_int) (pa_cons pe_int pa_nil))) (wCall (ok__law_take T) hr (by omega) (takes_of rfl rfl rfl rfl) rfl T.g__law_take (pa_cons (pv 1) (pa_cons pe_int pa_nil))) (fun _ _ => rfl)) pa_nil)))) (pa_cons (wCall (ok__law_why T) hr (by omega) (takes_of rfl rfl rfl rfl) rfl T.g__law_why (pa_cons pe_int (pa_cons (pv 15) (pa_cons pe_non pa_nil)))) (pa_cons (wCall (ok__law_why T) hr (by omega) (takes_of rfl rfl rfl rfl) rfl T.g__law_why (pa_cons pe_int (pa_cons (pv 15) (pa_cons pe_non pa_nil)))) pa_nil))))))
(pss_cons (ps_set (i := 16) sc_law.nd rfl (by first | exact Or.inl rfl | exact Or.inr rfl) (pe_op (wAdd (K := K) rfl) (pv 16) (pe_lst (pa_cons (wCall (ok__law_why T) hr (by omega) (takes_of rfl rfl rfl rfl) rfl T.g__law_why (pa_cons pe_int (pa_cons (pv 14) (pa_cons pe_non pa_nil)))) (pa_cons (wCall (ok__law_why T) hr (by omega) (takes_of rfl rfl rfl rfl) rfl T.g__law_why (pa_cons pe_int (pa_cons (pv 2) (pa_cons (pv 14) pa_nil)))) (pa_cons (wCall (ok__law_why T) hr (by omega) (takes_of rfl rfl rfl rfl) rfl T.g__law_why (pa_cons pe_int (pa_cons (pv 14) (pa_cons (pv 2) pa_nil)))) (pa_cons (wCall (ok__law_why T) hr (by omega) (takes_of rfl rfl rfl rfl) rfl T.g__law_why (pa_cons pe_int (pa_cons (pv 14) (pa_cons (pe_lst pa_nil) pa_nil)))) (pa_cons (wCall (ok__law_why T) hr (by omega) (takes_of rfl rfl rfl rfl) rfl T.g__law_why (pa_cons pe_int (pa_cons (pv 2) (pa_cons (pe_lst pa_nil) pa_nil)))) pa_nil))))))))
(pss_one (ps_ret (pe_and (pe_cmpR (wEq (K := K) rfl hr) (pv 16) (pe_op (wAdd (K := K) rfl) (pe_op (wAdd (K := K) rfl) (pe_lst (pa_cons pe_str (pa_cons pe_str pa_nil))) (pe_op op_mulG (pe_lst (pa_cons pe_str pa_nil)) pe_int)) (pe_lst (pa_cons pe_str pa_nil))) (nomark _)) (pe_one (pe_cmpR (wEq (K := K) rfl hr) (wCall (ok__law_why T) hr (by omega) (takes_of rfl rfl rfl rfl) rfl T.g__law_why (pa_cons pe_int (pa_cons (pv 2) (pa_cons (pe_lst (pa_cons (pv 2) (pa_cons (pv 14) pa_nil))) pa_nil)))) pe_str (nomark _))))))))))))))))))))))))))))),
  fun po S0 H0 kp hd => (ls_seq (ls_asgO (lf_call (los_cons (lo_e le_var) (los_cons (lo_e le_int) (los_cons (lo_e le_int) los_nil)))))
(ls_seq (ls_asg (le_call (los_cons lo_var los_nil)))
(ls_seq (ls_asg (le_op o2_ix (lo_e (le_fz (lf_lst (la_cons le_int (la_cons le_int (la_cons (le_call (los_cons lo_var (los_cons (lo_e le_int) los_nil))) la_nil)))))) (lo_e (le_call (los_cons lo_var (los_cons (lo_e le_int) los_nil))))))
(ls_seq (ls_asg (le_call (los_cons (lo_e le_var) (los_cons (lo_e le_var) los_nil))))
(ls_seq (ls_asg (le_fz (lf_opN onf_list (los_cons lo_var los_nil))))
(ls_seq (ls_if (lt_or (lt_test (le_op o2_ne (lo_e (le_call (los_cons (lo_e (le_call (los_cons (lo_e le_var) (los_cons (lo_e le_var) los_nil)))) los_nil))) (lo_e (le_call (los_cons (lo_e le_var) los_nil))))) (lt_test (le_op o2_ne lo_var (lo_e (le_fz (lf_opN onf_list (los_cons lo_var los_nil))))))) (ls_ret le_bl) ls_next)
(ls_seq (ls_if (lt_test (le_op o2_ne (lo_e (le_call (los_cons (lo_e (le_fz (lf_lst (la_cons (le_call (los_cons (lo_e le_var) los_nil)) (la_cons (le_call (los_cons (lo_e le_var) los_nil)) la_nil))))) los_nil))) (lo_e (le_call (los_cons (lo_e (le_fz (lf_lst (la_cons le_var (la_cons (le_opN on_sum (los_cons lo_var los_nil)) la_nil))))) los_nil))))) (ls_ret le_bl) ls_next)
(ls_seq (ls_asg (le_call (los_cons lo_var (los_cons (lo_e (le_op o2_sub (lo_e le_int) lo_var)) los_nil))))
(ls_seq (ls_if (lt_test (le_op o2_gt (lo_e (le_call (los_cons (lo_e (le_call (los_cons (lo_e le_var) (los_cons (lo_e (le_op o2_add lo_var lo_var)) los_nil)))) los_nil))) (lo_e (le_opN on_sum (los_cons lo_var los_nil))))) (ls_ret le_bl) ls_next)
(ls_seq (ls_asg (le_op o2_add (lo_e (le_call (los_cons lo_var los_nil))) (lo_e (le_tup (la_cons (le_call (los_cons lo_var (los_cons (lo_e le_int) los_nil))) la_nil)))))
(ls_seq (ls_asg (le_opN on_tuple (los_cons (lo_e (le_fz (lf_lc (W' := W0) (li_seq (le_sl lo_var lp_none (lp_some le_int))) rfl (fun L o => tg_name) (fun L o => lt_yes) (fun L o => (le_opN on_max (los_cons (lo_e le_int) (los_cons (lo_e (le_op o2_sub (lo_e (le_op o2_sub (lo_e le_int) lo_var)) (lo_e (le_op o2_ix lo_var (lo_e le_int))))) los_nil))))))) los_nil)))
(ls_seq (ls_if (lt_or (lt_test (le_op o2_ne (lo_e (le_call (los_cons (lo_e (le_call (los_cons (lo_e (le_fz (lf_opN onf_list (los_cons lo_var los_nil)))) los_nil))) los_nil))) (lo_e (le_call (los_cons (lo_e le_var) los_nil))))) (lt_test (le_op o2_ne (lo_e (le_call (los_cons (lo_e (le_call (los_cons (lo_e le_var) (los_cons (lo_e le_int) los_nil)))) los_nil))) lo_var))) (ls_ret le_bl) ls_next)
(ls_seq (ls_asg (le_call (los_cons lo_var (los_cons (lo_e le_int) los_nil))))
(ls_seq (ls_asg (le_op o2_fdiv (lo_e (le_op o2_add (lo_e (le_op o2_add (lo_e (le_op o2_mul (lo_e le_int) (lo_e (le_op o2_ix lo_var (lo_e le_int))))) (lo_e (le_op o2_mul (lo_e le_int) (lo_e (le_op o2_ix lo_var (lo_e le_int))))))) (lo_e (le_op o2_mul (lo_e le_int) (lo_e (le_op o2_ix lo_var (lo_e le_int))))))) (lo_e le_int)))
(ls_seq (ls_if (lt_test (le_op o2_ne (lo_e (le_call (los_cons (lo_e (le_fz (lf_lst (la_cons (le_call (los_cons (lo_e le_var) los_nil)) (la_cons (le_call (los_cons (lo_e (le_tup (la_cons le_var (la_cons le_var (la_cons le_var la_nil))))) los_nil)) la_nil))))) los_nil))) (lo_e (le_call (los_cons (lo_e (le_fz (lf_lst (la_cons le_var (la_cons le_var la_nil))))) los_nil))))) (ls_ret le_bl) ls_next)
(ls_seq (ls_asg (le_fz (lf_lc (W' := W0) (li_rng1 (la_cons (le_op o2_add (lo_e le_int) (lo_e (le_call (los_cons lo_var (los_cons (lo_e le_int) los_nil))))) la_nil)) rfl (fun L o => tg_name) (fun L o => lt_yes) (fun L o => (le_call0 (los_cons lo_var los_nil))))))
(ls_seq (ls_asg (le_fz (lf_lc (W' := W0) (li_seq le_var) rfl (fun L o => tg_name) (fun L o => lt_yes) (fun L o => (le_opN on_sum (los_cons (lo_e (le_fz (lf_lc (W' := W0) (li_rng1 (la_cons le_int la_nil)) rfl (fun L o => tg_name) (fun L o => lt_yes) (fun L o => (le_op o2_mul (lo_e (le_op o2_sub (lo_e (le_op o2_ix lo_var lo_var)) (lo_e (le_op o2_ix lo_var lo_var)))) (lo_e (le_op o2_sub (lo_e (le_op o2_ix lo_var lo_var)) (lo_e (le_op o2_ix lo_var lo_var))))))))) los_nil))))))
(ls_seq (ls_asg (le_fz (lf_lst (la_cons (le_fz (lf_lcX (li_seq le_var) rfl (fun L o => tg_name) (fun _σ L o => lt_yes) (fun _σ L o => (le_call (los_cons (lo_e le_var) (los_cons (lo_e le_var) los_nil)))))) (la_cons (le_fz (lf_lcX (li_seq le_var) rfl (fun L o => tg_name) (fun _σ L o => lt_yes) (fun _σ L o => (le_call (los_cons (lo_e le_var) (los_cons (lo_e le_var) los_nil)))))) (la_cons (le_call (los_cons (lo_e le_var) (los_cons (lo_e le_var) los_nil))) la_nil))))))
(ls_seq (ls_if (lt_test (le_op o2_ne (lo_e (le_call (los_cons (lo_e le_var) los_nil))) (lo_e (le_call (los_cons (lo_e (le_fz (lf_lst (la_cons le_var (la_cons le_var (la_cons (le_index lo_var (le_opN on_min (los_cons lo_var los_nil))) la_nil)))))) los_nil))))) (ls_ret le_bl) ls_next)
(ls_seq (ls_asg (le_op o2_ix (lo_e (le_fz (lf_lst (la_cons (le_tup (la_cons le_int (la_cons le_int la_nil))) (la_cons (le_tup (la_cons le_int (la_cons le_int (la_cons le_int (la_cons le_int la_nil))))) (la_cons (le_tup (la_cons le_int (la_cons le_int (la_cons le_int la_nil)))) (la_cons (le_tup (la_cons (le_op1 o1_neg (lo_e le_int)) (la_cons le_int (la_cons le_int la_nil)))) (la_cons (le_tup la_nil) la_nil)))))))) (lo_e (le_call (los_cons lo_var (los_cons (lo_e le_int) los_nil))))))
(ls_seq (ls_asg (le_op o2_ix (lo_e (le_fz (lf_lst (la_cons (le_tup (la_cons le_int (la_cons le_int (la_cons le_int la_nil)))) (la_cons (le_tup (la_cons le_int (la_cons le_int (la_cons le_int (la_cons le_int (la_cons le_int la_nil)))))) (la_cons (le_tup (la_cons le_int (la_cons le_int (la_cons le_int (la_cons le_int la_nil))))) (la_cons (le_tup (la_cons le_int (la_cons (le_op1 o1_neg (lo_e le_int)) (la_cons le_int (la_cons le_int la_nil))))) la_nil))))))) (lo_e (le_call (los_cons lo_var (los_cons (lo_e le_int) los_nil))))))
(ls_seq (ls_asg (le_fz (lf_lst (la_cons (le_call (los_cons (lo_e le_int) (los_cons (lo_e le_var) (los_cons (lo_e (le_op1 o1_neg (lo_e le_int))) los_nil)))) (la_cons (le_call (los_cons (lo_e le_int) (los_cons (lo_e le_var) (los_cons (lo_e (le_op o2_ix (lo_e (le_fz (lf_lst (la_cons (le_op1 o1_neg (lo_e le_int)) (la_cons le_int la_nil))))) (lo_e (le_call (los_cons lo_var (los_cons (lo_e le_int) los_nil)))))) los_nil)))) (la_cons (le_call (los_cons (lo_e le_int) (los_cons (lo_e le_var) (los_cons (lo_e le_non) los_nil)))) (la_cons (le_call (los_cons (lo_e le_int) (los_cons (lo_e le_var) (los_cons (lo_e le_non) los_nil)))) la_nil)))))))
(ls_seq (ls_asg (le_op o2_add lo_var (lo_e (le_fz (lf_lst (la_cons (le_call (los_cons (lo_e le_int) (los_cons (lo_e le_var) (los_cons (lo_e le_non) los_nil)))) (la_cons (le_call (los_cons (lo_e le_int) (los_cons (lo_e le_var) (los_cons (lo_e le_var) los_nil)))) (la_cons (le_call (los_cons (lo_e le_int) (los_cons (lo_e le_var) (los_cons (lo_e le_var) los_nil)))) (la_cons (le_call (los_cons (lo_e le_int) (los_cons (lo_e le_var) (los_cons (lo_e (le_fz (lf_lst la_nil))) los_nil)))) (la_cons (le_call (los_cons (lo_e le_int) (los_cons (lo_e le_var) (los_cons (lo_e (le_fz (lf_lst la_nil))) los_nil)))) la_nil))))))))))
(ls_ret (le_andV (le_op o2_eq lo_var (lo_e (le_op o2_add (lo_e (le_op o2_add (lo_e (le_fz (lf_lst (la_cons le_str (la_cons le_str la_nil))))) (lo_e (le_op o2_mul (lo_e (le_fz (lf_lst (la_cons le_str la_nil)))) (lo_e le_int))))) (lo_e (le_fz (lf_lst (la_cons le_str la_nil))))))) (le_op o2_eq (lo_e (le_call (los_cons (lo_e le_int) (los_cons (lo_e le_var) (los_cons (lo_e (le_fz (lf_lst (la_cons le_var (la_cons le_var la_nil))))) los_nil))))) (lo_e le_str)))))))))))))))))))))))))))⟩
end
/-! ### the head -/
def h_InvalidLength : He.DefD := ⟨("InvalidLength", some "__init__"), "__init__", "InvalidLength.__init__", defArgs (initOf (top 2)), defBody (initOf (top 2)), defScope (initOf (top 2)), [], []⟩
def h_InvalidItems : He.DefD := ⟨("InvalidItems", some "__init__"), "__init__", "InvalidItems.__init__", defArgs (initOf (top 3)), defBody (initOf (top 3)), defScope (initOf (top 3)), [], []⟩
def h_InvalidRun : He.DefD := ⟨("InvalidRun", some "__init__"), "__init__", "InvalidRun.__init__", defArgs (initOf (top 4)), defBody (initOf (top 4)), defScope (initOf (top 4)), [], []⟩
def h_InvalidColour : He.DefD := ⟨("InvalidColour", some "__init__"), "__init__", "InvalidColour.__init__", defArgs (initOf (top 5)), defBody (initOf (top 5)), defScope (initOf (top 5)), [], []⟩
def h_TooMany : He.DefD := ⟨("TooMany", some "__init__"), "__init__", "TooMany.__init__", defArgs (initOf (top 6)), defBody (initOf (top 6)), defScope (initOf (top 6)), [], []⟩
def h_check_values : He.DefD := ⟨("check_values", none), "check_values", "check_values", defArgs (top 9), defBody (top 9), defScope (top 9), [], []⟩
def h_separated : He.DefD := ⟨("separated", none), "separated", "separated", defArgs (top 10), defBody (top 10), defScope (top 10), [], []⟩
def h_shown : He.DefD := ⟨("shown", none), "shown", "shown", defArgs (top 11), defBody (top 11), defScope (top 11), [], []⟩
def h_total_ink : He.DefD := ⟨("total_ink", none), "total_ink", "total_ink", defArgs (top 12), defBody (top 12), defScope (top 12), [], []⟩
def h_grey : He.DefD := ⟨("grey", none), "grey", "grey", defArgs (top 13), defBody (top 13), defScope (top 13), [], []⟩
def h_gap : He.DefD := ⟨("gap", none), "gap", "gap", defArgs (top 14), defBody (top 14), defScope (top 14), [], []⟩
def h_nearest : He.DefD := ⟨("nearest", none), "nearest", "nearest", defArgs (top 15), defBody (top 15), defScope (top 15), [], []⟩
def h__law_deck : He.DefD := ⟨("_law_deck", none), "_law_deck", "_law_deck", defArgs (top 17), defBody (top 17), defScope (top 17), [], []⟩
def h__law_take : He.DefD := ⟨("_law_take", none), "_law_take", "_law_take", defArgs (top 18), defBody (top 18), defScope (top 18), [], []⟩
def h__law_plain : He.DefD := ⟨("_law_plain", none), "_law_plain", "_law_plain", defArgs (top 19), defBody (top 19), defScope (top 19), [], []⟩
def h__law_colour : He.DefD := ⟨("_law_colour", none), "_law_colour", "_law_colour", defArgs (top 21), defBody (top 21), defScope (top 21), [], []⟩
def h__law_why : He.DefD := ⟨("_law_why", none), "_law_why", "_law_why", defArgs (top 22), defBody (top 22), defScope (top 22), [], []⟩
def h__law_parted : He.DefD := ⟨("_law_parted", none), "_law_parted", "_law_parted", defArgs (top 23), defBody (top 23), defScope (top 23), [], []⟩
def h_law : He.DefD := ⟨("law", none), "law", "law", defArgs (top 24), defBody (top 24), defScope (top 24), [], []⟩
def fn : List He.DefD := [h_InvalidLength, h_InvalidItems, h_InvalidRun, h_InvalidColour, h_TooMany, h_check_values, h_separated, h_shown, h_total_ink, h_grey, h_gap, h_nearest, h__law_deck, h__law_take, h__law_plain, h__law_colour, h__law_why, h__law_parted, h_law]
def fa : List He.Fa := [.glo "PressError", .glo "InvalidLength", .glo "InvalidItems", .glo "InvalidRun", .glo "InvalidColour", .glo "TooMany", .glo "check_values", .glo "separated", .glo "shown", .glo "total_ink", .glo "grey", .glo "gap", .glo "nearest", .glo "_law_deck", .glo "_law_take", .glo "_law_plain", .glo "_law_colour", .glo "_law_why", .glo "_law_parted", .glo "law", .free "abs", .free "any", .free "bool", .free "int", .free "isinstance", .free "len", .free "list", .free "max", .free "min", .free "range", .free "str", .free "sum", .free "tuple", .free "zip", .int "FULL" 255]
def ex (K : PySem.W.Frag) : Bool := errTabB K (He.ga K) errs && pinitB K (He.ga K "PressError")
abbrev R : PySem.W.OpenRow := PySem.W.OpenLaw.row PySem.Challenge.rw_presswork_k44_separations
abbrev hk : PySem.W.Hook := hookP 6 fa fn ex
def ob (s : PySem.W.SharedT) : AlP := obsP 6 fa fn ex (HandSHeadRun.getT s)
theorem ob_eq (s : PySem.W.SharedT) : ob s = hk.obs s.abs := obsP_eq (HandSHeadRun.getT_eq s)
def loose0 : List Str := ["PressError", "InvalidLength", "InvalidItems", "InvalidRun", "InvalidColour", "TooMany", "FULL", "check_values", "separated", "shown", "total_ink", "grey", "gap", "nearest", "_law_deck", "_law_take", "_law_plain", "_law_error", "_law_colour", "_law_why", "_law_parted"]
def loose : List Str := loose0
theorem run (w : World) : HandSHeadRun.RunEq R (PySem.W.view R.prog [24]) hk ob 4000 loose w := by
  intro os
  kernel_rfl
theorem facts {K : PySem.W.Frag} {h : Heap} {mg : Str → Option Value} (X : K.In h) (G : h.Ns mainGlobals mg) (c : SaysP fa fn ex K) : TX K mg := by
  have d : He.SaysD fa fn K := c.d
  have e : errTabB K (He.ga K) errs = true ∧ pinitB K (He.ga K "PressError") = true := Bool.and_eq_true_iff.mp c.more
  exact {
    g_PressError := He.glo_ok X G (d.fact 0 (f := .glo "PressError") rfl)
    g_InvalidLength := He.glo_ok X G (d.fact 1 (f := .glo "InvalidLength") rfl)
    g_InvalidItems := He.glo_ok X G (d.fact 2 (f := .glo "InvalidItems") rfl)
    g_InvalidRun := He.glo_ok X G (d.fact 3 (f := .glo "InvalidRun") rfl)
    g_InvalidColour := He.glo_ok X G (d.fact 4 (f := .glo "InvalidColour") rfl)
    g_TooMany := He.glo_ok X G (d.fact 5 (f := .glo "TooMany") rfl)
    g_check_values := He.glo_ok X G (d.fact 6 (f := .glo "check_values") rfl)
    g_separated := He.glo_ok X G (d.fact 7 (f := .glo "separated") rfl)
    g_shown := He.glo_ok X G (d.fact 8 (f := .glo "shown") rfl)
    g_total_ink := He.glo_ok X G (d.fact 9 (f := .glo "total_ink") rfl)
    g_grey := He.glo_ok X G (d.fact 10 (f := .glo "grey") rfl)
    g_gap := He.glo_ok X G (d.fact 11 (f := .glo "gap") rfl)
    g_nearest := He.glo_ok X G (d.fact 12 (f := .glo "nearest") rfl)
    g__law_deck := He.glo_ok X G (d.fact 13 (f := .glo "_law_deck") rfl)
    g__law_take := He.glo_ok X G (d.fact 14 (f := .glo "_law_take") rfl)
    g__law_plain := He.glo_ok X G (d.fact 15 (f := .glo "_law_plain") rfl)
    g__law_colour := He.glo_ok X G (d.fact 16 (f := .glo "_law_colour") rfl)
    g__law_why := He.glo_ok X G (d.fact 17 (f := .glo "_law_why") rfl)
    g__law_parted := He.glo_ok X G (d.fact 18 (f := .glo "_law_parted") rfl)
    g_law := He.glo_ok X G (d.fact 19 (f := .glo "law") rfl)
    n_abs := He.free_ok X G (d.fact 20 (f := .free "abs") rfl)
    n_any := He.free_ok X G (d.fact 21 (f := .free "any") rfl)
    n_bool := He.free_ok X G (d.fact 22 (f := .free "bool") rfl)
    n_int := He.free_ok X G (d.fact 23 (f := .free "int") rfl)
    n_isinstance := He.free_ok X G (d.fact 24 (f := .free "isinstance") rfl)
    n_len := He.free_ok X G (d.fact 25 (f := .free "len") rfl)
    n_list := He.free_ok X G (d.fact 26 (f := .free "list") rfl)
    n_max := He.free_ok X G (d.fact 27 (f := .free "max") rfl)
    n_min := He.free_ok X G (d.fact 28 (f := .free "min") rfl)
    n_range := He.free_ok X G (d.fact 29 (f := .free "range") rfl)
    n_str := He.free_ok X G (d.fact 30 (f := .free "str") rfl)
    n_sum := He.free_ok X G (d.fact 31 (f := .free "sum") rfl)
    n_tuple := He.free_ok X G (d.fact 32 (f := .free "tuple") rfl)
    n_zip := He.free_ok X G (d.fact 33 (f := .free "zip") rfl)
    i_FULL := He.int_ok X G (d.fact 34 (f := .int "FULL" 255) rfl)
    d_InvalidLength := d.def_ 0 (d := h_InvalidLength) rfl
    d_InvalidItems := d.def_ 1 (d := h_InvalidItems) rfl
    d_InvalidRun := d.def_ 2 (d := h_InvalidRun) rfl
    d_InvalidColour := d.def_ 3 (d := h_InvalidColour) rfl
    d_TooMany := d.def_ 4 (d := h_TooMany) rfl
    d_check_values := d.def_ 5 (d := h_check_values) rfl
    d_separated := d.def_ 6 (d := h_separated) rfl
    d_shown := d.def_ 7 (d := h_shown) rfl
    d_total_ink := d.def_ 8 (d := h_total_ink) rfl
    d_grey := d.def_ 9 (d := h_grey) rfl
    d_gap := d.def_ 10 (d := h_gap) rfl
    d_nearest := d.def_ 11 (d := h_nearest) rfl
    d__law_deck := d.def_ 12 (d := h__law_deck) rfl
    d__law_take := d.def_ 13 (d := h__law_take) rfl
    d__law_plain := d.def_ 14 (d := h__law_plain) rfl
    d__law_colour := d.def_ 15 (d := h__law_colour) rfl
    d__law_why := d.def_ 16 (d := h__law_why) rfl
    d__law_parted := d.def_ 17 (d := h__law_parted) rfl
    d_law := d.def_ 18 (d := h_law) rfl
    errs := errTabB_ok e.1
    pin := pinitB_ok e.2 }
/-- all but the plain law -/
theorem holds_of (plain : ∀ ns : List Int, ns.length ≤ 63 → m_law [.d (.fz ns)] = .ret (.bl true) none) : PySem.Challenge.rw_presswork_k44_separations.Holds := by
  w_on; o_law
  refine HandSHeadRun.head_any (r := PySem.W.OpenLaw.row PySem.Challenge.rw_presswork_k44_separations) (q := PySem.W.view (PySem.W.OpenLaw.row PySem.Challenge.rw_presswork_k44_separations).prog [24]) (H := hk) (ob := ob) (M := 4000) (loose := loose) (d := HandSHeadRun.topDef (PySem.W.OpenLaw.row PySem.Challenge.rw_presswork_k44_separations).prog 24) (kwd := []) ob_eq
    (by kernel_rfl) (fun s => by kernel_rfl) run (by kernel_rfl) (by kernel_rfl) (by kernel_rfl) (by rfl) (by first | assumption | decide +kernel) (by decide +kernel) ⟨rfl, rfl, rfl, rfl, rfl, by decide +kernel⟩ ?hw ?hc
  case hw => w_witness2
  case hc =>
    refine L2.walk_ofE (l := PySem.Challenge.rw_presswork_k44_separations) (n := 63) (k := 44) (x := "script") (CX := CXA) rfl (by decide) (by kernel_rfl) ⟨rfl, by decide, by decide⟩ ?F ?X
    case X => exact fun H s e z h => cxa_none H s e z h
    intro w mg fa h Y G hmg0
    obtain ⟨K, KX, c⟩ := Y
    have hmg : mg ("law" : PySem.Str) = some (.ref fa) := by
      have e : (HandSHeadRun.topDef (PySem.W.OpenLaw.row PySem.Challenge.rw_presswork_k44_separations).prog 24).name = ("law" : PySem.Str) := by kernel_rfl
      rw [← e]
      exact hmg0
    have T := facts KX G c
    have e := hmg.symm.trans T.g_law
    cases e
    obtain ⟨fd, hb, hF⟩ := ok_law (P := (PySem.Challenge.rw_presswork_k44_separations).prog) (w := w) T
    exact ⟨K, fd, spOf K (He.ga K) m_law, KX, hb, fun H a ns hl _ hS => law_sp hS (plain ns hl), fun base _ _ => fn_cxa (hF base)⟩
end K44

namespace K44
open PySem L2 Pd
theorem seq_nx {a b : DS} {ρ ρ1 : Pd.Env} (h : a ρ = .nx ρ1) : sSeq a b ρ = b ρ1 := by rw [sSeq_s, h]
/-! ### a colour -/
theorem one_ok (ds : List Int) (x1 : Pd.Slot) (i : Int) (h1 : lcS x1 = true) : ∃ (a : Int) (ds' : List Int), lcStep (.n 1) [1] dYes (lcOne (dOp fIx (oE (dFz (dLst (asCons (dCall cm_take (osCons (oVar 0) (osCons (oE (dC (.int 256))) osNil))) (asCons (dC (.int 0)) (asCons (dC (.int 255)) asNil)))))) (oE (dCall cm_take (osCons (oVar 0) (osCons (oE (dC (.int 3))) osNil)))))) (.int i) [.own true (.l (ds.map .int)), x1] = .ok [.int a] [.own true (.l (ds'.map .int)), x1] ∧ 0 ≤ a ∧ a ≤ 255 := by
  obtain ⟨v1, d1, t1, n1, l1⟩ := take_ex ds 256 (by decide)
  obtain ⟨v2, d2, t2, n2, l2⟩ := take_ex d1 3 (by decide)
  obtain ⟨r, hr, hc⟩ := fIx3 (.int v1) (.int 0) (.int 255) v2 n2 l2
  have hx : ∃ a : Int, r = .int a ∧ 0 ≤ a ∧ a ≤ 255 := by
    rcases hc with rfl | rfl | rfl
    · exact ⟨_, rfl, n1, by omega⟩
    · exact ⟨_, rfl, by decide, by decide⟩
    · exact ⟨_, rfl, by decide, by decide⟩
  obtain ⟨a, rfl, g1, g2⟩ := hx
  refine ⟨a, d2, ?_, g1, g2⟩
  simp [h1, t1, t2, hr]
/-- three and four values -/
abbrev c3 (l : Bool) (a b c : Int) : Pd.D := .sq l [.int a, .int b, .int c]
abbrev c4 (l : Bool) (a b c k : Int) : Pd.D := .sq l [.int a, .int b, .int c, .int k]
structure Col (a b c : Int) : Prop where
  a : 0 ≤ a ∧ a ≤ 255
  b : 0 ≤ b ∧ b ≤ 255
  c : 0 ≤ c ∧ c ≤ 255
theorem colour_ok (ds : List Int) : ∃ (a b c : Int) (ds' : List Int), m__law_colour [.o (.l (ds.map .int))] = .ret (c3 false a b c) (some (.l (ds'.map .int))) ∧ Col a b c := by
  obtain ⟨a, d1, e1, a1, a2⟩ := one_ok ds .unk 0 rfl
  obtain ⟨b, d2, e2, b1, b2⟩ := one_ok d1 .unk 1 rfl
  obtain ⟨c, d3, e3, c1, c2⟩ := one_ok d2 .unk 2 rfl
  refine ⟨a, b, c, d3, ?_, ⟨a1, a2⟩, ⟨b1, b2⟩, c1, c2⟩
  have hr : rng1 [.int 3] = some [.int 0, .int 1, .int 2] := rfl
  have hs : ∀ x y z : Pd.D, fTupleOf (.sq true [x, y, z]) = some (.sq false [x, y, z]) := fun _ _ _ => rfl
  have hm : 3 ≤ MX := by decide
  have hg : genL (lcStep (.n 1) [1] dYes (lcOne (dOp fIx (oE (dFz (dLst (asCons (dCall cm_take (osCons (oVar 0) (osCons (oE (dC (.int 256))) osNil))) (asCons (dC (.int 0)) (asCons (dC (.int 255)) asNil)))))) (oE (dCall cm_take (osCons (oVar 0) (osCons (oE (dC (.int 3))) osNil))))))) [.int 0, .int 1, .int 2] [.own true (.l (ds.map .int)), .unk] = .ok [.int a, .int b, .int c] [.own true (.l (d3.map .int)), .unk] := by
    rw [genL_cons, e1, bind_ok', genL_cons, e2, bind_ok', genL_cons, e3]
    rfl
  simp [m__law_colour, fnRun, t__law_colour, env0, hr, hs, hm, hg]
/-! ### the checks -/
theorem bad_step (v : Int) (x : Pd.D) (m : Pd.Slot) (h : 0 ≤ v ∧ v ≤ 255) : lcStep (.n 2) [2] dYes (lcOne (dNotV (dChain fLe fLe (oE (dC (.int 0))) (oVar 2) (oE (dC (.int 255)))))) (.int v) [.val x, m, .unk] = .ok [.bl false] [.val x, m, .unk] := by
  simp [h.1, h.2]
theorem check4 (l : Bool) {a b c k : Int} (I : Col a b c) (hk : 0 ≤ k ∧ k ≤ 255) : m_check_values [.d (c4 l a b c k), .d (.int 4)] = .ret .non none := by
  have hg : genL (lcStep (.n 2) [2] dYes (lcOne (dNotV (dChain fLe fLe (oE (dC (.int 0))) (oVar 2) (oE (dC (.int 255))))))) [.int a, .int b, .int c, .int k] [.val (c4 l a b c k), .val (.int 4), .unk] = .ok [.bl false, .bl false, .bl false, .bl false] [.val (c4 l a b c k), .val (.int 4), .unk] := by
    rw [genL_cons, bad_step a _ _ I.a, bind_ok', genL_cons, bad_step b _ _ I.b, bind_ok', genL_cons, bad_step c _ _ I.c, bind_ok', genL_cons, bad_step k _ _ hk]
    rfl
  have hm : 4 ≤ MX := by decide
  have hy : fAny (.sq true [.bl false, .bl false, .bl false, .bl false]) = some (.bl false) := rfl
  simp [m_check_values, fnRun, t_check_values, env0, hg, hm, hy, fTru]
theorem check3 (l : Bool) {a b c : Int} (I : Col a b c) : m_check_values [.d (c3 l a b c), .d (.int 3)] = .ret .non none := by
  have hg : genL (lcStep (.n 2) [2] dYes (lcOne (dNotV (dChain fLe fLe (oE (dC (.int 0))) (oVar 2) (oE (dC (.int 255))))))) [.int a, .int b, .int c] [.val (c3 l a b c), .val (.int 3), .unk] = .ok [.bl false, .bl false, .bl false] [.val (c3 l a b c), .val (.int 3), .unk] := by
    rw [genL_cons, bad_step a _ _ I.a, bind_ok', genL_cons, bad_step b _ _ I.b, bind_ok', genL_cons, bad_step c _ _ I.c]
    rfl
  have hm : 3 ≤ MX := by decide
  have hy : fAny (.sq true [.bl false, .bl false, .bl false]) = some (.bl false) := rfl
  simp [m_check_values, fnRun, t_check_values, env0, hg, hm, hy, fTru]
theorem bigs {x : Int} (h1 : -100000 ≤ x) (h2 : x ≤ 100000) : bigW x = true := bigW_of (n := 20) (by omega) (by decide)
/-! ### separated -/
def mn3 (a b c : Int) : Int := min (min (255 - a) (255 - b)) (255 - c)
def blk (a b c p : Int) : Int := mn3 a b c * p / 100
theorem mn3_b {a b c : Int} (I : Col a b c) : 0 ≤ mn3 a b c ∧ mn3 a b c ≤ 255 - a ∧ mn3 a b c ≤ 255 - b ∧ mn3 a b c ≤ 255 - c := by
  have h1 := I.a
  have h2 := I.b
  have h3 := I.c
  unfold mn3
  omega
theorem blk_b {a b c p : Int} (I : Col a b c) (hp : 0 ≤ p ∧ p ≤ 100) : 0 ≤ blk a b c p ∧ blk a b c p ≤ mn3 a b c := by
  obtain ⟨m0, m1, m2, m3⟩ := mn3_b I
  unfold blk
  refine ⟨Int.ediv_nonneg (Int.mul_nonneg m0 hp.1) (by decide), ?_⟩
  refine Int.ediv_le_of_le_mul (by decide) ?_
  exact Int.mul_le_mul_of_nonneg_left hp.2 m0
theorem min3 (x y z : Int) : fMin [.sq true [.int x, .int y, .int z]] = some (.int (min (min x y) z)) := rfl
theorem inv_ok {a : Int} {x0 x1 x2 x3 x4 : Pd.Slot} (xs : List Pd.Slot) (h : lcS x4 = true) : lcStep (.n 4) [4] dYes (lcOne (dOp fSub (oE (dC (.int 255))) (oVar 4))) (.int a) (x0 :: x1 :: x2 :: x3 :: x4 :: xs) = .ok [.int (255 - a)] (x0 :: x1 :: x2 :: x3 :: x4 :: xs) := by
  simp [h]
theorem sub_ok {a k : Int} {x0 x1 x2 x4 x5 : Pd.Slot} (h : lcS x5 = true) : lcStep (.n 5) [5] dYes (lcOne (dOp fSub (oVar 5) (oVar 3))) (.int a) [x0, x1, x2, .val (.int k), x4, x5] = .ok [.int (a - k)] [x0, x1, x2, .val (.int k), x4, x5] := by
  simp [h]
abbrev sep (l : Bool) (a b c p : Int) : Pd.D := c4 l (255 - a - blk a b c p) (255 - b - blk a b c p) (255 - c - blk a b c p) (blk a b c p)
theorem fdiv100 (x : Int) (h : -100000 ≤ x ∧ x ≤ 100000) : fFdiv (.int x) (.int 100) = some (.int (x / 100)) := fFdiv_s (by decide) (by omega)
theorem sep_ok (l : Bool) {a b c p : Int} (I : Col a b c) (hp : 0 ≤ p ∧ p ≤ 100) : m_separated [.d (c3 l a b c), .d (.int p)] = .ret (sep false a b c p) none := by
  have mb := mn3_b I
  have bb := blk_b I hp
  have hI := I.a
  have q1 : genL (lcStep (.n 4) [4] dYes (lcOne (dOp fSub (oE (dC (.int 255))) (oVar 4)))) [.int a, .int b, .int c] [.val (c3 l a b c), .val (.int p), .unk, .unk, .unk, .unk] = .ok [.int (255 - a), .int (255 - b), .int (255 - c)] [.val (c3 l a b c), .val (.int p), .unk, .unk, .unk, .unk] := by
    rw [genL_cons, inv_ok _ rfl, bind_ok', genL_cons, inv_ok _ rfl, bind_ok', genL_cons, inv_ok _ rfl]
    rfl
  have q2 : genL (lcStep (.n 5) [5] dYes (lcOne (dOp fSub (oVar 5) (oVar 3)))) [.int (255 - a), .int (255 - b), .int (255 - c)] [.val (c3 l a b c), .val (.int p), .val (.sq true [.int (255 - a), .int (255 - b), .int (255 - c)]), .val (.int (blk a b c p)), .unk, .unk] = .ok [.int (255 - a - blk a b c p), .int (255 - b - blk a b c p), .int (255 - c - blk a b c p)] [.val (c3 l a b c), .val (.int p), .val (.sq true [.int (255 - a), .int (255 - b), .int (255 - c)]), .val (.int (blk a b c p)), .unk, .unk] := by
    rw [genL_cons, sub_ok rfl, bind_ok', genL_cons, sub_ok rfl, bind_ok', genL_cons, sub_ok rfl]
    rfl
  have b1 : bigW (mn3 a b c) = true := bigs (by omega) (by omega)
  have b2 : bigW p = true := bigs (by omega) (by omega)
  have hm : 3 ≤ MX := by decide
  have m3 : fMin [.sq true [.int (255 - a), .int (255 - b), .int (255 - c)]] = some (.int (mn3 a b c)) := rfl
  have dv : fFdiv (.int (mn3 a b c * p)) (.int 100) = some (.int (blk a b c p)) := by
    have h1 : 0 ≤ mn3 a b c * p := Int.mul_nonneg mb.1 hp.1
    have h2 : mn3 a b c * p ≤ 255 * 100 := Int.mul_le_mul (by omega) hp.2 hp.1 (by decide)
    exact fdiv100 _ (by omega)
  have ad : ∀ x y z w : Pd.D, fAdd (.sq true [x, y, z]) (.sq true [w]) = some (.sq true [x, y, z, w]) := fun _ _ _ _ => rfl
  have tu : ∀ ds : List Pd.D, fTupleOf (.sq true ds) = some (.sq false ds) := fun _ => rfl
  have mu := fMul_i b1 b2
  simp [m_separated, fnRun, t_separated, env0, check3 l I, hp.1, hp.2, q1, hm, m3, mu, dv, q2, ad, tu]
theorem part_ok {a b c p : Int} (I : Col a b c) (hp : 0 ≤ p ∧ p ≤ 100) : m__law_parted [.d (c3 false a b c), .d (.int p)] = .ret (sep false a b c p) none := by
  have mb := mn3_b I
  have hI := I.a
  have q1 : genL (lcStep (.n 4) [4] dYes (lcOne (dOp fSub (oE (dC (.int 255))) (oVar 4)))) [.int a, .int b, .int c] [.val (c3 false a b c), .val (.int p), .unk, .unk, .unk] = .ok [.int (255 - a), .int (255 - b), .int (255 - c)] [.val (c3 false a b c), .val (.int p), .unk, .unk, .unk] := by
    rw [genL_cons, inv_ok _ rfl, bind_ok', genL_cons, inv_ok _ rfl, bind_ok', genL_cons, inv_ok _ rfl]
    rfl
  have b1 : bigW (mn3 a b c) = true := bigs (by omega) (by omega)
  have b2 : bigW p = true := bigs (by omega) (by omega)
  have hm : 3 ≤ MX := by decide
  have m3 : fMin [.sq true [.int (255 - a), .int (255 - b), .int (255 - c)]] = some (.int (mn3 a b c)) := rfl
  have dv : fFdiv (.int (mn3 a b c * p)) (.int 100) = some (.int (blk a b c p)) := by
    have h1 : 0 ≤ mn3 a b c * p := Int.mul_nonneg mb.1 hp.1
    have h2 : mn3 a b c * p ≤ 255 * 100 := Int.mul_le_mul (by omega) hp.2 hp.1 (by decide)
    exact fdiv100 _ (by omega)
  have x0 : ∀ x y z : Pd.D, fIx (.sq true [x, y, z]) (.int 0) = some x := fun _ _ _ => rfl
  have x1 : ∀ x y z : Pd.D, fIx (.sq true [x, y, z]) (.int 1) = some y := fun _ _ _ => rfl
  have x2 : ∀ x y z : Pd.D, fIx (.sq true [x, y, z]) (.int 2) = some z := fun _ _ _ => rfl
  have mu := fMul_i b1 b2
  simp [m__law_parted, fnRun, t__law_parted, env0, q1, hm, m3, mu, dv, x0, x1, x2]
theorem sep_col {a b c p : Int} (I : Col a b c) (hp : 0 ≤ p ∧ p ≤ 100) : Col (255 - a - blk a b c p) (255 - b - blk a b c p) (255 - c - blk a b c p) ∧ 0 ≤ blk a b c p ∧ blk a b c p ≤ 255 := by
  obtain ⟨m0, m1, m2, m3⟩ := mn3_b I
  obtain ⟨h1, h2⟩ := blk_b I hp
  have q1 := I.a
  have q2 := I.b
  have q3 := I.c
  exact ⟨⟨by omega, by omega, by omega⟩, by omega, by omega⟩
/-! ### shown -/
def sh (a k : Int) : Int := 255 - (if a + k < 255 then a + k else 255)
theorem sh_step {l : Bool} {a b c k v : Int} : lcStep (.n 1) [1] dYes (lcOne (dOp fSub (oE (dC (.int 255))) (oE (dOpN fMin (osCons (oE (dC (.int 255))) (osCons (oE (dOp fAdd (oVar 1) (oE (dOp fIx (oVar 0) (oE (dC (.int 3))))))) osNil)))))) (.int v) [.val (c4 l a b c k), .unk] = .ok [.int (sh v k)] [.val (c4 l a b c k), .unk] := by
  have e : fIx (c4 l a b c k) (.int 3) = some (.int k) := rfl
  have mn : ∀ i j : Int, fMin [.int i, .int j] = some (.int (if j < i then j else i)) := fun _ _ => rfl
  simp [e, mn, sh]
theorem shown_ok (l : Bool) {a b c k : Int} (I : Col a b c) (hk : 0 ≤ k ∧ k ≤ 255) : m_shown [.d (c4 l a b c k)] = .ret (c3 false (sh a k) (sh b k) (sh c k)) none := by
  have q : genL (lcStep (.n 1) [1] dYes (lcOne (dOp fSub (oE (dC (.int 255))) (oE (dOpN fMin (osCons (oE (dC (.int 255))) (osCons (oE (dOp fAdd (oVar 1) (oE (dOp fIx (oVar 0) (oE (dC (.int 3))))))) osNil))))))) [.int a, .int b, .int c] [.val (c4 l a b c k), .unk] = .ok [.int (sh a k), .int (sh b k), .int (sh c k)] [.val (c4 l a b c k), .unk] := by
    rw [genL_cons, sh_step, bind_ok', genL_cons, sh_step, bind_ok', genL_cons, sh_step]
    rfl
  have hm : 3 ≤ MX := by decide
  have ct : cutD [.int a, .int b, .int c, .int k] none (some 3) = [Pd.D.int a, .int b, .int c] := rfl
  have tu : ∀ ds : List Pd.D, fTupleOf (.sq true ds) = some (.sq false ds) := fun _ => rfl
  simp [m_shown, fnRun, t_shown, env0, check4 l I hk, ct, q, hm, tu]
theorem sum4 (l : Bool) (a b c k : Int) : fSum (c4 l a b c k) = some (.int (a + b + c + k)) := by
  have : [a, b, c, k].sum = a + b + c + k := by simp; omega
  show (intsOf [.int a, .int b, .int c, .int k]).map (fun ns => Pd.D.int ns.sum) = _
  have e : intsOf [.int a, .int b, .int c, .int k] = some [a, b, c, k] := rfl
  rw [e, Option.map_some, this]
theorem total_ok (l : Bool) {a b c k : Int} (I : Col a b c) (hk : 0 ≤ k ∧ k ≤ 255) : m_total_ink [.d (c4 l a b c k)] = .ret (.int (a + b + c + k)) none := by
  simp [m_total_ink, fnRun, t_total_ink, env0, check4 l I hk, sum4]
/-! ### grey -/
def gr (a b c : Int) : Int := (30 * a + 59 * b + 11 * c) / 100
theorem grey_ok (l : Bool) {a b c : Int} (I : Col a b c) : m_grey [.d (c3 l a b c)] = .ret (.int (gr a b c)) none := by
  have h1 := I.a
  have h2 := I.b
  have h3 := I.c
  have x0 : fIx (c3 l a b c) (.int 0) = some (.int a) := rfl
  have x1 : fIx (c3 l a b c) (.int 1) = some (.int b) := rfl
  have x2 : fIx (c3 l a b c) (.int 2) = some (.int c) := rfl
  have m1 := fMul_i (i := 30) (j := a) (by decide) (bigs (by omega) (by omega))
  have m2 := fMul_i (i := 59) (j := b) (by decide) (bigs (by omega) (by omega))
  have m3 := fMul_i (i := 11) (j := c) (by decide) (bigs (by omega) (by omega))
  have dv := fdiv100 (30 * a + 59 * b + 11 * c) (by omega)
  simp [m_grey, fnRun, t_grey, env0, check3 l I, x0, x1, x2, m1, m2, m3, dv, gr]
/-! ### gaps -/
def gp (a b c x y z : Int) : Int := (a - x) * (a - x) + (b - y) * (b - y) + (c - z) * (c - z)
theorem sq_b {x y : Int} (h : 0 ≤ x ∧ x ≤ 255) (k : 0 ≤ y ∧ y ≤ 255) : bigW (x - y) = true := bigs (by omega) (by omega)
theorem gap_step {x0 x1 : Pd.Slot} {x y : Int} (h : 0 ≤ x ∧ x ≤ 255) (k : 0 ≤ y ∧ y ≤ 255) : lcStep (.t [(.n 2), (.n 3)]) [2, 3] dYes (lcOne (dOp fMul (oE (dOp fSub (oVar 2) (oVar 3))) (oE (dOp fSub (oVar 2) (oVar 3))))) (.sq false [.int x, .int y]) [x0, x1, .unk, .unk] = .ok [.int ((x - y) * (x - y))] [x0, x1, .unk, .unk] := by
  have b := sq_b h k
  simp [fMul_i b b]
theorem gap_ok {a b c x y z : Int} (I : Col a b c) (J : Col x y z) : m_gap [.d (c3 false a b c), .d (c3 false x y z)] = .ret (.int (gp a b c x y z)) none := by
  have hz : zipL [c3 false a b c, c3 false x y z] = some [.sq false [.int a, .int x], .sq false [.int b, .int y], .sq false [.int c, .int z]] := rfl
  have q : genL (lcStep (.t [(.n 2), (.n 3)]) [2, 3] dYes (lcOne (dOp fMul (oE (dOp fSub (oVar 2) (oVar 3))) (oE (dOp fSub (oVar 2) (oVar 3)))))) [.sq false [.int a, .int x], .sq false [.int b, .int y], .sq false [.int c, .int z]] [.val (c3 false a b c), .val (c3 false x y z), .unk, .unk] = .ok [.int ((a - x) * (a - x)), .int ((b - y) * (b - y)), .int ((c - z) * (c - z))] [.val (c3 false a b c), .val (c3 false x y z), .unk, .unk] := by
    rw [genL_cons, gap_step I.a J.a, bind_ok', genL_cons, gap_step I.b J.b, bind_ok', genL_cons, gap_step I.c J.c]
    rfl
  have hm : 3 ≤ MX := by decide
  have s3 : ∀ x y z : Int, fSum (c3 true x y z) = some (.int (x + y + z)) := fun x y z => by
    have : [x, y, z].sum = x + y + z := by simp; omega
    show (intsOf [.int x, .int y, .int z]).map (fun ns => Pd.D.int ns.sum) = _
    have e : intsOf [.int x, .int y, .int z] = some [x, y, z] := rfl
    rw [e, Option.map_some, this]
  simp [m_gap, fnRun, t_gap, env0, check3 false I, check3 false J, hz, q, hm, s3, gp]
/-! ### palettes -/
abbrev P3 := Int × Int × Int
abbrev cD (p : P3) : Pd.D := c3 false p.1 p.2.1 p.2.2
abbrev ColP (p : P3) : Prop := Col p.1 p.2.1 p.2.2
theorem genL_own {α : Type} {step : Pd.D → Pd.Env → Res (List Pd.D)} {ρ : Pd.Env} {f g : α → Pd.D} : ∀ (ps : List α), (∀ p ∈ ps, step (f p) ρ = .ok [g p] ρ) → genL step (ps.map f) ρ = .ok (ps.map g) ρ
  | [], _ => rfl
  | p :: ps, h => by
    rw [List.map_cons, genL_cons, h p List.mem_cons_self, bind_ok', genL_own ps fun q hq => h q (List.mem_cons_of_mem _ hq)]
    rfl
theorem gp_symm (a b c x y z : Int) : gp x y z a b c = gp a b c x y z := by
  have h : ∀ u v : Int, (u - v) * (u - v) = (v - u) * (v - u) := fun u v => by
    rw [← Int.neg_mul_neg, Int.neg_sub]
  unfold gp
  rw [h x a, h y b, h z c]
theorem idx_ok (m : Int) : ∀ (ns : List Int), m ∈ ns → ∃ j : Nat, idxD (.int m) (ns.map Pd.D.int) = some j
  | n :: ns, h => by
    rw [List.map_cons, idxD]
    by_cases e : eqF (Pd.D.int n) (.int m) = true
    · exact ⟨0, by rw [if_pos e]⟩
    · rw [if_neg e]
      have hne : n ≠ m := fun z => e (by rw [z]; show (m == m) = true; simp)
      obtain ⟨j, hj⟩ := idx_ok m ns ((List.mem_cons.mp h).resolve_left fun z => hne z.symm)
      exact ⟨j + 1, by rw [hj]; rfl⟩
/-- the least gap and where it stands -/
theorem least_ok (n : Int) (ns : List Int) : ∃ m j : Int, fMin [.sq true ((n :: ns).map Pd.D.int)] = some (.int m) ∧ fIndex (.sq true ((n :: ns).map Pd.D.int)) (.int m) = some (.int j) := by
  have hm : ns.foldl min n ∈ n :: ns := by
    rcases (foldl_min_le ns n).2.2 with e | e
    · rw [e]; exact List.mem_cons_self
    · exact List.mem_cons_of_mem _ e
  obtain ⟨j, hj⟩ := idx_ok _ _ hm
  refine ⟨ns.foldl min n, (j : Int), ?_, ?_⟩
  · show (intsOf ((n :: ns).map Pd.D.int)).bind _ = _
    rw [intsOf_map]
    rfl
  · have hf : flatD (Pd.D.int (ns.foldl min n)) = true ∧ ((n :: ns).map Pd.D.int).all flatD = true := ⟨rfl, by simp [flatD]⟩
    show (if flatD (Pd.D.int (ns.foldl min n)) = true ∧ ((n :: ns).map Pd.D.int).all flatD = true then _ else none) = _
    rw [if_pos hf, hj]
    rfl
abbrev gpP (a b c : Int) (p : P3) : Int := gp a b c p.1 p.2.1 p.2.2
theorem near_step {a b c : Int} (I : Col a b c) (x1 : Pd.D) (p : P3) (J : ColP p) : lcStepX (.n 3) [3] dYes (dCall m_gap (osCons (oE (dVar 0)) (osCons (oE (dVar 3)) osNil))) (cD p) [.val (c3 false a b c), .val x1, .unk, .unk] = .ok [.int (gpP a b c p)] [.val (c3 false a b c), .val x1, .unk, .unk] := by
  simp [gap_ok I J]
theorem nearest_ok {a b c : Int} (I : Col a b c) (p : P3) (ps : List P3) (J : ∀ q ∈ p :: ps, ColP q) (hl : (p :: ps).length ≤ MX) {m j : Int} (hm : fMin [.sq true ((p :: ps).map fun q => Pd.D.int (gpP a b c q))] = some (.int m)) (hj : fIndex (.sq true ((p :: ps).map fun q => Pd.D.int (gpP a b c q))) (.int m) = some (.int j)) :
    m_nearest [.d (c3 false a b c), .d (.sq true ((p :: ps).map cD))] = .ret (.int j) none := by
  have q := genL_own (f := cD) (g := fun q => Pd.D.int (gpP a b c q)) (p :: ps) fun q hq => near_step I (.sq true ((p :: ps).map cD)) q (J q hq)
  have ht : fTru (.sq true ((p :: ps).map cD)) = some true := rfl
  have hl' : ((p :: ps).map cD).length ≤ MX := by rw [List.length_map]; exact hl
  have hix : ∀ (x y z : Pd.D), dIndex (oVar 2) (dOpN fMin (osCons (oVar 2) osNil)) [.val x, .val y, .val (.sq true ((p :: ps).map fun q => Pd.D.int (gpP a b c q))), .unk] = .ok (.int j) [.val x, .val y, .val (.sq true ((p :: ps).map fun q => Pd.D.int (gpP a b c q))), .unk] := fun x y z => by
    unfold dIndex
    generalize (p :: ps).map (fun q => Pd.D.int (gpP a b c q)) = gs at hm hj
    simp [hm, hj]
  generalize (p :: ps).map cD = cs at *
  generalize hgs : (p :: ps).map (fun q => Pd.D.int (gpP a b c q)) = gs at *
  simp [m_nearest, fnRun, t_nearest, env0, check3 false I, ht, q, hl', hix _ _ (.int 0)]
/-! ### refusals -/
abbrev vals : Pd.Out := .exc "InvalidColour" (.str "values") none
theorem ra1 (ρ : Pd.Env) : sRaise "InvalidColour" (dC (.str "percent")) ρ = .exc "InvalidColour" (.str "percent") ρ := rfl
theorem ra2 (ρ : Pd.Env) : sRaise "InvalidColour" (dC (.str "palette")) ρ = .exc "InvalidColour" (.str "palette") ρ := rfl
structure Bad (r : Pd.D) (n : Int) : Prop where
  out : m_check_values [.d r, .d (.int n)] = vals
abbrev b1 : Pd.D := .sq false [.int 1, .int 2]
abbrev b2 : Pd.D := .sq false [.int 1, .int 2, .int 3, .int 4]
abbrev b3 : Pd.D := .sq false [.int 1, .int 2, .int 256]
abbrev b4 : Pd.D := .sq false [.int (-1), .int 2, .int 3]
abbrev b5 : Pd.D := .sq false []
abbrev w1 : Pd.D := .sq false [.int 1, .int 2, .int 3]
abbrev w2 : Pd.D := .sq false [.int 1, .int 2, .int 3, .int 4, .int 5]
abbrev w3 : Pd.D := .sq false [.int 0, .int 0, .int 0, .int 256]
abbrev w4 : Pd.D := .sq false [.int 0, .int (-1), .int 0, .int 0]
theorem bad1 : Bad b1 3 := ⟨by rfl⟩
theorem bad2 : Bad b2 3 := ⟨by rfl⟩
theorem bad3 : Bad b3 3 := ⟨by rfl⟩
theorem bad4 : Bad b4 3 := ⟨by rfl⟩
theorem bad5 : Bad b5 3 := ⟨by rfl⟩
theorem wor1 : Bad w1 4 := ⟨by rfl⟩
theorem wor2 : Bad w2 4 := ⟨by rfl⟩
theorem wor3 : Bad w3 4 := ⟨by rfl⟩
theorem wor4 : Bad w4 4 := ⟨by rfl⟩
def bodyW : DS := (sIf (dTest (dOp fEq (oVar 0) (oE (dC (.int 0))))) (sDrop (dCall m_separated (osCons (oE (dVar 1)) (osCons (oE (dVar 2)) osNil)))) (sIf (dTest (dOp fEq (oVar 0) (oE (dC (.int 1))))) (sDrop (dCall m_shown (osCons (oE (dVar 1)) osNil))) (sIf (dTest (dOp fEq (oVar 0) (oE (dC (.int 2))))) (sDrop (dCall m_total_ink (osCons (oE (dVar 1)) osNil))) (sIf (dTest (dOp fEq (oVar 0) (oE (dC (.int 3))))) (sDrop (dCall m_grey (osCons (oE (dVar 1)) osNil))) (sIf (dTest (dOp fEq (oVar 0) (oE (dC (.int 4))))) (sDrop (dCall m_gap (osCons (oE (dVar 1)) (osCons (oE (dVar 2)) osNil)))) (sDrop (dCall m_nearest (osCons (oE (dVar 1)) (osCons (oE (dVar 2)) osNil)))))))))
theorem why_of {k one two : Pd.D} {w : Str} (h : bodyW [.val k, .val one, .val two, .unk] = .exc "InvalidColour" (.str w) [.val k, .val one, .val two, .unk]) : m__law_why [.d k, .d one, .d two] = .ret (.str w) none := by
  have e : sTry 3 errs "PressError" bodyW (fun ec ex => (sSeq (sIf (dAnd (dTru (oE (dIsE ec ["InvalidColour"]))) (dNot (dTru (oE (dIsE ec ["InvalidItems"]))))) (sRet (dXf ec ex "what")) sNext) sBad)) [.val k, .val one, .val two, .unk] = .ret (.str w) [.val k, .val one, .val two, .unk] := by
    unfold sTry
    rw [h]
    rfl
  show outOf none (sSeq (sTry 3 errs "PressError" bodyW (fun ec ex => (sSeq (sIf (dAnd (dTru (oE (dIsE ec ["InvalidColour"]))) (dNot (dTru (oE (dIsE ec ["InvalidItems"]))))) (sRet (dXf ec ex "what")) sNext) sBad))) (sRet (dC .non)) [.val k, .val one, .val two, .unk]) = _
  rw [sSeq_s, e]
  rfl
theorem why0 {r x : Pd.D} (h : Bad r 3) : m__law_why [.d (.int 0), .d r, .d x] = .ret (.str "values") none := why_of (by
  simp [bodyW, m_separated, fnRun, t_separated, env0, h.out])
theorem why0p (l : Bool) {a b c p : Int} (I : Col a b c) (hp : p = -1 ∨ p = 101) : m__law_why [.d (.int 0), .d (c3 l a b c), .d (.int p)] = .ret (.str "percent") none := why_of (by
  rcases hp with rfl | rfl <;> simp [bodyW, m_separated, fnRun, t_separated, env0, check3 l I, ra1])
theorem why1 {r x : Pd.D} (h : Bad r 4) : m__law_why [.d (.int 1), .d r, .d x] = .ret (.str "values") none := why_of (by
  simp [bodyW, m_shown, fnRun, t_shown, env0, h.out])
theorem why2 {r x : Pd.D} (h : Bad r 4) : m__law_why [.d (.int 2), .d r, .d x] = .ret (.str "values") none := why_of (by
  simp [bodyW, m_total_ink, fnRun, t_total_ink, env0, h.out])
theorem why3 {r x : Pd.D} (h : Bad r 3) : m__law_why [.d (.int 3), .d r, .d x] = .ret (.str "values") none := why_of (by
  simp [bodyW, m_grey, fnRun, t_grey, env0, h.out])
theorem gap_b1 {r x : Pd.D} (h : Bad r 3) : m_gap [.d r, .d x] = vals := by
  simp [m_gap, fnRun, t_gap, env0, h.out]
theorem gap_b2 {a b c : Int} {r : Pd.D} (I : Col a b c) (h : Bad r 3) : m_gap [.d (c3 false a b c), .d r] = vals := by
  simp [m_gap, fnRun, t_gap, env0, check3 false I, h.out]
theorem why4 {r x : Pd.D} (h : Bad r 3) : m__law_why [.d (.int 4), .d r, .d x] = .ret (.str "values") none := why_of (by
  simp [bodyW, gap_b1 h])
theorem why4c {a b c : Int} {r : Pd.D} (I : Col a b c) (h : Bad r 3) : m__law_why [.d (.int 4), .d (c3 false a b c), .d r] = .ret (.str "values") none := why_of (by
  simp [bodyW, gap_b2 I h])
theorem why5 {r x : Pd.D} (h : Bad r 3) : m__law_why [.d (.int 5), .d r, .d x] = .ret (.str "values") none := why_of (by
  simp [bodyW, m_nearest, fnRun, t_nearest, env0, h.out])
theorem why5e {a b c : Int} (I : Col a b c) : m__law_why [.d (.int 5), .d (c3 false a b c), .d (.sq true [])] = .ret (.str "palette") none := why_of (by
  simp [bodyW, m_nearest, fnRun, t_nearest, env0, check3 false I, fTru, ra2])
theorem why5b {a b c : Int} {r : Pd.D} (I : Col a b c) (h : Bad r 3) : m__law_why [.d (.int 5), .d (c3 false a b c), .d (.sq true [c3 false a b c, r])] = .ret (.str "values") none := why_of (by
  have hm : 2 ≤ MX := by decide
  have q : genL (lcStepX (.n 3) [3] dYes (dCall m_gap (osCons (oE (dVar 0)) (osCons (oE (dVar 3)) osNil)))) [c3 false a b c, r] [.val (c3 false a b c), .val (.sq true [c3 false a b c, r]), .unk, .unk] = .exc "InvalidColour" (.str "values") [.val (c3 false a b c), .val (.sq true [c3 false a b c, r]), .unk, .unk] := by
    rw [genL_cons, near_step I _ (a, b, c) I, bind_ok', genL_cons]
    simp [gap_b2 I h]
  simp [bodyW, m_nearest, fnRun, t_nearest, env0, check3 false I, fTru, hm, q])

/-! ### the law -/
theorem blk_mono {a b c p q : Int} (I : Col a b c) (h : p ≤ q) : blk a b c p ≤ blk a b c q :=
  Int.ediv_le_ediv (by decide) (Int.mul_le_mul_of_nonneg_left h (mn3_b I).1)
theorem sh_b {a k : Int} (ha : 0 ≤ a) (hk : 0 ≤ k) : 0 ≤ sh a k ∧ sh a k ≤ 255 := by
  unfold sh
  split <;> omega
theorem sh_sep {a k : Int} (ha : 0 ≤ a) : sh (255 - a - k) k = a := by
  unfold sh
  split <;> omega
theorem wa_sh (v k : Int) : (if k < 255 - v then 255 - v - k else 0) = sh v k := by
  unfold sh
  split <;> split <;> omega
theorem pl_c3 (l : Bool) (a b c : Int) : cm_plain 40 [.d (c3 l a b c)] = .ret (plainF (c3 l a b c)) none := plain_ok 40 _ (by simp [okPl]; decide)
theorem pl_c4 (l : Bool) (a b c k : Int) : cm_plain 40 [.d (c4 l a b c k)] = .ret (plainF (c4 l a b c k)) none := plain_ok 40 _ (by simp [okPl]; decide)
theorem ne_c3 (l : Bool) (a b c : Int) : fNe (c3 l a b c) (c3 l a b c) = some (.bl false) := fNe_refl (by simp [okE])
theorem nep_c3 (l : Bool) (a b c : Int) : fNe (plainF (c3 l a b c)) (plainF (c3 l a b c)) = some (.bl false) := fNe_refl (by simp [plainF, plainFs, okE])
theorem nep_c4 (l : Bool) (a b c k : Int) : fNe (plainF (c4 l a b c k)) (plainF (c4 l a b c k)) = some (.bl false) := fNe_refl (by simp [plainF, plainFs, okE])
theorem fIx5 (x0 x1 x2 x3 x4 : Pd.D) (i : Int) (h0 : 0 ≤ i) (h3 : i < 5) : ∃ r, fIx (.sq true [x0, x1, x2, x3, x4]) (.int i) = some r ∧ (r = x0 ∨ r = x1 ∨ r = x2 ∨ r = x3 ∨ r = x4) := by
  have : i = 0 ∨ i = 1 ∨ i = 2 ∨ i = 3 ∨ i = 4 := by omega
  rcases this with rfl | rfl | rfl | rfl | rfl
  · exact ⟨_, rfl, .inl rfl⟩
  · exact ⟨_, rfl, .inr (.inl rfl)⟩
  · exact ⟨_, rfl, .inr (.inr (.inl rfl))⟩
  · exact ⟨_, rfl, .inr (.inr (.inr (.inl rfl)))⟩
  · exact ⟨_, rfl, .inr (.inr (.inr (.inr rfl)))⟩
section
variable {x0 x2 x3 x4 x5 x6 x7 x8 x9 x10 x11 x12 x13 x14 x15 x16 x17 x18 x19 x20 : Pd.Slot}
theorem pal_ok : ∀ (its ds : List Int), ∃ (ps : List P3) (ds' : List Int), genL (lcStep (.n 17) [17] dYes (lcOne (dCall m__law_colour (osCons (oVar 1) osNil)))) (its.map .int) [x0, .own false (.l (ds.map .int)), x2, x3, x4, x5, x6, x7, x8, x9, x10, x11, x12, x13, x14, x15, x16, .unk, x18, x19, x20] = .ok (ps.map cD) [x0, .own false (.l (ds'.map .int)), x2, x3, x4, x5, x6, x7, x8, x9, x10, x11, x12, x13, x14, x15, x16, .unk, x18, x19, x20] ∧ ps.length = its.length ∧ ∀ p ∈ ps, ColP p
  | [], ds => ⟨[], ds, rfl, rfl, fun _ h => nomatch h⟩
  | i :: its, ds => by
    obtain ⟨a, b, c, d1, h, I⟩ := colour_ok ds
    obtain ⟨ps, d2, e, hl, hp⟩ := pal_ok its d1
    refine ⟨(a, b, c) :: ps, d2, ?_, by simp [hl], fun p hp' => ?_⟩
    · have st : lcStep (.n 17) [17] dYes (lcOne (dCall m__law_colour (osCons (oVar 1) osNil))) (.int i) [x0, .own false (.l (ds.map .int)), x2, x3, x4, x5, x6, x7, x8, x9, x10, x11, x12, x13, x14, x15, x16, .unk, x18, x19, x20] = .ok [c3 false a b c] [x0, .own false (.l (d1.map .int)), x2, x3, x4, x5, x6, x7, x8, x9, x10, x11, x12, x13, x14, x15, x16, .unk, x18, x19, x20] := by
        simp [h]
      rw [List.map_cons, genL_cons, st, bind_ok', e]
      rfl
    · rcases List.mem_cons.mp hp' with rfl | hp'
      · exact I
      · exact hp p hp'
theorem in_step {a b c x y z : Int} (I : Col a b c) (J : Col x y z) (i : Int) (u v : Int) (hu : fIx (c3 false a b c) (.int i) = some (.int u)) (hv : fIx (c3 false x y z) (.int i) = some (.int v)) (bu : 0 ≤ u ∧ u ≤ 255) (bv : 0 ≤ v ∧ v ≤ 255) : lcStep (.n 20) [20] dYes (lcOne (dOp fMul (oE (dOp fSub (oE (dOp fIx (oVar 2) (oVar 20))) (oE (dOp fIx (oVar 18) (oVar 20))))) (oE (dOp fSub (oE (dOp fIx (oVar 2) (oVar 20))) (oE (dOp fIx (oVar 18) (oVar 20))))))) (.int i) [x0, x9, .val (c3 false a b c), x3, x4, x5, x6, x7, x8, x2, x10, x11, x12, x13, x14, x15, x16, x17, .val (c3 false x y z), x19, .unk] = .ok [.int ((u - v) * (u - v))] [x0, x9, .val (c3 false a b c), x3, x4, x5, x6, x7, x8, x2, x10, x11, x12, x13, x14, x15, x16, x17, .val (c3 false x y z), x19, .unk] := by
  have b := sq_b bu bv
  simp [hu, hv, fMul_i b b]
theorem gaps_step {F : List Pd.D → Option Pd.D} (hF : ∀ x, F [x] = fSum x) {a b c : Int} (I : Col a b c) (p : P3) (J : ColP p) : lcStep (.n 18) [18] dYes (lcOne (dOpN F (osCons (oE (dFz (dLc [20] (iDs rng1 (asCons (dC (.int 3)) asNil)) (.n 20) dYes (dOp fMul (oE (dOp fSub (oE (dOp fIx (oVar 2) (oVar 20))) (oE (dOp fIx (oVar 18) (oVar 20))))) (oE (dOp fSub (oE (dOp fIx (oVar 2) (oVar 20))) (oE (dOp fIx (oVar 18) (oVar 20))))))))) osNil))) (cD p) [x0, x9, .val (c3 false a b c), x3, x4, x5, x6, x7, x8, x2, x10, x11, x12, x13, x14, x15, x16, x17, .unk, x19, .unk] = .ok [.int (gpP a b c p)] [x0, x9, .val (c3 false a b c), x3, x4, x5, x6, x7, x8, x2, x10, x11, x12, x13, x14, x15, x16, x17, .unk, x19, .unk] := by
  have hr : rng1 [.int 3] = some [.int 0, .int 1, .int 2] := rfl
  have hm : 3 ≤ MX := by decide
  obtain ⟨x, y, z⟩ := p
  have s3 : ∀ x y z : Int, fSum (c3 true x y z) = some (.int (x + y + z)) := fun x y z => by
    have : [x, y, z].sum = x + y + z := by simp; omega
    show (intsOf [.int x, .int y, .int z]).map (fun ns => Pd.D.int ns.sum) = _
    have e : intsOf [.int x, .int y, .int z] = some [x, y, z] := rfl
    rw [e, Option.map_some, this]
  have q : genL (lcStep (.n 20) [20] dYes (lcOne (dOp fMul (oE (dOp fSub (oE (dOp fIx (oVar 2) (oVar 20))) (oE (dOp fIx (oVar 18) (oVar 20))))) (oE (dOp fSub (oE (dOp fIx (oVar 2) (oVar 20))) (oE (dOp fIx (oVar 18) (oVar 20)))))))) [.int 0, .int 1, .int 2] [x0, x9, .val (c3 false a b c), x3, x4, x5, x6, x7, x8, x2, x10, x11, x12, x13, x14, x15, x16, x17, .val (c3 false x y z), x19, .unk] = .ok [.int ((a - x) * (a - x)), .int ((b - y) * (b - y)), .int ((c - z) * (c - z))] [x0, x9, .val (c3 false a b c), x3, x4, x5, x6, x7, x8, x2, x10, x11, x12, x13, x14, x15, x16, x17, .val (c3 false x y z), x19, .unk] := by
    rw [genL_cons, in_step I J 0 a x rfl rfl I.a J.a, bind_ok', genL_cons, in_step I J 1 b y rfl rfl I.b J.b, bind_ok', genL_cons, in_step I J 2 c z rfl rfl I.c J.c]
    rfl
  simp [hr, q, hm, hF, s3, gpP, gp]
theorem told1 {a b c : Int} (I : Col a b c) (p : P3) (J : ColP p) : lcStepX (.n 18) [18] dYes (dCall m_gap (osCons (oE (dVar 2)) (osCons (oE (dVar 18)) osNil))) (cD p) [x0, x9, .val (c3 false a b c), x3, x4, x5, x6, x7, x8, x2, x10, x11, x12, x13, x14, x15, x16, x17, .unk, x19, x20] = .ok [.int (gpP a b c p)] [x0, x9, .val (c3 false a b c), x3, x4, x5, x6, x7, x8, x2, x10, x11, x12, x13, x14, x15, x16, x17, .unk, x19, x20] := by
  simp [gap_ok I J]
theorem told2 {a b c : Int} (I : Col a b c) (p : P3) (J : ColP p) : lcStepX (.n 18) [18] dYes (dCall m_gap (osCons (oE (dVar 18)) (osCons (oE (dVar 2)) osNil))) (cD p) [x0, x9, .val (c3 false a b c), x3, x4, x5, x6, x7, x8, x2, x10, x11, x12, x13, x14, x15, x16, x17, .unk, x19, x20] = .ok [.int (gpP a b c p)] [x0, x9, .val (c3 false a b c), x3, x4, x5, x6, x7, x8, x2, x10, x11, x12, x13, x14, x15, x16, x17, .unk, x19, x20] := by
  simp [gap_ok J I, gp_symm]
theorem want_step {x y z k v : Int} : lcStep (.n 19) [19] dYes (lcOne (dOpN fMax (osCons (oE (dC (.int 0))) (osCons (oE (dOp fSub (oE (dOp fSub (oE (dC (.int 255))) (oVar 19))) (oE (dOp fIx (oVar 7) (oE (dC (.int 3))))))) osNil)))) (.int v) [x0, x9, x2, x3, x4, x5, x6, .val (c4 false x y z k), x8, x10, x11, x12, x13, x14, x15, x16, x17, x18, x20, .unk, x7] = .ok [.int (sh v k)] [x0, x9, x2, x3, x4, x5, x6, .val (c4 false x y z k), x8, x10, x11, x12, x13, x14, x15, x16, x17, x18, x20, .unk, x7] := by
  have e : fIx (c4 false x y z k) (.int 3) = some (.int k) := rfl
  have mx : ∀ j : Int, fMax [.int 0, .int j] = some (.int (if j > 0 then j else 0)) := fun _ => rfl
  have w := wa_sh v k
  simp [e, mx, w]
end

theorem plain (ns : List Int) (hn : ns.length ≤ 63) : m_law [.d (.fz ns)] = .ret (.bl true) none := by
  obtain ⟨ds, hd⟩ := deck_ok ns hn 30 14 (by decide) (by decide)
  have hd' : cm_deck [.d (.fz ns), .d (.int 30), .d (.int 14)] = .retO (.l (ds.map .int)) none := hd
  simp only [m_law, fnRun, List.length_cons, List.length_nil, Nat.zero_add, if_true]
  unfold t_law
  rw [seq_nx (ρ1 := [.val (.fz ns), .own false (.l (ds.map .int)), .unk, .unk, .unk, .unk, .unk, .unk, .unk, .unk, .unk, .unk, .unk, .unk, .unk, .unk, .unk, .unk, .unk, .unk, .unk]) (by simp [env0, hd'])]
  obtain ⟨a, b, c, d1, hc, I⟩ := colour_ok ds
  -- colour
  rw [seq_nx (ρ1 := [.val (.fz ns), .own false (.l (d1.map .int)), .val (c3 false a b c), .unk, .unk, .unk, .unk, .unk, .unk, .unk, .unk, .unk, .unk, .unk, .unk, .unk, .unk, .unk, .unk, .unk, .unk]) (by simp [hc])]
  obtain ⟨v1, d2, t1, n1, l1⟩ := take_ex d1 101 (by decide)
  obtain ⟨i1, d3, t2, n2, l2⟩ := take_ex d2 3 (by decide)
  obtain ⟨r, hr, hrc⟩ := fIx3 (.int 0) (.int 100) (.int v1) i1 n2 l2
  obtain ⟨p, rfl, hp⟩ : ∃ p : Int, r = .int p ∧ 0 ≤ p ∧ p ≤ 100 := by
    rcases hrc with rfl | rfl | rfl
    · exact ⟨_, rfl, by decide, by decide⟩
    · exact ⟨_, rfl, by decide, by decide⟩
    · exact ⟨_, rfl, n1, by omega⟩
  -- percent
  rw [seq_nx (ρ1 := [.val (.fz ns), .own false (.l (d3.map .int)), .val (c3 false a b c), .val (.int p), .unk, .unk, .unk, .unk, .unk, .unk, .unk, .unk, .unk, .unk, .unk, .unk, .unk, .unk, .unk, .unk, .unk]) (by simp [t1, t2, hr])]
  obtain ⟨SC, sk⟩ := sep_col I hp
  have pk := part_ok I hp
  have sp1 := sep_ok true I hp
  dsimp only [sep] at pk sp1
  have ha := I.a
  have hb := I.b
  have hcc := I.c
  have sho := shown_ok false SC sk
  rw [sh_sep ha.1, sh_sep hb.1, sh_sep hcc.1] at sho
  have tot := total_ok false SC sk
  have bm : ∀ q, 0 ≤ q → q ≤ 100 - p → blk a b c p ≤ blk a b c (p + q) := fun q h _ => blk_mono I (by omega)
  generalize hbk : blk a b c p = bk at *
  generalize hu : 255 - a - bk = u at *
  generalize hv : 255 - b - bk = v at *
  generalize hw : 255 - c - bk = w at *
  -- due
  rw [seq_nx (ρ1 := [.val (.fz ns), .own false (.l (d3.map .int)), .val (c3 false a b c), .val (.int p), .val (c4 false u v w bk), .unk, .unk, .unk, .unk, .unk, .unk, .unk, .unk, .unk, .unk, .unk, .unk, .unk, .unk, .unk, .unk]) (by simp [pk])]
  have li : fListL [c3 false a b c] = some [.int a, .int b, .int c] := rfl
  -- handed
  rw [seq_nx (ρ1 := [.val (.fz ns), .own false (.l (d3.map .int)), .val (c3 false a b c), .val (.int p), .val (c4 false u v w bk), .val (c3 true a b c), .unk, .unk, .unk, .unk, .unk, .unk, .unk, .unk, .unk, .unk, .unk, .unk, .unk, .unk, .unk]) (by simp [li])]
  -- separated
  rw [seq_nx (ρ1 := [.val (.fz ns), .own false (.l (d3.map .int)), .val (c3 false a b c), .val (.int p), .val (c4 false u v w bk), .val (c3 true a b c), .unk, .unk, .unk, .unk, .unk, .unk, .unk, .unk, .unk, .unk, .unk, .unk, .unk, .unk, .unk]) (by simp [sp1, pl_c4, nep_c4, li, ne_c3])]
  have pl2 : cm_plain 40 [.d (.sq true [c3 false a b c, .int (u + v + w + bk)])] = .ret (plainF (.sq true [c3 false a b c, .int (u + v + w + bk)])) none := plain_ok 40 _ (by simp [okPl]; decide)
  have ne2 : fNe (plainF (.sq true [c3 false a b c, .int (u + v + w + bk)])) (plainF (.sq true [c3 false a b c, .int (u + v + w + bk)])) = some (.bl false) := fNe_refl (by simp [plainF, plainFs, okE])
  -- shown, sum
  rw [seq_nx (ρ1 := [.val (.fz ns), .own false (.l (d3.map .int)), .val (c3 false a b c), .val (.int p), .val (c4 false u v w bk), .val (c3 true a b c), .unk, .unk, .unk, .unk, .unk, .unk, .unk, .unk, .unk, .unk, .unk, .unk, .unk, .unk, .unk]) (by simp [sho, tot, sum4, pl2, ne2])]
  obtain ⟨mo, d4, t3, n3, l3⟩ := take_ex d3 (101 - p) (by omega)
  -- more
  rw [seq_nx (ρ1 := [.val (.fz ns), .own false (.l (d4.map .int)), .val (c3 false a b c), .val (.int p), .val (c4 false u v w bk), .val (c3 true a b c), .val (.int mo), .unk, .unk, .unk, .unk, .unk, .unk, .unk, .unk, .unk, .unk, .unk, .unk, .unk, .unk]) (by simp [t3])]
  have hp2 : 0 ≤ p + mo ∧ p + mo ≤ 100 := by omega
  have sp2 := sep_ok false I hp2
  dsimp only [sep] at sp2
  obtain ⟨SC2, sk2⟩ := sep_col I hp2
  have tot2 := total_ok false SC2 sk2
  have bm2 := bm mo n3 (by omega)
  have nl : ¬ u + v + w + bk < 255 - a - blk a b c (p + mo) + (255 - b - blk a b c (p + mo)) + (255 - c - blk a b c (p + mo)) + blk a b c (p + mo) := by omega
  -- less with more
  rw [seq_nx (ρ1 := [.val (.fz ns), .own false (.l (d4.map .int)), .val (c3 false a b c), .val (.int p), .val (c4 false u v w bk), .val (c3 true a b c), .val (.int mo), .unk, .unk, .unk, .unk, .unk, .unk, .unk, .unk, .unk, .unk, .unk, .unk, .unk, .unk]) (by simp [sp2, tot2, sum4, nl])]
  obtain ⟨x, y, z, d5, hc2, J⟩ := colour_ok d4
  obtain ⟨k, d6, t4, n4, l4⟩ := take_ex d5 256 (by decide)
  have hk : 0 ≤ k ∧ k ≤ 255 := by omega
  have ad : fAdd (c3 false x y z) (.sq false [.int k]) = some (c4 false x y z k) := rfl
  -- inks
  rw [seq_nx (ρ1 := [.val (.fz ns), .own false (.l (d6.map .int)), .val (c3 false a b c), .val (.int p), .val (c4 false u v w bk), .val (c3 true a b c), .val (.int mo), .val (c4 false x y z k), .unk, .unk, .unk, .unk, .unk, .unk, .unk, .unk, .unk, .unk, .unk, .unk, .unk]) (by simp [hc2, t4, ad])]
  have ct : cutD [.int x, .int y, .int z, .int k] none (some 3) = [Pd.D.int x, .int y, .int z] := rfl
  have hm3 : 3 ≤ MX := by decide
  have tu : ∀ ds : List Pd.D, fTupleOf (.sq true ds) = some (.sq false ds) := fun _ => rfl
  have wq : genL (lcStep (.n 19) [19] dYes (lcOne (dOpN fMax (osCons (oE (dC (.int 0))) (osCons (oE (dOp fSub (oE (dOp fSub (oE (dC (.int 255))) (oVar 19))) (oE (dOp fIx (oVar 7) (oE (dC (.int 3))))))) osNil))))) [.int x, .int y, .int z] [.val (.fz ns), .own false (.l (d6.map .int)), .val (c3 false a b c), .val (.int p), .val (c4 false u v w bk), .val (c3 true a b c), .val (.int mo), .val (c4 false x y z k), .unk, .unk, .unk, .unk, .unk, .unk, .unk, .unk, .unk, .unk, .unk, .unk, .unk] = .ok [.int (sh x k), .int (sh y k), .int (sh z k)] [.val (.fz ns), .own false (.l (d6.map .int)), .val (c3 false a b c), .val (.int p), .val (c4 false u v w bk), .val (c3 true a b c), .val (.int mo), .val (c4 false x y z k), .unk, .unk, .unk, .unk, .unk, .unk, .unk, .unk, .unk, .unk, .unk, .unk, .unk] := by
    rw [genL_cons, want_step, bind_ok', genL_cons, want_step, bind_ok', genL_cons, want_step]
    rfl
  -- wanted
  rw [seq_nx (ρ1 := [.val (.fz ns), .own false (.l (d6.map .int)), .val (c3 false a b c), .val (.int p), .val (c4 false u v w bk), .val (c3 true a b c), .val (.int mo), .val (c4 false x y z k), .val (c3 false (sh x k) (sh y k) (sh z k)), .unk, .unk, .unk, .unk, .unk, .unk, .unk, .unk, .unk, .unk, .unk, .unk]) (by simp [ct, wq, hm3, tu])]
  have W : Col (sh x k) (sh y k) (sh z k) := ⟨sh_b J.a.1 hk.1, sh_b J.b.1 hk.1, sh_b J.c.1 hk.1⟩
  have li4 : fListL [c4 false x y z k] = some [.int x, .int y, .int z, .int k] := rfl
  have sho2 := shown_ok true J hk
  have sp3 := sep_ok false W (p := 100) (by decide)
  dsimp only [sep] at sp3
  obtain ⟨SC3, sk3⟩ := sep_col W (p := 100) (by decide)
  have sho3 := shown_ok false SC3 sk3
  rw [sh_sep W.a.1, sh_sep W.b.1, sh_sep W.c.1] at sho3
  generalize hX : sh x k = X at *
  generalize hY : sh y k = Y at *
  generalize hZ : sh z k = Z at *
  -- shown rule
  rw [seq_nx (ρ1 := [.val (.fz ns), .own false (.l (d6.map .int)), .val (c3 false a b c), .val (.int p), .val (c4 false u v w bk), .val (c3 true a b c), .val (.int mo), .val (c4 false x y z k), .val (c3 false X Y Z), .unk, .unk, .unk, .unk, .unk, .unk, .unk, .unk, .unk, .unk, .unk, .unk]) (by simp [li4, sho2, pl_c3, nep_c3, sp3, sho3, ne_c3])]
  obtain ⟨va, d7, t5, n5, l5⟩ := take_ex d6 256 (by decide)
  -- value
  rw [seq_nx (ρ1 := [.val (.fz ns), .own false (.l (d7.map .int)), .val (c3 false a b c), .val (.int p), .val (c4 false u v w bk), .val (c3 true a b c), .val (.int mo), .val (c4 false x y z k), .val (c3 false X Y Z), .val (.int va), .unk, .unk, .unk, .unk, .unk, .unk, .unk, .unk, .unk, .unk, .unk]) (by simp [t5])]
  have x0 : fIx (c3 false a b c) (.int 0) = some (.int a) := rfl
  have x1 : fIx (c3 false a b c) (.int 1) = some (.int b) := rfl
  have x2 : fIx (c3 false a b c) (.int 2) = some (.int c) := rfl
  have m1 := fMul_i (i := 30) (j := a) (by decide) (bigs (by omega) (by omega))
  have m2 := fMul_i (i := 59) (j := b) (by decide) (bigs (by omega) (by omega))
  have m3 := fMul_i (i := 11) (j := c) (by decide) (bigs (by omega) (by omega))
  have dv : fFdiv (.int (30 * a + 59 * b + 11 * c)) (.int 100) = some (.int (gr a b c)) := fdiv100 (30 * a + 59 * b + 11 * c) (by omega)
  -- dark
  rw [seq_nx (ρ1 := [.val (.fz ns), .own false (.l (d7.map .int)), .val (c3 false a b c), .val (.int p), .val (c4 false u v w bk), .val (c3 true a b c), .val (.int mo), .val (c4 false x y z k), .val (c3 false X Y Z), .val (.int va), .val (.int (gr a b c)), .unk, .unk, .unk, .unk, .unk, .unk, .unk, .unk, .unk, .unk]) (by simp [x0, x1, x2, m1, m2, m3, dv])]
  have g1 := grey_ok false I
  have V : Col va va va := ⟨by omega, by omega, by omega⟩
  have g2 := grey_ok false V
  have gv : gr va va va = va := by unfold gr; omega
  rw [gv] at g2
  have pl3 : cm_plain 40 [.d (.sq true [.int (gr a b c), .int va])] = .ret (plainF (.sq true [.int (gr a b c), .int va])) none := plain_ok 40 _ (by simp [okPl]; decide)
  have ne3 : fNe (plainF (.sq true [.int (gr a b c), .int va])) (plainF (.sq true [.int (gr a b c), .int va])) = some (.bl false) := fNe_refl (by simp [plainF, plainFs, okE])
  -- grey
  rw [seq_nx (ρ1 := [.val (.fz ns), .own false (.l (d7.map .int)), .val (c3 false a b c), .val (.int p), .val (c4 false u v w bk), .val (c3 true a b c), .val (.int mo), .val (c4 false x y z k), .val (c3 false X Y Z), .val (.int va), .val (.int (gr a b c)), .unk, .unk, .unk, .unk, .unk, .unk, .unk, .unk, .unk, .unk]) (by simp [g1, g2, pl3, ne3])]
  obtain ⟨pn, d8, t6, n6, l6⟩ := take_ex d7 6 (by decide)
  have hpn : (1 + pn) = (((1 + pn).toNat : Nat) : Int) := by omega
  have hr1 : rng1 [.int (1 + pn)] = some ((rngI (1 + pn).toNat).map .int) := by
    rw [hpn]
    exact rng1_n _ (by omega)
  obtain ⟨ps, d9, hps, hpl, hpc⟩ := pal_ok (x0 := .val (.fz ns)) (x2 := .val (c3 false a b c)) (x3 := .val (.int p)) (x4 := .val (c4 false u v w bk)) (x5 := .val (c3 true a b c)) (x6 := .val (.int mo)) (x7 := .val (c4 false x y z k)) (x8 := .val (c3 false X Y Z)) (x9 := .val (.int va)) (x10 := .val (.int (gr a b c))) (x11 := .unk) (x12 := .unk) (x13 := .unk) (x14 := .unk) (x15 := .unk) (x16 := .unk) (x18 := .unk) (x19 := .unk) (x20 := .unk) (rngI (1 + pn).toNat) d8
  have hplen : ps.length ≤ 6 ∧ 0 < ps.length := by
    rw [hpl, rngI_length]
    omega
  have hpm : ps.length ≤ MX := Nat.le_trans hplen.1 (by decide)
  have hpm' : (ps.map cD).length ≤ MX := by rw [List.length_map]; exact hpm
  generalize hcs : ps.map cD = cs at *
  -- palette
  rw [seq_nx (ρ1 := [.val (.fz ns), .own false (.l (d9.map .int)), .val (c3 false a b c), .val (.int p), .val (c4 false u v w bk), .val (c3 true a b c), .val (.int mo), .val (c4 false x y z k), .val (c3 false X Y Z), .val (.int va), .val (.int (gr a b c)), .val (.sq true cs), .unk, .unk, .unk, .unk, .unk, .unk, .unk, .unk, .unk]) (by simp [t6, hr1, hps, hpm'])]
  have gq := fun (F : List Pd.D → Option Pd.D) (hF : ∀ x, F [x] = fSum x) => genL_own (f := cD) (g := fun q => Pd.D.int (gpP a b c q)) ps fun q hq => gaps_step hF (x0 := .val (.fz ns)) (x9 := .own false (.l (d9.map .int))) (x3 := .val (.int p)) (x4 := .val (c4 false u v w bk)) (x5 := .val (c3 true a b c)) (x6 := .val (.int mo)) (x7 := .val (c4 false x y z k)) (x8 := .val (c3 false X Y Z)) (x2 := .val (.int va)) (x10 := .val (.int (gr a b c))) (x11 := .val (.sq true cs)) (x12 := .unk) (x13 := .unk) (x14 := .unk) (x15 := .unk) (x16 := .unk) (x17 := .unk) (x19 := .unk) I q (hpc q hq)
  rw [hcs] at gq
  have hgl : (ps.map fun q => Pd.D.int (gpP a b c q)).length ≤ MX := by rw [List.length_map]; exact hpm
  obtain ⟨q0, qs, hqs⟩ : ∃ q0 qs, ps = q0 :: qs := by
    cases ps with
    | nil => simp at hplen
    | cons q0 qs => exact ⟨q0, qs, rfl⟩
  obtain ⟨mi, ix, hmi, hix⟩ := least_ok (gpP a b c q0) (qs.map (gpP a b c))
  have hgg : ((gpP a b c q0 :: qs.map (gpP a b c)).map Pd.D.int) = ps.map fun q => Pd.D.int (gpP a b c q) := by
    rw [hqs]
    simp
  rw [hgg] at hmi hix
  have near : m_nearest [.d (c3 false a b c), .d (.sq true cs)] = .ret (.int ix) none := by
    rw [← hcs, hqs]
    rw [hqs] at hmi hix hpc hpm
    exact nearest_ok I q0 qs hpc hpm hmi hix
  have okg : (ps.map fun q => Pd.D.int (gpP a b c q)).all (okE 18) = true := by simp [okE]
  have okg2 : (plainFs (ps.map fun q => Pd.D.int (gpP a b c q))).all (okE 18) = true := by
    rw [plainFs_map]
    simp [plainF, okE]
  have okg3 : (ps.map fun q => Pd.D.int (gpP a b c q)).all (okPl 38) = true := by simp [okPl]
  have hlt : (ps.map fun q => Pd.D.int (gpP a b c q)).length < MX := by
    rw [List.length_map]
    exact Nat.lt_of_le_of_lt hplen.1 (by decide)
  have q1 := genL_own (f := cD) (g := fun q => Pd.D.int (gpP a b c q)) ps fun q hq => told1 (x0 := .val (.fz ns)) (x9 := .own false (.l (d9.map .int))) (x3 := .val (.int p)) (x4 := .val (c4 false u v w bk)) (x5 := .val (c3 true a b c)) (x6 := .val (.int mo)) (x7 := .val (c4 false x y z k)) (x8 := .val (c3 false X Y Z)) (x2 := .val (.int va)) (x10 := .val (.int (gr a b c))) (x11 := .val (.sq true cs)) (x12 := .val (.sq true (ps.map fun q => Pd.D.int (gpP a b c q)))) (x13 := .unk) (x14 := .unk) (x15 := .unk) (x16 := .unk) (x17 := .unk) (x19 := .unk) (x20 := .unk) I q (hpc q hq)
  have q2 := genL_own (f := cD) (g := fun q => Pd.D.int (gpP a b c q)) ps fun q hq => told2 (x0 := .val (.fz ns)) (x9 := .own false (.l (d9.map .int))) (x3 := .val (.int p)) (x4 := .val (c4 false u v w bk)) (x5 := .val (c3 true a b c)) (x6 := .val (.int mo)) (x7 := .val (c4 false x y z k)) (x8 := .val (c3 false X Y Z)) (x2 := .val (.int va)) (x10 := .val (.int (gr a b c))) (x11 := .val (.sq true cs)) (x12 := .val (.sq true (ps.map fun q => Pd.D.int (gpP a b c q)))) (x13 := .unk) (x14 := .unk) (x15 := .unk) (x16 := .unk) (x17 := .unk) (x19 := .unk) (x20 := .unk) I q (hpc q hq)
  rw [hcs] at q1 q2
  generalize hgs : (ps.map fun q => Pd.D.int (gpP a b c q)) = gs at *
  -- gaps
  rw [seq_nx (ρ1 := [.val (.fz ns), .own false (.l (d9.map .int)), .val (c3 false a b c), .val (.int p), .val (c4 false u v w bk), .val (c3 true a b c), .val (.int mo), .val (c4 false x y z k), .val (c3 false X Y Z), .val (.int va), .val (.int (gr a b c)), .val (.sq true cs), .val (.sq true gs), .unk, .unk, .unk, .unk, .unk, .unk, .unk, .unk]) (by simp [gq, hgl])]
  -- told
  rw [seq_nx (ρ1 := [.val (.fz ns), .own false (.l (d9.map .int)), .val (c3 false a b c), .val (.int p), .val (c4 false u v w bk), .val (c3 true a b c), .val (.int mo), .val (c4 false x y z k), .val (c3 false X Y Z), .val (.int va), .val (.int (gr a b c)), .val (.sq true cs), .val (.sq true gs), .val (.sq true [.sq true gs, .sq true gs, .int ix]), .unk, .unk, .unk, .unk, .unk, .unk, .unk]) (by simp [q1, q2, hpm', near])]
  have pl4 : cm_plain 40 [.d (.sq true [.sq true gs, .sq true gs, .int ix])] = .ret (plainF (.sq true [.sq true gs, .sq true gs, .int ix])) none := plain_ok 40 _ (by
    have h3 : 3 < MX := by decide
    simp only [okPl, List.all_cons, List.all_nil, okg3, hlt, h3, List.length_cons, List.length_nil, Nat.zero_add, decide_true, Bool.and_true, Nat.reduceAdd])
  have ne4 : fNe (plainF (.sq true [.sq true gs, .sq true gs, .int ix])) (plainF (.sq true [.sq true gs, .sq true gs, .int ix])) = some (.bl false) := fNe_refl (by
    simp only [plainF, plainFs, okE, List.all_cons, List.all_nil, okg2, Bool.and_true])
  have di : ∀ ρ : Pd.Env, ρ[12]? = some (.val (.sq true gs)) → dIndex (oVar 12) (dOpN fMin (osCons (oVar 12) osNil)) ρ = .ok (.int ix) ρ := fun ρ h => by
    unfold dIndex
    simp [h, hmi, hix]
  -- the same
  rw [seq_nx (ρ1 := [.val (.fz ns), .own false (.l (d9.map .int)), .val (c3 false a b c), .val (.int p), .val (c4 false u v w bk), .val (c3 true a b c), .val (.int mo), .val (c4 false x y z k), .val (c3 false X Y Z), .val (.int va), .val (.int (gr a b c)), .val (.sq true cs), .val (.sq true gs), .val (.sq true [.sq true gs, .sq true gs, .int ix]), .unk, .unk, .unk, .unk, .unk, .unk, .unk]) (by simp [di, pl4, ne4])]
  obtain ⟨i2, d10, t7, n7, l7⟩ := take_ex d9 5 (by decide)
  obtain ⟨bd, hbd, hbc⟩ := fIx5 b1 b2 b3 b4 b5 i2 n7 l7
  have B : Bad bd 3 := by
    rcases hbc with rfl | rfl | rfl | rfl | rfl
    · exact bad1
    · exact bad2
    · exact bad3
    · exact bad4
    · exact bad5
  have ng : fNeg (.int 1) = some (.int (-1)) := rfl
  -- bad
  rw [seq_nx (ρ1 := [.val (.fz ns), .own false (.l (d10.map .int)), .val (c3 false a b c), .val (.int p), .val (c4 false u v w bk), .val (c3 true a b c), .val (.int mo), .val (c4 false x y z k), .val (c3 false X Y Z), .val (.int va), .val (.int (gr a b c)), .val (.sq true cs), .val (.sq true gs), .val (.sq true [.sq true gs, .sq true gs, .int ix]), .val (bd), .unk, .unk, .unk, .unk, .unk, .unk]) (by simp [ng, t7, hbd])]
  obtain ⟨i3, d11, t8, n8, l8⟩ := take_ex d10 4 (by decide)
  obtain ⟨wo, hwo, hwc⟩ := fIx4 w1 w2 w3 w4 i3 n8 l8
  have O : Bad wo 4 := by
    rcases hwc with rfl | rfl | rfl | rfl
    · exact wor1
    · exact wor2
    · exact wor3
    · exact wor4
  -- worse
  rw [seq_nx (ρ1 := [.val (.fz ns), .own false (.l (d11.map .int)), .val (c3 false a b c), .val (.int p), .val (c4 false u v w bk), .val (c3 true a b c), .val (.int mo), .val (c4 false x y z k), .val (c3 false X Y Z), .val (.int va), .val (.int (gr a b c)), .val (.sq true cs), .val (.sq true gs), .val (.sq true [.sq true gs, .sq true gs, .int ix]), .val (bd), .val (wo), .unk, .unk, .unk, .unk, .unk]) (by simp [ng, t8, hwo])]
  obtain ⟨i4, d12, t9, n9, l9⟩ := take_ex d11 2 (by decide)
  obtain ⟨pe, hpe, hpc2⟩ := fIx2 (.int (-1)) (.int 101) i4 n9 l9
  obtain ⟨pv, rfl, hpv⟩ : ∃ pv : Int, pe = .int pv ∧ (pv = -1 ∨ pv = 101) := by
    rcases hpc2 with rfl | rfl
    · exact ⟨_, rfl, .inl rfl⟩
    · exact ⟨_, rfl, .inr rfl⟩
  have y0 : m__law_why [.d (.int 0), .d bd, .d (.int (-1))] = .ret (.str "values") none := why0 B
  have y1 := why0p false I hpv
  have y2 : m__law_why [.d (.int 1), .d wo, .d .non] = .ret (.str "values") none := why1 O
  have y3 : m__law_why [.d (.int 2), .d wo, .d .non] = .ret (.str "values") none := why2 O
  -- answers
  rw [seq_nx (ρ1 := [.val (.fz ns), .own false (.l (d12.map .int)), .val (c3 false a b c), .val (.int p), .val (c4 false u v w bk), .val (c3 true a b c), .val (.int mo), .val (c4 false x y z k), .val (c3 false X Y Z), .val (.int va), .val (.int (gr a b c)), .val (.sq true cs), .val (.sq true gs), .val (.sq true [.sq true gs, .sq true gs, .int ix]), .val (bd), .val (wo), .val (.sq true [.str "values", .str "percent", .str "values", .str "values"]), .unk, .unk, .unk, .unk]) (by simp [ng, t9, hpe, y0, y1, y2, y3])]
  have z0 : m__law_why [.d (.int 3), .d bd, .d .non] = .ret (.str "values") none := why3 B
  have z1 := why4c I B
  have z2 : m__law_why [.d (.int 4), .d bd, .d (c3 false a b c)] = .ret (.str "values") none := why4 B
  have z3 : m__law_why [.d (.int 5), .d bd, .d (.sq true [])] = .ret (.str "values") none := why5 B
  have z4 := why5e I
  have z5 := why5b I B
  have ad9 : fAdd (.sq true [.str "values", .str "percent", .str "values", .str "values"]) (.sq true [.str "values", .str "values", .str "values", .str "values", .str "palette"]) = some (.sq true [.str "values", .str "percent", .str "values", .str "values", .str "values", .str "values", .str "values", .str "values", .str "palette"]) := rfl
  -- more answers
  rw [seq_nx (ρ1 := [.val (.fz ns), .own false (.l (d12.map .int)), .val (c3 false a b c), .val (.int p), .val (c4 false u v w bk), .val (c3 true a b c), .val (.int mo), .val (c4 false x y z k), .val (c3 false X Y Z), .val (.int va), .val (.int (gr a b c)), .val (.sq true cs), .val (.sq true gs), .val (.sq true [.sq true gs, .sq true gs, .int ix]), .val (bd), .val (wo), .val (.sq true [.str "values", .str "percent", .str "values", .str "values", .str "values", .str "values", .str "values", .str "values", .str "palette"]), .unk, .unk, .unk, .unk]) (by simp [z0, z1, z2, z3, z4, ad9])]
  have mu6 : fMul (.sq true [.str "values"]) (.int 6) = some (.sq true [.str "values", .str "values", .str "values", .str "values", .str "values", .str "values"]) := rfl
  have ad10 : fAdd (.sq true [.str "values", .str "percent"]) (.sq true [.str "values", .str "values", .str "values", .str "values", .str "values", .str "values"]) = some (.sq true [.str "values", .str "percent", .str "values", .str "values", .str "values", .str "values", .str "values", .str "values"]) := rfl
  have ad11 : fAdd (.sq true [.str "values", .str "percent", .str "values", .str "values", .str "values", .str "values", .str "values", .str "values"]) (.sq true [.str "palette"]) = some (.sq true [.str "values", .str "percent", .str "values", .str "values", .str "values", .str "values", .str "values", .str "values", .str "palette"]) := rfl
  have e1 : fEq (.sq true [.str "values", .str "percent", .str "values", .str "values", .str "values", .str "values", .str "values", .str "values", .str "palette"]) (.sq true [.str "values", .str "percent", .str "values", .str "values", .str "values", .str "values", .str "values", .str "values", .str "palette"]) = some (.bl true) := fEq_refl (by decide +kernel)
  have e2 : fEq (.str "values") (.str "values") = some (.bl true) := fEq_refl (by decide +kernel)
  simp [mu6, ad10, ad11, e1, z5, e2]
end K44
/-- the law -/
theorem PySem.Challenge.cw_presswork_k44_separations_holds : PySem.Challenge.rw_presswork_k44_separations.Holds :=
  K44.holds_of K44.plain

