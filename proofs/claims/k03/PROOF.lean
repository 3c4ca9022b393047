import PyProof.Rows.All
import Wide.All
import OpenK.AllK
import Wide.FinOn
import HandS.ForMost
import HandS.ForExc
import HandS.Wide
import HandS.IsInst
import HandS.CallSlots
import HandS.TupAny
import HandS.Defaults
import HandS.SortInts
import HandS.Style
import HandS.HeadHook2
import KE.KStateDown
import HandS.More
import HandS.Head0
import HandS.Head1
import HandS.Head2
import HandS.HeadEnd
import HandS.HeadHook1
import PySem.Challenge.RW_sectionwise_k03_whole_elements_that_trip
set_option Elab.async false
set_option linter.all false
set_option maxRecDepth 100000
set_option maxHeartbeats 4000000
set_option exponentiation.threshold 5000
/-! PL1: the pure layer's core: data, memory, results, relations, judgements. -/
namespace PL
open PySem PySem.Spec PyProof.Rows L2
abbrev St := L2.St

/-! ### data -/
inductive D where
  | non | bl (b : Bool) | int (i : Int) | str (x : Str) | tup (xs : List D) | lst (xs : List D) | fn (x : Str) | ty (n : String) | scr (ns : List Int)
/-- what an expression gives: data, or an own list by its number -/
inductive SV where
  | dat (d : D) | ref (n : Nat)
inductive Cell where
  | lst (xs : List D) | dead
abbrev Mem := List Cell
abbrev En := List (Option SV)
structure Exc where
  cls : Str
  fs : List (Str × D)
inductive R (α : Type) where
  | ok (a : α) (m : Mem) | exc (x : Exc) (m : Mem) | stuck
abbrev P (α : Type) := Mem → R α
def P.ret {α : Type} (a : α) : P α := fun m => .ok a m
def P.stk {α : Type} : P α := fun _ => .stuck
def R.bnd {α β : Type} (r : R α) (f : α → Mem → R β) : R β := match r with
  | .ok a m => f a m
  | .exc e m => .exc e m
  | .stuck => .stuck
def P.bnd {α β : Type} (x : P α) (f : α → P β) : P β := fun m => (x m).bnd f
def wpr {α : Type} (r : R α) (Q : α → Mem → Prop) (E : Exc → Mem → Prop) : Prop := match r with
  | .ok a m => Q a m
  | .exc x m => E x m
  | .stuck => False
theorem wpr_bnd {α β : Type} {x : P α} {f : α → P β} {m : Mem} {Q : β → Mem → Prop} {E : Exc → Mem → Prop} (h : wpr (P.bnd x f m) Q E) : wpr (x m) (fun a m' => wpr (f a m') Q E) E := by
  unfold P.bnd R.bnd at h
  cases e : x m with
  | ok a m' => rw [e] at h; exact h
  | exc y m' => rw [e] at h; exact h
  | stuck => rw [e] at h; exact h
theorem wpr_mono {α : Type} {r : R α} {Q Q' : α → Mem → Prop} {E E' : Exc → Mem → Prop} (h : wpr r Q E) (hQ : ∀ a m, Q a m → Q' a m) (hE : ∀ x m, E x m → E' x m) : wpr r Q' E' := by
  cases r with
  | ok a m => exact hQ a m h
  | exc x m => exact hE x m h
  | stuck => exact h
theorem wpr_monoQ {α : Type} {r : R α} {Q Q' : α → Mem → Prop} {E : Exc → Mem → Prop} (h : wpr r Q E) (hQ : ∀ a m, Q a m → Q' a m) : wpr r Q' E := wpr_mono h hQ fun _ _ x => x

/-! ### relations -/
structure Gd where
  K : PySem.W.Frag
  mg : Str → Option Value
abbrev gd (X : Cx) : Gd := ⟨X.K, X.mg⟩
mutual
inductive Rp (Γ : Gd) (S : Hp) : V → D → Prop
  | non : Rp Γ S .non .non
  | bl (b : Bool) : Rp Γ S (.bl b) (.bl b)
  | int (i : Int) : Rp Γ S (.int i) (.int i)
  | str (x : Str) : Rp Γ S (.str x) (.str x)
  | ty (n : String) : Rp Γ S (.ty n) (.ty n)
  | lst {a : Addr} {vs : List V} {ds : List D} : S a = some (.lst vs) → RpAll Γ S vs ds → Rp Γ S (.ref a) (.lst ds)
  | scr {a : Addr} {ns : List Int} : SqL Γ.K S a (ns.map V.int) → Rp Γ S (.ref a) (.scr ns)
  | tup {a : Addr} {vs : List V} {ds : List D} : SqT Γ.K S a vs → RpAll Γ S vs ds → Rp Γ S (.ref a) (.tup ds)
  | fn {x : Str} {a : Addr} : Γ.mg x = some (.ref a) → Rp Γ S (.ref a) (.fn x)
inductive RpAll (Γ : Gd) (S : Hp) : List V → List D → Prop
  | nil : RpAll Γ S [] []
  | cons {v : V} {vs : List V} {d : D} {ds : List D} : Rp Γ S v d → RpAll Γ S vs ds → RpAll Γ S (v :: vs) (d :: ds)
end
theorem Same.seqT {K : PySem.W.Frag} {H H' : Hp} {a : Addr} {xs : List V} (e : Same H H') (h : SqT K H a xs) : SqT K H' a xs := by
  rcases h with (h | ⟨o, h⟩) | h
  · exact .inl (.inl (e _ _ h))
  · exact .inl (.inr ⟨o, e _ _ h⟩)
  · exact .inr h
mutual
theorem Rp.mono {Γ : Gd} {S S' : Hp} (e : Same S S') : ∀ {v : V} {d : D}, Rp Γ S v d → Rp Γ S' v d
  | _, _, .non => .non
  | _, _, .bl b => .bl b
  | _, _, .int i => .int i
  | _, _, .str x => .str x
  | _, _, .ty n => .ty n
  | _, _, .lst h r => .lst (e _ _ h) (RpAll.mono e r)
  | _, _, .scr h => .scr (e.seq h)
  | _, _, .tup h r => .tup (Same.seqT e h) (RpAll.mono e r)
  | _, _, .fn h => .fn h
theorem RpAll.mono {Γ : Gd} {S S' : Hp} (e : Same S S') : ∀ {vs : List V} {ds : List D}, RpAll Γ S vs ds → RpAll Γ S' vs ds
  | _, _, .nil => .nil
  | _, _, .cons h r => .cons (Rp.mono e h) (RpAll.mono e r)
end
theorem RpAll.length {Γ : Gd} {S : Hp} : ∀ {vs : List V} {ds : List D}, RpAll Γ S vs ds → vs.length = ds.length
  | _, _, .nil => rfl
  | _, _, .cons _ r => by rw [List.length_cons, List.length_cons, RpAll.length r]
theorem RpAll.get {Γ : Gd} {S : Hp} : ∀ {vs : List V} {ds : List D} {i : Nat} {d : D}, RpAll Γ S vs ds → ds[i]? = some d → ∃ v, vs[i]? = some v ∧ Rp Γ S v d
  | _, _, _, _, .nil, e => by simp at e
  | _, _, 0, _, .cons h _, e => by simp at e; subst e; exact ⟨_, rfl, h⟩
  | _, _, i + 1, d, .cons _ r, e => by
    obtain ⟨v, h1, h2⟩ := RpAll.get (i := i) (d := d) r (by simpa using e)
    exact ⟨v, by simpa using h1, h2⟩
theorem RpAll.get' {Γ : Gd} {S : Hp} : ∀ {vs : List V} {ds : List D} {i : Nat} {v : V}, RpAll Γ S vs ds → vs[i]? = some v → ∃ d, ds[i]? = some d ∧ Rp Γ S v d
  | _, _, _, _, .nil, e => by simp at e
  | _, _, 0, _, .cons h _, e => by simp at e; subst e; exact ⟨_, rfl, h⟩
  | _, _, i + 1, d, .cons _ r, e => by
    obtain ⟨v, h1, h2⟩ := RpAll.get' (i := i) (v := d) r (by simpa using e)
    exact ⟨v, by simpa using h1, h2⟩
theorem RpAll.append {Γ : Gd} {S : Hp} : ∀ {vs ws : List V} {ds es : List D}, RpAll Γ S vs ds → RpAll Γ S ws es → RpAll Γ S (vs ++ ws) (ds ++ es)
  | _, _, _, _, .nil, s => s
  | _, _, _, _, .cons h r, s => .cons h (RpAll.append r s)
theorem RpAll.take {Γ : Gd} {S : Hp} : ∀ {vs : List V} {ds : List D} (n : Nat), RpAll Γ S vs ds → RpAll Γ S (vs.take n) (ds.take n)
  | _, _, 0, _ => .nil
  | _, _, _ + 1, .nil => .nil
  | _, _, n + 1, .cons h r => .cons h (RpAll.take n r)
theorem RpAll.drop {Γ : Gd} {S : Hp} : ∀ {vs : List V} {ds : List D} (n : Nat), RpAll Γ S vs ds → RpAll Γ S (vs.drop n) (ds.drop n)
  | _, _, 0, r => r
  | _, _, _ + 1, .nil => .nil
  | _, _, n + 1, .cons _ r => RpAll.drop n r
theorem RpAll.set {Γ : Gd} {S : Hp} {v : V} {d : D} (h : Rp Γ S v d) : ∀ {vs : List V} {ds : List D} (i : Nat), RpAll Γ S vs ds → RpAll Γ S (vs.set i v) (ds.set i d)
  | _, _, _, .nil => .nil
  | _, _, 0, .cons _ r => .cons h r
  | _, _, i + 1, .cons q r => .cons q (RpAll.set h i r)

def RSV (Γ : Gd) (S : Hp) (ρ : List Addr) (v : V) : SV → Prop
  | .dat d => Rp Γ S v d
  | .ref n => ∃ a, ρ[n]? = some a ∧ v = .ref a
/-- later -/
structure Ext (S : Hp) (ρ : List Addr) (S' : Hp) (ρ' : List Addr) : Prop where
  s : Same S S'
  r : ∀ (i : Nat) (a : Addr), ρ[i]? = some a → ρ'[i]? = some a
theorem Ext.refl (S : Hp) (ρ : List Addr) : Ext S ρ S ρ := ⟨Same.refl S, fun _ _ h => h⟩
theorem Ext.trans {S S1 S2 : Hp} {ρ ρ1 ρ2 : List Addr} (a : Ext S ρ S1 ρ1) (b : Ext S1 ρ1 S2 ρ2) : Ext S ρ S2 ρ2 := ⟨a.s.trans b.s, fun i x h => b.r i x (a.r i x h)⟩
theorem RSV.mono {Γ : Gd} {S S' : Hp} {ρ ρ' : List Addr} (e : Ext S ρ S' ρ') {v : V} {x : SV} (h : RSV Γ S ρ v x) : RSV Γ S' ρ' v x := by
  cases x with
  | dat d => exact Rp.mono e.s h
  | ref n => obtain ⟨a, h1, h2⟩ := h; exact ⟨a, e.r n a h1, h2⟩

/-- the memory: S what is frozen, G what is guarded, H the heap -/
structure MR (Γ : Gd) (G S H : Hp) (ρ : List Addr) (m : Mem) : Prop where
  sub : Same S H
  gsub : Same G H
  dis : ∀ a o, G a = some o → S a = none
  len : ρ.length = m.length
  cell : ∀ (i : Nat) (xs : List D), m[i]? = some (.lst xs) → ∃ a vs, ρ[i]? = some a ∧ H a = some (.lst vs) ∧ RpAll Γ S vs xs ∧ S a = none ∧ G a = none
  inj : ∀ (i j : Nat) (xs ys : List D) (a : Addr), m[i]? = some (.lst xs) → m[j]? = some (.lst ys) → ρ[i]? = some a → ρ[j]? = some a → i = j
structure ER (Γ : Gd) (S : Hp) (ρ : List Addr) (env : En) (σ : St) : Prop where
  len : env.length = σ.length
  at_ : ∀ (i : Nat) (v : SV), env[i]? = some (some v) → ∃ vv, σ[i]? = some (some vv) ∧ RSV Γ S ρ vv v
theorem ER.mono {Γ : Gd} {S S' : Hp} {ρ ρ' : List Addr} {env : En} {σ : St} (e : Ext S ρ S' ρ') (h : ER Γ S ρ env σ) : ER Γ S' ρ' env σ :=
  ⟨h.len, fun i v q => let ⟨vv, a, b⟩ := h.at_ i v q; ⟨vv, a, b.mono e⟩⟩
theorem ER.set {Γ : Gd} {S : Hp} {ρ : List Addr} {env : En} {σ : St} (h : ER Γ S ρ env σ) (i : Nat) {v : SV} {vv : V} (r : RSV Γ S ρ vv v) : ER Γ S ρ (env.set i (some v)) (σ.set i (some vv)) := by
  refine ⟨by rw [List.length_set, List.length_set]; exact h.len, fun j x q => ?_⟩
  by_cases e : i = j
  · subst e
    by_cases hl : i < env.length
    · rw [List.getElem?_set_self hl] at q
      cases q
      exact ⟨vv, List.getElem?_set_self (by rw [← h.len]; exact hl), r⟩
    · rw [List.getElem?_eq_none (by rw [List.length_set]; omega)] at q
      cases q
  · rw [List.getElem?_set_ne e] at q
    obtain ⟨w, a, b⟩ := h.at_ j x q
    exact ⟨w, by rw [List.getElem?_set_ne e]; exact a, b⟩
theorem ER.clear {Γ : Gd} {S : Hp} {ρ : List Addr} {env : En} {σ : St} (h : ER Γ S ρ env σ) (i : Nat) : ER Γ S ρ (env.set i none) (σ.set i none) := by
  refine ⟨by rw [List.length_set, List.length_set]; exact h.len, fun j x q => ?_⟩
  by_cases e : i = j
  · subst e
    by_cases hl : i < env.length
    · rw [List.getElem?_set_self hl] at q
      cases q
    · rw [List.getElem?_eq_none (by rw [List.length_set]; omega)] at q
      cases q
  · rw [List.getElem?_set_ne e] at q
    obtain ⟨w, a, b⟩ := h.at_ j x q
    exact ⟨w, by rw [List.getElem?_set_ne e]; exact a, b⟩

section
variable {Γ : Gd} {G S H : Hp} {ρ : List Addr} {m : Mem} {p : Addr}
/-- a new thing, frozen -/
theorem MR.grow (M : MR Γ G S H ρ m) (hp : H p = none) (o : HO) : Same S (upd S p o) ∧ MR Γ G (upd S p o) (upd H p o) ρ m := by
  have sp : S p = none := M.sub.free hp
  have gp : G p = none := M.gsub.free hp
  have s1 : Same S (upd S p o) := fun b x q => by rw [upd_ne (ne_of_none q sp)]; exact q
  refine ⟨s1, ⟨fun b x q => ?_, fun b x q => ?_, fun b x q => ?_, M.len, fun i xs q => ?_, M.inj⟩⟩
  · by_cases e : b = p
    · subst e; rw [upd_same] at q ⊢; exact q
    · rw [upd_ne e] at q ⊢; exact M.sub b x q
  · rw [upd_ne (ne_of_none q gp)]; exact M.gsub b x q
  · rw [upd_ne (ne_of_none q gp)]; exact M.dis b x q
  · obtain ⟨a, vs, h1, h2, h3, h4, h5⟩ := M.cell i xs q
    have ne : a ≠ p := ne_of_none h2 hp
    exact ⟨a, vs, h1, by rw [upd_ne ne]; exact h2, h3.mono s1, by rw [upd_ne ne]; exact h4, h5⟩
/-- a new own list -/
theorem MR.alloc (M : MR Γ G S H ρ m) (hp : H p = none) {vs : List V} {xs : List D} (r : RpAll Γ S vs xs) :
    Ext S ρ S (ρ ++ [p]) ∧ MR Γ G S (upd H p (.lst vs)) (ρ ++ [p]) (m ++ [.lst xs]) := by
  have sp : S p = none := M.sub.free hp
  have gp : G p = none := M.gsub.free hp
  have pre : ∀ (i : Nat) (a : Addr), ρ[i]? = some a → (ρ ++ [p])[i]? = some a := fun i a q => by
    rw [List.getElem?_append_left (List.getElem?_eq_some_iff.mp q).1]; exact q
  have at_ : ∀ (i : Nat) (xs' : List D), (m ++ [Cell.lst xs])[i]? = some (.lst xs') → (m[i]? = some (.lst xs') ∧ i < m.length) ∨ (i = m.length ∧ xs' = xs) := fun i xs' q => by
    by_cases hi : i < m.length
    · rw [List.getElem?_append_left hi] at q; exact .inl ⟨q, hi⟩
    · rw [List.getElem?_append_right (by omega)] at q
      have h0 : i - m.length = 0 := by
        have := (List.getElem?_eq_some_iff.mp q).1
        simp at this
        omega
      rw [h0] at q
      simp at q
      exact .inr ⟨by omega, q.symm⟩
  refine ⟨⟨Same.refl S, pre⟩, ⟨fun b x q => ?_, fun b x q => ?_, M.dis, by rw [List.length_append, List.length_append, M.len]; rfl, fun i xs' q => ?_, fun i j xs' ys' a q1 q2 q3 q4 => ?_⟩⟩
  · rw [upd_ne (ne_of_none q sp)]; exact M.sub b x q
  · rw [upd_ne (ne_of_none q gp)]; exact M.gsub b x q
  · rcases at_ i xs' q with ⟨q1, _⟩ | ⟨q1, q2⟩
    · obtain ⟨a, vs', h1, h2, h3, h4, h5⟩ := M.cell i xs' q1
      exact ⟨a, vs', pre i a h1, by rw [upd_ne (ne_of_none h2 hp)]; exact h2, h3, h4, h5⟩
    · subst q1 q2
      exact ⟨p, vs, by rw [← M.len]; simp, upd_same, r, sp, gp⟩
  · have key : ∀ (i : Nat) (xs' : List D) (a : Addr), (m ++ [Cell.lst xs])[i]? = some (.lst xs') → (ρ ++ [p])[i]? = some a → (m[i]? = some (.lst xs') ∧ ρ[i]? = some a ∧ a ≠ p) ∨ (i = m.length ∧ a = p) := fun i xs' a q r => by
      rcases at_ i xs' q with ⟨q1, q2⟩ | ⟨q1, q2⟩
      · obtain ⟨a', vs', h1, h2, _⟩ := M.cell i xs' q1
        have e := pre i a' h1
        rw [r] at e
        cases e
        exact .inl ⟨q1, h1, ne_of_none h2 hp⟩
      · subst q1
        rw [← M.len] at r
        simp at r
        exact .inr ⟨rfl, r.symm⟩
    rcases key i xs' a q1 q3 with ⟨b1, b2, b3⟩ | ⟨b1, b2⟩
    · rcases key j ys' a q2 q4 with ⟨c1, c2, c3⟩ | ⟨c1, c2⟩
      · exact M.inj i j xs' ys' a b1 c1 b2 c2
      · exact absurd c2 b3
    · rcases key j ys' a q2 q4 with ⟨c1, c2, c3⟩ | ⟨c1, c2⟩
      · exact absurd b2 c3
      · rw [b1, c1]
/-- an own list written -/
theorem MR.write (M : MR Γ G S H ρ m) {i : Nat} {xs ys : List D} {a : Addr} {ws : List V} (hm : m[i]? = some (.lst xs)) (ha : ρ[i]? = some a) (r : RpAll Γ S ws ys) :
    MR Γ G S (upd H a (.lst ws)) ρ (m.set i (.lst ys)) := by
  have hi : i < m.length := (List.getElem?_eq_some_iff.mp hm).1
  obtain ⟨a', vs, h1, h2, h3, h4, h5⟩ := M.cell i xs hm
  rw [ha] at h1
  cases h1
  have at_ : ∀ (j : Nat) (zs : List D), (m.set i (Cell.lst ys))[j]? = some (.lst zs) → (j = i ∧ zs = ys) ∨ (j ≠ i ∧ m[j]? = some (.lst zs)) := fun j zs q => by
    by_cases e : i = j
    · subst e
      rw [List.getElem?_set_self hi] at q
      cases q
      exact .inl ⟨rfl, rfl⟩
    · rw [List.getElem?_set_ne e] at q
      exact .inr ⟨Ne.symm e, q⟩
  have live : ∀ (j : Nat) (zs : List D), (m.set i (Cell.lst ys))[j]? = some (.lst zs) → ∃ zs', m[j]? = some (.lst zs') := fun j zs q => by
    rcases at_ j zs q with ⟨rfl, _⟩ | ⟨_, q⟩
    · exact ⟨_, hm⟩
    · exact ⟨_, q⟩
  refine ⟨fun b x q => ?_, fun b x q => ?_, M.dis, by rw [List.length_set]; exact M.len, fun j zs q => ?_, fun j k zs ws' b q1 q2 q3 q4 => ?_⟩
  · rw [upd_ne (ne_of_none q h4)]; exact M.sub b x q
  · rw [upd_ne (ne_of_none q h5)]; exact M.gsub b x q
  · rcases at_ j zs q with ⟨rfl, rfl⟩ | ⟨e, q⟩
    · exact ⟨a, ws, ha, upd_same, r, h4, h5⟩
    · obtain ⟨b, us, g1, g2, g3, g4, g5⟩ := M.cell j zs q
      refine ⟨b, us, g1, ?_, g3, g4, g5⟩
      rw [upd_ne (fun z => e (M.inj j i zs xs a q hm (by rw [← z]; exact g1) ha))]
      exact g2
  · obtain ⟨z1, l1⟩ := live j zs q1
    obtain ⟨z2, l2⟩ := live k ws' q2
    exact M.inj j k z1 z2 b l1 l2 q3 q4
/-- an own list frozen -/
theorem MR.freeze (M : MR Γ G S H ρ m) {i : Nat} {xs : List D} (hm : m[i]? = some (.lst xs)) :
    ∃ a vs, ρ[i]? = some a ∧ Ext S ρ (upd S a (.lst vs)) ρ ∧ MR Γ G (upd S a (.lst vs)) H ρ (m.set i .dead) ∧ Rp Γ (upd S a (.lst vs)) (.ref a) (.lst xs) := by
  have hi : i < m.length := (List.getElem?_eq_some_iff.mp hm).1
  obtain ⟨a, vs, h1, h2, h3, h4, h5⟩ := M.cell i xs hm
  have s1 : Same S (upd S a (.lst vs)) := fun b x q => by rw [upd_ne (ne_of_none q h4)]; exact q
  have at_ : ∀ (j : Nat) (zs : List D), (m.set i Cell.dead)[j]? = some (.lst zs) → j ≠ i ∧ m[j]? = some (.lst zs) := fun j zs q => by
    by_cases e : i = j
    · subst e
      rw [List.getElem?_set_self hi] at q
      cases q
    · rw [List.getElem?_set_ne e] at q
      exact ⟨Ne.symm e, q⟩
  refine ⟨a, vs, h1, ⟨s1, fun _ _ q => q⟩, ⟨fun b x q => ?_, M.gsub, fun b x q => ?_, by rw [List.length_set]; exact M.len, fun j zs q => ?_, fun j k zs ws b q1 q2 q3 q4 => ?_⟩, .lst upd_same (h3.mono s1)⟩
  · by_cases e : b = a
    · subst e; rw [upd_same] at q; cases q; exact h2
    · rw [upd_ne e] at q; exact M.sub b x q
  · have ne : b ≠ a := fun z => by subst z; rw [q] at h5; cases h5
    rw [upd_ne ne]; exact M.dis b x q
  · obtain ⟨e, q⟩ := at_ j zs q
    obtain ⟨b, us, g1, g2, g3, g4, g5⟩ := M.cell j zs q
    refine ⟨b, us, g1, g2, g3.mono s1, ?_, g5⟩
    rw [upd_ne (fun z => e (M.inj j i zs xs a q hm (by rw [← z]; exact g1) h1))]
    exact g4
  · exact M.inj j k zs ws b (at_ j zs q1).2 (at_ k ws q2).2 q3 q4
/-- the last own lists forgotten -/
theorem MR.take (M : MR Γ G S H ρ m) (n : Nat) : MR Γ G S H (ρ.take n) (m.take n) := by
  have at_ : ∀ (j : Nat) (c : Cell), (m.take n)[j]? = some c → j < n ∧ m[j]? = some c := fun j c q => by
    have h := (List.getElem?_eq_some_iff.mp q).1
    rw [List.length_take] at h
    have hn : j < n := by omega
    rw [List.getElem?_take_of_lt hn] at q
    exact ⟨hn, q⟩
  refine ⟨M.sub, M.gsub, M.dis, by rw [List.length_take, List.length_take, M.len], fun i xs q => ?_, fun i j xs ys a q1 q2 q3 q4 => ?_⟩
  · obtain ⟨hn, q⟩ := at_ i _ q
    obtain ⟨a, vs, h1, h2⟩ := M.cell i xs q
    exact ⟨a, vs, by rw [List.getElem?_take_of_lt hn]; exact h1, h2⟩
  · obtain ⟨hi, q1⟩ := at_ i _ q1
    obtain ⟨hj, q2⟩ := at_ j _ q2
    rw [List.getElem?_take_of_lt hi] at q3
    rw [List.getElem?_take_of_lt hj] at q4
    exact M.inj i j xs ys a q1 q2 q3 q4
/-- one thing more is guarded -/
theorem MR.guard (M : MR Γ G S H ρ m) {o : HO} (hp : H p = some o) (hs : S p = none) (hc : ∀ (i : Nat) (xs : List D), m[i]? = some (.lst xs) → ρ[i]? ≠ some p) : MR Γ (upd G p o) S H ρ m := by
  refine ⟨M.sub, fun b x q => ?_, fun b x q => ?_, M.len, fun i xs q => ?_, M.inj⟩
  · by_cases e : b = p
    · subst e; rw [upd_same] at q; cases q; exact hp
    · rw [upd_ne e] at q; exact M.gsub b x q
  · by_cases e : b = p
    · subst e; exact hs
    · rw [upd_ne e] at q; exact M.dis b x q
  · obtain ⟨a, vs, h1, h2, h3, h4, h5⟩ := M.cell i xs q
    refine ⟨a, vs, h1, h2, h3, h4, ?_⟩
    rw [upd_ne (fun z => hc i xs q (by rw [← z]; exact h1))]
    exact h5
/-- what was guarded is written, and guarded no more -/
theorem MR.unguard {G' : Hp} {o : HO} (M : MR Γ (upd G p o) S H ρ m) (hg : G p = none) (u : HO) : MR Γ G S (upd H p u) ρ m ∧ S p = none ∧ (∀ (i : Nat) (xs : List D), m[i]? = some (.lst xs) → ρ[i]? ≠ some p) := by
  have hs : S p = none := M.dis p o upd_same
  have hc : ∀ (i : Nat) (xs : List D), m[i]? = some (.lst xs) → ρ[i]? ≠ some p := fun i xs q z => by
    obtain ⟨a, vs, h1, _, _, _, h5⟩ := M.cell i xs q
    rw [z] at h1
    cases h1
    rw [upd_same] at h5
    cases h5
  refine ⟨⟨fun b x q => ?_, fun b x q => ?_, fun b x q => ?_, M.len, fun i xs q => ?_, M.inj⟩, hs, hc⟩
  · rw [upd_ne (ne_of_none q hs)]; exact M.sub b x q
  · rw [upd_ne (ne_of_none q hg)]; exact M.gsub b x (by rw [upd_ne (ne_of_none q hg)]; exact q)
  · exact M.dis b x (by rw [upd_ne (ne_of_none q hg)]; exact q)
  · obtain ⟨a, vs, h1, h2, h3, h4, h5⟩ := M.cell i xs q
    have ne : a ≠ p := fun z => hc i xs q (by rw [← z]; exact h1)
    exact ⟨a, vs, h1, by rw [upd_ne ne]; exact h2, h3, h4, by rw [upd_ne ne] at h5; exact h5⟩
end

/-! ### judgements -/
def WE (X : Cx) (e : Expr) (σ : St) (H : Hp) (Q : VK) : Prop :=
  ∀ (pins : List (Addr × Obj)) (s : Shared), Inv X pins σ H s → wpAny (model X.prog X.w) X.A (eval e X.env) (EP X pins σ Q) X.xe s
theorem pe_we {X : Cx} {e : Expr} : PE X e (WE X e) := ⟨fun pins s _ _ _ I h => h pins s I⟩
theorem we_of {X : Cx} {e : Expr} {t : TE} {σ : St} {H : Hp} {Q : VK} (h : PE X e t) (q : t σ H Q) : WE X e σ H Q := fun pins s I => h.run pins s σ H Q I q
def WT (X : Cx) (e : Expr) (σ : St) (H : Hp) (Q : Bool → Hp → Prop) : Prop :=
  ∀ (pins : List (Addr × Obj)) (s : Shared), Inv X pins σ H s → wpAny (model X.prog X.w) X.A (isTrue e X.env (eval e X.env)) (TP X pins σ Q) X.xe s
theorem pt_wt {X : Cx} {e : Expr} : PT X e (WT X e) := ⟨fun pins s _ _ _ I h => h pins s I⟩
theorem wt_of {X : Cx} {e : Expr} {t : TT} {σ : St} {H : Hp} {Q : Bool → Hp → Prop} (h : PT X e t) (q : t σ H Q) : WT X e σ H Q := fun pins s I => h.run pins s σ H Q I q
def WA (X : Cx) (es : List Expr) (σ : St) (H : Hp) (Q : List V → Hp → Prop) : Prop :=
  ∀ (pos : Pos) (pins : List (Addr × Obj)) (s : Shared), Inv X pins σ H s → wpAny (model X.prog X.w) X.A (spliced (backTo pos (starEach es X.env))) (AP X pins σ Q) X.xe s
theorem pa_wa {X : Cx} {es : List Expr} : PA X es (WA X es) := ⟨fun pos pins s _ _ _ I h => h pos pins s I⟩
theorem wa_of {X : Cx} {es : List Expr} {t : TA} {σ : St} {H : Hp} {Q : List V → Hp → Prop} (h : PA X es t) (q : t σ H Q) : WA X es σ H Q := fun pos pins s I => h.run pos pins s σ H Q I q
def WS (X : Cx) (st : Stmt) (D : Ends) (σ : St) (H : Hp) : Prop :=
  ∀ (pins : List (Addr × Obj)) (s : Shared), Inv X pins σ H s → wpAny (model X.prog X.w) X.A (exec st X.env) (SP X pins D) X.xe s
theorem ps_ws {X : Cx} {st : Stmt} : PS X st (WS X st) := ⟨fun pins s _ _ _ I h => h pins s I⟩
theorem ws_of {X : Cx} {st : Stmt} {t : TS} {σ : St} {H : Hp} {D : Ends} (h : PS X st t) (q : t D σ H) : WS X st D σ H := fun pins s I => h.run pins s σ H D I q
def WSs (X : Cx) (st : List Stmt) (D : Ends) (σ : St) (H : Hp) : Prop :=
  ∀ (pins : List (Addr × Obj)) (s : Shared), Inv X pins σ H s → wpAny (model X.prog X.w) X.A (execs st X.env) (SP X pins D) X.xe s
theorem pss_wss {X : Cx} {st : List Stmt} : PSs X st (WSs X st) := ⟨fun pins s _ _ _ I h => h pins s I⟩
theorem wss_of {X : Cx} {st : List Stmt} {t : TS} {σ : St} {H : Hp} {D : Ends} (h : PSs X st t) (q : t D σ H) : WSs X st D σ H := fun pins s I => h.run pins s σ H D I q
def WG (X : Cx) (tg : Expr) (v : V) (σ : St) (H : Hp) (Q : St → Hp → Prop) : Prop :=
  ∀ (pins : List (Addr × Obj)) (s : Shared) (u : Value), Inv X pins σ H s → RelV v u → wpAny (model X.prog X.w) X.A (assign tg X.env u) (fun _ s' => ∃ σ' H', Inv X pins σ' H' s' ∧ Q σ' H') X.xe s
theorem pg_wg {X : Cx} {tg : Expr} : PG X tg (WG X tg) := ⟨fun pins s _ _ _ u _ I r h => h pins s u I r⟩
theorem wg_of {X : Cx} {tg : Expr} {t : TG} {v : V} {σ : St} {H : Hp} {Q : St → Hp → Prop} (h : PG X tg t) (q : t v σ H Q) : WG X tg v σ H Q := fun pins s u I r => h.run pins s σ H v u Q I r q
def WI (X : Cx) (tg iter : Expr) (σ : St) (H : Hp) (Rr : It → Hp → Prop) : Prop :=
  ∀ (pins : List (Addr × Obj)) (s : Shared), Inv X pins σ H s → wpAny (model X.prog X.w) X.A (eval iter X.env) (fun v s1 => wpAny (model X.prog X.w) X.A (pyIter v) (PIE X pins σ tg Rr) X.xe s1) X.xe s
theorem pi_wi {X : Cx} {tg iter : Expr} : PI X tg iter (WI X tg iter) := ⟨fun pins s _ _ _ I h => h pins s I⟩
theorem wi_of {X : Cx} {tg iter : Expr} {t : TI} {σ : St} {H : Hp} {Rr : It → Hp → Prop} (h : PI X tg iter t) (q : t σ H Rr) : WI X tg iter σ H Rr := fun pins s I => h.run pins s σ H Rr I q
/-- a two-place operation at two values -/
def WO (X : Cx) (f : Value → Value → Sem Value) (x y : V) (σ : St) (H : Hp) (Q : VK) : Prop :=
  ∀ (pins : List (Addr × Obj)) (s : Shared) (v u : Value), Inv X pins σ H s → RelV x v → RelV y u → wpAny (model X.prog X.w) X.A (f v u) (EP X pins σ Q) X.xe s
theorem wo_of {X : Cx} {f : Value → Value → Sem Value} {r : R2} (h : OpR X f r) {x y : V} {σ : St} {H : Hp} {Q : VK} (q : r x y H Q) : WO X f x y σ H Q := fun pins s v u I rx ry => h pins s σ H x y v u Q I rx ry q
/-- a call of a known value -/
def WC (X : Cx) (f : Value) (xs : List V) (σ : St) (H : Hp) (Q : VK) : Prop :=
  ∀ (pins : List (Addr × Obj)) (s : Shared) (us : List Value), Inv X pins σ H s → Vals xs us → wpAny (model X.prog X.w) X.A (call f us) (EP X pins σ Q) X.xe s
theorem wc_of {X : Cx} {f : Value} {r : List V → Hp → VK → Prop} (h : CallR X f r) {xs : List V} {σ : St} {H : Hp} {Q : VK} (q : r xs H Q) : WC X f xs σ H Q := fun pins s us I rx => h pins s σ H xs us Q I rx q

/-- how an exception lies -/
def XR (Γ : Gd) (S H : Hp) (cls : Value) (d : Option Addr) (x : Exc) : Prop :=
  ∃ (C dd : Addr) (fs : List (Str × V)), Γ.mg x.cls = some (.ref C) ∧ cls = .ref C ∧ d = some dd ∧ H dd = some (.xd fs) ∧ fs.map (·.1) = x.fs.map (·.1) ∧ RpAll Γ S (fs.map (·.2)) (x.fs.map (·.2))

section
variable (X : Cx) (W : WX)
/-- what is wanted behind: of a value -/
def QV (G S : Hp) (ρ : List Addr) (Q : VK) : SV → Mem → Prop := fun v m' => ∀ S' H' ρ' vv, Ext S ρ S' ρ' → MR (gd X) G S' H' ρ' m' → RSV (gd X) S' ρ' vv v → Q vv H'
def QX (G S : Hp) (ρ : List Addr) (σ : St) : Exc → Mem → Prop := fun x m' => ∀ S' H' ρ' cls d, Ext S ρ S' ρ' → MR (gd X) G S' H' ρ' m' → XR (gd X) S' H' cls d x → W cls d σ H'
def QA (G S : Hp) (ρ : List Addr) (Q : List V → Hp → Prop) : List SV → Mem → Prop := fun v m' => ∀ S' H' ρ' vv, Ext S ρ S' ρ' → MR (gd X) G S' H' ρ' m' → Paired (RSV (gd X) S' ρ') vv v → Q vv H'
def QB (G S : Hp) (ρ : List Addr) (Q : Bool → Hp → Prop) : Bool → Mem → Prop := fun b m' => ∀ S' H' ρ', Ext S ρ S' ρ' → MR (gd X) G S' H' ρ' m' → Q b H'
structure JE (e : Expr) (f : En → P SV) : Prop where
  run : ∀ {G S H : Hp} {ρ : List Addr} {m : Mem} {env : En} {σ : St} {Q : VK}, MR (gd X) G S H ρ m → ER (gd X) S ρ env σ → wpr (f env m) (QV X G S ρ Q) (QX X W G S ρ σ) → WE X e σ H Q
structure JT (e : Expr) (f : En → P Bool) : Prop where
  run : ∀ {G S H : Hp} {ρ : List Addr} {m : Mem} {env : En} {σ : St} {Q : Bool → Hp → Prop}, MR (gd X) G S H ρ m → ER (gd X) S ρ env σ → wpr (f env m) (QB X G S ρ Q) (QX X W G S ρ σ) → WT X e σ H Q
structure JA (es : List Expr) (f : En → P (List SV)) : Prop where
  run : ∀ {G S H : Hp} {ρ : List Addr} {m : Mem} {env : En} {σ : St} {Q : List V → Hp → Prop}, MR (gd X) G S H ρ m → ER (gd X) S ρ env σ → wpr (f env m) (QA X G S ρ Q) (QX X W G S ρ σ) → WA X es σ H Q
/-- an operation at two values -/
structure JO (f : Value → Value → Sem Value) (g : SV → SV → P SV) : Prop where
  run : ∀ {G S H : Hp} {ρ : List Addr} {m : Mem} {σ : St} {x y : SV} {xv yv : V} {Q : VK}, MR (gd X) G S H ρ m → RSV (gd X) S ρ xv x → RSV (gd X) S ρ yv y → wpr (g x y m) (QV X G S ρ Q) (QX X W G S ρ σ) → WO X f xv yv σ H Q
/-- a call of a known value -/
structure JC (f : Value) (g : List SV → P SV) : Prop where
  run : ∀ {G S H : Hp} {ρ : List Addr} {m : Mem} {σ : St} {xs : List SV} {xvs : List V} {Q : VK}, MR (gd X) G S H ρ m → Paired (RSV (gd X) S ρ) xvs xs → wpr (g xs m) (QV X G S ρ Q) (QX X W G S ρ σ) → WC X f xvs σ H Q
end

inductive Out where
  | nx (env : En) | rt (v : SV) | bk (env : En) | ct (env : En)
abbrev DS := En → P Out
section
variable (X : Cx) (W : WX)
def QS (G S : Hp) (ρ : List Addr) (D : Ends) : Out → Mem → Prop := fun o m' => match o with
  | .nx env => ∀ S' H' ρ' σ', Ext S ρ S' ρ' → MR (gd X) G S' H' ρ' m' → ER (gd X) S' ρ' env σ' → D.nx σ' H'
  | .rt v => ∀ S' H' ρ' vv, Ext S ρ S' ρ' → MR (gd X) G S' H' ρ' m' → RSV (gd X) S' ρ' vv v → D.rt vv H'
  | .bk env => ∀ S' H' ρ' σ', Ext S ρ S' ρ' → MR (gd X) G S' H' ρ' m' → ER (gd X) S' ρ' env σ' → D.bk σ' H'
  | .ct env => ∀ S' H' ρ' σ', Ext S ρ S' ρ' → MR (gd X) G S' H' ρ' m' → ER (gd X) S' ρ' env σ' → D.ct σ' H'
def QXs (G S : Hp) (ρ : List Addr) : Exc → Mem → Prop := fun x m' => ∀ S' H' ρ' σ' cls d, Ext S ρ S' ρ' → MR (gd X) G S' H' ρ' m' → XR (gd X) S' H' cls d x → W cls d σ' H'
structure JS (st : Stmt) (f : DS) : Prop where
  run : ∀ {G S H : Hp} {ρ : List Addr} {m : Mem} {env : En} {σ : St} {D : Ends}, MR (gd X) G S H ρ m → ER (gd X) S ρ env σ → wpr (f env m) (QS X G S ρ D) (QXs X W G S ρ) → WS X st D σ H
structure JB (st : List Stmt) (f : DS) : Prop where
  run : ∀ {G S H : Hp} {ρ : List Addr} {m : Mem} {env : En} {σ : St} {D : Ends}, MR (gd X) G S H ρ m → ER (gd X) S ρ env σ → wpr (f env m) (QS X G S ρ D) (QXs X W G S ρ) → WSs X st D σ H
end
section
variable {X : Cx} {W : WX}
theorem qv_ext {G S S1 : Hp} {ρ ρ1 : List Addr} {Q : VK} (e : Ext S ρ S1 ρ1) {v : SV} {m : Mem} (h : QV X G S ρ Q v m) : QV X G S1 ρ1 Q v m := fun S' H' ρ' vv e' M r => h S' H' ρ' vv (e.trans e') M r
theorem qb_ext {G S S1 : Hp} {ρ ρ1 : List Addr} {Q : Bool → Hp → Prop} (e : Ext S ρ S1 ρ1) {v : Bool} {m : Mem} (h : QB X G S ρ Q v m) : QB X G S1 ρ1 Q v m := fun S' H' ρ' e' M => h S' H' ρ' (e.trans e') M
theorem qa_ext {G S S1 : Hp} {ρ ρ1 : List Addr} {Q : List V → Hp → Prop} (e : Ext S ρ S1 ρ1) {v : List SV} {m : Mem} (h : QA X G S ρ Q v m) : QA X G S1 ρ1 Q v m := fun S' H' ρ' vv e' M r => h S' H' ρ' vv (e.trans e') M r
theorem qx_ext {G S S1 : Hp} {ρ ρ1 : List Addr} {σ : St} (e : Ext S ρ S1 ρ1) {x : Exc} {m : Mem} (h : QX X W G S ρ σ x m) : QX X W G S1 ρ1 σ x m := fun S' H' ρ' c d e' M r => h S' H' ρ' c d (e.trans e') M r
theorem qxs_ext {G S S1 : Hp} {ρ ρ1 : List Addr} (e : Ext S ρ S1 ρ1) {x : Exc} {m : Mem} (h : QXs X W G S ρ x m) : QXs X W G S1 ρ1 x m := fun S' H' ρ' σ' c d e' M r => h S' H' ρ' σ' c d (e.trans e') M r
theorem qs_ext {G S S1 : Hp} {ρ ρ1 : List Addr} {D : Ends} (e : Ext S ρ S1 ρ1) {o : Out} {m : Mem} (h : QS X G S ρ D o m) : QS X G S1 ρ1 D o m := by
  cases o with
  | nx env => exact fun S' H' ρ' σ' e' M r => h S' H' ρ' σ' (e.trans e') M r
  | rt v => exact fun S' H' ρ' σ' e' M r => h S' H' ρ' σ' (e.trans e') M r
  | bk env => exact fun S' H' ρ' σ' e' M r => h S' H' ρ' σ' (e.trans e') M r
  | ct env => exact fun S' H' ρ' σ' e' M r => h S' H' ρ' σ' (e.trans e') M r
theorem qx_of {G S : Hp} {ρ : List Addr} {σ : St} {x : Exc} {m : Mem} (h : QXs X W G S ρ x m) : QX X W G S ρ σ x m := fun S' H' ρ' c d e' M r => h S' H' ρ' σ c d e' M r
end
end PL

/-! PL2: the pure layer's rules for expressions and tests. -/
namespace PL
open PySem PySem.Spec PyProof.Rows L2
section
variable {X : Cx} {W : WX} {a b c e : Expr} {es : List Expr} {pos : Pos} {σ : St} {H : Hp}

/-! ### closures of the layer's rules -/
theorem we_bin {op : Operator} {Q : VK} (h : WE X a σ H fun x H1 => WE X b σ H1 fun y H2 => WO X (binaryOp op) x y σ H2 Q) : WE X (.BinOp a op b pos) σ H Q := fun pins s I =>
  wpAny_BinOp (thn (h pins s I) fun v s1 ⟨x, H1, I1, r1, q1⟩ => thn (q1 pins s1 I1) fun u s2 ⟨y, H2, I2, r2, q2⟩ => q2 pins s2 v u I2 r1 r2)
theorem we_cmp {op : CmpOp} {Q : VK} (hm : behindInMarks op b = false) (h : WE X a σ H fun x H1 => WE X b σ H1 fun y H2 => WO X (compareOp op) x y σ H2 Q) : WE X (.Compare a [op] [b] pos) σ H Q := fun pins s I =>
  wpAny_Compare1 (thn (h pins s I) fun v s1 ⟨x, H1, I1, r1, q1⟩ => thn (q1 pins s1 I1) fun u s2 ⟨y, H2, I2, r2, q2⟩ => q2 pins s2 v u I2 r1 r2) hm
theorem wt_cmp {op : CmpOp} {Q : Bool → Hp → Prop} (hm : behindInMarks op b = false) (h : WE X a σ H fun x H1 => WE X b σ H1 fun y H2 => WO X (compareOp op) x y σ H2 fun z H3 => ∃ k, z = .bl k ∧ Q k H3) : WT X (.Compare a [op] [b] pos) σ H Q := fun pins s I => by
  refine wpAny_isTrue_Compare1 (thn (h pins s I) fun v s1 ⟨x, H1, I1, r1, q1⟩ => thn (q1 pins s1 I1) fun u s2 ⟨y, H2, I2, r2, q2⟩ => thn (q2 pins s2 v u I2 r1 r2) fun cc s3 ⟨z, H3, I3, r3, k, ez, q3⟩ => ?_) hm
  subst ez
  cases r3
  exact wpAny_truthy_bool ⟨H3, I3, q3⟩
theorem we_chain {op op' : CmpOp} {Q : VK} (hm : lastMarks [op, op'] [b, c] = false) (h : WE X a σ H fun x H1 => WE X b σ H1 fun y H2 => WO X (compareOp op) x y σ H2 fun z H3 => ∃ k, z = .bl k ∧
    (if k = true then WE X c σ H3 fun w' H4 => WO X (compareOp op') y w' σ H4 Q else Q (.bl false) H3)) : WE X (.Compare a [op, op'] [b, c] pos) σ H Q := fun pins s I => by
  refine Compare_chain (thn (h pins s I) fun v s1 ⟨x, H1, I1, r1, q1⟩ => chain_link (thn (q1 pins s1 I1) fun u s2 ⟨y, H2, I2, r2, q2⟩ =>
    thn (q2 pins s2 v u I2 r1 r2) fun d s3 ⟨z, H3, I3, r3, k, ez, q3⟩ => ?_)) hm
  subst ez
  cases r3
  refine wpAny_truthy_bool ?_
  cases k with
  | false => exact ite_ff ⟨.bl false, H3, I3, rfl, q3⟩
  | true => exact ite_tt (chain_last (thn (q3 pins s3 I3) fun w' s4 ⟨z', H4, I4, r4, q4⟩ => q4 pins s4 u w' I4 r2 r4))
theorem wt_chain {op op' : CmpOp} {Q : Bool → Hp → Prop} (hm : lastMarks [op, op'] [b, c] = false) (h : WE X a σ H fun x H1 => WE X b σ H1 fun y H2 => WO X (compareOp op) x y σ H2 fun z H3 => ∃ k, z = .bl k ∧
    (if k = true then WE X c σ H3 fun w' H4 => WO X (compareOp op') y w' σ H4 fun z H5 => ∃ k, z = .bl k ∧ Q k H5 else Q false H3)) : WT X (.Compare a [op, op'] [b, c] pos) σ H Q := fun pins s I => by
  refine isTrue_chain (thn (h pins s I) fun v s1 ⟨x, H1, I1, r1, q1⟩ => test_link (thn (q1 pins s1 I1) fun u s2 ⟨y, H2, I2, r2, q2⟩ =>
    thn (q2 pins s2 v u I2 r1 r2) fun d s3 ⟨z, H3, I3, r3, k, ez, q3⟩ => ?_)) hm
  subst ez
  cases r3
  refine wpAny_truthy_bool ?_
  cases k with
  | false => exact ite_ff ⟨H3, I3, q3⟩
  | true =>
    refine ite_tt (test_last (thn (q3 pins s3 I3) fun w' s4 ⟨z', H4, I4, r4, q4⟩ => thn (q4 pins s4 u w' I4 r2 r4) fun d' s5 ⟨z2, H5, I5, r5, k2, e2, q5⟩ => ?_))
    subst e2
    cases r5
    exact wpAny_truthy_bool ⟨H5, I5, q5⟩
theorem we_callB {id : String} {x : Str} {p : Pos} {Q : VK} (hg : Gl X x) (hm : X.mg x = none) (hv : bootBuiltins x = some (.builtin id)) (h : WA X (e :: es) σ H fun vs H1 => WC X (.builtin id) vs σ H1 Q) (hn : x ≠ "__name__" := by decide) (hdb : (x == ("__debug__" : Str)) = false := by decide)
    (he : starEach (e :: es) X.env = (false, eval e X.env) :: starEach es X.env := by rfl) (hpl : (backTo pos (starEach es X.env)).any (·.1) = false := by rfl) : WE X (.Call (.Name x p) (e :: es) [] pos) σ H Q := fun pins s I => by
  refine wpAny_Call_Name_kw (ld_blt I hg hm hv ?_ hn hdb)
  exact PyProof.Rows.callWith_builtin1 (thn (h pos pins s I) fun us s1 ⟨vs, H1, I1, r1, q1⟩ => q1 pins s1 us I1 r1) he hpl
theorem we_callTy {T : String} {x : Str} {p : Pos} {Q : VK} (hg : Gl X x) (hm : X.mg x = none) (hv : bootBuiltins x = some (.type T)) (h : WA X (e :: es) σ H fun vs H1 => WC X (.type T) vs σ H1 Q) (hn : x ≠ "__name__" := by decide) (hdb : (x == ("__debug__" : Str)) = false := by decide)
    (he : starEach (e :: es) X.env = (false, eval e X.env) :: starEach es X.env := by rfl) (hpl : (backTo pos (starEach es X.env)).any (·.1) = false := by rfl) : WE X (.Call (.Name x p) (e :: es) [] pos) σ H Q := fun pins s I => by
  refine wpAny_Call_Name_kw (ld_blt I hg hm hv ?_ hn hdb)
  exact PyProof.Rows.callWith_type1 (thn (h pos pins s I) fun us s1 ⟨vs, H1, I1, r1, q1⟩ => q1 pins s1 us I1 r1) he hpl

/-! ### names, constants -/
def dVar (i : Nat) : En → P SV := fun env m => match env[i]? with
  | some (some v) => .ok v m
  | _ => .stuck
def dC (d : D) : En → P SV := fun _ => P.ret (.dat d)
theorem je_var (i : Nat) {x : Str} {pos : Pos} (hN : X.N[i]? = some x := by rfl) (hv : Vis X.env.scope x := by first | exact Or.inl rfl | exact Or.inr (Or.inl rfl) | exact Or.inr (Or.inr rfl)) (hd : (x == ("__debug__" : Str)) = false := by decide)
    (hcd : (x == ("__classdict__" : Str)) = false := by decide) : JE X W (.Name x pos) (dVar i) := ⟨fun {G S H ρ m env σ Q} M E h => by
  unfold dVar at h
  split at h
  · rename_i v hv'
    obtain ⟨vv, h1, h2⟩ := E.at_ i v hv'
    exact we_of (pe_var hN hv hd hcd) ⟨vv, h1, h S H ρ vv (Ext.refl _ _) M h2⟩
  · exact h.elim⟩
theorem je_c {t : TE} {d : D} {v : V} (h : PE X e t) (ht : ∀ σ H Q, Q v H → t σ H Q) (r : ∀ S, Rp (gd X) S v d) : JE X W e (dC d) := ⟨fun {G S H ρ m env σ Q} M E q => we_of h (ht σ H Q (q S H ρ v (Ext.refl _ _) M (r S)))⟩
theorem je_int {i j pos} : JE X W (.Constant (.int i) j pos) (dC (.int i)) := je_c pe_int (fun _ _ _ h => h) fun _ => .int i
theorem je_bl {b j pos} : JE X W (.Constant (.bool b) j pos) (dC (.bl b)) := je_c pe_bl (fun _ _ _ h => h) fun _ => .bl b
theorem je_non {j pos} : JE X W (.Constant .none j pos) (dC .non) := je_c pe_non (fun _ _ _ h => h) fun _ => .non
theorem je_str {x j pos} : JE X W (.Constant (.str x) j pos) (dC (.str x)) := je_c pe_str (fun _ _ _ h => h) fun _ => .str x
/-- a module's int -/
theorem je_gint {x : Str} {i : Int} {pos : Pos} (hg : Gl X x) (hm : ∃ t, X.mg x = some (.int i t)) (hd : (x == ("__debug__" : Str)) = false := by decide) : JE X W (.Name x pos) (dC (.int i)) := by
  obtain ⟨t, hm⟩ := hm
  exact je_c (pe_glob (v := .int i) hg hm ⟨t, rfl⟩ hd) (fun _ _ _ h => h) fun _ => .int i
/-- a built-in type as a value -/
theorem je_ty {x : Str} {n : String} {pos : Pos} (hg : Gl X x) (hm : X.mg x = none) (hv : bootBuiltins x = some (.type n)) (hn : x ≠ "__name__" := by decide) (hd : (x == ("__debug__" : Str)) = false := by decide) : JE X W (.Name x pos) (dC (.ty n)) :=
  je_c (pe_bltn (v := .ty n) hg hm hv rfl hn hd) (fun _ _ _ h => h) fun _ => .ty n

/-! ### two-place operations -/
def d2 (g : SV → SV → P SV) (fa fb : En → P SV) : En → P SV := fun env => (fa env).bnd fun x => (fb env).bnd fun y => g x y
variable {fa fb fc : En → P SV}
theorem je_bin {op : Operator} {g : SV → SV → P SV} (jo : JO X W (binaryOp op) g) (ja : JE X W a fa) (jb : JE X W b fb) : JE X W (.BinOp a op b pos) (d2 g fa fb) := ⟨fun {G S H ρ m env σ Q} M E h => by
  refine we_bin (ja.run M E (wpr_monoQ (wpr_bnd h) fun x m1 hx => ?_))
  intro S1 H1 ρ1 xv e1 M1 rx
  refine jb.run M1 (E.mono e1) (wpr_mono (wpr_bnd hx) (fun y m2 hy => ?_) fun _ _ z => qx_ext e1 z)
  intro S2 H2 ρ2 yv e2 M2 ry
  exact jo.run M2 (rx.mono e2) ry (wpr_mono hy (fun _ _ z => qv_ext (e1.trans e2) z) fun _ _ z => qx_ext (e1.trans e2) z)⟩
theorem je_cmp {op : CmpOp} {g : SV → SV → P SV} (jo : JO X W (compareOp op) g) (ja : JE X W a fa) (jb : JE X W b fb) (hm : behindInMarks op b = false := by first | exact nomark _ | rfl) : JE X W (.Compare a [op] [b] pos) (d2 g fa fb) := ⟨fun {G S H ρ m env σ Q} M E h => by
  refine we_cmp hm (ja.run M E (wpr_monoQ (wpr_bnd h) fun x m1 hx => ?_))
  intro S1 H1 ρ1 xv e1 M1 rx
  refine jb.run M1 (E.mono e1) (wpr_mono (wpr_bnd hx) (fun y m2 hy => ?_) fun _ _ z => qx_ext e1 z)
  intro S2 H2 ρ2 yv e2 M2 ry
  exact jo.run M2 (rx.mono e2) ry (wpr_mono hy (fun _ _ z => qv_ext (e1.trans e2) z) fun _ _ z => qx_ext (e1.trans e2) z)⟩
/-- a value that is to be a truth -/
def asB (v : SV) : P Bool := match v with
  | .dat (.bl b) => P.ret b
  | _ => P.stk
def dB (f : En → P SV) : En → P Bool := fun env => (f env).bnd asB
theorem asB_ok {G S S' H' : Hp} {ρ ρ' : List Addr} {v : SV} {vv : V} {m' : Mem} {Q : Bool → Hp → Prop} {E : Exc → Mem → Prop} (e : Ext S ρ S' ρ') (M : MR (gd X) G S' H' ρ' m') (r : RSV (gd X) S' ρ' vv v)
    (h : wpr (asB v m') (QB X G S ρ Q) E) : ∃ k, vv = .bl k ∧ Q k H' := by
  cases v with
  | ref n => exact h.elim
  | dat d =>
    cases d with
    | bl b => cases r; exact ⟨b, rfl, h S' H' ρ' e M⟩
    | _ => exact h.elim
theorem jt_cmp {op : CmpOp} {g : SV → SV → P SV} (jo : JO X W (compareOp op) g) (ja : JE X W a fa) (jb : JE X W b fb) (hm : behindInMarks op b = false := by first | exact nomark _ | rfl) : JT X W (.Compare a [op] [b] pos) (dB (d2 g fa fb)) := ⟨fun {G S H ρ m env σ Q} M E h => by
  have h := wpr_bnd h
  refine wt_cmp hm (ja.run M E (wpr_monoQ (wpr_bnd h) fun x m1 hx => ?_))
  intro S1 H1 ρ1 xv e1 M1 rx
  refine jb.run M1 (E.mono e1) (wpr_mono (wpr_bnd hx) (fun y m2 hy => ?_) fun _ _ z => qx_ext e1 z)
  intro S2 H2 ρ2 yv e2 M2 ry
  refine jo.run M2 (rx.mono e2) ry (wpr_mono hy (fun z m3 hz => ?_) fun _ _ z => qx_ext (e1.trans e2) z)
  intro S3 H3 ρ3 zv e3 M3 rz
  exact asB_ok ((e1.trans e2).trans e3) M3 rz hz⟩
/-- a op b op' c -/
def dCh (g g' : SV → SV → P SV) (fa fb fc : En → P SV) : En → P SV := fun env => (fa env).bnd fun x => (fb env).bnd fun y => (g x y).bnd fun z => match z with
  | .dat (.bl true) => (fc env).bnd fun w => g' y w
  | .dat (.bl false) => P.ret (.dat (.bl false))
  | _ => P.stk
theorem je_chain {op op' : CmpOp} {g g' : SV → SV → P SV} (jo : JO X W (compareOp op) g) (jo' : JO X W (compareOp op') g') (ja : JE X W a fa) (jb : JE X W b fb) (jc : JE X W c fc)
    (hm : lastMarks [op, op'] [b, c] = false := by with_unfolding_all rfl) : JE X W (.Compare a [op, op'] [b, c] pos) (dCh g g' fa fb fc) := ⟨fun {G S H ρ m env σ Q} M E h => by
  refine we_chain hm (ja.run M E (wpr_monoQ (wpr_bnd h) fun x m1 hx => ?_))
  intro S1 H1 ρ1 xv e1 M1 rx
  refine jb.run M1 (E.mono e1) (wpr_mono (wpr_bnd hx) (fun y m2 hy => ?_) fun _ _ z => qx_ext e1 z)
  intro S2 H2 ρ2 yv e2 M2 ry
  refine jo.run M2 (rx.mono e2) ry (wpr_mono (wpr_bnd hy) (fun z m3 hz => ?_) fun _ _ z => qx_ext (e1.trans e2) z)
  intro S3 H3 ρ3 zv e3 M3 rz
  have e13 := (e1.trans e2).trans e3
  cases z with
  | ref n => exact hz.elim
  | dat d =>
    cases d with
    | bl k =>
      cases rz
      refine ⟨k, rfl, ?_⟩
      cases k with
      | true =>
        rw [if_pos rfl]
        refine jc.run M3 (E.mono e13) (wpr_mono (wpr_bnd hz) (fun w m4 hw => ?_) fun _ _ z => qx_ext e13 z)
        intro S4 H4 ρ4 wv e4 M4 rw'
        exact jo'.run M4 (ry.mono (e3.trans e4)) rw' (wpr_mono hw (fun _ _ z => qv_ext (e13.trans e4) z) fun _ _ z => qx_ext (e13.trans e4) z)
      | false =>
        rw [if_neg Bool.false_ne_true]
        exact hz S3 H3 ρ3 _ e13 M3 (.bl false)
    | _ => exact hz.elim⟩
theorem jt_chain {op op' : CmpOp} {g g' : SV → SV → P SV} (jo : JO X W (compareOp op) g) (jo' : JO X W (compareOp op') g') (ja : JE X W a fa) (jb : JE X W b fb) (jc : JE X W c fc)
    (hm : lastMarks [op, op'] [b, c] = false := by with_unfolding_all rfl) : JT X W (.Compare a [op, op'] [b, c] pos) (dB (dCh g g' fa fb fc)) := ⟨fun {G S H ρ m env σ Q} M E h => by
  have h := wpr_bnd h
  refine wt_chain hm (ja.run M E (wpr_monoQ (wpr_bnd h) fun x m1 hx => ?_))
  intro S1 H1 ρ1 xv e1 M1 rx
  refine jb.run M1 (E.mono e1) (wpr_mono (wpr_bnd hx) (fun y m2 hy => ?_) fun _ _ z => qx_ext e1 z)
  intro S2 H2 ρ2 yv e2 M2 ry
  refine jo.run M2 (rx.mono e2) ry (wpr_mono (wpr_bnd hy) (fun z m3 hz => ?_) fun _ _ z => qx_ext (e1.trans e2) z)
  intro S3 H3 ρ3 zv e3 M3 rz
  have e13 := (e1.trans e2).trans e3
  cases z with
  | ref n => exact hz.elim
  | dat d =>
    cases d with
    | bl k =>
      cases rz
      refine ⟨k, rfl, ?_⟩
      cases k with
      | true =>
        rw [if_pos rfl]
        refine jc.run M3 (E.mono e13) (wpr_mono (wpr_bnd hz) (fun w m4 hw => ?_) fun _ _ z => qx_ext e13 z)
        intro S4 H4 ρ4 wv e4 M4 rw'
        refine jo'.run M4 (ry.mono (e3.trans e4)) rw' (wpr_mono hw (fun z m5 hz5 => ?_) fun _ _ z => qx_ext (e13.trans e4) z)
        intro S5 H5 ρ5 zv5 e5 M5 rz5
        exact asB_ok ((e13.trans e4).trans e5) M5 rz5 hz5
      | false =>
        rw [if_neg Bool.false_ne_true]
        exact hz S3 H3 ρ3 e13 M3
    | _ => exact hz.elim⟩

/-! ### and, or, not, if -/
def dAndV (fa fb : En → P SV) : En → P SV := fun env => (fa env).bnd fun x => match x with
  | .dat (.bl true) => fb env
  | .dat (.bl false) => P.ret (.dat (.bl false))
  | _ => P.stk
def dOrV (fa fb : En → P SV) : En → P SV := fun env => (fa env).bnd fun x => match x with
  | .dat (.bl true) => P.ret (.dat (.bl true))
  | .dat (.bl false) => fb env
  | _ => P.stk
def dNotV (fa : En → P SV) : En → P SV := fun env => (fa env).bnd fun x => match x with
  | .dat (.bl k) => P.ret (.dat (.bl (!k)))
  | _ => P.stk
theorem je_one {op} (ja : JE X W a fa) : JE X W (.BoolOp op [a] pos) fa := ⟨fun {G S H ρ m env σ Q} M E h => we_of (pe_one pe_we) (ja.run M E h)⟩
variable {rest : List Expr}
theorem je_and (ja : JE X W a fa) (jb : JE X W (.BoolOp .And (b :: rest) pos) fb) : JE X W (.BoolOp .And (a :: b :: rest) pos) (dAndV fa fb) := ⟨fun {G S H ρ m env σ Q} M E h => by
  refine we_of (pe_and pe_we pe_we) (ja.run M E (wpr_monoQ (wpr_bnd h) fun x m1 hx => ?_))
  intro S1 H1 ρ1 xv e1 M1 rx
  cases x with
  | ref n => exact hx.elim
  | dat d =>
    cases d with
    | bl k =>
      cases rx
      refine ⟨k, rfl, ?_⟩
      cases k with
      | true =>
        rw [if_pos rfl]
        exact jb.run M1 (E.mono e1) (wpr_mono hx (fun _ _ z => qv_ext e1 z) fun _ _ z => qx_ext e1 z)
      | false =>
        rw [if_neg Bool.false_ne_true]
        exact hx S1 H1 ρ1 _ e1 M1 (.bl false)
    | _ => exact hx.elim⟩
theorem je_or (ja : JE X W a fa) (jb : JE X W (.BoolOp .Or (b :: rest) pos) fb) : JE X W (.BoolOp .Or (a :: b :: rest) pos) (dOrV fa fb) := ⟨fun {G S H ρ m env σ Q} M E h => by
  refine we_of (pe_or pe_we pe_we) (ja.run M E (wpr_monoQ (wpr_bnd h) fun x m1 hx => ?_))
  intro S1 H1 ρ1 xv e1 M1 rx
  cases x with
  | ref n => exact hx.elim
  | dat d =>
    cases d with
    | bl k =>
      cases rx
      refine ⟨k, rfl, ?_⟩
      cases k with
      | false =>
        rw [if_neg Bool.false_ne_true]
        exact jb.run M1 (E.mono e1) (wpr_mono hx (fun _ _ z => qv_ext e1 z) fun _ _ z => qx_ext e1 z)
      | true =>
        rw [if_pos rfl]
        exact hx S1 H1 ρ1 _ e1 M1 (.bl true)
    | _ => exact hx.elim⟩
theorem je_not (ja : JE X W a fa) : JE X W (.UnaryOp .Not a pos) (dNotV fa) := ⟨fun {G S H ρ m env σ Q} M E h => by
  refine we_of (pe_not pe_we) (ja.run M E (wpr_monoQ (wpr_bnd h) fun x m1 hx => ?_))
  intro S1 H1 ρ1 xv e1 M1 rx
  cases x with
  | ref n => exact hx.elim
  | dat d =>
    cases d with
    | bl k =>
      cases rx
      exact ⟨k, rfl, hx S1 H1 ρ1 _ e1 M1 (.bl _)⟩
    | _ => exact hx.elim⟩
variable {ta tb : En → P Bool}
def dAndT (ta tb : En → P Bool) : En → P Bool := fun env => (ta env).bnd fun k => match k with
  | true => tb env
  | false => P.ret false
def dOrT (ta tb : En → P Bool) : En → P Bool := fun env => (ta env).bnd fun k => match k with
  | true => P.ret true
  | false => tb env
def dNotT (ta : En → P Bool) : En → P Bool := fun env => (ta env).bnd fun k => P.ret (!k)
def dIf (t : En → P Bool) (fa fb : En → P SV) : En → P SV := fun env => (t env).bnd fun k => match k with
  | true => fa env
  | false => fb env
/-- a test whatever its whole is -/
structure JW (X : Cx) (W : WX) (e : Expr) (f : En → P Bool) : Prop where
  run : ∀ {G S H : Hp} {ρ : List Addr} {m : Mem} {env : En} {σ : St} {Q : Bool → Hp → Prop}, MR (gd X) G S H ρ m → ER (gd X) S ρ env σ → wpr (f env m) (QB X G S ρ Q) (QX X W G S ρ σ) →
    ∀ (whole : Sem Value) (pins : List (Addr × Obj)) (s : Shared), Inv X pins σ H s → wpAny (model X.prog X.w) X.A (isTrue e X.env whole) (TP X pins σ Q) X.xe s
theorem JW.pt (h : JW X W e ta) : JT X W e ta := ⟨fun M E q pins s I => h.run M E q _ pins s I⟩
theorem jw_and1 (ja : JT X W a ta) : JW X W (.BoolOp .And [a] pos) ta := ⟨fun M E h wh pins s I => (pw_and1 pt_wt).run wh pins s _ _ _ I (ja.run M E h)⟩
theorem jw_or1 (ja : JT X W a ta) : JW X W (.BoolOp .Or [a] pos) ta := ⟨fun M E h wh pins s I => (pw_or1 pt_wt).run wh pins s _ _ _ I (ja.run M E h)⟩
theorem jw_and (ja : JT X W a ta) (jb : JW X W (.BoolOp .And (b :: rest) pos) tb) : JW X W (.BoolOp .And (a :: b :: rest) pos) (dAndT ta tb) := ⟨fun {G S H ρ m env σ Q} M E h wh pins s I => by
  refine isTrue_and (thn (ja.run (Q := fun k H1 => if k = true then (∀ (wh : Sem Value) (pins : List (Addr × Obj)) (s : Shared), Inv X pins σ H1 s → wpAny (model X.prog X.w) X.A (isTrue (.BoolOp .And (b :: rest) pos) X.env wh) (TP X pins σ Q) X.xe s) else Q false H1) M E (wpr_monoQ (wpr_bnd h) fun k m1 hk => ?_) pins s I) fun k s1 ⟨H1, I1, q1⟩ => ?_)
  · intro S1 H1 ρ1 e1 M1
    cases k with
    | true =>
      rw [if_pos rfl]
      exact jb.run M1 (E.mono e1) (wpr_mono hk (fun _ _ z => qb_ext e1 z) fun _ _ z => qx_ext e1 z)
    | false =>
      rw [if_neg Bool.false_ne_true]
      exact hk S1 H1 ρ1 e1 M1
  · cases k with
    | true =>
      rw [if_pos rfl] at q1
      exact q1 wh pins s1 I1
    | false =>
      rw [if_neg Bool.false_ne_true] at q1
      exact ⟨H1, I1, q1⟩⟩
theorem jw_or (ja : JT X W a ta) (jb : JW X W (.BoolOp .Or (b :: rest) pos) tb) : JW X W (.BoolOp .Or (a :: b :: rest) pos) (dOrT ta tb) := ⟨fun {G S H ρ m env σ Q} M E h wh pins s I => by
  refine isTrue_or (thn (ja.run (Q := fun k H1 => if k = true then Q true H1 else (∀ (wh : Sem Value) (pins : List (Addr × Obj)) (s : Shared), Inv X pins σ H1 s → wpAny (model X.prog X.w) X.A (isTrue (.BoolOp .Or (b :: rest) pos) X.env wh) (TP X pins σ Q) X.xe s)) M E (wpr_monoQ (wpr_bnd h) fun k m1 hk => ?_) pins s I) fun k s1 ⟨H1, I1, q1⟩ => ?_)
  · intro S1 H1 ρ1 e1 M1
    cases k with
    | false =>
      rw [if_neg Bool.false_ne_true]
      exact jb.run M1 (E.mono e1) (wpr_mono hk (fun _ _ z => qb_ext e1 z) fun _ _ z => qx_ext e1 z)
    | true =>
      rw [if_pos rfl]
      exact hk S1 H1 ρ1 e1 M1
  · cases k with
    | true =>
      rw [if_pos rfl] at q1
      exact ⟨H1, I1, q1⟩
    | false =>
      rw [if_neg Bool.false_ne_true] at q1
      exact q1 wh pins s1 I1⟩
theorem jt_and1 (ja : JT X W a ta) : JT X W (.BoolOp .And [a] pos) ta := (jw_and1 ja).pt
theorem jt_not (ja : JT X W a ta) : JT X W (.UnaryOp .Not a pos) (dNotT ta) := ⟨fun {G S H ρ m env σ Q} M E h => by
  refine wt_of (pt_not pt_wt) (ja.run M E (wpr_monoQ (wpr_bnd h) fun k m1 hk => ?_))
  intro S1 H1 ρ1 e1 M1
  exact hk S1 H1 ρ1 e1 M1⟩
theorem je_if (jc : JT X W c ta) (ja : JE X W a fa) (jb : JE X W b fb) : JE X W (.IfExp c a b pos) (dIf ta fa fb) := ⟨fun {G S H ρ m env σ Q} M E h => by
  refine we_of (pe_ifExp pt_wt pe_we pe_we) (jc.run M E (wpr_monoQ (wpr_bnd h) fun k m1 hk => ?_))
  intro S1 H1 ρ1 e1 M1
  cases k with
  | true =>
    rw [if_pos rfl]
    exact ja.run M1 (E.mono e1) (wpr_mono hk (fun _ _ z => qv_ext e1 z) fun _ _ z => qx_ext e1 z)
  | false =>
    rw [if_neg Bool.false_ne_true]
    exact jb.run M1 (E.mono e1) (wpr_mono hk (fun _ _ z => qv_ext e1 z) fun _ _ z => qx_ext e1 z)⟩
/-- a value's truth -/
def truV (v : SV) : P Bool := fun m => match v with
  | .dat .non => .ok false m
  | .dat (.bl b) => .ok b m
  | .dat (.int i) => .ok (i != 0) m
  | .dat (.str y) => if y.length ≤ 16777216 then .ok ((y.length : Int) != 0) m else .stuck
  | .dat (.tup xs) => .ok (!xs.isEmpty) m
  | .dat (.lst xs) => .ok (!xs.isEmpty) m
  | .ref n => (match m[n]? with | some (.lst xs) => .ok (!xs.isEmpty) m | _ => .stuck)
  | _ => .stuck
def dTr (f : En → P SV) : En → P Bool := fun env => (f env).bnd truV
theorem rpAll_empty {Γ : Gd} {S : Hp} {vs : List V} {ds : List D} (r : RpAll Γ S vs ds) : vs.isEmpty = ds.isEmpty := by cases r <;> rfl
theorem truV_ok {G S S' H' : Hp} {ρ ρ' : List Addr} {v : SV} {vv : V} {m' : Mem} {Q : Bool → Hp → Prop} {E : Exc → Mem → Prop} (e : Ext S ρ S' ρ') (M : MR (gd X) G S' H' ρ' m') (r : RSV (gd X) S' ρ' vv v)
    (h : wpr (truV v m') (QB X G S ρ Q) E) : ∃ k, TruV X.K vv H' k ∧ Q k H' := by
  cases v with
  | ref n =>
    obtain ⟨a, h1, rfl⟩ := r
    unfold truV at h
    simp only at h
    split at h
    · rename_i xs hx
      obtain ⟨a', vs, g1, g2, g3, _⟩ := M.cell n xs hx
      rw [h1] at g1
      cases g1
      exact ⟨_, .inl ⟨vs, .inl (.inl g2), by rw [rpAll_empty g3]⟩, h S' H' ρ' e M⟩
    · exact h.elim
  | dat d =>
    cases d with
    | non => cases r; exact ⟨_, rfl, h S' H' ρ' e M⟩
    | bl b => cases r; exact ⟨_, rfl, h S' H' ρ' e M⟩
    | int i => cases r; exact ⟨_, rfl, h S' H' ρ' e M⟩
    | str y =>
      cases r
      unfold truV at h
      simp only at h
      split at h
      · rename_i hy
        exact ⟨_, ⟨by rw [sizeLine_eq]; exact hy, rfl⟩, h S' H' ρ' e M⟩
      · exact h.elim
    | tup xs =>
      cases r with
      | tup q z => exact ⟨_, .inr (.inl ⟨_, Same.seqT M.sub q, by rw [rpAll_empty z]⟩), h S' H' ρ' e M⟩
    | lst xs =>
      cases r with
      | lst q z => exact ⟨_, .inl ⟨_, .inl (.inl (M.sub _ _ q)), by rw [rpAll_empty z]⟩, h S' H' ρ' e M⟩
    | _ => exact h.elim
theorem jt_val (ja : JE X W a fa) (he : ∀ whole, isTrue a X.env whole = (do let v ← whole; standAt a.pos; holding [v] (truthy v)) := by intro _; rfl) : JT X W a (dTr fa) := ⟨fun {G S H ρ m env σ Q} M E h => by
  refine wt_of (pt_truth pe_we he) (ja.run M E (wpr_monoQ (wpr_bnd h) fun x m1 hx => ?_))
  intro S1 H1 ρ1 xv e1 M1 rx
  exact truV_ok e1 M1 rx hx⟩

/-! ### arguments, displays -/
def dNil : En → P (List SV) := fun _ => P.ret []
def dCons (f : En → P SV) (g : En → P (List SV)) : En → P (List SV) := fun env => (f env).bnd fun x => (g env).bnd fun xs => P.ret (x :: xs)
theorem paired_mono {Γ : Gd} {S S' : Hp} {ρ ρ' : List Addr} (e : Ext S ρ S' ρ') {vs : List V} {xs : List SV} (h : Paired (RSV Γ S ρ) vs xs) : Paired (RSV Γ S' ρ') vs xs := Paired.mapP h fun _ _ r => r.mono e
variable {fs : En → P (List SV)}
theorem ja_nil : JA X W [] dNil := ⟨fun {G S H ρ m env σ Q} M E h => wa_of pa_nil (h S H ρ [] (Ext.refl _ _) M .nil)⟩
theorem ja_cons (ja : JE X W a fa) (js : JA X W es fs) (hs : starEach (a :: es) X.env = (false, eval a X.env) :: starEach es X.env := by rfl) : JA X W (a :: es) (dCons fa fs) := ⟨fun {G S H ρ m env σ Q} M E h => by
  refine wa_of (pa_cons pe_we pa_wa hs) (ja.run M E (wpr_monoQ (wpr_bnd h) fun x m1 hx => ?_))
  intro S1 H1 ρ1 xv e1 M1 rx
  refine js.run M1 (E.mono e1) (wpr_mono (wpr_bnd hx) (fun xs m2 hxs => ?_) fun _ _ z => qx_ext e1 z)
  intro S2 H2 ρ2 xvs e2 M2 rxs
  exact hxs S2 H2 ρ2 _ (e1.trans e2) M2 (.cons (rx.mono e2) rxs)⟩
def allDat : List SV → Option (List D)
  | [] => some []
  | .dat d :: r => (match allDat r with | some ds => some (d :: ds) | none => none)
  | .ref _ :: _ => none
theorem allDat_ok {Γ : Gd} {S : Hp} {ρ : List Addr} : ∀ {vs : List V} {xs : List SV} {ds : List D}, Paired (RSV Γ S ρ) vs xs → allDat xs = some ds → RpAll Γ S vs ds
  | _, [], _, .nil, h => by cases h; exact .nil
  | _, .dat d :: r, ds, .cons q t, h => by
    unfold allDat at h
    split at h
    · rename_i ds' e
      cases h
      exact .cons q (allDat_ok t e)
    · cases h
  | _, .ref _ :: r, _, .cons _ _, h => by cases h
def mkTup (xs : List SV) : P SV := fun m => match allDat xs with
  | some ds => if ds.length ≤ 16777216 then .ok (.dat (.tup ds)) m else .stuck
  | none => .stuck
def mkLst (xs : List SV) : P SV := fun m => match allDat xs with
  | some ds => if ds.length ≤ 16777216 then .ok (.dat (.lst ds)) m else .stuck
  | none => .stuck
/-- an own list -/
def mkOwn (xs : List SV) : P SV := fun m => match allDat xs with
  | some ds => if ds.length ≤ 16777216 then .ok (.ref m.length) (m ++ [.lst ds]) else .stuck
  | none => .stuck
def dA (g : List SV → P SV) (fs : En → P (List SV)) : En → P SV := fun env => (fs env).bnd g
theorem je_tup {k} (js : JA X W es fs) : JE X W (.Tuple es k pos) (dA mkTup fs) := ⟨fun {G S H ρ m env σ Q} M E h => by
  refine we_of (pe_tup pa_wa) (js.run M E (wpr_monoQ (wpr_bnd h) fun xs m1 hx => ?_))
  intro S1 H1 ρ1 xv e1 M1 rx
  unfold mkTup at hx
  split at hx
  · rename_i ds eds
    have r := allDat_ok rx eds
    split at hx
    · rename_i hl
      refine ⟨by rw [r.length, sizeLine_eq]; exact hl, fun p hp => ?_⟩
      obtain ⟨s1, M2⟩ := M1.grow hp (.tup xv)
      exact hx _ _ ρ1 _ (e1.trans ⟨s1, fun _ _ q => q⟩) M2 (.tup (.inl (.inl upd_same)) (r.mono s1))
    · exact hx.elim
  · exact hx.elim⟩
theorem je_lst (js : JA X W es fs) : JE X W (.List es pos) (dA mkLst fs) := ⟨fun {G S H ρ m env σ Q} M E h => by
  refine we_of (pe_lst pa_wa) (js.run M E (wpr_monoQ (wpr_bnd h) fun xs m1 hx => ?_))
  intro S1 H1 ρ1 xv e1 M1 rx
  unfold mkLst at hx
  split at hx
  · rename_i ds eds
    have r := allDat_ok rx eds
    split at hx
    · rename_i hl
      refine ⟨by rw [r.length, sizeLine_eq]; exact hl, fun p hp => ?_⟩
      obtain ⟨s1, M2⟩ := M1.grow hp (.lst xv)
      exact hx _ _ ρ1 _ (e1.trans ⟨s1, fun _ _ q => q⟩) M2 (.lst upd_same (r.mono s1))
    · exact hx.elim
  · exact hx.elim⟩
theorem je_own (js : JA X W es fs) : JE X W (.List es pos) (dA mkOwn fs) := ⟨fun {G S H ρ m env σ Q} M E h => by
  refine we_of (pe_lst pa_wa) (js.run M E (wpr_monoQ (wpr_bnd h) fun xs m1 hx => ?_))
  intro S1 H1 ρ1 xv e1 M1 rx
  unfold mkOwn at hx
  split at hx
  · rename_i ds eds
    have r := allDat_ok rx eds
    split at hx
    · rename_i hl
      refine ⟨by rw [r.length, sizeLine_eq]; exact hl, fun p hp => ?_⟩
      obtain ⟨e2, M2⟩ := M1.alloc hp r
      refine hx _ _ _ _ (e1.trans e2) M2 ⟨p, ?_, rfl⟩
      rw [← M1.len]
      simp
    · exact hx.elim
  · exact hx.elim⟩

/-! ### calls of built-ins -/
theorem je_callB {id : String} {x : Str} {p : Pos} {g : List SV → P SV} (jc : JC X W (.builtin id) g) (hg : Gl X x) (hm : X.mg x = none) (hv : bootBuiltins x = some (.builtin id)) (js : JA X W (e :: es) fs) (hn : x ≠ "__name__" := by decide) (hdb : (x == ("__debug__" : Str)) = false := by decide)
    (he : starEach (e :: es) X.env = (false, eval e X.env) :: starEach es X.env := by rfl) (hpl : (backTo pos (starEach es X.env)).any (·.1) = false := by rfl) : JE X W (.Call (.Name x p) (e :: es) [] pos) (dA g fs) := ⟨fun {G S H ρ m env σ Q} M E h => by
  refine we_callB hg hm hv (js.run M E (wpr_monoQ (wpr_bnd h) fun xs m1 hx => ?_)) hn hdb he hpl
  intro S1 H1 ρ1 xv e1 M1 rx
  exact jc.run M1 rx (wpr_mono hx (fun _ _ z => qv_ext e1 z) fun _ _ z => qx_ext e1 z)⟩
theorem je_callTy {T : String} {x : Str} {p : Pos} {g : List SV → P SV} (jc : JC X W (.type T) g) (hg : Gl X x) (hm : X.mg x = none) (hv : bootBuiltins x = some (.type T)) (js : JA X W (e :: es) fs) (hn : x ≠ "__name__" := by decide) (hdb : (x == ("__debug__" : Str)) = false := by decide)
    (he : starEach (e :: es) X.env = (false, eval e X.env) :: starEach es X.env := by rfl) (hpl : (backTo pos (starEach es X.env)).any (·.1) = false := by rfl) : JE X W (.Call (.Name x p) (e :: es) [] pos) (dA g fs) := ⟨fun {G S H ρ m env σ Q} M E h => by
  refine we_callTy hg hm hv (js.run M E (wpr_monoQ (wpr_bnd h) fun xs m1 hx => ?_)) hn hdb he hpl
  intro S1 H1 ρ1 xv e1 M1 rx
  exact jc.run M1 rx (wpr_mono hx (fun _ _ z => qv_ext e1 z) fun _ _ z => qx_ext e1 z)⟩
end
end PL

/-! PL3: operations on values. -/
namespace PL
open PySem PySem.Spec PyProof.Rows L2

/-! ### reading sequences -/
def rdL (v : SV) (m : Mem) : Option (List D) := match v with
  | .dat (.lst xs) => some xs
  | .ref n => (match m[n]? with | some (.lst xs) => some xs | _ => none)
  | _ => none
/-- a list at its address -/
theorem rdL_ok {Γ : Gd} {G S H : Hp} {ρ : List Addr} {m : Mem} {v : SV} {vv : V} {xs : List D} (M : MR Γ G S H ρ m) (r : RSV Γ S ρ vv v) (h : rdL v m = some xs) :
    ∃ a vs, vv = .ref a ∧ H a = some (.lst vs) ∧ RpAll Γ S vs xs := by
  cases v with
  | ref n =>
    obtain ⟨a, h1, rfl⟩ := r
    unfold rdL at h
    simp only at h
    split at h
    · rename_i ys hy
      cases h
      obtain ⟨a', vs, g1, g2, g3, _⟩ := M.cell n _ hy
      rw [h1] at g1
      cases g1
      exact ⟨a, vs, rfl, g2, g3⟩
    · cases h
  | dat d =>
    cases d with
    | lst ys =>
      cases h
      cases r with
      | lst q z => exact ⟨_, _, rfl, M.sub _ _ q, z⟩
    | _ => cases h
def svD (v : SV) (m : Mem) : Option D := match v with
  | .dat d => some d
  | .ref n => (match m[n]? with | some (.lst xs) => some (.lst xs) | _ => none)
theorem svD_ok {Γ : Gd} {G S H : Hp} {ρ : List Addr} {m : Mem} {v : SV} {vv : V} {d : D} (M : MR Γ G S H ρ m) (r : RSV Γ S ρ vv v) (h : svD v m = some d) : Rp Γ H vv d := by
  cases v with
  | ref n =>
    obtain ⟨a, h1, rfl⟩ := r
    unfold svD at h
    simp only at h
    split at h
    · rename_i ys hy
      cases h
      obtain ⟨a', vs, g1, g2, g3, _⟩ := M.cell n _ hy
      rw [h1] at g1
      cases g1
      exact .lst g2 (g3.mono M.sub)
    · cases h
  | dat d' =>
    cases h
    exact Rp.mono M.sub r

/-! ### == -/
mutual
def toPy : D → PyData
  | .non => .none
  | .bl b => .bool b
  | .int i => .int i
  | .str x => .str x
  | .tup xs => .tuple (toPys xs)
  | .lst xs => .list (toPys xs)
  | .fn _ => .none
  | .ty _ => .none
  | .scr _ => .none
def toPys : List D → List PyData
  | [] => []
  | d :: r => toPy d :: toPys r
end
mutual
def plain : D → Bool
  | .non => true
  | .bl _ => true
  | .int _ => true
  | .str x => PyData.canLay0 (.str x)
  | .tup xs => plains xs
  | .lst xs => plains xs
  | .fn _ => false
  | .ty _ => false
  | .scr _ => false
def plains : List D → Bool
  | [] => true
  | d :: r => plain d && plains r
end
mutual
def dep : D → Nat
  | .tup xs => deps xs + 1
  | .lst xs => deps xs + 1
  | _ => 0
def deps : List D → Nat
  | [] => 0
  | d :: r => max (dep d) (deps r)
end
mutual
theorem toPy_lay : ∀ d, plain d = true → PyData.canLay0 (toPy d) = true
  | .non, _ => by simp [toPy, PyData.canLay0]
  | .bl _, _ => by simp [toPy, PyData.canLay0]
  | .int _, _ => by simp [toPy, PyData.canLay0]
  | .str x, h => by simpa [toPy, plain] using h
  | .tup xs, h => by
    simp only [toPy, PyData.canLay0]
    exact toPys_lay xs (by simpa [plain] using h)
  | .lst xs, h => by
    simp only [toPy, PyData.canLay0]
    exact toPys_lay xs (by simpa [plain] using h)
  | .fn _, h => by simp [plain] at h
  | .ty _, h => by simp [plain] at h
  | .scr _, h => by simp [plain] at h
theorem toPys_lay : ∀ ds, plains ds = true → PyData.canLayAll0 (toPys ds) = true
  | [], _ => by simp [toPys, PyData.canLayAll0]
  | d :: r, h => by
    simp only [plains, Bool.and_eq_true] at h
    simp only [toPys, PyData.canLayAll0, Bool.and_eq_true]
    exact ⟨toPy_lay d h.1, toPys_lay r h.2⟩
end
mutual
theorem toPy_dep : ∀ d, (toPy d).depth = dep d
  | .non => by simp [toPy, PyData.depth, dep]
  | .bl _ => by simp [toPy, PyData.depth, dep]
  | .int _ => by simp [toPy, PyData.depth, dep]
  | .str x => by simp [toPy, PyData.depth, dep]
  | .tup xs => by simp only [toPy, PyData.depth, dep, toPys_dep xs]
  | .lst xs => by simp only [toPy, PyData.depth, dep, toPys_dep xs]
  | .fn _ => by simp [toPy, PyData.depth, dep]
  | .ty _ => by simp [toPy, PyData.depth, dep]
  | .scr _ => by simp [toPy, PyData.depth, dep]
theorem toPys_dep : ∀ ds, PyData.depthAll (toPys ds) = deps ds
  | [] => by simp [toPys, PyData.depthAll, deps]
  | d :: r => by simp only [toPys, PyData.depthAll, deps, toPy_dep d, toPys_dep r]
end
mutual
theorem Rp.dp {Γ : Gd} {H : Hp} : ∀ {v : V} {d : D}, Rp Γ H v d → plain d = true → Dp Γ.K H v (toPy d)
  | _, _, .non, _ => by simp only [toPy]; exact .non
  | _, _, .bl b, _ => by simp only [toPy]; exact .bl b
  | _, _, .int i, _ => by simp only [toPy]; exact .int i
  | _, _, .str x, _ => by simp only [toPy]; exact .str x
  | _, _, .lst h r, p => by simp only [toPy]; exact .lst (.inl (.inl h)) (RpAll.dp r (by simpa [plain] using p))
  | _, _, .tup h r, p => by simp only [toPy]; exact .tup h (RpAll.dp r (by simpa [plain] using p))
  | _, _, .fn _, p => by simp [plain] at p
  | _, _, .ty _, p => by simp [plain] at p
  | _, _, .scr _, p => by simp [plain] at p
theorem RpAll.dp {Γ : Gd} {H : Hp} : ∀ {vs : List V} {ds : List D}, RpAll Γ H vs ds → plains ds = true → DpAll Γ.K H vs (toPys ds)
  | _, _, .nil, _ => by simp only [toPys]; exact .nil
  | _, _, .cons h r, p => by
    simp only [plains, Bool.and_eq_true] at p
    simp only [toPys]
    exact .cons (Rp.dp h p.1) (RpAll.dp r p.2)
end
def okD (d : D) : Bool := plain d && decide (dep d ≤ 64)
theorem okD_shaped {d : D} (h : okD d = true) : SeqAt.shaped (toPy d) = true := by
  simp only [okD, Bool.and_eq_true, decide_eq_true_eq] at h
  simp only [SeqAt.shaped, Bool.and_eq_true, decide_eq_true_eq, toPy_dep]
  exact ⟨toPy_lay d h.1, h.2⟩
theorem okD_plain {d : D} (h : okD d = true) : plain d = true := by
  simp only [okD, Bool.and_eq_true] at h
  exact h.1
def eqd (d e : D) : Bool := PyData.eqv (toPy d) (toPy e)
def eqV (x y : SV) : P SV := fun m => match svD x m, svD y m with
  | some d, some e => if okD d && okD e then .ok (.dat (.bl (eqd d e))) m else .stuck
  | _, _ => .stuck
def neV (x y : SV) : P SV := fun m => match svD x m, svD y m with
  | some d, some e => if okD d && okD e then .ok (.dat (.bl (!eqd d e))) m else .stuck
  | _, _ => .stuck
section
variable {X : Cx} {W : WX}
theorem jo_eq (hu : X.A.units + 64 < cLine) : JO X W (compareOp .Eq) eqV := ⟨fun {G S H ρ m σ x y xv yv Q} M rx ry h => by
  unfold eqV at h
  split at h
  · rename_i d e hd he
    split at h
    · rename_i ok
      rw [Bool.and_eq_true] at ok
      refine wo_of (op_eqD hu) ⟨toPy d, toPy e, (svD_ok M rx hd).dp (okD_plain ok.1), (svD_ok M ry he).dp (okD_plain ok.2), okD_shaped ok.1, okD_shaped ok.2, ?_⟩
      exact h S H ρ _ (Ext.refl _ _) M (.bl _)
    · exact h.elim
  · exact h.elim⟩
theorem jo_ne (hu : X.A.units + 64 < cLine) : JO X W (compareOp .NotEq) neV := ⟨fun {G S H ρ m σ x y xv yv Q} M rx ry h => by
  unfold neV at h
  split at h
  · rename_i d e hd he
    split at h
    · rename_i ok
      rw [Bool.and_eq_true] at ok
      refine wo_of (op_neD hu) ⟨toPy d, toPy e, (svD_ok M rx hd).dp (okD_plain ok.1), (svD_ok M ry he).dp (okD_plain ok.2), okD_shaped ok.1, okD_shaped ok.2, ?_⟩
      exact h S H ρ _ (Ext.refl _ _) M (.bl _)
    · exact h.elim
  · exact h.elim⟩

/-! ### ints -/
@[irreducible] def big : Nat := 2 ^ 4000
def mulOk (i j : Int) : Bool := (decide (i.natAbs < big) && decide (j.natAbs < big)) || decide (i.natAbs < 18446744073709551616) || decide (j.natAbs < 18446744073709551616)
theorem log_big {n : Nat} (h : n < big) : n.log2 < 4000 := by
  unfold big at h
  exact PySem.Flt.log2_lt_of (by decide) h
theorem big_of {n : Nat} (h : n < 2 ^ 1000) : n < big := by
  unfold big
  exact Nat.lt_trans h (by decide +kernel)
def intOp (g : Int → Int → R SV) (x y : SV) : R SV := match x, y with
  | .dat (.int i), .dat (.int j) => g i j
  | _, _ => .stuck
theorem jo_int {f : Value → Value → Sem Value} {g : Int → Int → Mem → R SV} (h : ∀ {G S H : Hp} {ρ : List Addr} {m : Mem} {σ : St} {i j : Int} {Q : VK}, MR (gd X) G S H ρ m → wpr (g i j m) (QV X G S ρ Q) (QX X W G S ρ σ) → WO X f (.int i) (.int j) σ H Q) :
    JO X W f (fun x y m => intOp (fun i j => g i j m) x y) := ⟨fun {G S H ρ m σ x y xv yv Q} M rx ry q => by
  unfold intOp at q
  split at q
  · cases rx
    cases ry
    exact h M q
  · exact q.elim⟩
def subV (x y : SV) : P SV := fun m => intOp (fun i j => .ok (.dat (.int (i - j))) m) x y
def mulV (x y : SV) : P SV := fun m => intOp (fun i j => if mulOk i j = true then .ok (.dat (.int (i * j))) m else .stuck) x y
def fdivV (x y : SV) : P SV := fun m => intOp (fun i j => if j ≠ 0 ∧ j.natAbs < big then .ok (.dat (.int (i.fdiv j))) m else .stuck) x y
def modV (x y : SV) : P SV := fun m => intOp (fun i j => if j ≠ 0 then .ok (.dat (.int (i.fmod j))) m else .stuck) x y
def powV (x y : SV) : P SV := fun m => intOp (fun i j => if 0 ≤ j ∧ j ≤ 1000000 ∧ i.natAbs < 2 ^ 64 then .ok (.dat (.int (i ^ j.toNat))) m else .stuck) x y
def ltV (x y : SV) : P SV := fun m => intOp (fun i j => .ok (.dat (.bl (decide (i < j)))) m) x y
def leV (x y : SV) : P SV := fun m => intOp (fun i j => .ok (.dat (.bl (decide (i ≤ j)))) m) x y
def gtV (x y : SV) : P SV := fun m => intOp (fun i j => .ok (.dat (.bl (decide (j < i)))) m) x y
def geV (x y : SV) : P SV := fun m => intOp (fun i j => .ok (.dat (.bl (decide (j ≤ i)))) m) x y
theorem jo_sub : JO X W (binaryOp .Sub) subV := jo_int fun {G S H ρ m σ i j Q} M q => wo_of op_sub ⟨i, j, rfl, rfl, q S H ρ _ (Ext.refl _ _) M (.int _)⟩
theorem mulOk_ok {i j : Int} (h : mulOk i j = true) : IntMulOk i j := by
  unfold mulOk at h
  rw [Bool.or_eq_true, Bool.or_eq_true, Bool.and_eq_true] at h
  rcases h with (⟨h1, h2⟩ | h) | h
  · have a := log_big (of_decide_eq_true h1)
    have b := log_big (of_decide_eq_true h2)
    exact CMulW.ok (show i.natAbs.log2 + j.natAbs.log2 < 1000000 by omega)
  · have := of_decide_eq_true h
    exact CMul.ok (.inl ⟨by omega, by omega⟩)
  · have := of_decide_eq_true h
    exact CMul.ok (.inr ⟨by omega, by omega⟩)
theorem op_mulX : OpR X (binaryOp .Mult) (rI (fun i j => IntMulOk i j) fun i j => .int (i * j)) := opI fun _ _ _ _ _ _ _ hc q => mul_int q hc
theorem jo_mul : JO X W (binaryOp .Mult) mulV := jo_int fun {G S H ρ m σ i j Q} M q => by
  split at q
  · rename_i hm
    exact wo_of op_mulX ⟨i, j, rfl, rfl, mulOk_ok hm, q S H ρ _ (Ext.refl _ _) M (.int _)⟩
  · exact q.elim
theorem op_fdivX : OpR X (binaryOp .FloorDiv) (rI (fun i j => j ≠ 0 ∧ j.natAbs.log2 < 9000) fun i j => .int (i.fdiv j)) := opI fun _ _ _ _ _ _ _ hc q => floordiv_int hc.1 q (.inl (PyProof.noPylong_of_log2 hc.2))
theorem jo_fdiv : JO X W (binaryOp .FloorDiv) fdivV := jo_int fun {G S H ρ m σ i j Q} M q => by
  split at q
  · rename_i hm
    exact wo_of op_fdivX ⟨i, j, rfl, rfl, ⟨hm.1, Nat.lt_trans (log_big hm.2) (by decide)⟩, q S H ρ _ (Ext.refl _ _) M (.int _)⟩
  · exact q.elim
theorem jo_mod : JO X W (binaryOp .Mod) modV := jo_int fun {G S H ρ m σ i j Q} M q => by
  split at q
  · rename_i hm
    exact wo_of op_modN ⟨i, j, rfl, rfl, hm, q S H ρ _ (Ext.refl _ _) M (.int _)⟩
  · exact q.elim
theorem jo_pow : JO X W (binaryOp .Pow) powV := jo_int fun {G S H ρ m σ i j Q} M q => by
  split at q
  · rename_i hm
    exact wo_of op_pow ⟨i, j, rfl, rfl, hm, q S H ρ _ (Ext.refl _ _) M (.int _)⟩
  · exact q.elim
theorem jo_lt : JO X W (compareOp .Lt) ltV := jo_int fun {G S H ρ m σ i j Q} M q => wo_of op_lt ⟨i, j, rfl, rfl, q S H ρ _ (Ext.refl _ _) M (.bl _)⟩
theorem jo_le : JO X W (compareOp .LtE) leV := jo_int fun {G S H ρ m σ i j Q} M q => wo_of op_le ⟨i, j, rfl, rfl, q S H ρ _ (Ext.refl _ _) M (.bl _)⟩
theorem jo_gt : JO X W (compareOp .Gt) gtV := jo_int fun {G S H ρ m σ i j Q} M q => wo_of op_gt ⟨i, j, rfl, rfl, q S H ρ _ (Ext.refl _ _) M (.bl _)⟩
theorem jo_ge : JO X W (compareOp .GtE) geV := jo_int fun {G S H ρ m σ i j Q} M q => wo_of op_ge ⟨i, j, rfl, rfl, q S H ρ _ (Ext.refl _ _) M (.bl _)⟩
/-- +: ints, tuples, lists, texts -/
def addV (x y : SV) : P SV := fun m => match x, y with
  | .dat (.int i), .dat (.int j) => .ok (.dat (.int (i + j))) m
  | .dat (.tup xs), .dat (.tup ys) => if xs.length + ys.length ≤ 16777216 then .ok (.dat (.tup (xs ++ ys))) m else .stuck
  | .dat (.str a), .dat (.str b) => if a.length + b.length ≤ 16777216 then .ok (.dat (.str (a ++ b))) m else .stuck
  | _, _ => (match rdL x m, rdL y m with
    | some xs, some ys => if xs.length + ys.length ≤ 16777216 then .ok (.dat (.lst (xs ++ ys))) m else .stuck
    | _, _ => .stuck)
theorem catL_ok {G S H : Hp} {ρ : List Addr} {m : Mem} {σ : St} {x y : SV} {xv yv : V} {Q : VK} {E : Exc → Mem → Prop} (M : MR (gd X) G S H ρ m) (rx : RSV (gd X) S ρ xv x) (ry : RSV (gd X) S ρ yv y)
    (q : wpr (match rdL x m, rdL y m with
    | some xs, some ys => if xs.length + ys.length ≤ 16777216 then R.ok (SV.dat (.lst (xs ++ ys))) m else .stuck
    | _, _ => .stuck) (QV X G S ρ Q) E) : WO X (binaryOp .Add) xv yv σ H Q := by
  split at q
  · rename_i xs ys hx hy
    split at q
    · rename_i hl
      obtain ⟨a, vs, rfl, h1, r1⟩ := rdL_ok M rx hx
      obtain ⟨b, ws, rfl, h2, r2⟩ := rdL_ok M ry hy
      refine wo_of op_cat ⟨a, b, vs, ws, rfl, rfl, h1, h2, by rw [r1.length, r2.length, sizeLine_eq]; exact hl, fun p hp => ?_⟩
      obtain ⟨s1, M2⟩ := M.grow hp (.lst (vs ++ ws))
      exact q _ _ ρ _ ⟨s1, fun _ _ z => z⟩ M2 (.lst upd_same ((r1.append r2).mono s1))
    · exact q.elim
  · exact q.elim
theorem rpAll_nil {Γ : Gd} {S : Hp} {vs : List V} {ds : List D} (r : RpAll Γ S vs ds) (h : vs = []) : ds = [] := by subst h; cases r; rfl
theorem jo_add : JO X W (binaryOp .Add) addV := ⟨fun {G S H ρ m σ x y xv yv Q} M rx ry q => by
  unfold addV at q
  split at q
  · cases rx
    cases ry
    exact wo_of op_add ⟨_, _, rfl, rfl, q S H ρ _ (Ext.refl _ _) M (.int _)⟩
  · rename_i xs ys
    split at q
    · rename_i hl
      cases rx with
      | tup h1 r1 =>
        cases ry with
        | tup h2 r2 =>
          rename_i a vs b ws
          refine wo_of op_catA ⟨a, b, vs, ws, rfl, rfl, Same.seqT M.sub h1, Same.seqT M.sub h2, by rw [r1.length, r2.length, sizeLine_eq]; exact hl, fun e => ?_, fun e1 e2 => ?_, fun e1 e2 p hp => ?_⟩
          · have z := rpAll_nil r1 e
            subst z
            exact q S H ρ _ (Ext.refl _ _) M (.tup h2 r2)
          · have z := rpAll_nil r2 e2
            subst z
            rw [List.append_nil] at q
            exact q S H ρ _ (Ext.refl _ _) M (.tup h1 r1)
          · obtain ⟨s1, M2⟩ := M.grow hp (.tup (vs ++ ws))
            exact q _ _ ρ _ ⟨s1, fun _ _ z => z⟩ M2 (.tup (.inl (.inl upd_same)) ((r1.append r2).mono s1))
    · exact q.elim
  · split at q
    · rename_i hl
      cases rx
      cases ry
      exact wo_of op_add_str ⟨_, _, rfl, rfl, by rw [sizeLine_eq]; exact hl, q S H ρ _ (Ext.refl _ _) M (.str _)⟩
    · exact q.elim
  · exact catL_ok M rx ry q⟩
/-- is None, is not None -/
def isNon : D → Bool
  | .non => true
  | _ => false
def isNV (x y : SV) : P SV := fun m => match x, y with
  | .dat d, .dat .non => .ok (.dat (.bl (isNon d))) m
  | .ref _, .dat .non => .ok (.dat (.bl false)) m
  | _, _ => .stuck
def notNV (x y : SV) : P SV := fun m => match x, y with
  | .dat d, .dat .non => .ok (.dat (.bl (!isNon d))) m
  | .ref _, .dat .non => .ok (.dat (.bl true)) m
  | _, _ => .stuck
theorem rp_non {Γ : Gd} {S : Hp} {v : V} {d : D} (r : Rp Γ S v d) : decide (v = .non) = isNon d := by
  cases r <;> simp [isNon]
theorem jo_isN : JO X W (compareOp .Is) isNV := ⟨fun {G S H ρ m σ x y xv yv Q} M rx ry q => by
  unfold isNV at q
  split at q
  · cases ry
    refine wo_of op_isN ⟨rfl, ?_⟩
    rw [rp_non rx]
    exact q S H ρ _ (Ext.refl _ _) M (.bl _)
  · cases ry
    obtain ⟨a, _, rfl⟩ := rx
    exact wo_of op_isN ⟨rfl, by simpa using q S H ρ _ (Ext.refl _ _) M (.bl _)⟩
  · exact q.elim⟩
theorem jo_notN : JO X W (compareOp .IsNot) notNV := ⟨fun {G S H ρ m σ x y xv yv Q} M rx ry q => by
  unfold notNV at q
  split at q
  · rename_i d
    cases ry
    refine wo_of op_notN ⟨rfl, ?_⟩
    rw [rp_non rx]
    exact q S H ρ _ (Ext.refl _ _) M (.bl _)
  · cases ry
    obtain ⟨a, _, rfl⟩ := rx
    exact wo_of op_notN ⟨rfl, by simpa using q S H ρ _ (Ext.refl _ _) M (.bl _)⟩
  · exact q.elim⟩

/-! ### in, not in: flat items -/
def flatD : D → Bool
  | .non => true
  | .bl _ => true
  | .int _ => true
  | .str _ => true
  | _ => false
def eqF : D → D → Bool
  | .non, .non => true
  | .bl a, .bl b => a == b
  | .bl a, .int b => (if a then 1 else 0) == b
  | .int a, .bl b => a == (if b then 1 else 0)
  | .int a, .int b => a == b
  | .str a, .str b => a == b
  | _, _ => false
theorem rp_flat {Γ : Gd} {S : Hp} {v : V} {d : D} (r : Rp Γ S v d) (f : flatD d = true) : flatV v = true := by
  cases r <;> first | rfl | (simp [flatD] at f)
theorem rp_eqF {Γ : Gd} {S : Hp} {v w : V} {d e : D} (r : Rp Γ S v d) (q : Rp Γ S w e) (f : flatD d = true) (g : flatD e = true) : L2.eqV v w = eqF d e := by
  cases r <;> first | (simp [flatD] at f; done) | (cases q <;> first | rfl | (simp [flatD] at g; done))
theorem rpAll_flat {Γ : Gd} {S : Hp} : ∀ {vs : List V} {ds : List D}, RpAll Γ S vs ds → ds.all flatD = true → vs.all flatV = true
  | _, _, .nil, _ => rfl
  | _, _, .cons h r, f => by
    rw [List.all_cons, Bool.and_eq_true] at f ⊢
    exact ⟨rp_flat h f.1, rpAll_flat r f.2⟩
theorem rpAll_in {Γ : Gd} {S : Hp} {x : V} {d : D} (rx : Rp Γ S x d) (fx : flatD d = true) : ∀ {vs : List V} {ds : List D}, RpAll Γ S vs ds → ds.all flatD = true → inV x vs = ds.any fun e => eqF e d
  | _, _, .nil, _ => rfl
  | _, _, .cons h r, f => by
    rw [List.all_cons, Bool.and_eq_true] at f
    have ih := rpAll_in rx fx r f.2
    unfold inV at ih ⊢
    rw [List.any_cons, List.any_cons, ih, rp_eqF h rx f.1 fx]
def rdSq (v : SV) (m : Mem) : Option (List D) := match v with
  | .dat (.tup xs) => some xs
  | _ => rdL v m
theorem rdSq_ok {Γ : Gd} {G S H : Hp} {ρ : List Addr} {m : Mem} {v : SV} {vv : V} {xs : List D} (M : MR Γ G S H ρ m) (r : RSV Γ S ρ vv v) (h : rdSq v m = some xs) :
    ∃ a vs, vv = .ref a ∧ (SqL Γ.K H a vs ∨ SqT Γ.K H a vs) ∧ RpAll Γ S vs xs := by
  unfold rdSq at h
  split at h
  · cases h
    cases r with
    | tup q z => exact ⟨_, _, rfl, .inr (Same.seqT M.sub q), z⟩
  · obtain ⟨a, vs, h1, h2, h3⟩ := rdL_ok M r h
    exact ⟨a, vs, h1, .inl (.inl (.inl h2)), h3⟩
def hasD (xs : List D) (d : D) : Bool := xs.any fun e => eqF e d
def flats (xs : List D) : Bool := xs.all flatD
def inSV (x y : SV) : P SV := fun m => match x, rdSq y m with
  | .dat d, some xs => if flatD d && flats xs then .ok (.dat (.bl (hasD xs d))) m else .stuck
  | _, _ => .stuck
def notInSV (x y : SV) : P SV := fun m => match x, rdSq y m with
  | .dat d, some xs => if flatD d && flats xs then .ok (.dat (.bl (!hasD xs d))) m else .stuck
  | _, _ => .stuck
theorem jo_in : JO X W (compareOp .In) inSV := ⟨fun {G S H ρ m σ x y xv yv Q} M rx ry q => by
  unfold inSV at q
  split at q
  · rename_i d xs hxs
    split at q
    · rename_i ok
      rw [Bool.and_eq_true] at ok
      obtain ⟨a, vs, rfl, h1, r⟩ := rdSq_ok M ry hxs
      refine wo_of op_in_seq ⟨a, vs, rfl, h1, rp_flat rx ok.1, rpAll_flat r ok.2, ?_⟩
      rw [if_neg Bool.false_ne_true, rpAll_in rx ok.1 r ok.2]
      exact q S H ρ _ (Ext.refl _ _) M (.bl _)
    · exact q.elim
  · exact q.elim⟩
theorem jo_notIn : JO X W (compareOp .NotIn) notInSV := ⟨fun {G S H ρ m σ x y xv yv Q} M rx ry q => by
  unfold notInSV at q
  split at q
  · rename_i d xs hxs
    split at q
    · rename_i ok
      rw [Bool.and_eq_true] at ok
      obtain ⟨a, vs, rfl, h1, r⟩ := rdSq_ok M ry hxs
      refine wo_of op_notIn_seq ⟨a, vs, rfl, h1, rp_flat rx ok.1, rpAll_flat r ok.2, ?_⟩
      rw [if_pos rfl, rpAll_in rx ok.1 r ok.2]
      exact q S H ρ _ (Ext.refl _ _) M (.bl _)
    · exact q.elim
  · exact q.elim⟩

/-! ### unary minus, subscripts -/
variable {a b e : Expr} {es : List Expr} {pos : Pos} {fa fb : En → P SV}
def negV (x : SV) : P SV := fun m => match x with
  | .dat (.int i) => .ok (.dat (.int (-i))) m
  | _ => .stuck
def d1 (g : SV → P SV) (fa : En → P SV) : En → P SV := fun env => (fa env).bnd g
theorem je_neg (ja : JE X W a fa) : JE X W (.UnaryOp .USub a pos) (d1 negV fa) := ⟨fun {G S H ρ m env σ Q} M E h => by
  refine we_of (pe_un un_neg pe_we) (ja.run M E (wpr_monoQ (wpr_bnd h) fun x m1 hx => ?_))
  intro S1 H1 ρ1 xv e1 M1 rx
  unfold negV at hx
  split at hx
  · cases rx
    exact ⟨_, rfl, hx S1 H1 ρ1 _ e1 M1 (.int _)⟩
  · exact hx.elim⟩
def ixV (x y : SV) : P SV := fun m => match y with
  | .dat (.int i) => (match x with
    | .dat (.scr ns) => (match atI ns i with | some n => .ok (.dat (.int n)) m | none => .stuck)
    | .dat (.str z) => if z.length ≤ 16777216 then (match atI z.cps.toList i with | some c => .ok (.dat (.str ⟨#[c]⟩)) m | none => .stuck) else .stuck
    | _ => (match rdSq x m with
      | some xs => (match atI xs i with | some d => .ok (.dat d) m | none => .stuck)
      | none => .stuck))
  | _ => .stuck
theorem atI_map {α β : Type} (f : α → β) (xs : List α) (i : Int) : atI (xs.map f) i = (atI xs i).map f := by
  unfold atI
  rw [List.length_map]
  cases ixN xs.length i with
  | none => rfl
  | some j => simp
theorem rpAll_atI {Γ : Gd} {S : Hp} {vs : List V} {ds : List D} {i : Int} {d : D} (r : RpAll Γ S vs ds) (h : atI ds i = some d) : ∃ v, atI vs i = some v ∧ Rp Γ S v d := by
  unfold atI at h ⊢
  rw [r.length]
  cases e : ixN ds.length i with
  | none => rw [e] at h; cases h
  | some j =>
    rw [e] at h
    exact r.get h
theorem je_ix (ja : JE X W a fa) (jb : JE X W b fb) (hs : PlainIx b := by exact fun _ _ => rfl) : JE X W (.Subscript a b pos) (d2 ixV fa fb) := ⟨fun {G S H ρ m env σ Q} M E h => by
  refine we_of (pe_ix ix_seq pe_we pe_we hs) (ja.run M E (wpr_monoQ (wpr_bnd h) fun x m1 hx => ?_))
  intro S1 H1 ρ1 xv e1 M1 rx
  refine jb.run M1 (E.mono e1) (wpr_mono (wpr_bnd hx) (fun y m2 hy => ?_) fun _ _ z => qx_ext e1 z)
  intro S2 H2 ρ2 yv e2 M2 ry
  have rx2 := rx.mono e2
  unfold ixV at hy
  split at hy
  · rename_i i
    cases ry
    split at hy
    · rename_i ns
      split at hy
      · rename_i n hn
        cases rx2 with
        | scr q =>
          refine .inl ⟨_, _, i, .int n, rfl, rfl, M2.sub.seq q, by rw [atI_map, hn]; rfl, ?_⟩
          exact hy S2 H2 ρ2 _ (e1.trans e2) M2 (.int n)
      · exact hy.elim
    · rename_i z
      split at hy
      · rename_i hl
        split at hy
        · rename_i c hc
          cases rx2
          exact .inr (.inr ⟨z, i, c, rfl, rfl, by rw [sizeLine_eq]; exact hl, hc, hy S2 H2 ρ2 _ (e1.trans e2) M2 (.str _)⟩)
        · exact hy.elim
      · exact hy.elim
    · split at hy
      · rename_i xs hxs
        split at hy
        · rename_i d hd
          obtain ⟨p, vs, rfl, h1, r⟩ := rdSq_ok M2 rx2 hxs
          obtain ⟨v, hv, rv⟩ := rpAll_atI r hd
          rcases h1 with h1 | h1
          · exact .inl ⟨p, vs, i, v, rfl, rfl, h1, hv, hy S2 H2 ρ2 _ (e1.trans e2) M2 rv⟩
          · exact .inr (.inl ⟨p, vs, i, v, rfl, rfl, h1, hv, hy S2 H2 ρ2 _ (e1.trans e2) M2 rv⟩)
        · exact hy.elim
      · exact hy.elim
  · exact hy.elim⟩

/-! ### built-in calls -/
theorem paired1 {α β : Type} {F : α → β → Prop} {vs : List α} {x : β} (h : Paired F vs [x]) : ∃ v, vs = [v] ∧ F v x := by
  cases h with
  | cons r t => cases t; exact ⟨_, rfl, r⟩
theorem paired2 {α β : Type} {F : α → β → Prop} {vs : List α} {x y : β} (h : Paired F vs [x, y]) : ∃ v w, vs = [v, w] ∧ F v x ∧ F w y := by
  cases h with
  | cons r t => cases t with | cons r' t' => cases t'; exact ⟨_, _, rfl, r, r'⟩
def lenV (xs : List SV) : P SV := fun m => match xs with
  | [.dat (.scr ns)] => .ok (.dat (.int ns.length)) m
  | [.dat (.str z)] => if z.length ≤ 16777216 then .ok (.dat (.int z.length)) m else .stuck
  | [x] => (match rdSq x m with | some ys => .ok (.dat (.int ys.length)) m | none => .stuck)
  | _ => .stuck
theorem jc_len : JC X W (.builtin "len") lenV := ⟨fun {G S H ρ m σ xs xvs Q} M rx q => by
  unfold lenV at q
  split at q
  · rename_i ns
    obtain ⟨v, rfl, r⟩ := paired1 rx
    cases r with
    | scr h =>
      refine wc_of call_len ⟨_, ns.length, rfl, .inl ⟨_, M.sub.seq h, by rw [List.length_map]⟩, ?_⟩
      exact q S H ρ _ (Ext.refl _ _) M (.int _)
  · rename_i z
    obtain ⟨v, rfl, r⟩ := paired1 rx
    cases r
    split at q
    · rename_i hl
      exact wc_of call_len ⟨_, z.length, rfl, ⟨by rw [sizeLine_eq]; exact hl, rfl⟩, q S H ρ _ (Ext.refl _ _) M (.int _)⟩
    · exact q.elim
  · rename_i x _ _
    obtain ⟨v, rfl, r⟩ := paired1 rx
    split at q
    · rename_i ys hys
      obtain ⟨a, vs, rfl, h1, r1⟩ := rdSq_ok M r hys
      refine wc_of call_len ⟨_, ys.length, rfl, ?_, q S H ρ _ (Ext.refl _ _) M (.int _)⟩
      rcases h1 with h1 | h1
      · exact .inl ⟨vs, h1, r1.length.symm⟩
      · exact .inr ⟨vs, h1, r1.length.symm⟩
    · exact q.elim
  · exact q.elim⟩
def absV' (xs : List SV) : P SV := fun m => match xs with
  | [.dat (.int i)] => .ok (.dat (.int i.natAbs)) m
  | _ => .stuck
theorem jc_abs : JC X W (.builtin "abs") absV' := ⟨fun {G S H ρ m σ xs xvs Q} M rx q => by
  unfold absV' at q
  split at q
  · rename_i i
    obtain ⟨v, rfl, r⟩ := paired1 rx
    cases r
    refine wc_of call_abs ⟨i, rfl, ?_⟩
    have e : (if i < 0 then -i else i) = (i.natAbs : Int) := by omega
    rw [e]
    exact q S H ρ _ (Ext.refl _ _) M (.int _)
  · exact q.elim⟩
/-- max, min of two ints -/
def max2V (xs : List SV) : P SV := fun m => match xs with
  | [.dat (.int i), .dat (.int j)] => .ok (.dat (.int (max i j))) m
  | _ => .stuck
def min2V (xs : List SV) : P SV := fun m => match xs with
  | [.dat (.int i), .dat (.int j)] => .ok (.dat (.int (min i j))) m
  | _ => .stuck
theorem jc_max2 (hc : X.calm = true) : JC X W (.builtin "max") max2V := ⟨fun {G S H ρ m σ xs xvs Q} M rx q => by
  unfold max2V at q
  split at q
  · rename_i i j
    obtain ⟨v, w', rfl, r1, r2⟩ := paired2 rx
    cases r1
    cases r2
    refine wc_of (call_max2 hc) ⟨i, j, rfl, ?_⟩
    have e : (if j > i then j else i) = max i j := by omega
    rw [e]
    exact q S H ρ _ (Ext.refl _ _) M (.int _)
  · exact q.elim⟩
theorem jc_min2 (hc : X.calm = true) : JC X W (.builtin "min") min2V := ⟨fun {G S H ρ m σ xs xvs Q} M rx q => by
  unfold min2V at q
  split at q
  · rename_i i j
    obtain ⟨v, w', rfl, r1, r2⟩ := paired2 rx
    cases r1
    cases r2
    refine wc_of (call_min2 hc) ⟨i, j, rfl, ?_⟩
    have e : (if j < i then j else i) = min i j := by omega
    rw [e]
    exact q S H ρ _ (Ext.refl _ _) M (.int _)
  · exact q.elim⟩
def intV (xs : List SV) : P SV := fun m => match xs with
  | [.dat (.int i)] => .ok (.dat (.int i)) m
  | [.dat (.bl k)] => .ok (.dat (.int (if k then 1 else 0))) m
  | _ => .stuck
theorem jc_int : JC X W (.type "int") intV := ⟨fun {G S H ρ m σ xs xvs Q} M rx q => by
  unfold intV at q
  split at q
  · obtain ⟨v, rfl, r⟩ := paired1 rx
    cases r
    exact wc_of call_int1 (.inl ⟨_, rfl, q S H ρ _ (Ext.refl _ _) M (.int _)⟩)
  · obtain ⟨v, rfl, r⟩ := paired1 rx
    cases r
    exact wc_of call_int1 (.inr ⟨_, rfl, q S H ρ _ (Ext.refl _ _) M (.int _)⟩)
  · exact q.elim⟩
def asBs : List D → Option (List Bool)
  | [] => some []
  | .bl b :: r => (match asBs r with | some bs => some (b :: bs) | none => none)
  | _ => none
def asIs : List D → Option (List Int)
  | [] => some []
  | .int i :: r => (match asIs r with | some is => some (i :: is) | none => none)
  | _ => none
theorem rpAll_bs {Γ : Gd} {S : Hp} : ∀ {vs : List V} {ds : List D} {bs : List Bool}, RpAll Γ S vs ds → asBs ds = some bs → vs = bs.map V.bl
  | _, _, bs, .nil, h => by cases h; rfl
  | _, _, bs, .cons h0 r, h => by
    cases h0 <;> first | (simp [asBs] at h; done) | skip
    unfold asBs at h
    split at h
    · rename_i bs' e
      cases h
      rw [rpAll_bs r e]
      rfl
    · cases h
theorem rpAll_is {Γ : Gd} {S : Hp} : ∀ {vs : List V} {ds : List D} {is : List Int}, RpAll Γ S vs ds → asIs ds = some is → vs = is.map V.int
  | _, _, bs, .nil, h => by cases h; rfl
  | _, _, bs, .cons h0 r, h => by
    cases h0 <;> first | (simp [asIs] at h; done) | skip
    unfold asIs at h
    split at h
    · rename_i bs' e
      cases h
      rw [rpAll_is r e]
      rfl
    · cases h
def allV (xs : List SV) : P SV := fun m => match xs with
  | [x] => (match rdL x m with | some ds => (match asBs ds with | some bs => .ok (.dat (.bl (bs.all id))) m | none => .stuck) | none => .stuck)
  | _ => .stuck
def anyV (xs : List SV) : P SV := fun m => match xs with
  | [x] => (match rdL x m with | some ds => (match asBs ds with | some bs => .ok (.dat (.bl (bs.any id))) m | none => .stuck) | none => .stuck)
  | _ => .stuck
def sumV (xs : List SV) : P SV := fun m => match xs with
  | [x] => (match rdL x m with | some ds => (match asIs ds with | some is => .ok (.dat (.int is.sum)) m | none => .stuck) | none => .stuck)
  | _ => .stuck
theorem jc_all (hc : X.calm = true) : JC X W (.builtin "all") allV := ⟨fun {G S H ρ m σ xs xvs Q} M rx q => by
  unfold allV at q
  split at q
  · obtain ⟨v, rfl, r⟩ := paired1 rx
    split at q
    · rename_i ds hd
      split at q
      · rename_i bs hb
        obtain ⟨a, vs, rfl, h1, r1⟩ := rdL_ok M r hd
        have e := rpAll_bs r1 hb
        subst e
        exact wc_of (cr_all hc) ⟨a, bs, rfl, .inl (.inl h1), q S H ρ _ (Ext.refl _ _) M (.bl _)⟩
      · exact q.elim
    · exact q.elim
  · exact q.elim⟩
theorem jc_any (hc : X.calm = true) : JC X W (.builtin "any") anyV := ⟨fun {G S H ρ m σ xs xvs Q} M rx q => by
  unfold anyV at q
  split at q
  · obtain ⟨v, rfl, r⟩ := paired1 rx
    split at q
    · rename_i ds hd
      split at q
      · rename_i bs hb
        obtain ⟨a, vs, rfl, h1, r1⟩ := rdL_ok M r hd
        have e := rpAll_bs r1 hb
        subst e
        exact wc_of (cr_any hc) ⟨a, bs, rfl, .inl (.inl h1), q S H ρ _ (Ext.refl _ _) M (.bl _)⟩
      · exact q.elim
    · exact q.elim
  · exact q.elim⟩
theorem jc_sum (hc : X.calm = true) : JC X W (.builtin "sum") sumV := ⟨fun {G S H ρ m σ xs xvs Q} M rx q => by
  unfold sumV at q
  split at q
  · obtain ⟨v, rfl, r⟩ := paired1 rx
    split at q
    · rename_i ds hd
      split at q
      · rename_i bs hb
        obtain ⟨a, vs, rfl, h1, r1⟩ := rdL_ok M r hd
        have e := rpAll_is r1 hb
        subst e
        exact wc_of (cr_sum hc) ⟨a, bs, rfl, .inl (.inl h1), q S H ρ _ (Ext.refl _ _) M (.int _)⟩
      · exact q.elim
    · exact q.elim
  · exact q.elim⟩
/-- tuple(xs), list(xs) -/
def tupleV (xs : List SV) : P SV := fun m => match xs with
  | [x] => (match rdSq x m with | some ds => .ok (.dat (.tup ds)) m | none => .stuck)
  | _ => .stuck
def listV (xs : List SV) : P SV := fun m => match xs with
  | [x] => (match rdSq x m with | some ds => .ok (.dat (.lst ds)) m | none => .stuck)
  | _ => .stuck
/-- list(xs), an own list -/
def listOV (xs : List SV) : P SV := fun m => match xs with
  | [x] => (match rdSq x m with | some ds => .ok (.ref m.length) (m ++ [.lst ds]) | none => .stuck)
  | _ => .stuck
theorem jc_tuple : JC X W (.type "tuple") tupleV := ⟨fun {G S H ρ m σ xs xvs Q} M rx q => by
  unfold tupleV at q
  split at q
  · rename_i x
    obtain ⟨v, rfl, r⟩ := paired1 rx
    split at q
    · rename_i ds hd
      unfold rdSq at hd
      split at hd
      · cases hd
        cases r with
        | tup h1 z => exact wc_of call_tuple_of ⟨_, _, rfl, .inr ⟨Same.seqT M.sub h1, q S H ρ _ (Ext.refl _ _) M (.tup h1 z)⟩⟩
      · obtain ⟨a, vs, rfl, h1, r1⟩ := rdL_ok M r hd
        refine wc_of call_tuple_of ⟨a, vs, rfl, .inl ⟨.inl (.inl h1), fun l hl => ?_⟩⟩
        obtain ⟨s1, M2⟩ := M.grow hl (.tup vs)
        exact q _ _ ρ _ ⟨s1, fun _ _ z => z⟩ M2 (.tup (.inl (.inl upd_same)) (r1.mono s1))
    · exact q.elim
  · exact q.elim⟩
theorem jc_list : JC X W (.type "list") listV := ⟨fun {G S H ρ m σ xs xvs Q} M rx q => by
  unfold listV at q
  split at q
  · obtain ⟨v, rfl, r⟩ := paired1 rx
    split at q
    · rename_i ds hd
      obtain ⟨a, vs, rfl, h1, r1⟩ := rdSq_ok M r hd
      refine wc_of call_list_of ⟨a, vs, rfl, h1, fun l hl => ?_⟩
      obtain ⟨s1, M2⟩ := M.grow hl (.lst vs)
      exact q _ _ ρ _ ⟨s1, fun _ _ z => z⟩ M2 (.lst upd_same (r1.mono s1))
    · exact q.elim
  · exact q.elim⟩
theorem jc_listO : JC X W (.type "list") listOV := ⟨fun {G S H ρ m σ xs xvs Q} M rx q => by
  unfold listOV at q
  split at q
  · obtain ⟨v, rfl, r⟩ := paired1 rx
    split at q
    · rename_i ds hd
      obtain ⟨a, vs, rfl, h1, r1⟩ := rdSq_ok M r hd
      refine wc_of call_list_of ⟨a, vs, rfl, h1, fun l hl => ?_⟩
      obtain ⟨e2, M2⟩ := M.alloc hl r1
      refine q _ _ _ _ e2 M2 ⟨l, ?_, rfl⟩
      rw [← M.len]
      simp
    · exact q.elim
  · exact q.elim⟩

/-! ### isinstance -/
def tyName (v : SV) (m : Mem) : Option String := match v with
  | .dat .non => some "NoneType"
  | .dat (.bl _) => some "bool"
  | .dat (.int _) => some "int"
  | .dat (.str _) => some "str"
  | .dat (.tup _) => some "tuple"
  | .dat (.lst _) => some "list"
  | .dat (.scr _) => some "list"
  | .ref n => (match m[n]? with | some (.lst _) => some "list" | _ => none)
  | _ => none
def tyIs (a b : String) : Bool := a == b || (a == "bool" && b == "int")
def tyNames : List String := ["NoneType", "bool", "int", "str", "tuple", "list"]
theorem tyName_ok {G S H : Hp} {ρ : List Addr} {m : Mem} {v : SV} {vv : V} {n : String} (M : MR (gd X) G S H ρ m) (r : RSV (gd X) S ρ vv v) (h : tyName v m = some n) : TyX X.K H vv (.type n) ∧ n ∈ tyNames := by
  cases v with
  | ref k =>
    unfold tyName at h
    simp only at h
    split at h
    · rename_i ys hy
      cases h
      obtain ⟨a, vs, rfl, g2, g3⟩ := rdL_ok (v := .ref k) (xs := ys) M r (by unfold rdL; simp only [hy])
      exact ⟨.base (.lst g2), by simp [tyNames]⟩
    · cases h
  | dat d =>
    cases d with
    | non => cases h; cases r; exact ⟨.base .non, by simp [tyNames]⟩
    | bl b => cases h; cases r; exact ⟨.base (.bl b), by simp [tyNames]⟩
    | int i => cases h; cases r; exact ⟨.base (.int i), by simp [tyNames]⟩
    | str x => cases h; cases r; exact ⟨.base (.str x), by simp [tyNames]⟩
    | tup xs =>
      cases h
      cases r with
      | tup q z =>
        refine ⟨?_, by simp [tyNames]⟩
        rcases Same.seqT M.sub q with (q | ⟨o, q⟩) | ⟨o, its, n, q, c, _⟩
        · exact .base (.tup q)
        · exact .fTuple q
        · exact .kTuple q c
    | lst xs =>
      cases h
      cases r with
      | lst q z => exact ⟨.base (.lst (M.sub _ _ q)), by simp [tyNames]⟩
    | scr ns =>
      cases h
      cases r with
      | scr q =>
        refine ⟨?_, by simp [tyNames]⟩
        rcases M.sub.seq q with (q | ⟨o, q⟩) | ⟨o, its, n, q, c, _⟩
        · exact .base (.lst q)
        · exact .base (.frz q)
        · exact .kList q c
    | _ => cases h
/-- isinstance(x, T) -/
def isiV (ts : List String) (v : SV) : P SV := fun m => match tyName v m with
  | some n => .ok (.dat (.bl (ts.any fun t => tyIs n t))) m
  | none => .stuck
def TyTab (t : String) : Prop := ∀ n ∈ tyNames, kitB n t = some (tyIs n t)
theorem je_isi {t : String} {x : Str} {p p2 : Pos} (ht : TyTab t) (hg : Gl X "isinstance") (hm : X.mg "isinstance" = none) (hgx : Gl X x) (hmx : X.mg x = none) (hvx : bootBuiltins x = some (.type t)) (ja : JE X W a fa) (hnx : x ≠ "__name__" := by decide) (hdx : (x == ("__debug__" : Str)) = false := by decide)
    (he : starEach (a :: [Expr.Name x p2]) X.env = (false, eval a X.env) :: starEach [Expr.Name x p2] X.env := by rfl) (hpl : (backTo pos (starEach [Expr.Name x p2] X.env)).any (·.1) = false := by rfl) : JE X W (.Call (.Name "isinstance" p) [a, .Name x p2] [] pos) (d1 (isiV [t]) fa) := ⟨fun {G S H ρ m env σ Q} M E h => by
  refine we_of (pe_callB call_isi hg hm (by decide +kernel) (pa_cons pe_we (pa_cons (pe_bltn (v := .ty t) hgx hmx hvx rfl hnx hdx) pa_nil) he) (by decide) (by decide) he hpl) (ja.run M E (wpr_monoQ (wpr_bnd h) fun v m1 hv => ?_))
  intro S1 H1 ρ1 xv e1 M1 rx
  unfold isiV at hv
  split at hv
  · rename_i n hn
    obtain ⟨ty, mem⟩ := tyName_ok M1 rx hn
    refine ⟨xv, .ty t, .type n, .type t, tyIs n t, rfl, .ty t, ty, kit_ty (ht n mem), ?_⟩
    have q := hv S1 H1 ρ1 _ e1 M1 (.bl _)
    simpa using q
  · exact hv.elim⟩
theorem je_isi2 {t u : String} {x y : Str} {k : Nat} {p p2 p3 p4 : Pos} (ht : TyTab t) (hu : TyTab u) (hg : Gl X "isinstance") (hm : X.mg "isinstance" = none) (hgx : Gl X x) (hmx : X.mg x = none) (hvx : bootBuiltins x = some (.type t)) (hgy : Gl X y) (hmy : X.mg y = none) (hvy : bootBuiltins y = some (.type u)) (ja : JE X W a fa)
    (hnx : x ≠ "__name__" := by decide) (hdx : (x == ("__debug__" : Str)) = false := by decide) (hny : y ≠ "__name__" := by decide) (hdy : (y == ("__debug__" : Str)) = false := by decide)
    (he : starEach (a :: [Expr.Tuple [.Name x p2, .Name y p3] k p4]) X.env = (false, eval a X.env) :: starEach [Expr.Tuple [.Name x p2, .Name y p3] k p4] X.env := by rfl) (hpl : (backTo pos (starEach [Expr.Tuple [.Name x p2, .Name y p3] k p4] X.env)).any (·.1) = false := by rfl) :
    JE X W (.Call (.Name "isinstance" p) [a, .Tuple [.Name x p2, .Name y p3] k p4] [] pos) (d1 (isiV [t, u]) fa) := ⟨fun {G S H ρ m env σ Q} M E h => by
  refine we_of (pe_callB call_isiT hg hm (by decide +kernel) (pa_cons pe_we (pa_cons (pe_tup (pa_cons (pe_bltn (v := .ty t) hgx hmx hvx rfl hnx hdx) (pa_cons (pe_bltn (v := .ty u) hgy hmy hvy rfl hny hdy) pa_nil))) pa_nil) he) (by decide) (by decide) he hpl) (ja.run M E (wpr_monoQ (wpr_bnd h) fun v m1 hv => ?_))
  intro S1 H1 ρ1 xv e1 M1 rx
  refine ⟨by show 2 ≤ sizeLine; decide, fun tp htp => ?_⟩
  obtain ⟨s2, M2⟩ := M1.grow htp (.tup [.ty t, .ty u])
  unfold isiV at hv
  split at hv
  · rename_i n hn
    obtain ⟨ty, mem⟩ := tyName_ok M2 (rx.mono ⟨s2, fun _ _ z => z⟩) hn
    refine ⟨xv, tp, [.ty t, .ty u], .type n, [.type t, .type u], tyIs n t || tyIs n u, rfl, upd_same, .cons (.ty t) (.cons (.ty u) .nil), ty, kitAny_cons (kit_ty (ht n mem)) (fun h1 => ?_) (fun h1 => by rw [h1]; rfl), ?_⟩
    · rw [h1, Bool.false_or]
      exact kitAny_cons (kit_ty (hu n mem)) (fun h2 => by rw [h2]; exact kitAny_nil) fun h2 => h2
    · have q := hv (upd S1 tp (.tup [.ty t, .ty u])) _ ρ1 _ (e1.trans ⟨s2, fun _ _ z => z⟩) M2 (.bl _)
      simpa using q
  · exact hv.elim⟩
end
theorem tab_int : TyTab "int" := by unfold TyTab tyNames; decide +kernel
theorem tab_bool : TyTab "bool" := by unfold TyTab tyNames; decide +kernel
theorem tab_tuple : TyTab "tuple" := by unfold TyTab tyNames; decide +kernel
theorem tab_list : TyTab "list" := by unfold TyTab tyNames; decide +kernel
theorem tab_str : TyTab "str" := by unfold TyTab tyNames; decide +kernel
end PL

/-! PL4: targets, walks, statements, comprehensions, defs and their calls. -/
namespace PL
open PySem PySem.Spec PyProof.Rows L2

/-! ### targets -/
structure Sm (ts : List Nat) (σ σ' : St) : Prop where
  len : σ'.length = σ.length
  out : ∀ j, j ∉ ts → σ'[j]? = σ[j]?
theorem Sm.refl (ts : List Nat) (σ : St) : Sm ts σ σ := ⟨rfl, fun _ _ => rfl⟩
theorem Sm.trans {ts us : List Nat} {σ σ1 σ2 : St} (a : Sm ts σ σ1) (b : Sm us σ1 σ2) : Sm (ts ++ us) σ σ2 :=
  ⟨b.len.trans a.len, fun j h => (b.out j fun z => h (List.mem_append_right _ z)).trans (a.out j fun z => h (List.mem_append_left _ z))⟩
theorem wipe_in {σ : St} {i : Nat} : ∀ {vs : List Nat}, i ∈ vs → i < σ.length → (wipe σ vs)[i]? = some none
  | [], h, _ => by cases h
  | v :: vs, h, hl => by
    unfold wipe
    by_cases e : v = i
    · subst e
      exact List.getElem?_set_self (by rw [wipe_length]; exact hl)
    · rw [List.getElem?_set_ne e]
      exact wipe_in ((List.mem_cons.mp h).resolve_left fun z => e z.symm) hl
theorem Sm.wipe {ts vs : List Nat} {σ σ' : St} (h : Sm ts σ σ') (sub : ∀ t ∈ ts, t ∈ vs) : wipe σ' vs = wipe σ vs := by
  apply List.ext_getElem?
  intro i
  by_cases hi : i ∈ vs
  · by_cases hl : i < σ.length
    · rw [wipe_in hi hl, wipe_in hi (by rw [h.len]; exact hl)]
    · rw [List.getElem?_eq_none (by rw [wipe_length, h.len]; omega), List.getElem?_eq_none (by rw [wipe_length]; omega)]
  · rw [wipe_out hi, wipe_out hi]
    exact h.out i fun z => hi (sub i z)
def wipeE (env : En) : List Nat → En
  | [] => env
  | v :: vs => (wipeE env vs).set v none
theorem ER.wipe {Γ : Gd} {S : Hp} {ρ : List Addr} {env : En} {σ : St} (h : ER Γ S ρ env σ) : ∀ vs : List Nat, ER Γ S ρ (wipeE env vs) (wipe σ vs)
  | [] => h
  | v :: vs => (ER.wipe h vs).clear v
structure JG (X : Cx) (tg : Expr) (ts : List Nat) (g : D → En → Option En) : Prop where
  run : ∀ {G S H : Hp} {ρ : List Addr} {m : Mem} {env env' : En} {σ : St} {v : V} {d : D} {Q : St → Hp → Prop}, MR (gd X) G S H ρ m → ER (gd X) S ρ env σ → Rp (gd X) S v d → g d env = some env' →
    (∀ σ', ER (gd X) S ρ env' σ' → Sm ts σ σ' → Q σ' H) → WG X tg v σ H Q
structure JGs (X : Cx) (es : List Expr) (ts : List Nat) (g : List D → En → Option En) : Prop where
  run : ∀ {G S H : Hp} {ρ : List Addr} {m : Mem} {env env' : En} {σ : St} {vs : List V} {ds : List D} {Q : St → Hp → Prop}, MR (gd X) G S H ρ m → ER (gd X) S ρ env σ → RpAll (gd X) S vs ds → g ds env = some env' →
    (∀ σ', ER (gd X) S ρ env' σ' → Sm ts σ σ' → Q σ' H) →
    ∀ (pins : List (Addr × Obj)) (s : Shared) (us : List Value), Inv X pins σ H s → Vals vs us → wpAny (model X.prog X.w) X.A (assignInOrder ((assignEach es X.env).map (·.2)) us) (fun _ s' => ∃ σ' H', Inv X pins σ' H' s' ∧ Q σ' H') X.xe s
def gN (i : Nat) : D → En → Option En := fun d env => some (env.set i (some (.dat d)))
def gsN : List D → En → Option En := fun ds env => match ds with
  | [] => some env
  | _ => none
def gsC (g : D → En → Option En) (gs : List D → En → Option En) : List D → En → Option En := fun ds env => match ds with
  | d :: r => (match g d env with | some env' => gs r env' | none => none)
  | [] => none
def gT (n : Nat) (gs : List D → En → Option En) : D → En → Option En := fun d env => match d with
  | .tup xs => if xs.length = n then gs xs env else none
  | _ => none
section
variable {X : Cx} {W : WX} {pos : Pos}
theorem jg_name {i : Nat} {x : Str} (hN : X.N.Nodup) (hi : X.N[i]? = some x := by rfl) (hx : Loc X.env.scope x := by first | exact Or.inl rfl | exact Or.inr rfl) (hf : X.fn x = true ∨ X.env.scope.names.lookup x = some .local := by first | exact .inl rfl | exact .inr rfl | assumption) : JG X (.Name x pos) [i] (gN i) :=
  ⟨fun {G S H ρ m env env' σ v d Q} M E r hg h => by
    cases hg
    refine wg_of (pg_name hN hi hx hf) (h _ (E.set i (v := .dat d) r) ⟨List.length_set, fun j hj => ?_⟩)
    rw [List.getElem?_set_ne (fun z => hj (by simp [z]))]⟩
theorem jgs_nil : JGs X [] [] gsN := ⟨fun {G S H ρ m env env' σ vs ds Q} M E r hg h pins s us I rv => by
  cases r with
  | nil =>
    cases hg
    cases rv
    exact assignInOrder_nil ⟨σ, H, I, h σ E (Sm.refl _ _)⟩
  | cons _ _ => cases hg⟩
theorem jgs_cons {e : Expr} {es : List Expr} {ts us : List Nat} {g : D → En → Option En} {gs : List D → En → Option En} (j1 : JG X e ts g) (j2 : JGs X es us gs) (hs : (assignEach (e :: es) X.env).map (·.2) = assign e X.env :: (assignEach es X.env).map (·.2) := by rfl) : JGs X (e :: es) (ts ++ us) (gsC g gs) :=
  ⟨fun {G S H ρ m env env' σ vs ds Q} M E r hg h pins s uv I rv => by
    cases r with
    | nil => cases hg
    | cons r1 r2 =>
      unfold gsC at hg
      simp only at hg
      split at hg
      · rename_i env1 h1
        cases rv with
        | cons q1 q2 =>
          rw [hs]
          refine assignInOrder_cons (thn (j1.run (Q := fun σ1 H1 => H1 = H ∧ ER (gd X) S ρ env1 σ1 ∧ Sm ts σ σ1) M E r1 h1 (fun σ' e' s' => ⟨rfl, e', s'⟩) pins s _ I q1) fun _ s1 ⟨σ1, H1, I1, e1, er1, sm1⟩ => ?_)
          subst e1
          exact j2.run M er1 r2 hg (fun σ' e' s' => h σ' e' (sm1.trans s')) pins s1 _ I1 q2
      · cases hg⟩
theorem jg_tup {es : List Expr} {k : Nat} {ts : List Nat} {n : Nat} {gs : List D → En → Option En} (hc : X.calm = true) (j : JGs X es ts gs) (hn : (assignEach es X.env).length = n := by rfl) (hst : (assignEach es X.env).findIdx? (·.1) = none := by rfl) : JG X (.Tuple es k pos) ts (gT n gs) :=
  ⟨fun {G S H ρ m env env' σ v d Q} M E r hg h => by
    unfold gT at hg
    split at hg
    · split at hg
      · rename_i xs hl
        cases r with
        | tup hq hr =>
          refine wg_of (pg_tup (n := n) (t := fun vs σ H Q => ∀ (pins : List (Addr × Obj)) (s : Shared) (us : List Value), Inv X pins σ H s → Vals vs us → wpAny (model X.prog X.w) X.A (assignInOrder ((assignEach es X.env).map (·.2)) us) (fun _ s' => ∃ σ' H', Inv X pins σ' H' s' ∧ Q σ' H') X.xe s) hc ⟨fun pins s σ H vs us Q I rv q => q pins s us I rv⟩ hn hst) ⟨_, _, rfl, Same.seqT M.sub hq, by rw [hr.length]; exact hl, ?_⟩
          exact j.run M E hr hg h
      · cases hg
    · cases hg⟩
end

/-! ### what is walked -/
def ItS (Γ : Gd) (S0 : Hp) (J : It) (items : List D) : Prop := ∀ (i : Nat) {G S H : Hp} {ρ : List Addr} {m : Mem}, Same S0 S → MR Γ G S H ρ m →
  (items.length ≤ i → J.stop i H) ∧ (∀ d, items[i]? = some d → J.go i H ∧ ∀ x H', J.yld i H x H' → ∃ S', Ext S ρ S' ρ ∧ MR Γ G S' H' ρ m ∧ Rp Γ S' x d)
theorem rpAll_ge {Γ : Gd} {S : Hp} {vs : List V} {ds : List D} (r : RpAll Γ S vs ds) {i : Nat} (h : ds.length ≤ i) : vs.length ≤ i := by rw [r.length]; exact h
theorem itS_list {Γ : Gd} {S0 : Hp} {a : Addr} {vs : List V} {ds : List D} (h : SqL Γ.K S0 a vs) (r : RpAll Γ S0 vs ds) : ItS Γ S0 (Itl Γ.K a) ds := fun i {G S H ρ m} s M => by
  have hl : SqL Γ.K H a vs := M.sub.seq (s.seq h)
  refine ⟨fun hi => ⟨vs, hl, rpAll_ge r hi⟩, fun d hd => ?_⟩
  obtain ⟨v, hv, rv⟩ := r.get hd
  refine ⟨⟨vs, v, hl, hv⟩, fun x H' y => ?_⟩
  obtain ⟨e, y⟩ := y
  subst e
  have e2 := y vs hl
  rw [hv] at e2
  cases e2
  exact ⟨S, Ext.refl _ _, M, rv.mono s⟩
theorem itS_tup {Γ : Gd} {S0 : Hp} {a : Addr} {vs : List V} {ds : List D} (h : SqT Γ.K S0 a vs) (r : RpAll Γ S0 vs ds) : ItS Γ S0 (Itt Γ.K a) ds := fun i {G S H ρ m} s M => by
  have hl : SqT Γ.K H a vs := Same.seqT M.sub (Same.seqT s h)
  refine ⟨fun hi => ⟨vs, hl, rpAll_ge r hi⟩, fun d hd => ?_⟩
  obtain ⟨v, hv, rv⟩ := r.get hd
  refine ⟨⟨vs, v, hl, hv⟩, fun x H' y => ?_⟩
  obtain ⟨e, y⟩ := y
  subst e
  have e2 := y vs hl
  rw [hv] at e2
  cases e2
  exact ⟨S, Ext.refl _ _, M, rv.mono s⟩
def rngD (lo : Int) (n : Nat) : List D := (List.range n).map fun (i : Nat) => .int (lo + (i : Int))
theorem itS_rng {Γ : Gd} {S0 : Hp} (lo : Int) (n : Nat) : ItS Γ S0 (Itr lo n) (rngD lo n) := fun i {G S H ρ m} s M => by
  refine ⟨fun hi => (by show n ≤ i; simpa [rngD] using hi), fun d hd => ?_⟩
  unfold rngD at hd
  rw [List.getElem?_map] at hd
  by_cases hi : i < n
  · rw [List.getElem?_range hi] at hd
    cases hd
    refine ⟨hi, fun x H' y => ?_⟩
    obtain ⟨e, y⟩ := y
    subst e
    subst y
    exact ⟨S, Ext.refl _ _, M, .int _⟩
  · rw [List.getElem?_eq_none (by simpa using hi)] at hd
    cases hd
section
variable (X : Cx) (W : WX)
def QI (G S : Hp) (ρ : List Addr) (Rr : It → Hp → Prop) : List D → Mem → Prop := fun items m' => ∀ S' H' ρ' J, Ext S ρ S' ρ' → MR (gd X) G S' H' ρ' m' → ItS (gd X) S' J items → Rr J H'
structure JI (tg iter : Expr) (f : En → P (List D)) : Prop where
  run : ∀ {G S H : Hp} {ρ : List Addr} {m : Mem} {env : En} {σ : St} {Rr : It → Hp → Prop}, MR (gd X) G S H ρ m → ER (gd X) S ρ env σ → wpr (f env m) (QI X G S ρ Rr) (QX X W G S ρ σ) → WI X tg iter σ H Rr
end
section
variable {X : Cx} {W : WX} {pos p : Pos} {tg a b : Expr} {fa fb : En → P SV}
theorem iter_list {pins : List (Addr × Obj)} {σ : St} {H : Hp} {s : Shared} {Rr : It → Hp → Prop} {q : Addr} {xs : List V} (I : Inv X pins σ H s) (h : SqL X.K H q xs) (r : Rr (Itl X.K q) H) : wpAny (model X.prog X.w) X.A (pyIter (.ref q)) (PIE X pins σ tg Rr) X.xe s := by
  obtain ⟨its, rv, p, hz⟩ := I.list h
  refine wpAny_pyIter_list p.isList ?_
  refine ⟨s.heap.objs.size, [s.heap.objs.size], _, _, H, rfl, I.kept (t' := s.toks) fun b o e => Heap.get?_push_of_some _ e, turn_list q _, ⟨_, Heap.get?_push_size _ rfl, rfl, rfl⟩, fun b hb => ?_, r⟩
  have e : b = s.heap.objs.size := by simpa using hb
  subst e
  exact I.fpOk (Nat.le_refl _) (I.hok.fresh (Nat.le_refl _))
theorem iter_tup {pins : List (Addr × Obj)} {σ : St} {H : Hp} {s : Shared} {Rr : It → Hp → Prop} {q : Addr} {xs : List V} (I : Inv X pins σ H s) (h : SqT X.K H q xs) (r : Rr (Itt X.K q) H) : wpAny (model X.prog X.w) X.A (pyIter (.ref q)) (PIE X pins σ tg Rr) X.xe s := by
  obtain ⟨its, rv, p, hz⟩ := I.tuple h
  refine wpAny_pyIter_tuple (show s.heap.IsTuple q its.toArray from p) ?_
  refine ⟨s.heap.objs.size, [s.heap.objs.size], _, _, H, rfl, I.kept (t' := s.toks) fun b o e => Heap.get?_push_of_some _ e, turn_tuple q _, ⟨_, Heap.get?_push_size _ rfl, rfl, rfl⟩, fun b hb => ?_, r⟩
  have e : b = s.heap.objs.size := by simpa using hb
  subst e
  exact I.fpOk (Nat.le_refl _) (I.hok.fresh (Nat.le_refl _))
/-- a list or a tuple that stands still -/
def itemsV (v : SV) : P (List D) := fun m => match v with
  | .dat (.lst xs) => .ok xs m
  | .dat (.tup xs) => .ok xs m
  | .dat (.scr ns) => .ok (ns.map D.int) m
  | _ => .stuck
def dIt (f : En → P SV) : En → P (List D) := fun env => (f env).bnd itemsV
theorem rpAll_ints {Γ : Gd} {S : Hp} : ∀ ns : List Int, RpAll Γ S (ns.map V.int) (ns.map D.int)
  | [] => .nil
  | n :: r => .cons (.int n) (rpAll_ints r)
theorem ji_seq (ja : JE X W a fa) : JI X W tg a (dIt fa) := ⟨fun {G S H ρ m env σ Rr} M E h pins s I => by
  refine thn (ja.run (Q := fun x H1 => (∃ q xs, x = .ref q ∧ SqL X.K H1 q xs ∧ Rr (Itl X.K q) H1) ∨ (∃ q xs, x = .ref q ∧ SqT X.K H1 q xs ∧ Rr (Itt X.K q) H1)) M E (wpr_monoQ (wpr_bnd h) fun x m1 hx => ?_) pins s I) fun v s1 ⟨x, H1, I1, r1, q1⟩ => ?_
  · intro S1 H1 ρ1 xv e1 M1 rx
    unfold itemsV at hx
    split at hx
    · cases rx with
      | lst q z => exact .inl ⟨_, _, rfl, .inl (.inl (M1.sub _ _ q)), hx S1 H1 ρ1 _ e1 M1 (itS_list (.inl (.inl q)) z)⟩
    · cases rx with
      | tup q z => exact .inr ⟨_, _, rfl, Same.seqT M1.sub q, hx S1 H1 ρ1 _ e1 M1 (itS_tup q z)⟩
    · cases rx with
      | scr q => exact .inl ⟨_, _, rfl, M1.sub.seq q, hx S1 H1 ρ1 _ e1 M1 (itS_list q (rpAll_ints _))⟩
    · exact hx.elim
  · rcases q1 with ⟨q, xs, rfl, h1, h2⟩ | ⟨q, xs, rfl, h1, h2⟩
    · cases r1
      exact iter_list I1 h1 h2
    · cases r1
      exact iter_tup I1 h1 h2⟩
/-- range(n), range(a, b) -/
def rng1V (xs : List SV) : P (List D) := fun m => match xs with
  | [.dat (.int j)] => if -(2 ^ 62) ≤ j ∧ j < 2 ^ 62 then .ok (rngD 0 j.toNat) m else .stuck
  | _ => .stuck
def rng2V (xs : List SV) : P (List D) := fun m => match xs with
  | [.dat (.int i), .dat (.int j)] => if -(2 ^ 62) ≤ i ∧ i < 2 ^ 62 ∧ -(2 ^ 62) ≤ j ∧ j < 2 ^ 62 then .ok (rngD i (j - i).toNat) m else .stuck
  | _ => .stuck
def dAI (g : List SV → P (List D)) (fs : En → P (List SV)) : En → P (List D) := fun env => (fs env).bnd g
variable {fs : En → P (List SV)}
theorem ji_rng1 (hg : Gl X "range") (hm : X.mg "range" = none) (ja : JA X W [a] fs) (hs : starEach [a] X.env = [(false, eval a X.env)] := by rfl) : JI X W tg (.Call (.Name "range" p) [a] [] pos) (dAI rng1V fs) := ⟨fun {G S H ρ m env σ Rr} M E h => by
  refine wi_of (pi_range1 hg hm pa_wa hs) (ja.run M E (wpr_monoQ (wpr_bnd h) fun xs m1 hx => ?_))
  intro S1 H1 ρ1 xv e1 M1 rx
  unfold rng1V at hx
  split at hx
  · rename_i j
    obtain ⟨v, rfl, r⟩ := paired1 rx
    cases r
    split at hx
    · rename_i hb
      exact ⟨j, rfl, hb.1, hb.2, hx S1 H1 ρ1 _ e1 M1 (itS_rng 0 _)⟩
    · exact hx.elim
  · exact hx.elim⟩
theorem ji_rng2 (hg : Gl X "range") (hm : X.mg "range" = none) (ja : JA X W [a, b] fs) (hs : starEach [a, b] X.env = [(false, eval a X.env), (false, eval b X.env)] := by rfl) (hs2 : starEach [b] X.env = [(false, eval b X.env)] := by rfl) : JI X W tg (.Call (.Name "range" p) [a, b] [] pos) (dAI rng2V fs) := ⟨fun {G S H ρ m env σ Rr} M E h => by
  refine wi_of (pi_range2 hg hm pa_wa hs hs2) (ja.run M E (wpr_monoQ (wpr_bnd h) fun xs m1 hx => ?_))
  intro S1 H1 ρ1 xv e1 M1 rx
  unfold rng2V at hx
  split at hx
  · rename_i i j
    obtain ⟨v, w', rfl, r, r'⟩ := paired2 rx
    cases r
    cases r'
    split at hx
    · rename_i hb
      exact ⟨i, j, rfl, hb, hx S1 H1 ρ1 _ e1 M1 (itS_rng i _)⟩
    · exact hx.elim
  · exact hx.elim⟩

/-! ### statements -/
variable {st : Stmt} {sts : List Stmt} {f g : DS} {t : En → P Bool} {e : Expr} {es : List Expr}
def dNx : DS := fun env => P.ret (.nx env)
def dSeq (f g : DS) : DS := fun env => (f env).bnd fun o => match o with
  | .nx env' => g env'
  | o => P.ret o
theorem jb_nil : JB X W [] dNx := ⟨fun {G S H ρ m env σ D} M E h => wss_of pss_nil (h S H ρ σ (Ext.refl _ _) M E)⟩
theorem jb_one (j : JS X W st f) : JB X W [st] f := ⟨fun {G S H ρ m env σ D} M E h => wss_of (pss_one ps_ws) (j.run M E h)⟩
theorem jb_cons (j1 : JS X W st f) (j2 : JB X W sts g) : JB X W (st :: sts) (dSeq f g) := ⟨fun {G S H ρ m env σ D} M E h => by
  refine wss_of (pss_cons ps_ws pss_wss) (j1.run M E (wpr_monoQ (wpr_bnd h) fun o m1 ho => ?_))
  cases o with
  | nx env' =>
    intro S1 H1 ρ1 σ1 e1 M1 E1
    exact j2.run M1 E1 (wpr_mono ho (fun _ _ z => qs_ext e1 z) fun _ _ z => qxs_ext e1 z)
  | rt v => exact ho
  | bk env' => exact ho
  | ct env' => exact ho⟩
theorem js_pass : JS X W (.Pass pos) dNx := ⟨fun {G S H ρ m env σ D} M E h => ws_of ps_pass (h S H ρ σ (Ext.refl _ _) M E)⟩
def dBk : DS := fun env => P.ret (.bk env)
def dCt : DS := fun env => P.ret (.ct env)
def dNever : DS := fun _ => P.stk
theorem js_break : JS X W (.Break pos) dBk := ⟨fun {G S H ρ m env σ D} M E h => ws_of ps_break (h S H ρ σ (Ext.refl _ _) M E)⟩
theorem js_continue : JS X W (.Continue pos) dCt := ⟨fun {G S H ρ m env σ D} M E h => ws_of ps_continue (h S H ρ σ (Ext.refl _ _) M E)⟩
theorem js_never : JS X W st dNever := ⟨fun {G S H ρ m env σ D} M E h => h.elim⟩
def dRet (fa : En → P SV) : DS := fun env => (fa env).bnd fun v => P.ret (.rt v)
theorem js_ret (ja : JE X W a fa) : JS X W (.Return (some a) pos) (dRet fa) := ⟨fun {G S H ρ m env σ D} M E h => by
  refine ws_of (ps_ret pe_we) (ja.run M E (wpr_mono (wpr_bnd h) (fun v m1 hv => ?_) fun _ _ z => qx_of z))
  intro S1 H1 ρ1 xv e1 M1 rx
  exact hv S1 H1 ρ1 xv e1 M1 rx⟩
theorem js_retN : JS X W (.Return none pos) (fun _ => P.ret (.rt (.dat .non))) := ⟨fun {G S H ρ m env σ D} M E h => ws_of ps_retN (h S H ρ .non (Ext.refl _ _) M .non)⟩
def dIfS (t : En → P Bool) (f g : DS) : DS := fun env => (t env).bnd fun k => match k with
  | true => f env
  | false => g env
theorem js_if {c : Expr} {A B : List Stmt} (jc : JT X W c t) (ja : JB X W A f) (jb : JB X W B g) : JS X W (.If c A B pos) (dIfS t f g) := ⟨fun {G S H ρ m env σ D} M E h => by
  refine ws_of (ps_if pt_wt pss_wss pss_wss) (jc.run M E (wpr_mono (wpr_bnd h) (fun k m1 hk => ?_) fun _ _ z => qx_of z))
  intro S1 H1 ρ1 e1 M1
  cases k with
  | true =>
    rw [if_pos rfl]
    exact ja.run M1 (E.mono e1) (wpr_mono hk (fun _ _ z => qs_ext e1 z) fun _ _ z => qxs_ext e1 z)
  | false =>
    rw [if_neg Bool.false_ne_true]
    exact jb.run M1 (E.mono e1) (wpr_mono hk (fun _ _ z => qs_ext e1 z) fun _ _ z => qxs_ext e1 z)⟩
def dSet (i : Nat) (fa : En → P SV) : DS := fun env => (fa env).bnd fun v => P.ret (.nx (env.set i (some v)))
theorem js_set (i : Nat) {x : Str} {pos' : Pos} (hN : X.N.Nodup) (ja : JE X W a fa) (hi : X.N[i]? = some x := by rfl) (hx : Loc X.env.scope x := by first | exact Or.inl rfl | exact Or.inr rfl) (hs : swapsWith a (some (.Name x pos')) pos.line X.env = pure false := by rfl) (hf : X.fn x = true ∨ X.env.scope.names.lookup x = some .local := by first | exact .inl rfl | exact .inr rfl | assumption) :
    JS X W (.Assign [.Name x pos'] a pos) (dSet i fa) := ⟨fun {G S H ρ m env σ D} M E h => by
  refine ws_of (ps_set hN hi hx pe_we hs hf) (ja.run M E (wpr_mono (wpr_bnd h) (fun v m1 hv => ?_) fun _ _ z => qx_of z))
  intro S1 H1 ρ1 xv e1 M1 rx
  exact hv S1 H1 ρ1 _ e1 M1 ((E.mono e1).set i rx)⟩
/-- target = value -/
def dAsg (fa : En → P SV) (g : D → En → Option En) : DS := fun env => (fa env).bnd fun v m => match v with
  | .dat d => (match g d env with | some env' => .ok (.nx env') m | none => .stuck)
  | .ref _ => .stuck
theorem js_asg {ts : List Nat} {gg : D → En → Option En} (ja : JE X W a fa) (jg : JG X tg ts gg) (hs : swapsWithSole [tg] a pos.line X.env = pure false := by rfl) (hw : swappedStores [tg] a X.env = pure none := by rfl)
    (h1 : (assignEach [tg] X.env).map (·.2) = [assign tg X.env] := by rfl) : JS X W (.Assign [tg] a pos) (dAsg fa gg) := ⟨fun {G S H ρ m env σ D} M E h => by
  refine ws_of (ps_asg pe_we pg_wg hs hw h1) (ja.run M E (wpr_mono (wpr_bnd h) (fun v m1 hv => ?_) fun _ _ z => qx_of z))
  intro S1 H1 ρ1 xv e1 M1 rx
  cases v with
  | ref n => exact hv.elim
  | dat d =>
    simp only at hv
    split at hv
    · rename_i env' he
      exact jg.run M1 (E.mono e1) rx he fun σ' E' _ => hv S1 H1 ρ1 σ' e1 M1 E'
    · exact hv.elim⟩
/-- a, b = x, y -/
def dPar (i j : Nat) (fs : En → P (List SV)) : DS := fun env => (fs env).bnd fun vs m => match vs with
  | [v, w] => .ok (.nx ((env.set i (some v)).set j (some w))) m
  | _ => .stuck
theorem js_par (i j : Nat) {x y : Str} {px py pt : Pos} {kt k2 pt2} (hc : X.calm = true) (hN : X.N.Nodup) (ja : JA X W [a, b] fs)
    (hi : X.N[i]? = some x := by rfl) (hj : X.N[j]? = some y := by rfl) (hij : i ≠ j := by decide)
    (hx : X.env.scope.names.lookup x = some .local := by rfl) (hy : X.env.scope.names.lookup y = some .local := by rfl)
    (hw : swappedStores [.Tuple [.Name x px, .Name y py] kt pt] (.Tuple [a, b] k2 pt2) X.env = pure (some [x, y]) := by rfl)
    (hs : swapsWithSole [.Tuple [.Name x px, .Name y py] kt pt] (.Tuple [a, b] k2 pt2) pos.line X.env = pure false := by rfl) :
    JS X W (.Assign [.Tuple [.Name x px, .Name y py] kt pt] (.Tuple [a, b] k2 pt2) pos) (dPar i j fs) := ⟨fun {G S H ρ m env σ D} M E h => by
  refine ws_of (ps_par hc hN hi hj hij hx hy pa_wa hw hs) (ja.run M E (wpr_mono (wpr_bnd h) (fun vs m1 hv => ?_) fun _ _ z => qx_of z))
  intro S1 H1 ρ1 xv e1 M1 rx
  split at hv
  · rename_i v w'
    obtain ⟨v1, w1, rfl, r1, r2⟩ := paired2 rx
    exact ⟨v1, w1, rfl, hv S1 H1 ρ1 _ e1 M1 (((E.mono e1).set i r1).set j r2)⟩
  · exact hv.elim⟩
def dDrop (fa : En → P SV) : DS := fun env => (fa env).bnd fun _ => P.ret (.nx env)
theorem js_expr (ja : JE X W a fa) (hs : swapsWith a none pos.line X.env = pure false := by rfl) : JS X W (.Expr a pos) (dDrop fa) := ⟨fun {G S H ρ m env σ D} M E h => by
  refine ws_of (ps_expr pe_we hs) (ja.run M E (wpr_mono (wpr_bnd h) (fun v m1 hv => ?_) fun _ _ z => qx_of z))
  intro S1 H1 ρ1 xv e1 M1 rx
  exact hv S1 H1 ρ1 _ e1 M1 (E.mono e1)⟩
/-- x op= e (ints) -/
def dAug (i : Nat) (gg : SV → SV → P SV) (fa : En → P SV) : DS := fun env => (dVar i env).bnd fun v => (fa env).bnd fun y => (gg v y).bnd fun z => P.ret (.nx (env.set i (some z)))
def intAdd (x y : SV) : P SV := fun m => intOp (fun i j => .ok (.dat (.int (i + j))) m) x y
theorem js_augI (i : Nat) {x : Str} {op : Operator} {pos' : Pos} {C : Int → Int → Prop} {gi : Int → Int → Int} {gg : SV → SV → P SV} (hN : X.N.Nodup) (ho : OpR X (inplaceOp op) (rI C fun i j => .int (gi i j)))
    (hgg : ∀ (u y : SV) (m : Mem) (Q : SV → Mem → Prop) (E : Exc → Mem → Prop), wpr (gg u y m) Q E → ∃ i j, u = .dat (.int i) ∧ y = .dat (.int j) ∧ C i j ∧ Q (.dat (.int (gi i j))) m) (ja : JE X W a fa)
    (hi : X.N[i]? = some x := by rfl) (hx : Loc X.env.scope x := by first | exact Or.inl rfl | exact Or.inr rfl) (hf : X.fn x = true ∨ X.env.scope.names.lookup x = some .local := by first | exact .inl rfl | exact .inr rfl | assumption) :
    JS X W (.AugAssign (.Name x pos') op a pos) (dAug i gg fa) := ⟨fun {G S H ρ m env σ D} M E h => by
  have h := wpr_bnd h
  unfold dVar at h
  split at h
  · rename_i v hv
    obtain ⟨vv, h1, h2⟩ := E.at_ i v hv
    refine ws_of (ps_aug hN hi hx pe_we ho hf) ⟨vv, h1, ja.run M E (wpr_mono (wpr_bnd h) (fun y m1 hy => ?_) fun _ _ z => qx_of z)⟩
    intro S1 H1 ρ1 yv e1 M1 ry
    obtain ⟨i1, j1, rfl, rfl, hc, hq⟩ := hgg _ _ _ _ _ (wpr_bnd hy)
    cases h2
    cases ry
    exact ⟨i1, j1, rfl, rfl, hc, hq S1 H1 ρ1 _ e1 M1 ((E.mono e1).set i (v := .dat (.int _)) (.int _))⟩
  · exact h.elim⟩
theorem iop_add' : OpR X (inplaceOp .Add) (rI (fun _ _ => True) fun i j => .int (i + j)) := fun pins s σ H x y v u Q I rx ry ⟨i, j, h1, h2, _, q⟩ => iop_add pins s σ H x y v u Q I rx ry ⟨i, j, h1, h2, q⟩
theorem iop_sub' : OpR X (inplaceOp .Sub) (rI (fun _ _ => True) fun i j => .int (i - j)) := fun pins s σ H x y v u Q I rx ry ⟨i, j, h1, h2, _, q⟩ => iop_sub pins s σ H x y v u Q I rx ry ⟨i, j, h1, h2, q⟩
theorem js_augAdd (i : Nat) {x : Str} {pos' : Pos} (hN : X.N.Nodup) (ja : JE X W a fa) (hi : X.N[i]? = some x := by rfl) (hx : Loc X.env.scope x := by first | exact Or.inl rfl | exact Or.inr rfl) (hf : X.fn x = true ∨ X.env.scope.names.lookup x = some .local := by first | exact .inl rfl | exact .inr rfl | assumption) :
    JS X W (.AugAssign (.Name x pos') .Add a pos) (dAug i intAdd fa) := js_augI i hN iop_add' (fun u y m Q E h => by
  unfold intAdd intOp at h
  split at h
  · exact ⟨_, _, rfl, rfl, trivial, h⟩
  · exact h.elim) ja hi hx hf
theorem js_augSub (i : Nat) {x : Str} {pos' : Pos} (hN : X.N.Nodup) (ja : JE X W a fa) (hi : X.N[i]? = some x := by rfl) (hx : Loc X.env.scope x := by first | exact Or.inl rfl | exact Or.inr rfl) (hf : X.fn x = true ∨ X.env.scope.names.lookup x = some .local := by first | exact .inl rfl | exact .inr rfl | assumption) :
    JS X W (.AugAssign (.Name x pos') .Sub a pos) (dAug i subV fa) := js_augI i hN iop_sub' (fun u y m Q E h => by
  unfold subV intOp at h
  split at h
  · exact ⟨_, _, rfl, rfl, trivial, h⟩
  · exact h.elim) ja hi hx hf
/-- x.append(e) of an own list -/
def dApp (fa fb : En → P SV) : DS := fun env => (fa env).bnd fun x m => match rdL x m with
  | some _ => ((fb env).bnd fun y m1 => match x, y with
    | .ref n, .dat d => (match m1[n]? with
      | some (.lst xs) => if xs.length < 16777216 then .ok (.nx env) (m1.set n (.lst (xs ++ [d]))) else .stuck
      | _ => .stuck)
    | _, _ => .stuck) m
  | none => .stuck
theorem js_append {apos cpos : Pos} (ja : JE X W a fa) (jb : JE X W b fb) (hbase : attributeBase a "append" X.env (eval a X.env) = eval a X.env := by rfl)
    (hfew : ((backTo cpos (starEach [b] X.env)).all (fun x => !x.1) && (backToKw cpos (keywordEach [] X.env)).all (fun x => x.1.isSome)
      && decide ([b].length + ([] : List Keyword).length + (if ([] : List Keyword).isEmpty then 0 else 1) < 30)) = true := by rfl)
    (hline : (apos.endLine == cpos.line) = true := by rfl) (hs1 : starEach [b] X.env = (false, eval b X.env) :: starEach [] X.env := by rfl) (hplain : (backTo cpos (starEach [] X.env)).any (·.1) = false := by rfl)
    (hs : swapsWith (.Call (.Attribute a "append" apos) [b] [] cpos) none pos.line X.env = pure false := by rfl) : JS X W (.Expr (.Call (.Attribute a "append" apos) [b] [] cpos) pos) (dApp fa fb) := ⟨fun {G S H ρ m env σ D} M E h => by
  refine ws_of (ps_expr (pe_bm PySem.F.plainAttrs_list PySem.F.slot_list_append PySem.F.type_list_append mt_append pe_we (pa_cons pe_we pa_nil hs1) hbase hfew hline hs1 hplain) hs) (ja.run M E (wpr_mono (wpr_bnd h) (fun x m1 hx => ?_) fun _ _ z => qx_of z))
  intro S1 H1 ρ1 xv e1 M1 rx
  split at hx
  · rename_i ys hys
    obtain ⟨p, vs, rfl, g1, _⟩ := rdL_ok M1 rx hys
    refine ⟨.inl ⟨rfl, vs, .inl (.inl g1)⟩, jb.run M1 (E.mono e1) (wpr_mono (wpr_bnd hx) (fun y m2 hy => ?_) fun _ _ z => qx_ext e1 (qx_of z))⟩
    intro S2 H2 ρ2 yv e2 M2 ry
    split at hy
    · rename_i n d
      split at hy
      · rename_i xs hxs
        split at hy
        · rename_i hl
          obtain ⟨q, ws, k1, k2, k3, k4, k5⟩ := M2.cell n xs hxs
          obtain ⟨p', z1, z2⟩ := rx
          cases z2
          have e3 := e2.r n _ z1
          rw [k1] at e3
          cases e3
          refine ⟨p, ws, yv, rfl, rfl, k2, by rw [k3.length, sizeLine_eq]; exact hl, ?_⟩
          exact hy S2 _ ρ2 σ (e1.trans e2) (M2.write hxs k1 (k3.append (.cons ry .nil))) ((E.mono e1).mono e2)
        · exact hy.elim
      · exact hy.elim
    · exact hy.elim
  · exact hx.elim⟩
/-- o[i] = e of an own list -/
def dSetIx (fo fi fv : En → P SV) : DS := fun env => (fv env).bnd fun v => (fo env).bnd fun o => (fi env).bnd fun i m => match o, i, v with
  | .ref n, .dat (.int k), .dat d => (match m[n]? with
    | some (.lst xs) => (match ixN xs.length k with
      | some j => .ok (.nx env) (m.set n (.lst (xs.set j d)))
      | none => .stuck)
    | _ => .stuck)
  | _, _, _ => .stuck
theorem js_setIx {o i : Expr} {fo fi fv : En → P SV} {pos' : Pos} (jo : JE X W o fo) (ji : JE X W i fi) (jv : JE X W e fv) (ha : ∀ v, assign (.Subscript o i pos') X.env v = (do
      let ov ← holding [v] (eval o X.env)
      let iv ← holding [v, ov] (eval i X.env)
      standAt pos'
      holding [v, ov, iv] (setItem ov iv v)
      release [v, ov, iv] []) := by intro _; rfl) (hs : swapsWithSole [.Subscript o i pos'] e pos.line X.env = pure false := by rfl) (hw : swappedStores [.Subscript o i pos'] e X.env = pure none := by rfl)
    (h1 : (assignEach [.Subscript o i pos'] X.env).map (·.2) = [assign (.Subscript o i pos') X.env] := by rfl) : JS X W (.Assign [.Subscript o i pos'] e pos) (dSetIx fo fi fv) := ⟨fun {G S H ρ m env σ D} M E h => by
  refine ws_of (ps_asg pe_we (pg_sub pe_we pe_we set_list ha) hs hw h1) (jv.run M E (wpr_mono (wpr_bnd h) (fun v m1 hv => ?_) fun _ _ z => qx_of z))
  intro S1 H1 ρ1 vv e1 M1 rv
  refine jo.run M1 (E.mono e1) (wpr_mono (wpr_bnd hv) (fun ov m2 ho => ?_) fun _ _ z => qx_ext e1 (qx_of z))
  intro S2 H2 ρ2 ovv e2 M2 ro
  refine ji.run M2 ((E.mono e1).mono e2) (wpr_mono (wpr_bnd ho) (fun iv m3 hi => ?_) fun _ _ z => qx_ext (e1.trans e2) (qx_of z))
  intro S3 H3 ρ3 ivv e3 M3 ri
  split at hi
  · rename_i n k d
    split at hi
    · rename_i xs hxs
      split at hi
      · rename_i j hj
        obtain ⟨q, ws, k1, k2, k3, k4, k5⟩ := M3.cell n xs hxs
        obtain ⟨p', z1, rfl⟩ := ro
        have e4 := e3.r n _ z1
        rw [k1] at e4
        cases e4
        cases ri
        refine ⟨q, ws, k, j, rfl, rfl, k2, by rw [k3.length]; exact hj, ?_⟩
        exact hi S3 _ ρ3 σ ((e1.trans e2).trans e3) (M3.write hxs k1 (RpAll.set (rv.mono (e2.trans e3)) j k3)) (((E.mono e1).mono e2).mono e3)
      · exact hi.elim
    · exact hi.elim
  · exact hi.elim⟩

/-! ### for -/
def loopF (g : D → En → Option En) (body : DS) : List D → En → P Out
  | [], env => P.ret (.nx env)
  | d :: r, env => fun m => match g d env with
    | none => .stuck
    | some env1 => ((body env1).bnd fun o => match o with
      | .nx e => loopF g body r e
      | .ct e => loopF g body r e
      | .bk e => P.ret (.nx e)
      | .rt v => P.ret (.rt v)) m
def dFor (fi : En → P (List D)) (g : D → En → Option En) (body : DS) : DS := fun env => (fi env).bnd fun items => loopF g body items env
theorem js_for {iter : Expr} {body : List Stmt} {ts : List Nat} {gg : D → En → Option En} {fi : En → P (List D)} (hp : PassesOwn (model X.prog X.w) X.A X.env X.xe) (hc : X.calm = true) (ji : JI X W tg iter fi) (jg : JG X tg ts gg) (jb : JB X W body f)
    (hs : ∀ x, foldedSetIterable iter X.env x = pure x := by intro _; rfl) : JS X W (.For tg iter body [] pos) (dFor fi gg f) := ⟨fun {G S H ρ m env σ D} M E h => by
  refine ws_of (ps_for hp hc pi_wi pg_wg pss_wss hs) (ji.run M E (wpr_mono (wpr_bnd h) (fun items m1 hi => ?_) fun _ _ z => qx_of z))
  intro S1 H1 ρ1 J e1 M1 its
  refine ⟨fun i k σ' H' => ∃ S' ρ' m' env', Ext S1 ρ1 S' ρ' ∧ MR (gd X) G S' H' ρ' m' ∧ ER (gd X) S' ρ' env' σ' ∧ i + k = items.length ∧ wpr (loopF gg f (items.drop i) env' m') (QS X G S ρ D) (QXs X W G S ρ),
    ⟨items.length, S1, ρ1, m1, env, Ext.refl _ _, M1, E.mono e1, Nat.zero_add _, by rw [List.drop_zero]; exact hi⟩, ?_⟩
  rintro i k σ' H' ⟨S', ρ', m', env', x1, x2, x3, x4, x5⟩
  obtain ⟨t1, t2⟩ := its i x1.s x2
  cases hd : items[i]? with
  | none =>
    have hge : items.length ≤ i := List.getElem?_eq_none_iff.mp hd
    rw [List.drop_of_length_le hge] at x5
    exact .inl ⟨t1 hge, x5 S' H' ρ' σ' (e1.trans x1) x2 x3⟩
  | some d =>
    obtain ⟨go, yl⟩ := t2 d hd
    obtain ⟨hlt, hdd⟩ := List.getElem?_eq_some_iff.mp hd
    rw [List.drop_eq_getElem_cons hlt, hdd] at x5
    refine .inr ⟨go, fun σ2 H2 => ∃ S2 ρ2 m2 env2, Ext S1 ρ1 S2 ρ2 ∧ MR (gd X) G S2 H2 ρ2 m2 ∧ ER (gd X) S2 ρ2 env2 σ2 ∧ wpr (loopF gg f (items.drop (i + 1)) env2 m2) (QS X G S ρ D) (QXs X W G S ρ), fun σ2 H2 hN => ?_, fun x H2 hy => ?_⟩
    · obtain ⟨S2, ρ2, m2, env2, y1, y2, y3, y4⟩ := hN
      exact ⟨k - 1, by omega, S2, ρ2, m2, env2, y1, y2, y3, by omega, y4⟩
    · obtain ⟨S2, e2, M2, rx⟩ := yl x H2 hy
      unfold loopF at x5
      split at x5
      · exact x5.elim
      · rename_i env1 hg
        refine jg.run M2 (x3.mono e2) rx hg fun σ3 E3 _ => jb.run M2 E3 ?_
        have e02 : Ext S ρ S2 ρ' := (e1.trans x1).trans e2
        refine wpr_mono (wpr_bnd x5) (fun o m3 ho => ?_) fun _ _ z => qxs_ext e02 z
        cases o with
        | nx env4 => exact fun S4 H4 ρ4 σ4 e4 M4 E4 => ⟨S4, ρ4, m3, env4, (x1.trans e2).trans e4, M4, E4, ho⟩
        | ct env4 => exact fun S4 H4 ρ4 σ4 e4 M4 E4 => ⟨S4, ρ4, m3, env4, (x1.trans e2).trans e4, M4, E4, ho⟩
        | bk env4 => exact fun S4 H4 ρ4 σ4 e4 M4 E4 => ho S4 H4 ρ4 σ4 (e02.trans e4) M4 E4
        | rt v => exact fun S4 H4 ρ4 σ4 e4 M4 E4 => ho S4 H4 ρ4 σ4 (e02.trans e4) M4 E4⟩

/-! ### while -/
def loopW (t : En → P Bool) (body : DS) : Nat → En → P Out
  | 0, _ => P.stk
  | n + 1, env => (t env).bnd fun k => match k with
    | true => (body env).bnd fun o => (match o with
      | .nx e => loopW t body n e
      | .ct e => loopW t body n e
      | .bk e => P.ret (.nx e)
      | .rt v => P.ret (.rt v))
    | false => P.ret (.nx env)
def dWhile (n : Nat) (t : En → P Bool) (body : DS) : DS := fun env => loopW t body n env
theorem js_while {c : Expr} {body : List Stmt} {n : Nat} (hp : PassesOwn (model X.prog X.w) X.A X.env X.xe) (jc : JT X W c t) (jb : JB X W body f) : JS X W (.While c body [] pos) (dWhile n t f) := ⟨fun {G S H ρ m env σ D} M E h => by
  refine ws_of (ps_while hp pt_wt pss_wss) ?_
  refine ⟨fun k σ' H' => ∃ S' ρ' m' env', Ext S ρ S' ρ' ∧ MR (gd X) G S' H' ρ' m' ∧ ER (gd X) S' ρ' env' σ' ∧ wpr (loopW t f k env' m') (QS X G S ρ D) (QXs X W G S ρ), ⟨n, S, ρ, m, env, Ext.refl _ _, M, E, h⟩, ?_⟩
  rintro k σ' H' ⟨S', ρ', m', env', x1, x2, x3, x5⟩
  cases k with
  | zero => exact x5.elim
  | succ k =>
    unfold loopW at x5
    refine jc.run x2 x3 (wpr_mono (wpr_bnd x5) (fun b m1 hb => ?_) fun _ _ z => qx_ext x1 (qx_of z))
    intro S1 H1 ρ1 e1 M1
    cases b with
    | false =>
      rw [if_neg Bool.false_ne_true]
      exact hb S1 H1 ρ1 σ' (x1.trans e1) M1 (x3.mono e1)
    | true =>
      rw [if_pos rfl]
      refine ⟨fun σ2 H2 => ∃ S2 ρ2 m2 env2, Ext S ρ S2 ρ2 ∧ MR (gd X) G S2 H2 ρ2 m2 ∧ ER (gd X) S2 ρ2 env2 σ2 ∧ wpr (loopW t f k env2 m2) (QS X G S ρ D) (QXs X W G S ρ), fun σ2 H2 hN => ⟨k, Nat.lt_succ_self k, hN⟩, ?_⟩
      refine jb.run M1 (x3.mono e1) (wpr_mono (wpr_bnd hb) (fun o m3 ho => ?_) fun _ _ z => qxs_ext (x1.trans e1) z)
      have e02 := x1.trans e1
      cases o with
      | nx env4 => exact fun S4 H4 ρ4 σ4 e4 M4 E4 => ⟨S4, ρ4, m3, env4, e02.trans e4, M4, E4, ho⟩
      | ct env4 => exact fun S4 H4 ρ4 σ4 e4 M4 E4 => ⟨S4, ρ4, m3, env4, e02.trans e4, M4, E4, ho⟩
      | bk env4 => exact fun S4 H4 ρ4 σ4 e4 M4 E4 => ho S4 H4 ρ4 σ4 (e02.trans e4) M4 E4
      | rt v => exact fun S4 H4 ρ4 σ4 e4 M4 E4 => ho S4 H4 ρ4 σ4 (e02.trans e4) M4 E4⟩
end
end PL

/-! PL5: comprehensions, list.index, defs and their calls. -/
namespace PL
open PySem PySem.Spec PyProof.Rows L2

/-! ### comprehensions -/
abbrev W0 : WX := fun _ _ _ _ => False
def dYes : En → P Bool := fun _ => P.ret true
/-- the fold of a comprehension -/
def loopC (g : D → En → Option En) (t : En → P Bool) (f : En → P SV) (env : En) : List D → List D → P (List D)
  | [], acc => P.ret acc
  | d :: r, acc => fun m => match g d env with
    | none => .stuck
    | some env1 => ((t env1).bnd fun k => match k with
      | true => (f env1).bnd fun v m1 => (match v with
        | .dat y => if acc.length < 16777216 then loopC g t f env r (acc ++ [y]) m1 else .stuck
        | .ref _ => .stuck)
      | false => loopC g t f env r acc) m
def noX {α : Type} (x : P α) : P α := fun m => match x m with
  | .ok a m' => .ok a m'
  | _ => .stuck
theorem wpr_noX {α : Type} {x : P α} {m : Mem} {Q : α → Mem → Prop} {E E' : Exc → Mem → Prop} (h : wpr (noX x m) Q E) : wpr (x m) Q E' := by
  unfold noX at h
  cases e : x m with
  | ok a m' => rw [e] at h; exact h
  | exc y m' => rw [e] at h; exact h.elim
  | stuck => rw [e] at h; exact h
def dLc (vs : List Nat) (fi : En → P (List D)) (g : D → En → Option En) (t : En → P Bool) (f : En → P SV) : En → P SV :=
  fun env => (fi env).bnd fun items => (noX (loopC g t f (wipeE env vs) items [])).bnd fun acc => P.ret (.dat (.lst acc))
/-- .. as an own list -/
def dLcO (vs : List Nat) (fi : En → P (List D)) (g : D → En → Option En) (t : En → P Bool) (f : En → P SV) : En → P SV :=
  fun env => (fi env).bnd fun items => (noX (loopC g t f (wipeE env vs) items [])).bnd fun acc m => .ok (.ref m.length) (m ++ [.lst acc])
section
variable {X : Cx} {W : WX} {pos : Pos} {tg iter elt : Expr} {ifs : List Expr} {scope : Scope} {own : List (Str × Nat)}
abbrev Bk (X : Cx) (scope : Scope) (s : Shared) (H : Hp) (C : Addr) (cl : List (Str × Addr)) (fp : List Addr) : Cx := X.blk s H scope (compEnvC scope cl C X.env) fp
def gAll (X : Cx) (scope : Scope) (tg : Expr) : TG := fun v σ H Q => ∀ (s0 : Shared) (H0 : Hp) (C : Addr) (cl : List (Str × Addr)) (fp : List Addr), WG (Bk X scope s0 H0 C cl fp) tg v σ H Q
def eAll (X : Cx) (scope : Scope) (e : Expr) : TE := fun σ H Q => ∀ (s0 : Shared) (H0 : Hp) (C : Addr) (cl : List (Str × Addr)) (fp : List Addr), WE (Bk X scope s0 H0 C cl fp) e σ H Q
def tAll (X : Cx) (scope : Scope) (e : Expr) : TT := fun σ H Q => ∀ (s0 : Shared) (H0 : Hp) (C : Addr) (cl : List (Str × Addr)) (fp : List Addr), WT (Bk X scope s0 H0 C cl fp) e σ H Q
/-- one turn's test, of a comprehension without or with one if -/
structure TestOk (X : Cx) (scope : Scope) (ifs : List Expr) (tt : TT) (t : En → P Bool) : Prop where
  pts : ∀ (s : Shared) (H : Hp) (C : Addr) (cl : List (Str × Addr)) (fp : List Addr), PTs (Bk X scope s H C cl fp) ifs tt
  run : ∀ {G S H : Hp} {ρ : List Addr} {m : Mem} {env : En} {σ : St} {Q : Bool → Hp → Prop}, MR (gd X) G S H ρ m → ER (gd X) S ρ env σ → wpr (t env m) (QB X G S ρ Q) (fun _ _ => False) → tt σ H Q
theorem test_no : TestOk X scope [] tYes dYes := ⟨fun _ _ _ _ _ => pts_nil, fun M E h => h _ _ _ (Ext.refl _ _) M⟩
theorem test_one {c : Expr} {t : En → P Bool} (j : ∀ (s : Shared) (H : Hp) (C : Addr) (cl : List (Str × Addr)) (fp : List Addr), JT (Bk X scope s H C cl fp) W0 c t) : TestOk X scope [c] (tAll X scope c) t :=
  ⟨fun s H C cl fp => pts_one ⟨fun pins s σ H Q I h => h _ _ _ _ _ pins s I⟩, fun M E h s H C cl fp => (j s H C cl fp).run M E (wpr_mono h (fun _ _ z => z) fun _ _ z => z.elim)⟩
/-- the reading of a comprehension -/
theorem lc_ok {fi : En → P (List D)} {ts : List Nat} {g : D → En → Option En} {tt : TT} {t : En → P Bool} {f : En → P SV} (ji : JI X W tg iter fi)
    (jg : ∀ (s : Shared) (H : Hp) (C : Addr) (cl : List (Str × Addr)) (fp : List Addr), JG (Bk X scope s H C cl fp) tg ts g) (hts : ∀ t ∈ ts, t ∈ own.map (·.2)) (jt : TestOk X scope ifs tt t)
    (je : ∀ (s : Shared) (H : Hp) (C : Addr) (cl : List (Str × Addr)) (fp : List Addr), JE (Bk X scope s H C cl fp) W0 elt f)
    {G S H : Hp} {ρ : List Addr} {m : Mem} {env : En} {σ : St} {Q : VK} (M : MR (gd X) G S H ρ m) (E : ER (gd X) S ρ env σ)
    (h : wpr (((fi env).bnd fun items => noX (loopC g t f (wipeE env (own.map (·.2))) items [])) m) (fun acc m' => ∀ S' H' ρ' D ws, Ext S ρ S' ρ' → MR (gd X) G S' H' ρ' m' → H' D = some (.lst ws) → RpAll (gd X) S' ws acc → S' D = none → G D = none → (∀ (i : Nat) (xs : List PL.D), m'[i]? = some (.lst xs) → ρ'[i]? ≠ some D) → Q (.ref D) H') (QX X W G S ρ σ)) :
    tLc (WI X tg iter) (gAll X scope tg) tt (eAll X scope elt) (own.map (·.2)) σ H Q := by
  refine ji.run M E (wpr_mono (wpr_bnd h) (fun items m1 hi => ?_) fun _ _ z => z)
  intro S1 H1 ρ1 J e1 M1 its D hD
  have hi := wpr_noX (E' := fun _ _ => False) hi
  have sD : S1 D = none := M1.sub.free hD
  have gD : G D = none := M1.gsub.free hD
  generalize hvs : own.map (·.2) = vs at *
  have E1 := (E.mono e1).wipe vs
  -- the state between two turns
  refine ⟨fun i k H' => ∃ S' ρ' m' acc ws, Ext S1 ρ1 S' ρ' ∧ MR (gd X) (upd G D (.lst ws)) S' H' ρ' m' ∧ RpAll (gd X) S' ws acc ∧ i + k = items.length ∧
      wpr (loopC g t f (wipeE env vs) (items.drop i) acc m') (fun acc m' => ∀ S' H' ρ' D ws, Ext S ρ S' ρ' → MR (gd X) G S' H' ρ' m' → H' D = some (.lst ws) → RpAll (gd X) S' ws acc → S' D = none → G D = none → (∀ (i : Nat) (xs : List PL.D), m'[i]? = some (.lst xs) → ρ'[i]? ≠ some D) → Q (.ref D) H') (fun _ _ => False), ⟨items.length, ?_⟩, ?_⟩
  · have M2 : MR (gd X) (upd G D (.lst [])) S1 (upd H1 D (.lst [])) ρ1 m1 := by
      have Mw : MR (gd X) G S1 (upd H1 D (.lst [])) ρ1 m1 := by
        refine ⟨fun b x q => ?_, fun b x q => ?_, M1.dis, M1.len, fun i xs q => ?_, M1.inj⟩
        · rw [upd_ne (ne_of_none q sD)]; exact M1.sub b x q
        · rw [upd_ne (ne_of_none q gD)]; exact M1.gsub b x q
        · obtain ⟨a, us, h1, h2, h3, h4, h5⟩ := M1.cell i xs q
          exact ⟨a, us, h1, by rw [upd_ne (ne_of_none h2 hD)]; exact h2, h3, h4, h5⟩
      refine Mw.guard upd_same sD fun i xs q z => ?_
      obtain ⟨a, us, h1, h2, _⟩ := M1.cell i xs q
      rw [z] at h1
      cases h1
      rw [hD] at h2
      cases h2
    exact ⟨S1, ρ1, m1, [], [], Ext.refl _ _, M2, .nil, Nat.zero_add _, by rw [List.drop_zero]; exact hi⟩
  · rintro i k H' ⟨S', ρ', m', acc, ws, x1, x2, x3, x4, x5⟩
    obtain ⟨t1, t2⟩ := its i x1.s x2
    have hDD : H' D = some (.lst ws) := x2.gsub D _ upd_same
    cases hd : items[i]? with
    | none =>
      have hge : items.length ≤ i := List.getElem?_eq_none_iff.mp hd
      rw [List.drop_of_length_le hge] at x5
      obtain ⟨u1, u2, u3⟩ := x2.unguard (G' := G) gD (.lst ws)
      have eH : upd H' D (.lst ws) = H' := by
        funext b
        by_cases e : b = D
        · subst e; rw [upd_same, hDD]
        · rw [upd_ne e]
      rw [eH] at u1
      exact .inl ⟨t1 hge, x5 S' H' ρ' D ws (e1.trans x1) u1 hDD x3 u2 gD u3⟩
    | some d =>
      obtain ⟨go, yl⟩ := t2 d hd
      obtain ⟨hlt, hdd⟩ := List.getElem?_eq_some_iff.mp hd
      rw [List.drop_eq_getElem_cons hlt, hdd] at x5
      refine .inr ⟨go, fun H2 => ∃ S2 ρ2 m2 acc2 ws2, Ext S1 ρ1 S2 ρ2 ∧ MR (gd X) (upd G D (.lst ws2)) S2 H2 ρ2 m2 ∧ RpAll (gd X) S2 ws2 acc2 ∧
        wpr (loopC g t f (wipeE env vs) (items.drop (i + 1)) acc2 m2) (fun acc m' => ∀ S' H' ρ' D ws, Ext S ρ S' ρ' → MR (gd X) G S' H' ρ' m' → H' D = some (.lst ws) → RpAll (gd X) S' ws acc → S' D = none → G D = none → (∀ (i : Nat) (xs : List PL.D), m'[i]? = some (.lst xs) → ρ'[i]? ≠ some D) → Q (.ref D) H') (fun _ _ => False), fun H2 hN => ?_, fun x H2 hy => ?_⟩
      · obtain ⟨S2, ρ2, m2, acc2, ws2, y1, y2, y3, y4⟩ := hN
        exact ⟨k - 1, by omega, S2, ρ2, m2, acc2, ws2, y1, y2, y3, by omega, y4⟩
      · obtain ⟨S2, e2, M2, rx⟩ := yl x H2 hy
        unfold loopC at x5
        split at x5
        · exact x5.elim
        · rename_i env1 hg
          have E2 : ER (gd X) S2 ρ' (wipeE env vs) (wipe σ vs) := (E1.mono x1).mono e2
          intro s0 H0 C cl fp
          refine (jg s0 H0 C cl fp).run M2 E2 rx hg fun σ3 E3 sm => ⟨?_, ?_⟩
          · have z := sm.wipe (vs := vs) hts
            rw [z]
            -- wiping twice is wiping once
            apply List.ext_getElem?
            intro j
            by_cases hj : j ∈ vs
            · by_cases hl : j < σ.length
              · rw [wipe_in hj (by rw [wipe_length]; exact hl), wipe_in hj hl]
              · rw [List.getElem?_eq_none (by rw [wipe_length, wipe_length]; omega), List.getElem?_eq_none (by rw [wipe_length]; omega)]
            · rw [wipe_out hj]
          · refine jt.run M2 E3 (wpr_mono (wpr_bnd x5) (fun b m3 hb => ?_) fun _ _ z => z)
            intro S3 H3 ρ3 e3 M3
            cases b with
            | false =>
              rw [if_neg Bool.false_ne_true]
              exact ⟨S3, ρ3, m3, acc, ws, (x1.trans e2).trans e3, M3, x3.mono (e2.trans e3).s, hb⟩
            | true =>
              rw [if_pos rfl]
              intro s1 H01 C1 cl1 fp1
              refine (je s1 H01 C1 cl1 fp1).run M3 (E3.mono e3) (wpr_mono (wpr_bnd hb) (fun v m4 hv => ?_) fun _ _ z => z.elim)
              intro S4 H4 ρ4 vv e4 M4 rv
              cases v with
              | ref n => exact hv.elim
              | dat y =>
                simp only at hv
                split at hv
                · rename_i hl
                  have e24 := (e2.trans e3).trans e4
                  have h4 : H4 D = some (.lst ws) := M4.gsub D _ upd_same
                  refine ⟨ws, h4, by rw [x3.length, sizeLine_eq]; exact hl, S4, ρ4, m4, acc ++ [y], ws ++ [vv], x1.trans e24, ?_, (x3.mono e24.s).append (.cons rv .nil), hv⟩
                  obtain ⟨u1, u2, u3⟩ := M4.unguard (G' := G) gD (.lst (ws ++ [vv]))
                  exact u1.guard upd_same u2 u3
                · exact hv.elim
theorem MR.adopt {Γ : Gd} {G S H : Hp} {ρ : List Addr} {m : Mem} {p : Addr} {o : HO} (M : MR Γ G S H ρ m) (hp : H p = some o) (hs : S p = none) (hg : G p = none) (hc : ∀ (i : Nat) (xs : List PL.D), m[i]? = some (.lst xs) → ρ[i]? ≠ some p) :
    Same S (upd S p o) ∧ MR Γ G (upd S p o) H ρ m := by
  have s1 : Same S (upd S p o) := fun b x q => by rw [upd_ne (ne_of_none q hs)]; exact q
  refine ⟨s1, ⟨fun b x q => ?_, M.gsub, fun b x q => ?_, M.len, fun i xs q => ?_, M.inj⟩⟩
  · by_cases e : b = p
    · subst e; rw [upd_same] at q; cases q; exact hp
    · rw [upd_ne e] at q; exact M.sub b x q
  · rw [upd_ne (ne_of_none q hg)]; exact M.dis b x q
  · obtain ⟨a, vs, h1, h2, h3, h4, h5⟩ := M.cell i xs q
    exact ⟨a, vs, h1, h2, h3.mono s1, by rw [upd_ne (fun z => hc i xs q (by rw [← z]; exact h1))]; exact h4, h5⟩
theorem MR.take_own {Γ : Gd} {G S H : Hp} {ρ : List Addr} {m : Mem} {p : Addr} {vs : List V} {xs : List PL.D} (M : MR Γ G S H ρ m) (hp : H p = some (.lst vs)) (hs : S p = none) (hg : G p = none) (hc : ∀ (i : Nat) (xs : List PL.D), m[i]? = some (.lst xs) → ρ[i]? ≠ some p) (r : RpAll Γ S vs xs) :
    Ext S ρ S (ρ ++ [p]) ∧ MR Γ G S H (ρ ++ [p]) (m ++ [.lst xs]) := by
  have pre : ∀ (i : Nat) (a : Addr), ρ[i]? = some a → (ρ ++ [p])[i]? = some a := fun i a q => by
    rw [List.getElem?_append_left (List.getElem?_eq_some_iff.mp q).1]; exact q
  have at_ : ∀ (i : Nat) (xs' : List PL.D), (m ++ [Cell.lst xs])[i]? = some (.lst xs') → (m[i]? = some (.lst xs') ∧ i < m.length) ∨ (i = m.length ∧ xs' = xs) := fun i xs' q => by
    by_cases hi : i < m.length
    · rw [List.getElem?_append_left hi] at q; exact .inl ⟨q, hi⟩
    · rw [List.getElem?_append_right (by omega)] at q
      have h0 : i - m.length = 0 := by
        have := (List.getElem?_eq_some_iff.mp q).1
        simp at this
        omega
      rw [h0] at q
      simp at q
      exact .inr ⟨by omega, q.symm⟩
  refine ⟨⟨Same.refl S, pre⟩, ⟨M.sub, M.gsub, M.dis, by rw [List.length_append, List.length_append, M.len]; rfl, fun i xs' q => ?_, fun i j xs' ys' a q1 q2 q3 q4 => ?_⟩⟩
  · rcases at_ i xs' q with ⟨q1, _⟩ | ⟨q1, q2⟩
    · obtain ⟨a, vs', h1, h2⟩ := M.cell i xs' q1
      exact ⟨a, vs', pre i a h1, h2⟩
    · subst q1 q2
      exact ⟨p, vs, by rw [← M.len]; simp, hp, r, hs, hg⟩
  · have key : ∀ (i : Nat) (xs' : List PL.D) (a : Addr), (m ++ [Cell.lst xs])[i]? = some (.lst xs') → (ρ ++ [p])[i]? = some a → (m[i]? = some (.lst xs') ∧ ρ[i]? = some a ∧ a ≠ p) ∨ (i = m.length ∧ a = p) := fun i xs' a q r => by
      rcases at_ i xs' q with ⟨q1, q2⟩ | ⟨q1, q2⟩
      · obtain ⟨a', vs', h1, h2, _⟩ := M.cell i xs' q1
        have e := pre i a' h1
        rw [r] at e
        cases e
        exact .inl ⟨q1, h1, fun z => hc i xs' q1 (by rw [← z]; exact h1)⟩
      · subst q1
        rw [← M.len] at r
        simp at r
        exact .inr ⟨rfl, r.symm⟩
    rcases key i xs' a q1 q3 with ⟨b1, b2, b3⟩ | ⟨b1, b2⟩
    · rcases key j ys' a q2 q4 with ⟨c1, c2, c3⟩ | ⟨c1, c2⟩
      · exact M.inj i j xs' ys' a b1 c1 b2 c2
      · exact absurd c2 b3
    · rcases key j ys' a q2 q4 with ⟨c1, c2, c3⟩ | ⟨c1, c2⟩
      · exact absurd b2 c3
      · rw [b1, c1]
theorem bnd_assoc {α β γ : Type} (x : P α) (f : α → P β) (g : β → P γ) : (x.bnd f).bnd g = x.bnd fun a => (f a).bnd g := by
  funext m
  unfold P.bnd R.bnd
  cases x m <;> rfl
section
variable {fi : En → P (List PL.D)} {ts : List Nat} {g : PL.D → En → Option En} {tt : TT} {t : En → P Bool} {f : En → P SV}
theorem lc_frozen {G S : Hp} {ρ : List Addr} {Q : VK} {vs : List Nat} {env : En} {m : Mem} {E : Exc → Mem → Prop} (h : wpr (dLc vs fi g t f env m) (QV X G S ρ Q) E) :
    wpr (((fi env).bnd fun items => noX (loopC g t f (wipeE env vs) items [])) m) (fun acc m' => ∀ S' H' ρ' D ws, Ext S ρ S' ρ' → MR (gd X) G S' H' ρ' m' → H' D = some (.lst ws) → RpAll (gd X) S' ws acc → S' D = none → G D = none → (∀ (i : Nat) (xs : List PL.D), m'[i]? = some (.lst xs) → ρ'[i]? ≠ some D) → Q (.ref D) H') E := by
  unfold dLc at h
  rw [← bnd_assoc] at h
  refine wpr_monoQ (wpr_bnd h) fun acc m1 ha S' H' ρ' D ws e M hD r sD gD nD => ?_
  obtain ⟨s1, M1⟩ := M.adopt hD sD gD nD
  exact ha _ H' ρ' _ (e.trans ⟨s1, fun _ _ z => z⟩) M1 (.lst upd_same (r.mono s1))
theorem lc_owned {G S : Hp} {ρ : List Addr} {Q : VK} {vs : List Nat} {env : En} {m : Mem} {E : Exc → Mem → Prop} (h : wpr (dLcO vs fi g t f env m) (QV X G S ρ Q) E) :
    wpr (((fi env).bnd fun items => noX (loopC g t f (wipeE env vs) items [])) m) (fun acc m' => ∀ S' H' ρ' D ws, Ext S ρ S' ρ' → MR (gd X) G S' H' ρ' m' → H' D = some (.lst ws) → RpAll (gd X) S' ws acc → S' D = none → G D = none → (∀ (i : Nat) (xs : List PL.D), m'[i]? = some (.lst xs) → ρ'[i]? ≠ some D) → Q (.ref D) H') E := by
  unfold dLcO at h
  rw [← bnd_assoc] at h
  refine wpr_monoQ (wpr_bnd h) fun acc m1 ha S' H' ρ' D ws e M hD r sD gD nD => ?_
  obtain ⟨e1, M1⟩ := M.take_own hD sD gD nD r
  refine ha _ H' _ _ (e.trans e1) M1 ⟨D, ?_, rfl⟩
  rw [← M.len]
  simp
theorem pg_gAll (s : Shared) (H : Hp) (C : Addr) (cl : List (Str × Addr)) (fp : List Addr) : PG (Bk X scope s H C cl fp) tg (gAll X scope tg) := ⟨fun pins s σ H v u Q I r h => h _ _ _ _ _ pins s u I r⟩
theorem pe_eAll (s : Shared) (H : Hp) (C : Addr) (cl : List (Str × Addr)) (fp : List Addr) : PE (Bk X scope s H C cl fp) elt (eAll X scope elt) := ⟨fun pins s σ H Q I h => h _ _ _ _ _ pins s I⟩
theorem je_lc {vs : List Nat} (own : List (Str × Nat)) (hc : X.calm = true) (hN : X.N.Nodup) (ji : JI X W tg iter fi) (ok : BlkOk X.N X.env.scope scope own)
    (jg : ∀ (s : Shared) (H : Hp) (C : Addr) (cl : List (Str × Addr)) (fp : List Addr), JG (Bk X scope s H C cl fp) tg ts g) (hts : ∀ t ∈ ts, t ∈ vs) (jt : TestOk X scope ifs tt t)
    (je : ∀ (s : Shared) (H : Hp) (C : Addr) (cl : List (Str × Addr)) (fp : List Addr), JE (Bk X scope s H C cl fp) W0 elt f) (hs : ∀ x, foldedSetIterable iter X.env x = pure x := by intro _; rfl) (hvs : own.map (·.2) = vs := by rfl) :
    JE X W (.ListComp elt [⟨tg, iter, ifs, 0⟩] scope pos) (dLc vs fi g t f) := by
  subst hvs
  exact ⟨fun {G S H ρ m env σ Q} M E h =>
  we_of (pe_lc hc hN pi_wi ok pg_gAll jt.pts pe_eAll hs) (lc_ok ji jg hts jt je M E (lc_frozen h))⟩
theorem je_lcO {vs : List Nat} (own : List (Str × Nat)) (hc : X.calm = true) (hN : X.N.Nodup) (ji : JI X W tg iter fi) (ok : BlkOk X.N X.env.scope scope own)
    (jg : ∀ (s : Shared) (H : Hp) (C : Addr) (cl : List (Str × Addr)) (fp : List Addr), JG (Bk X scope s H C cl fp) tg ts g) (hts : ∀ t ∈ ts, t ∈ vs) (jt : TestOk X scope ifs tt t)
    (je : ∀ (s : Shared) (H : Hp) (C : Addr) (cl : List (Str × Addr)) (fp : List Addr), JE (Bk X scope s H C cl fp) W0 elt f) (hs : ∀ x, foldedSetIterable iter X.env x = pure x := by intro _; rfl) (hvs : own.map (·.2) = vs := by rfl) :
    JE X W (.ListComp elt [⟨tg, iter, ifs, 0⟩] scope pos) (dLcO vs fi g t f) := by
  subst hvs
  exact ⟨fun {G S H ρ m env σ Q} M E h =>
  we_of (pe_lc hc hN pi_wi ok pg_gAll jt.pts pe_eAll hs) (lc_ok ji jg hts jt je M E (lc_owned h))⟩
/-- y = [..] -/
theorem js_setLc {vs : List Nat} (i : Nat) {y : Str} {py spos : Pos} (own : List (Str × Nat)) (hc : X.calm = true) (hN : X.N.Nodup) (ji : JI X W tg iter fi) (ok : BlkOk X.N X.env.scope scope own)
    (jg : ∀ (s : Shared) (H : Hp) (C : Addr) (cl : List (Str × Addr)) (fp : List Addr), JG (Bk X scope s H C cl fp) tg ts g) (hts : ∀ t ∈ ts, t ∈ vs) (jt : TestOk X scope ifs tt t)
    (je : ∀ (s : Shared) (H : Hp) (C : Addr) (cl : List (Str × Addr)) (fp : List Addr), JE (Bk X scope s H C cl fp) W0 elt f) 
    (hsw : swapsWith (.ListComp elt [⟨tg, iter, ifs, 0⟩] scope pos) (some (.Name y py)) spos.line X.env = pure true) (hy : X.N[i]? = some y := by rfl) (hyl : X.env.scope.names.lookup y = some .local := by rfl) (hs : ∀ x, foldedSetIterable iter X.env x = pure x := by intro _; rfl) (hvs : own.map (·.2) = vs := by rfl) :
    JS X W (.Assign [.Name y py] (.ListComp elt [⟨tg, iter, ifs, 0⟩] scope pos) spos) (dSet i (dLc vs fi g t f)) := by
  subst hvs
  refine ⟨fun {G S H ρ m env σ D} M E h => ?_⟩
  have h2 : wpr (dLc (own.map (·.2)) fi g t f env m) (QV X G S ρ fun v H1 => gName i v σ H1 D.nx) (QX X W G S ρ σ) := by
    refine wpr_mono (wpr_bnd h) (fun v m1 hv => ?_) fun _ _ z => qx_of z
    intro S1 H1 ρ1 xv e1 M1 rx
    exact hv S1 H1 ρ1 _ e1 M1 ((E.mono e1).set i rx)
  exact ws_of (ps_setLc hc hN hy hyl hsw pi_wi ok pg_gAll jt.pts pe_eAll hs) (lc_ok ji jg hts jt je M E (lc_frozen h2))
theorem js_setLcO {vs : List Nat} (i : Nat) {y : Str} {py spos : Pos} (own : List (Str × Nat)) (hc : X.calm = true) (hN : X.N.Nodup) (ji : JI X W tg iter fi) (ok : BlkOk X.N X.env.scope scope own)
    (jg : ∀ (s : Shared) (H : Hp) (C : Addr) (cl : List (Str × Addr)) (fp : List Addr), JG (Bk X scope s H C cl fp) tg ts g) (hts : ∀ t ∈ ts, t ∈ vs) (jt : TestOk X scope ifs tt t)
    (je : ∀ (s : Shared) (H : Hp) (C : Addr) (cl : List (Str × Addr)) (fp : List Addr), JE (Bk X scope s H C cl fp) W0 elt f) 
    (hsw : swapsWith (.ListComp elt [⟨tg, iter, ifs, 0⟩] scope pos) (some (.Name y py)) spos.line X.env = pure true) (hy : X.N[i]? = some y := by rfl) (hyl : X.env.scope.names.lookup y = some .local := by rfl) (hs : ∀ x, foldedSetIterable iter X.env x = pure x := by intro _; rfl) (hvs : own.map (·.2) = vs := by rfl) :
    JS X W (.Assign [.Name y py] (.ListComp elt [⟨tg, iter, ifs, 0⟩] scope pos) spos) (dSet i (dLcO vs fi g t f)) := by
  subst hvs
  refine ⟨fun {G S H ρ m env σ D} M E h => ?_⟩
  have h2 : wpr (dLcO (own.map (·.2)) fi g t f env m) (QV X G S ρ fun v H1 => gName i v σ H1 D.nx) (QX X W G S ρ σ) := by
    refine wpr_mono (wpr_bnd h) (fun v m1 hv => ?_) fun _ _ z => qx_of z
    intro S1 H1 ρ1 xv e1 M1 rx
    exact hv S1 H1 ρ1 _ e1 M1 ((E.mono e1).set i rx)
  exact ws_of (ps_setLc hc hN hy hyl hsw pi_wi ok pg_gAll jt.pts pe_eAll hs) (lc_ok ji jg hts jt je M E (lc_owned h2))
end

/-! ### list.index -/
def idxOf (d : PL.D) : List PL.D → Option Nat
  | [] => none
  | e :: r => if eqF e d = true then some 0 else (match idxOf d r with | some k => some (k + 1) | none => none)
theorem idxOf_ok {d : PL.D} : ∀ {xs : List PL.D} {j : Nat}, idxOf d xs = some j → (∃ z, xs[j]? = some z ∧ eqF z d = true) ∧ ∀ (m : Nat) (z : PL.D), m < j → xs[m]? = some z → eqF z d = false
  | [], _, h => by cases h
  | e :: r, j, h => by
    unfold idxOf at h
    split at h
    · rename_i he
      cases h
      exact ⟨⟨e, rfl, he⟩, fun m z hm => by omega⟩
    · rename_i he
      split at h
      · rename_i k hk
        cases h
        obtain ⟨⟨z, h1, h2⟩, h3⟩ := idxOf_ok hk
        refine ⟨⟨z, by simpa using h1, h2⟩, fun m z' hm hz => ?_⟩
        cases m with
        | zero =>
          simp at hz
          subst hz
          exact Bool.not_eq_true _ ▸ he
        | succ m => exact h3 m z' (by omega) (by simpa using hz)
      · cases h
def indexV (x y : SV) : P SV := fun m => match rdL x m, y with
  | some xs, .dat d => if flatD d && flats xs then (match idxOf d xs with | some j => .ok (.dat (.int (j : Nat))) m | none => .stuck) else .stuck
  | _, _ => .stuck
/-- x.index(y): the list is looked at ahead of the argument, too -/
def dIndex (fa fb : En → P SV) : En → P SV := fun env => (fa env).bnd fun x m => match rdL x m with
  | some _ => ((fb env).bnd fun y => indexV x y) m
  | none => .stuck
theorem je_index {a b : Expr} {fa fb : En → P SV} {apos cpos : Pos} (ja : JE X W a fa) (jb : JE X W b fb) (hbase : attributeBase a "index" X.env (eval a X.env) = eval a X.env := by rfl)
    (hfew : ((backTo cpos (starEach [b] X.env)).all (fun x => !x.1) && (backToKw cpos (keywordEach [] X.env)).all (fun x => x.1.isSome)
      && decide ([b].length + ([] : List Keyword).length + (if ([] : List Keyword).isEmpty then 0 else 1) < 30)) = true := by rfl)
    (hline : (apos.endLine == cpos.line) = true := by rfl) (hs1 : starEach [b] X.env = (false, eval b X.env) :: starEach [] X.env := by rfl) (hplain : (backTo cpos (starEach [] X.env)).any (·.1) = false := by rfl) :
    JE X W (.Call (.Attribute a "index" apos) [b] [] cpos) (dIndex fa fb) := ⟨fun {G S H ρ m env σ Q} M E h => by
  refine we_of (pe_bm PySem.F.plainAttrs_list PySem.F.slot_list_index PySem.F.type_list_index mt_index pe_we (pa_cons pe_we pa_nil hs1) hbase hfew hline hs1 hplain) (ja.run M E (wpr_monoQ (wpr_bnd h) fun x m1 hx => ?_))
  intro S1 H1 ρ1 xv e1 M1 rx
  split at hx
  · rename_i ys hys
    obtain ⟨p, vs, rfl, g1, _⟩ := rdL_ok M1 rx hys
    refine ⟨.inl ⟨rfl, vs, .inl (.inl g1)⟩, jb.run M1 (E.mono e1) (wpr_mono (wpr_bnd hx) (fun y m2 hy => ?_) fun _ _ z => qx_ext e1 z)⟩
    intro S2 H2 ρ2 yv e2 M2 ry
    unfold indexV at hy
    split at hy
    · rename_i xs d hxs
      split at hy
      · rename_i ok
        rw [Bool.and_eq_true] at ok
        split at hy
        · rename_i j hj
          obtain ⟨p', ws, z1, z2, z3⟩ := rdL_ok M2 (rx.mono e2) hxs
          cases z1
          obtain ⟨⟨z, i1, i2⟩, i3⟩ := idxOf_ok hj
          obtain ⟨zv, j1, j2⟩ := z3.get i1
          have fz : flatD z = true := List.all_eq_true.mp ok.2 z (List.mem_of_getElem? i1)
          refine ⟨p, ws, yv, j, zv, rfl, rfl, .inl (.inl z2), rp_flat ry ok.1, rpAll_flat z3 ok.2, j1, by rw [rp_eqF j2 ry fz ok.1]; exact i2, fun k zv' hk hz => ?_, hy S2 H2 ρ2 _ (e1.trans e2) M2 (.int _)⟩
          obtain ⟨z', k1, k2⟩ := z3.get' hz
          have fz' : flatD z' = true := List.all_eq_true.mp ok.2 z' (List.mem_of_getElem? k1)
          rw [rp_eqF k2 ry fz' ok.1]
          exact i3 k z' hk k1
        · exact hy.elim
      · exact hy.elim
    · exact hy.elim
  · exact hx.elim⟩
end

/-! ### defs and their calls -/
/-- leaving a def: what was its own alone is frozen or forgotten -/
def exitV (k : Nat) (v : SV) (m : Mem) : R SV := match v with
  | .dat d => .ok (.dat d) (m.take k)
  | .ref i => if i < k then .ok (.ref i) (m.take k) else (match m[i]? with | some (.lst xs) => .ok (.dat (.lst xs)) (m.take k) | _ => .stuck)
/-- .. an own list handed out -/
def exitO (k : Nat) (v : SV) (m : Mem) : R SV := match v with
  | .dat _ => .stuck
  | .ref i => if i < k then .stuck else (match m[i]? with | some (.lst xs) => .ok (.ref k) (m.take k ++ [.lst xs]) | _ => .stuck)
def enter (n : Nat) (xs : List SV) : En := xs.map some ++ List.replicate (n - xs.length) none
def fnRun (n : Nat) (ex : Nat → SV → Mem → R SV) (fb : DS) : List SV → P SV := fun xs m => match fb (enter n xs) m with
  | .ok (.nx _) m' => .ok (.dat .non) (m'.take m.length)
  | .ok (.rt v) m' => ex m.length v m'
  | .ok _ _ => .stuck
  | .exc x m' => .exc x (m'.take m.length)
  | .stuck => .stuck
def spF (Γ : Gd) (n : Nat) (F : List SV → P SV) : Sp := fun vs H Q E => vs.length = n ∧ ∃ G S ρ m xs, MR Γ G S H ρ m ∧ Paired (RSV Γ S ρ) vs xs ∧
  wpr (F xs m) (fun v m' => ∀ S' H' ρ' vv, Ext S ρ S' ρ' → MR Γ G S' H' ρ' m' → RSV Γ S' ρ' vv v → Q vv H') (fun x m' => ∀ S' H' ρ' cls d, Ext S ρ S' ρ' → MR Γ G S' H' ρ' m' → XR Γ S' H' cls d x → E cls d H')
/-- how a value leaves -/
def ExitOk (ex : Nat → SV → Mem → R SV) : Prop := ∀ {Γ : Gd} {G S H : Hp} {ρ : List Addr} {m : Mem} {k : Nat} {v : SV} {vv : V} {Q : SV → Mem → Prop} {E : Exc → Mem → Prop}, MR Γ G S H ρ m → RSV Γ S ρ vv v → k ≤ m.length → wpr (ex k v m) Q E →
  ∃ S' ρ' w m', Q w m' ∧ Same S S' ∧ (∀ (i : Nat) (a : Addr), i < k → ρ[i]? = some a → ρ'[i]? = some a) ∧ MR Γ G S' H ρ' m' ∧ RSV Γ S' ρ' vv w
theorem take_get {ρ : List Addr} {k i : Nat} {a : Addr} (h : i < k) (q : ρ[i]? = some a) : (ρ.take k)[i]? = some a := by rw [List.getElem?_take_of_lt h]; exact q
theorem exitV_ok : ExitOk exitV := by
  intro Γ G S H ρ m k v vv Q E M r hk h
  unfold exitV at h
  split at h
  · exact ⟨S, ρ.take k, _, _, h, Same.refl _, fun i a hi q => take_get hi q, M.take k, r⟩
  · rename_i i
    split at h
    · rename_i hi
      obtain ⟨a, h1, h2⟩ := r
      exact ⟨S, ρ.take k, _, _, h, Same.refl _, fun i a hi q => take_get hi q, M.take k, a, take_get hi h1, h2⟩
    · rename_i hi
      split at h
      · rename_i xs hx
        obtain ⟨a, vs, h1, h2, h3, h4⟩ := M.freeze hx
        obtain ⟨a', z1, z2⟩ := r
        rw [h1] at z1
        cases z1
        have e : (m.set i Cell.dead).take k = m.take k := by
          rw [List.take_set_of_le (by omega)]
        have M2 := h3.take k
        rw [e] at M2
        exact ⟨_, ρ.take k, _, _, h, h2.s, fun i a hi q => take_get hi q, M2, by subst z2; exact h4⟩
      · exact h.elim
theorem exitO_ok : ExitOk exitO := by
  intro Γ G S H ρ m k v vv Q E M r hk h
  unfold exitO at h
  split at h
  · exact h.elim
  · rename_i i
    split at h
    · exact h.elim
    · rename_i hi
      split at h
      · rename_i xs hx
        obtain ⟨a, z1, rfl⟩ := r
        obtain ⟨a', vs, h1, h2, h3, h4, h5⟩ := M.cell i xs hx
        rw [z1] at h1
        cases h1
        have M2 := M.take k
        have hc : ∀ (j : Nat) (ys : List D), (m.take k)[j]? = some (.lst ys) → (ρ.take k)[j]? ≠ some a := fun j ys q z => by
          have hj : j < k := by
            have := (List.getElem?_eq_some_iff.mp q).1
            rw [List.length_take] at this
            omega
          rw [List.getElem?_take_of_lt hj] at q z
          have := M.inj j i ys xs a q hx z z1
          omega
        obtain ⟨e1, M3⟩ := M2.take_own h2 h4 h5 hc h3
        refine ⟨S, _, _, _, h, Same.refl _, fun i a hi q => e1.r i a (take_get hi q), M3, a, ?_, rfl⟩
        have e : (ρ.take k).length = k := by rw [List.length_take, M.len]; omega
        rw [List.getElem?_append_right (by omega), e]
        simp
      · exact h.elim
theorem er_enter {Γ : Gd} {S : Hp} {ρ : List Addr} {N : List Str} {vs : List V} {xs : List SV} (r : Paired (RSV Γ S ρ) vs xs) : ER Γ S ρ (enter N.length xs) (L2.start N vs) := by
  have hl : vs.length = xs.length := Paired.length r
  have get : ∀ {vs : List V} {xs : List SV} (i : Nat) (v : SV), Paired (RSV Γ S ρ) vs xs → xs[i]? = some v → ∃ vv, vs[i]? = some vv ∧ RSV Γ S ρ vv v := by
    intro vs xs i v r
    induction r generalizing i with
    | nil => intro h; simp at h
    | cons h t ih =>
      intro q
      cases i with
      | zero => simp at q; subst q; exact ⟨_, rfl, h⟩
      | succ i =>
        obtain ⟨vv, a, b⟩ := ih i (by simpa using q)
        exact ⟨vv, by simpa using a, b⟩
  refine ⟨?_, fun i v q => ?_⟩
  · unfold enter L2.start
    rw [List.length_append, List.length_append, List.length_map, List.length_map, List.length_replicate, List.length_replicate, hl]
  · unfold enter at q
    unfold L2.start
    by_cases hi : i < xs.length
    · rw [List.getElem?_append_left (by simpa using hi), List.getElem?_map] at q
      cases e : xs[i]? with
      | none => rw [e] at q; cases q
      | some x =>
        rw [e] at q
        cases q
        obtain ⟨vv, h1, h2⟩ := get i v r e
        refine ⟨vv, ?_, h2⟩
        rw [List.getElem?_append_left (by rw [List.length_map, hl]; exact hi), List.getElem?_map, h1]
        rfl
    · rw [List.getElem?_append_right (by simpa using hi), List.getElem?_replicate] at q
      split at q <;> cases q
/-- a def that stands in the module, by its name -/
structure Cal (P : Program) (w : World) (K : PySem.W.Frag) (mg : Str → Option Value) (base : Heap) (k : Nat) (x : Str) (ps : List Str) (F : List SV → PL.P SV) : Prop where
  ex : ∃ f fd, mg x = some (.ref f) ∧ PySem.W.keepIn K (.ref f) = true ∧ Binds K fd ps [] ∧ FnOk P w K mg base (L2.CX P w) k f fd ps (spF ⟨K, mg⟩ ps.length F)
def chk (n : Nat) (F : List SV → P SV) : List SV → P SV := fun xs => if xs.length = n then F xs else P.stk
section
variable {X : Cx} {W : WX} {e : Expr} {es : List Expr} {pos p : Pos} {fs : En → P (List SV)}
theorem je_call {k n : Nat} {x : Str} {ps : List Str} {F : List SV → PL.P SV} (C : Cal X.prog X.w X.K X.mg X.base k x ps F) (hr : Room k X.A) (tk : Takes X W) (hg : Gl X x) (js : JA X W (e :: es) fs)
    (hdb : (x == ("__debug__" : Str)) = false := by decide) (he : starEach (e :: es) X.env = (false, eval e X.env) :: starEach es X.env := by rfl) (hpl : (backTo pos (starEach es X.env)).any (·.1) = false := by rfl) (hn : ps.length = n := by rfl) :
    JE X W (.Call (.Name x p) (e :: es) [] pos) (dA (chk n F) fs) := by
  subst hn
  obtain ⟨f, fd, hm, hk, hb, hF⟩ := C.ex
  refine ⟨fun {G S H ρ m env σ Q} M E h => ?_⟩
  refine we_of (pe_callSD (E := fun σ cls d H => W cls d σ H) hF hr hg hm hk hb .nil (fun σ => passAt tk σ) pa_wa hdb he hpl) (js.run M E (wpr_monoQ (wpr_bnd h) fun xs m1 hx => ?_))
  intro S1 H1 ρ1 xv e1 M1 rx
  unfold chk at hx
  split at hx
  · rename_i hl
    rw [List.append_nil]
    exact ⟨by rw [Paired.length rx]; exact hl, G, S1, ρ1, m1, xs, M1, rx, wpr_mono hx (fun v m2 hv => qv_ext e1 hv) fun x m2 hv => qx_ext e1 hv⟩
  · exact hx.elim
end
/-- THE RULE for a def -/
theorem fok_of {P : Program} {w : World} {K : PySem.W.Frag} {mg : Str → Option Value} {base : Heap} {k : Nat} {x : Str} {N ps : List Str} {st : Stmt} {f : Addr} {fd : FuncData} {ex : Nat → SV → Mem → R SV} {fb : DS}
    (F : FunD K x x (defArgs st) (defBody st) (defScope st) [] [] f fd) (S : FnScope N ps (defScope st)) (hex : ExitOk ex)
    (j : ∀ (cdv : Value) (A : Around) (outer : List Env) (s : Shared) (H : Hp) (E : XK), Room k (A.deeper (envOfC x (defScope st) s.heap.objs.size f cdv)) →
      JB (cxOf (L2.CX P w) P w K mg base N x (defScope st) f cdv A outer s H E) (fun cls d _ H => E cls d H) (defBody st) fb) :
    FnOk P w K mg base (L2.CX P w) (k + 1) f fd ps (spF ⟨K, mg⟩ ps.length (fnRun N.length ex fb)) := by
  refine F.ok (CX := L2.CX P w) S (fun vs H Q E h => h.1) fun cdv A outer s H vs Q E hr h => ?_
  obtain ⟨hl, G, S0, ρ, m, xs, M, r, h⟩ := h
  refine ⟨_, pss_wss, (j cdv A outer s H E hr).run (env := enter N.length xs) (σ := L2.start N vs) M (er_enter r) ?_⟩
  have kept : ∀ {S' : Hp} {ρ' : List Addr}, Ext S0 ρ S' ρ' → Ext S0 ρ S' (ρ'.take m.length) := fun {S' ρ'} e => ⟨e.s, fun i a q => take_get (by rw [← M.len]; exact (List.getElem?_eq_some_iff.mp q).1) (e.r i a q)⟩
  have more : ∀ {S' : Hp} {ρ' : List Addr} {H' : Hp} {m' : Mem}, Ext S0 ρ S' ρ' → MR ⟨K, mg⟩ G S' H' ρ' m' → m.length ≤ m'.length := fun {S' ρ' H' m'} e M' => by
    rw [← M.len, ← M'.len]
    by_cases h0 : ρ.length ≤ ρ'.length
    · exact h0
    · have hlt : ρ'.length < ρ.length := by omega
      have q := e.r ρ'.length ρ[ρ'.length] (List.getElem?_eq_getElem hlt)
      rw [List.getElem?_eq_none (Nat.le_refl _)] at q
      cases q
  unfold fnRun at h
  cases e : fb (enter N.length xs) m with
  | stuck => rw [e] at h; exact h.elim
  | exc y m' =>
    rw [e] at h
    exact fun S' H' ρ' σ' cls d e' M' x' => h S' H' (ρ'.take m.length) cls d (kept e') (M'.take _) x'
  | ok o m' =>
    rw [e] at h
    cases o with
    | nx env' => exact fun S' H' ρ' σ' e' M' E' => h S' H' (ρ'.take m.length) .non (kept e') (M'.take _) .non
    | rt v =>
      intro S' H' ρ' vv e' M' rv
      obtain ⟨S2, ρ2, w2, m2, q, s2, r2, M2, rv2⟩ := hex M' rv (more e' M') h
      exact q S2 H' ρ2 vv ⟨e'.s.trans s2, fun i a z => r2 i a (by rw [← M.len]; exact (List.getElem?_eq_some_iff.mp z).1) (e'.r i a z)⟩ M2 rv2
    | bk _ => exact h.elim
    | ct _ => exact h.elim
theorem cal_of {P : Program} {w : World} {K : PySem.W.Frag} {mg : Str → Option Value} {base : Heap} {k : Nat} {x : Str} {ps : List Str} {f : Addr} {fd : FuncData} {params : Arguments} {body : List Stmt} {scope : Scope} {dvs : List V} {kws : List (Str × V)} {F0 : List SV → PL.P SV}
    (F : FunD K x x params body scope dvs kws f fd) (hm : mg x = some (.ref f)) (hb : Binds K fd ps []) (h : FnOk P w K mg base (L2.CX P w) k f fd ps (spF ⟨K, mg⟩ ps.length F0)) : Cal P w K mg base k x ps F0 := ⟨f, fd, hm, F.kp, hb, h⟩
/-- a plainer function in its place -/
theorem Cal.by {P : Program} {w : World} {K : PySem.W.Frag} {mg : Str → Option Value} {base : Heap} {k : Nat} {x : Str} {ps : List Str} {F F' : List SV → PL.P SV} (C : Cal P w K mg base k x ps F) (h : ∀ xs m, F' xs m ≠ .stuck → F xs m = F' xs m) : Cal P w K mg base k x ps F' := by
  obtain ⟨f, fd, hm, hk, hb, hF⟩ := C.ex
  refine ⟨f, fd, hm, hk, hb, hF.imp fun vs H Q E q => ?_⟩
  obtain ⟨hl, G, S, ρ, m, xs, M, r, q⟩ := q
  refine ⟨hl, G, S, ρ, m, xs, M, r, ?_⟩
  rw [h xs m fun z => by rw [z] at q; exact q]
  exact q
/-- the law itself -/
theorem walk_law {l : PySem.W.OpenLaw} {n k : Nat} {q : Program} {loose : List Str} {XP : (Str → Option Value) → Heap → Prop} {YP : World → Heap → Prop} {d : DefRec} {x : Str} {F : List SV → PL.P SV}
    (hn : l.most = some n) (hn2 : n ≤ sizeLine) (hdf : d.params.defaults = []) (hr : Room k callerA)
    (hF : ∀ (w : World) (mg : Str → Option Value) (h : Heap), YP w h → h.Ns mainGlobals mg → ∃ (K : PySem.W.Frag) (f : Addr) (fd : FuncData), K.In h ∧ mg d.name = some (.ref f) ∧ (∀ (s : Shared) (u : Value), BindsTo s fd ⟨[u], []⟩ [(x, u)]) ∧
      ∀ base : Heap, FnOk l.prog w K mg base (L2.CX l.prog w) k f fd [x] (spF ⟨K, mg⟩ 1 F))
    (hl : ∀ ns : List Int, ns.length ≤ n → ∃ m', F [.dat (.scr ns)] [] = .ok (.dat (.bl true)) m') :
    PySem.W.WalkO q loose XP YP l.row.toRowW d [] (fun f vs => PySem.call f vs) := by
  refine Att.attach_call hn hdf fun w s₀ s₁ mg mb fa o pm cd doc a vs ns G Y ho hd hcd hmg hobj hints hlen hg => ?_
  obtain ⟨K, f, fd, KX, hm, hb, hok⟩ := hF w mg _ Y G.T.g
  rw [hmg] at hm
  cases hm
  refine law_call (sp := spF ⟨K, mg⟩ 1 F) KX G.T.g G.T.b G.T.builtins G.T.nolimit hg hobj hints (Nat.le_trans hlen hn2) hr (fun base _ _ => hok base) hb (fun H hO hS => ?_) fun H e s' hx => ?_
  · obtain ⟨m', e⟩ := hl ns hlen
    refine ⟨rfl, fun _ => none, H, [], [], [.dat (.scr ns)], ⟨Same.refl H, (fun b o e => by cases e), (fun b o e => by cases e), rfl, (fun i xs e => by simp at e), (fun i j xs ys a e => by simp at e)⟩, .cons (.scr hS) .nil, ?_⟩
    rw [e]
    intro S' H' ρ' vv _ _ r
    cases r
    rfl
  · obtain ⟨_, _, _, _, _, _, _, _, _, _, _, _, z⟩ := hx
    exact z
theorem Cal.mono {P : Program} {w : World} {K : PySem.W.Frag} {mg : Str → Option Value} {base : Heap} {j k : Nat} {x : Str} {ps : List Str} {F : List SV → PL.P SV} (C : Cal P w K mg base j x ps F) (h : j ≤ k) : Cal P w K mg base k x ps F := by
  obtain ⟨f, fd, hm, hk, hb, hF⟩ := C.ex
  exact ⟨f, fd, hm, hk, hb, hF.mono h⟩
end PL

/-! PL6: evaluating denotations: simp lemmas. -/
namespace PL
open PySem PySem.Spec PyProof.Rows L2
section
variable {α β : Type}
@[simp] theorem ret_ap (a : α) (m : Mem) : P.ret a m = .ok a m := (rfl)
@[simp] theorem stk_ap (m : Mem) : (P.stk m : R α) = .stuck := (rfl)
@[simp] theorem bnd_ap (x : P α) (f : α → P β) (m : Mem) : P.bnd x f m = R.bnd (x m) f := (rfl)
@[simp] theorem bnd_ok (a : α) (m : Mem) (f : α → Mem → R β) : R.bnd (.ok a m) f = f a m := (rfl)
@[simp] theorem bnd_exc (x : Exc) (m : Mem) (f : α → Mem → R β) : R.bnd (.exc x m) f = .exc x m := (rfl)
@[simp] theorem bnd_stuck (f : α → Mem → R β) : R.bnd (.stuck : R α) f = .stuck := (rfl)
end
/-! continuations by names, so that simp does not go into them -/
def look (o : Option (Option SV)) (m : Mem) : R SV := match o with
  | some (some v) => .ok v m
  | _ => .stuck
@[simp] theorem look_some (v : SV) (m : Mem) : look (some (some v)) m = .ok v m := (rfl)
@[simp] theorem look_none (m : Mem) : look (some none) m = .stuck := (rfl)
@[simp] theorem dVar_ap (i : Nat) (env : En) (m : Mem) : dVar i env m = look env[i]? m := by
  unfold dVar look
  split <;> simp_all
@[simp] theorem dC_ap (d : D) (env : En) (m : Mem) : dC d env m = .ok (.dat d) m := (rfl)
def k2 (g : SV → SV → P SV) (fb : En → P SV) (env : En) (x : SV) (m : Mem) : R SV := (fb env m).bnd (g x)
@[simp] theorem k2_ap (g : SV → SV → P SV) (fb : En → P SV) (env : En) (x : SV) (m : Mem) : k2 g fb env x m = (fb env m).bnd (g x) := (rfl)
@[simp] theorem d2_ap (g : SV → SV → P SV) (fa fb : En → P SV) (env : En) (m : Mem) : d2 g fa fb env m = (fa env m).bnd (k2 g fb env) := (rfl)
@[simp] theorem d1_ap (g : SV → P SV) (fa : En → P SV) (env : En) (m : Mem) : d1 g fa env m = (fa env m).bnd g := (rfl)
@[simp] theorem dA_ap (g : List SV → P SV) (fs : En → P (List SV)) (env : En) (m : Mem) : dA g fs env m = (fs env m).bnd g := (rfl)
@[simp] theorem dNil_ap (env : En) (m : Mem) : dNil env m = .ok [] m := (rfl)
def kCons2 (x : SV) (xs : List SV) (m : Mem) : R (List SV) := .ok (x :: xs) m
@[simp] theorem kCons2_ap (x : SV) (xs : List SV) (m : Mem) : kCons2 x xs m = .ok (x :: xs) m := (rfl)
def kCons (g : En → P (List SV)) (env : En) (x : SV) (m : Mem) : R (List SV) := (g env m).bnd (kCons2 x)
@[simp] theorem kCons_ap (g : En → P (List SV)) (env : En) (x : SV) (m : Mem) : kCons g env x m = (g env m).bnd (kCons2 x) := (rfl)
@[simp] theorem dCons_ap (f : En → P SV) (g : En → P (List SV)) (env : En) (m : Mem) : dCons f g env m = (f env m).bnd (kCons g env) := (rfl)
@[simp] theorem chk_ap (n : Nat) (F : List SV → P SV) (xs : List SV) (m : Mem) : chk n F xs m = if xs.length = n then F xs m else .stuck := by
  unfold chk
  split <;> rfl
@[simp] theorem dB_ap (f : En → P SV) (env : En) (m : Mem) : dB f env m = (f env m).bnd asB := (rfl)
@[simp] theorem asB_bl (b : Bool) (m : Mem) : asB (.dat (.bl b)) m = .ok b m := (rfl)
def onB (v : SV) (a b : R SV) : R SV := match v with
  | .dat (.bl true) => a
  | .dat (.bl false) => b
  | _ => .stuck
@[simp] theorem onB_bl (k : Bool) (a b : R SV) : onB (.dat (.bl k)) a b = if k = true then a else b := by cases k <;> rfl
def kCh2 (g' : SV → SV → P SV) (fc : En → P SV) (env : En) (y z : SV) (m : Mem) : R SV := onB z ((fc env m).bnd (g' y)) (.ok (.dat (.bl false)) m)
@[simp] theorem kCh2_ap (g' : SV → SV → P SV) (fc : En → P SV) (env : En) (y z : SV) (m : Mem) : kCh2 g' fc env y z m = onB z ((fc env m).bnd (g' y)) (.ok (.dat (.bl false)) m) := (rfl)
def kCh1 (g g' : SV → SV → P SV) (fc : En → P SV) (env : En) (x y : SV) (m : Mem) : R SV := (g x y m).bnd (kCh2 g' fc env y)
@[simp] theorem kCh1_ap (g g' : SV → SV → P SV) (fc : En → P SV) (env : En) (x y : SV) (m : Mem) : kCh1 g g' fc env x y m = (g x y m).bnd (kCh2 g' fc env y) := (rfl)
def kCh0 (g g' : SV → SV → P SV) (fb fc : En → P SV) (env : En) (x : SV) (m : Mem) : R SV := (fb env m).bnd (kCh1 g g' fc env x)
@[simp] theorem kCh0_ap (g g' : SV → SV → P SV) (fb fc : En → P SV) (env : En) (x : SV) (m : Mem) : kCh0 g g' fb fc env x m = (fb env m).bnd (kCh1 g g' fc env x) := (rfl)
theorem onB_ap (z : SV) (a b : P SV) (m : Mem) : (match z with
  | .dat (.bl true) => a
  | .dat (.bl false) => b
  | _ => P.stk) m = onB z (a m) (b m) := by
  unfold onB
  split <;> simp_all
@[simp] theorem dCh_ap (g g' : SV → SV → P SV) (fa fb fc : En → P SV) (env : En) (m : Mem) : dCh g g' fa fb fc env m = (fa env m).bnd (kCh0 g g' fb fc env) := by
  unfold dCh P.bnd
  congr 1
  funext x m1
  show R.bnd _ _ = R.bnd _ _
  congr 1
  funext y m2
  show R.bnd _ _ = R.bnd _ _
  congr 1
  funext z m3
  exact onB_ap z _ _ m3
def kAnd (fb : En → P SV) (env : En) (x : SV) (m : Mem) : R SV := onB x (fb env m) (.ok (.dat (.bl false)) m)
def kOr (fb : En → P SV) (env : En) (x : SV) (m : Mem) : R SV := onB x (.ok (.dat (.bl true)) m) (fb env m)
@[simp] theorem kAnd_ap (fb : En → P SV) (env : En) (x : SV) (m : Mem) : kAnd fb env x m = onB x (fb env m) (.ok (.dat (.bl false)) m) := (rfl)
@[simp] theorem kOr_ap (fb : En → P SV) (env : En) (x : SV) (m : Mem) : kOr fb env x m = onB x (.ok (.dat (.bl true)) m) (fb env m) := (rfl)
@[simp] theorem dAndV_ap (fa fb : En → P SV) (env : En) (m : Mem) : dAndV fa fb env m = (fa env m).bnd (kAnd fb env) := by
  unfold dAndV P.bnd
  congr 1
  funext x m1
  exact onB_ap x _ _ m1
@[simp] theorem dOrV_ap (fa fb : En → P SV) (env : En) (m : Mem) : dOrV fa fb env m = (fa env m).bnd (kOr fb env) := by
  unfold dOrV P.bnd
  congr 1
  funext x m1
  exact onB_ap x _ _ m1
def kNot (x : SV) (m : Mem) : R SV := match x with
  | .dat (.bl k) => .ok (.dat (.bl (!k))) m
  | _ => .stuck
@[simp] theorem kNot_bl (k : Bool) (m : Mem) : kNot (.dat (.bl k)) m = .ok (.dat (.bl (!k))) m := (rfl)
@[simp] theorem dNotV_ap (fa : En → P SV) (env : En) (m : Mem) : dNotV fa env m = (fa env m).bnd kNot := by
  unfold dNotV P.bnd
  congr 1
  funext x m1
  unfold kNot
  split <;> simp_all
def kAndT (tb : En → P Bool) (env : En) (k : Bool) (m : Mem) : R Bool := if k = true then tb env m else .ok false m
def kOrT (tb : En → P Bool) (env : En) (k : Bool) (m : Mem) : R Bool := if k = true then .ok true m else tb env m
@[simp] theorem kAndT_ap (tb : En → P Bool) (env : En) (k : Bool) (m : Mem) : kAndT tb env k m = if k = true then tb env m else .ok false m := (rfl)
@[simp] theorem kOrT_ap (tb : En → P Bool) (env : En) (k : Bool) (m : Mem) : kOrT tb env k m = if k = true then .ok true m else tb env m := (rfl)
@[simp] theorem dAndT_ap (ta tb : En → P Bool) (env : En) (m : Mem) : dAndT ta tb env m = (ta env m).bnd (kAndT tb env) := by
  unfold dAndT P.bnd
  congr 1
  funext k m1
  cases k <;> rfl
@[simp] theorem dOrT_ap (ta tb : En → P Bool) (env : En) (m : Mem) : dOrT ta tb env m = (ta env m).bnd (kOrT tb env) := by
  unfold dOrT P.bnd
  congr 1
  funext k m1
  cases k <;> rfl
def kNotT (k : Bool) (m : Mem) : R Bool := .ok (!k) m
@[simp] theorem kNotT_ap (k : Bool) (m : Mem) : kNotT k m = .ok (!k) m := (rfl)
@[simp] theorem dNotT_ap (ta : En → P Bool) (env : En) (m : Mem) : dNotT ta env m = (ta env m).bnd kNotT := (rfl)
def kIf (fa fb : En → P SV) (env : En) (k : Bool) (m : Mem) : R SV := if k = true then fa env m else fb env m
@[simp] theorem kIf_ap (fa fb : En → P SV) (env : En) (k : Bool) (m : Mem) : kIf fa fb env k m = if k = true then fa env m else fb env m := (rfl)
@[simp] theorem dIf_ap (t : En → P Bool) (fa fb : En → P SV) (env : En) (m : Mem) : dIf t fa fb env m = (t env m).bnd (kIf fa fb env) := by
  unfold dIf P.bnd
  congr 1
  funext k m1
  cases k <;> rfl
@[simp] theorem dTr_ap (f : En → P SV) (env : En) (m : Mem) : dTr f env m = (f env m).bnd truV := (rfl)
@[simp] theorem truV_bl (b : Bool) (m : Mem) : truV (.dat (.bl b)) m = .ok b m := (rfl)
/-! ### statements -/
@[simp] theorem dNx_ap (env : En) (m : Mem) : dNx env m = .ok (.nx env) m := (rfl)
@[simp] theorem dBk_ap (env : En) (m : Mem) : dBk env m = .ok (.bk env) m := (rfl)
@[simp] theorem dCt_ap (env : En) (m : Mem) : dCt env m = .ok (.ct env) m := (rfl)
@[simp] theorem dNever_ap (env : En) (m : Mem) : dNever env m = .stuck := (rfl)
def kSeq (g : DS) (o : Out) (m : Mem) : R Out := match o with
  | .nx env' => g env' m
  | o => .ok o m
@[simp] theorem kSeq_nx (g : DS) (env : En) (m : Mem) : kSeq g (.nx env) m = g env m := (rfl)
@[simp] theorem kSeq_rt (g : DS) (v : SV) (m : Mem) : kSeq g (.rt v) m = .ok (.rt v) m := (rfl)
@[simp] theorem kSeq_bk (g : DS) (env : En) (m : Mem) : kSeq g (.bk env) m = .ok (.bk env) m := (rfl)
@[simp] theorem kSeq_ct (g : DS) (env : En) (m : Mem) : kSeq g (.ct env) m = .ok (.ct env) m := (rfl)
@[simp] theorem dSeq_ap (f g : DS) (env : En) (m : Mem) : dSeq f g env m = (f env m).bnd (kSeq g) := by
  unfold dSeq P.bnd
  congr 1
  funext o m1
  cases o <;> rfl
def kRt (v : SV) (m : Mem) : R Out := .ok (.rt v) m
@[simp] theorem kRt_ap (v : SV) (m : Mem) : kRt v m = .ok (.rt v) m := (rfl)
@[simp] theorem dRet_ap (fa : En → P SV) (env : En) (m : Mem) : dRet fa env m = (fa env m).bnd kRt := (rfl)
def kIfS (f g : DS) (env : En) (k : Bool) (m : Mem) : R Out := if k = true then f env m else g env m
@[simp] theorem kIfS_ap (f g : DS) (env : En) (k : Bool) (m : Mem) : kIfS f g env k m = if k = true then f env m else g env m := (rfl)
@[simp] theorem dIfS_ap (t : En → P Bool) (f g : DS) (env : En) (m : Mem) : dIfS t f g env m = (t env m).bnd (kIfS f g env) := by
  unfold dIfS P.bnd
  congr 1
  funext k m1
  cases k <;> rfl
def kSet (i : Nat) (env : En) (v : SV) (m : Mem) : R Out := .ok (.nx (env.set i (some v))) m
@[simp] theorem kSet_ap (i : Nat) (env : En) (v : SV) (m : Mem) : kSet i env v m = .ok (.nx (env.set i (some v))) m := (rfl)
@[simp] theorem dSet_ap (i : Nat) (fa : En → P SV) (env : En) (m : Mem) : dSet i fa env m = (fa env m).bnd (kSet i env) := (rfl)
def kDrop (env : En) (v : SV) (m : Mem) : R Out := .ok (.nx env) m
@[simp] theorem kDrop_ap (env : En) (v : SV) (m : Mem) : kDrop env v m = .ok (.nx env) m := (rfl)
@[simp] theorem dDrop_ap (fa : En → P SV) (env : En) (m : Mem) : dDrop fa env m = (fa env m).bnd (kDrop env) := (rfl)
def kPar (i j : Nat) (env : En) (vs : List SV) (m : Mem) : R Out := match vs with
  | [v, w] => .ok (.nx ((env.set i (some v)).set j (some w))) m
  | _ => .stuck
@[simp] theorem kPar_ap (i j : Nat) (env : En) (v w : SV) (m : Mem) : kPar i j env [v, w] m = .ok (.nx ((env.set i (some v)).set j (some w))) m := (rfl)
@[simp] theorem dPar_ap (i j : Nat) (fs : En → P (List SV)) (env : En) (m : Mem) : dPar i j fs env m = (fs env m).bnd (kPar i j env) := (rfl)
def kFor (g : D → En → Option En) (body : DS) (env : En) (items : List D) (m : Mem) : R Out := loopF g body items env m
@[simp] theorem kFor_ap (g : D → En → Option En) (body : DS) (env : En) (items : List D) (m : Mem) : kFor g body env items m = loopF g body items env m := (rfl)
@[simp] theorem dFor_ap (fi : En → P (List D)) (g : D → En → Option En) (body : DS) (env : En) (m : Mem) : dFor fi g body env m = (fi env m).bnd (kFor g body env) := (rfl)
@[simp] theorem dWhile_ap (n : Nat) (t : En → P Bool) (body : DS) (env : En) (m : Mem) : dWhile n t body env m = loopW t body n env m := (rfl)
@[simp] theorem dIt_ap (f : En → P SV) (env : En) (m : Mem) : dIt f env m = (f env m).bnd itemsV := (rfl)
@[simp] theorem dAI_ap (g : List SV → P (List D)) (fs : En → P (List SV)) (env : En) (m : Mem) : dAI g fs env m = (fs env m).bnd g := (rfl)
def ofEn (o : Option En) (m : Mem) : R Out := match o with
  | some env => .ok (.nx env) m
  | none => .stuck
@[simp] theorem ofEn_some (env : En) (m : Mem) : ofEn (some env) m = .ok (.nx env) m := (rfl)
def kAsg (g : D → En → Option En) (env : En) (v : SV) (m : Mem) : R Out := match v with
  | .dat d => ofEn (g d env) m
  | .ref _ => .stuck
@[simp] theorem kAsg_dat (g : D → En → Option En) (env : En) (d : D) (m : Mem) : kAsg g env (.dat d) m = ofEn (g d env) m := (rfl)
@[simp] theorem dAsg_ap (fa : En → P SV) (g : D → En → Option En) (env : En) (m : Mem) : dAsg fa g env m = (fa env m).bnd (kAsg g env) := by
  unfold dAsg P.bnd
  congr 1
def nox {α : Type} (r : R α) : R α := match r with
  | .ok a m => .ok a m
  | _ => .stuck
@[simp] theorem nox_ok {α : Type} (a : α) (m : Mem) : nox (.ok a m) = .ok a m := (rfl)
theorem noX_ap {α : Type} (x : P α) (m : Mem) : noX x m = nox (x m) := (rfl)
def kLc2 (acc : List D) (m : Mem) : R SV := .ok (.dat (.lst acc)) m
@[simp] theorem kLc2_ap (acc : List D) (m : Mem) : kLc2 acc m = .ok (.dat (.lst acc)) m := (rfl)
def kLc (g : D → En → Option En) (t : En → P Bool) (f : En → P SV) (env : En) (items : List D) (m : Mem) : R SV := (noX (loopC g t f env items []) m).bnd kLc2
@[simp] theorem kLc_ap (g : D → En → Option En) (t : En → P Bool) (f : En → P SV) (env : En) (items : List D) (m : Mem) : kLc g t f env items m = (noX (loopC g t f env items []) m).bnd kLc2 := (rfl)
@[simp] theorem dLc_ap (vs : List Nat) (fi : En → P (List D)) (g : D → En → Option En) (t : En → P Bool) (f : En → P SV) (env : En) (m : Mem) : dLc vs fi g t f env m = (fi env m).bnd (kLc g t f (wipeE env vs)) := (rfl)
def kLcO2 (acc : List D) (m : Mem) : R SV := .ok (.ref m.length) (m ++ [.lst acc])
@[simp] theorem kLcO2_ap (acc : List D) (m : Mem) : kLcO2 acc m = .ok (.ref m.length) (m ++ [.lst acc]) := (rfl)
def kLcO (g : D → En → Option En) (t : En → P Bool) (f : En → P SV) (env : En) (items : List D) (m : Mem) : R SV := (noX (loopC g t f env items []) m).bnd kLcO2
@[simp] theorem kLcO_ap (g : D → En → Option En) (t : En → P Bool) (f : En → P SV) (env : En) (items : List D) (m : Mem) : kLcO g t f env items m = (noX (loopC g t f env items []) m).bnd kLcO2 := (rfl)
@[simp] theorem dLcO_ap (vs : List Nat) (fi : En → P (List D)) (g : D → En → Option En) (t : En → P Bool) (f : En → P SV) (env : En) (m : Mem) : dLcO vs fi g t f env m = (fi env m).bnd (kLcO g t f (wipeE env vs)) := (rfl)
def kAug2 (i : Nat) (env : En) (z : SV) (m : Mem) : R Out := .ok (.nx (env.set i (some z))) m
@[simp] theorem kAug2_ap (i : Nat) (env : En) (z : SV) (m : Mem) : kAug2 i env z m = .ok (.nx (env.set i (some z))) m := (rfl)
def kAug1 (i : Nat) (gg : SV → SV → P SV) (env : En) (v y : SV) (m : Mem) : R Out := (gg v y m).bnd (kAug2 i env)
@[simp] theorem kAug1_ap (i : Nat) (gg : SV → SV → P SV) (env : En) (v y : SV) (m : Mem) : kAug1 i gg env v y m = (gg v y m).bnd (kAug2 i env) := (rfl)
def kAug (i : Nat) (gg : SV → SV → P SV) (fa : En → P SV) (env : En) (v : SV) (m : Mem) : R Out := (fa env m).bnd (kAug1 i gg env v)
@[simp] theorem kAug_ap (i : Nat) (gg : SV → SV → P SV) (fa : En → P SV) (env : En) (v : SV) (m : Mem) : kAug i gg fa env v m = (fa env m).bnd (kAug1 i gg env v) := (rfl)
@[simp] theorem dAug_ap (i : Nat) (gg : SV → SV → P SV) (fa : En → P SV) (env : En) (m : Mem) : dAug i gg fa env m = (dVar i env m).bnd (kAug i gg fa env) := (rfl)
@[simp] theorem intAdd_int (i j : Int) (m : Mem) : intAdd (.dat (.int i)) (.dat (.int j)) m = .ok (.dat (.int (i + j))) m := (rfl)
/-- xs[k] = d -/
def setC (o : Option Cell) (env : En) (n : Nat) (k : Int) (d : D) (m : Mem) : R Out := match o with
  | some (.lst xs) => (match ixN xs.length k with
    | some j => .ok (.nx env) (m.set n (.lst (xs.set j d)))
    | none => .stuck)
  | _ => .stuck
theorem setC_lst (xs : List D) (env : En) (n : Nat) (k : Int) (d : D) (m : Mem) {j : Nat} (h : ixN xs.length k = some j) : setC (some (.lst xs)) env n k d m = .ok (.nx env) (m.set n (.lst (xs.set j d))) := by
  simp [setC, h]
def kSx2 (env : En) (v o i : SV) (m : Mem) : R Out := match o, i, v with
  | .ref n, .dat (.int k), .dat d => setC m[n]? env n k d m
  | _, _, _ => .stuck
@[simp] theorem kSx2_ap (env : En) (n : Nat) (k : Int) (d : D) (m : Mem) : kSx2 env (.dat d) (.ref n) (.dat (.int k)) m = setC m[n]? env n k d m := (rfl)
def kSx1 (fi : En → P SV) (env : En) (v o : SV) (m : Mem) : R Out := (fi env m).bnd (kSx2 env v o)
@[simp] theorem kSx1_ap (fi : En → P SV) (env : En) (v o : SV) (m : Mem) : kSx1 fi env v o m = (fi env m).bnd (kSx2 env v o) := (rfl)
def kSx (fo fi : En → P SV) (env : En) (v : SV) (m : Mem) : R Out := (fo env m).bnd (kSx1 fi env v)
@[simp] theorem kSx_ap (fo fi : En → P SV) (env : En) (v : SV) (m : Mem) : kSx fo fi env v m = (fo env m).bnd (kSx1 fi env v) := (rfl)
@[simp] theorem dSetIx_ap (fo fi fv : En → P SV) (env : En) (m : Mem) : dSetIx fo fi fv env m = (fv env m).bnd (kSx fo fi env) := (rfl)
/-- xs.append(d) -/
def appC (o : Option Cell) (env : En) (n : Nat) (d : D) (m : Mem) : R Out := match o with
  | some (.lst xs) => if xs.length < 16777216 then .ok (.nx env) (m.set n (.lst (xs ++ [d]))) else .stuck
  | _ => .stuck
@[simp] theorem appC_lst (xs : List D) (env : En) (n : Nat) (d : D) (m : Mem) : appC (some (.lst xs)) env n d m = if xs.length < 16777216 then .ok (.nx env) (m.set n (.lst (xs ++ [d]))) else .stuck := (rfl)
def kApp1 (env : En) (x y : SV) (m : Mem) : R Out := match x, y with
  | .ref n, .dat d => appC m[n]? env n d m
  | _, _ => .stuck
@[simp] theorem kApp1_ap (env : En) (n : Nat) (d : D) (m : Mem) : kApp1 env (.ref n) (.dat d) m = appC m[n]? env n d m := (rfl)
def ifL (o : Option (List D)) (r : R Out) : R Out := match o with
  | some _ => r
  | none => .stuck
@[simp] theorem ifL_some (xs : List D) (r : R Out) : ifL (some xs) r = r := (rfl)
def kApp (fb : En → P SV) (env : En) (x : SV) (m : Mem) : R Out := ifL (rdL x m) ((fb env m).bnd (kApp1 env x))
@[simp] theorem kApp_ap (fb : En → P SV) (env : En) (x : SV) (m : Mem) : kApp fb env x m = ifL (rdL x m) ((fb env m).bnd (kApp1 env x)) := (rfl)
@[simp] theorem dApp_ap (fa fb : En → P SV) (env : En) (m : Mem) : dApp fa fb env m = (fa env m).bnd (kApp fb env) := by
  unfold dApp P.bnd
  congr 1
/-! ### a def -/
@[simp] theorem set_app_len (m : Mem) (c c' : Cell) : (m ++ [c]).set m.length c' = m ++ [c'] := by
  rw [List.set_append_right _ _ (Nat.le_refl _)]
  simp
@[simp] theorem get_app_len (m : Mem) (c : Cell) : (m ++ [c])[m.length]? = some c := by simp
@[simp] theorem take_app_len (m : Mem) (c : Cell) : (m ++ [c]).take m.length = m := by simp
@[simp] theorem take_set_len (m : Mem) (k : Nat) (c : Cell) : (m.set k c).take m.length = m.set k c := List.take_of_length_le (by simp)
@[simp] theorem exitV_dat (k : Nat) (d : D) (m : Mem) : exitV k (.dat d) m = .ok (.dat d) (m.take k) := (rfl)
def fin (ex : Nat → SV → Mem → R SV) (k : Nat) (r : R Out) : R SV := match r with
  | .ok (.nx _) m' => .ok (.dat .non) (m'.take k)
  | .ok (.rt v) m' => ex k v m'
  | .ok _ _ => .stuck
  | .exc x m' => .exc x (m'.take k)
  | .stuck => .stuck
@[simp] theorem fin_nx (ex : Nat → SV → Mem → R SV) (k : Nat) (env : En) (m : Mem) : fin ex k (.ok (.nx env) m) = .ok (.dat .non) (m.take k) := (rfl)
@[simp] theorem fin_rt (ex : Nat → SV → Mem → R SV) (k : Nat) (v : SV) (m : Mem) : fin ex k (.ok (.rt v) m) = ex k v m := (rfl)
@[simp] theorem fin_exc (ex : Nat → SV → Mem → R SV) (k : Nat) (x : Exc) (m : Mem) : fin ex k (.exc x m) = .exc x (m.take k) := (rfl)
theorem fnRun_ap (n : Nat) (ex : Nat → SV → Mem → R SV) (fb : DS) (xs : List SV) (m : Mem) : fnRun n ex fb xs m = fin ex m.length (fb (enter n xs) m) := (rfl)
/-! ### values -/
@[simp] theorem addV_int (i j : Int) (m : Mem) : addV (.dat (.int i)) (.dat (.int j)) m = .ok (.dat (.int (i + j))) m := (rfl)
@[simp] theorem subV_int (i j : Int) (m : Mem) : subV (.dat (.int i)) (.dat (.int j)) m = .ok (.dat (.int (i - j))) m := (rfl)
@[simp] theorem mulV_int (i j : Int) (m : Mem) : mulV (.dat (.int i)) (.dat (.int j)) m = if mulOk i j = true then .ok (.dat (.int (i * j))) m else .stuck := (rfl)
@[simp] theorem fdivV_int (i j : Int) (m : Mem) : fdivV (.dat (.int i)) (.dat (.int j)) m = if j ≠ 0 ∧ j.natAbs < big then .ok (.dat (.int (i.fdiv j))) m else .stuck := (rfl)
@[simp] theorem modV_int (i j : Int) (m : Mem) : modV (.dat (.int i)) (.dat (.int j)) m = if j ≠ 0 then .ok (.dat (.int (i.fmod j))) m else .stuck := (rfl)
@[simp] theorem powV_int (i j : Int) (m : Mem) : powV (.dat (.int i)) (.dat (.int j)) m = if 0 ≤ j ∧ j ≤ 1000000 ∧ i.natAbs < 2 ^ 64 then .ok (.dat (.int (i ^ j.toNat))) m else .stuck := (rfl)
@[simp] theorem ltV_int (i j : Int) (m : Mem) : ltV (.dat (.int i)) (.dat (.int j)) m = .ok (.dat (.bl (decide (i < j)))) m := (rfl)
@[simp] theorem leV_int (i j : Int) (m : Mem) : leV (.dat (.int i)) (.dat (.int j)) m = .ok (.dat (.bl (decide (i ≤ j)))) m := (rfl)
@[simp] theorem gtV_int (i j : Int) (m : Mem) : gtV (.dat (.int i)) (.dat (.int j)) m = .ok (.dat (.bl (decide (j < i)))) m := (rfl)
@[simp] theorem geV_int (i j : Int) (m : Mem) : geV (.dat (.int i)) (.dat (.int j)) m = .ok (.dat (.bl (decide (j ≤ i)))) m := (rfl)
@[simp] theorem negV_int (i : Int) (m : Mem) : negV (.dat (.int i)) m = .ok (.dat (.int (-i))) m := (rfl)
@[simp] theorem max2V_int (i j : Int) (m : Mem) : max2V [.dat (.int i), .dat (.int j)] m = .ok (.dat (.int (max i j))) m := (rfl)
@[simp] theorem min2V_int (i j : Int) (m : Mem) : min2V [.dat (.int i), .dat (.int j)] m = .ok (.dat (.int (min i j))) m := (rfl)
@[simp] theorem absV_int (i : Int) (m : Mem) : absV' [.dat (.int i)] m = .ok (.dat (.int i.natAbs)) m := (rfl)
@[simp] theorem intV_int (i : Int) (m : Mem) : intV [.dat (.int i)] m = .ok (.dat (.int i)) m := (rfl)
@[simp] theorem intV_bl (k : Bool) (m : Mem) : intV [.dat (.bl k)] m = .ok (.dat (.int (if k then 1 else 0))) m := (rfl)
@[simp] theorem isNV_dat (d : D) (m : Mem) : isNV (.dat d) (.dat .non) m = .ok (.dat (.bl (isNon d))) m := (rfl)
@[simp] theorem notNV_dat (d : D) (m : Mem) : notNV (.dat d) (.dat .non) m = .ok (.dat (.bl (!isNon d))) m := (rfl)
@[simp] theorem isNon_non : isNon .non = true := (rfl)
@[simp] theorem isNon_int (i : Int) : isNon (.int i) = false := (rfl)
@[simp] theorem isNon_tup (xs : List D) : isNon (.tup xs) = false := (rfl)
@[simp] theorem isNon_lst (xs : List D) : isNon (.lst xs) = false := (rfl)
@[simp] theorem isNon_bl (b : Bool) : isNon (.bl b) = false := (rfl)
@[simp] theorem isNon_str (x : Str) : isNon (.str x) = false := (rfl)
/-! ### == of ints and None -/
theorem okD_int (i : Int) : okD (.int i) = true := by simp [okD, plain, dep]
theorem okD_non : okD .non = true := by simp [okD, plain, dep]
theorem okD_bl (b : Bool) : okD (.bl b) = true := by simp [okD, plain, dep]
theorem eqd_int (i j : Int) : eqd (.int i) (.int j) = decide (i = j) := by
  simp only [eqd, toPy, PyData.eqv]
  by_cases h : i = j <;> simp [h]
@[simp] theorem eqV_int (i j : Int) (m : Mem) : eqV (.dat (.int i)) (.dat (.int j)) m = .ok (.dat (.bl (decide (i = j)))) m := by
  simp [eqV, svD, okD_int, eqd_int]
@[simp] theorem neV_int (i j : Int) (m : Mem) : neV (.dat (.int i)) (.dat (.int j)) m = .ok (.dat (.bl (!decide (i = j)))) m := by
  simp [neV, svD, okD_int, eqd_int]
@[simp] theorem eqV_int_non (i : Int) (m : Mem) : eqV (.dat (.int i)) (.dat .non) m = .ok (.dat (.bl false)) m := by
  simp [eqV, svD, okD_int, okD_non, eqd, toPy, PyData.eqv]
@[simp] theorem eqV_non_int (i : Int) (m : Mem) : eqV (.dat .non) (.dat (.int i)) m = .ok (.dat (.bl false)) m := by
  simp [eqV, svD, okD_int, okD_non, eqd, toPy, PyData.eqv]
@[simp] theorem eqV_non (m : Mem) : eqV (.dat .non) (.dat .non) m = .ok (.dat (.bl true)) m := by
  simp [eqV, svD, okD_non, eqd, toPy, PyData.eqv]
@[simp] theorem neV_int_non (i : Int) (m : Mem) : neV (.dat (.int i)) (.dat .non) m = .ok (.dat (.bl true)) m := by
  simp [neV, svD, okD_int, okD_non, eqd, toPy, PyData.eqv]
@[simp] theorem neV_non_int (i : Int) (m : Mem) : neV (.dat .non) (.dat (.int i)) m = .ok (.dat (.bl true)) m := by
  simp [neV, svD, okD_int, okD_non, eqd, toPy, PyData.eqv]
@[simp] theorem neV_non (m : Mem) : neV (.dat .non) (.dat .non) m = .ok (.dat (.bl false)) m := by
  simp [neV, svD, okD_non, eqd, toPy, PyData.eqv]
/-! ### lists of ints -/
theorem plains_ints (ns : List Int) : plains (ns.map D.int) = true := by
  induction ns with
  | nil => rfl
  | cons n r ih => simp [plains, plain, ih]
theorem deps_ints (ns : List Int) : deps (ns.map D.int) = 0 := by
  induction ns with
  | nil => rfl
  | cons n r ih => simp [deps, dep, ih]
theorem okD_ints (ns : List Int) : okD (.lst (ns.map D.int)) = true := by simp [okD, plain, dep, plains_ints, deps_ints]
theorem okD_intsT (ns : List Int) : okD (.tup (ns.map D.int)) = true := by simp [okD, plain, dep, plains_ints, deps_ints]
theorem eqvAll_ints : ∀ ns ms : List Int, PyData.eqvAll (toPys (ns.map D.int)) (toPys (ms.map D.int)) = decide (ns = ms)
  | [], [] => by simp [toPys, PyData.eqvAll]
  | [], m :: ms => by simp [toPys, PyData.eqvAll]
  | n :: ns, [] => by simp [toPys, PyData.eqvAll]
  | n :: ns, m :: ms => by
    simp only [List.map_cons, toPys, toPy, PyData.eqvAll, PyData.eqv, eqvAll_ints ns ms]
    by_cases h : n = m <;> by_cases h2 : ns = ms <;> simp [h, h2]
theorem eqd_ints (ns ms : List Int) : eqd (.lst (ns.map D.int)) (.lst (ms.map D.int)) = decide (ns = ms) := by
  simp only [eqd, toPy, PyData.eqv, eqvAll_ints]
theorem eqd_intsT (ns ms : List Int) : eqd (.tup (ns.map D.int)) (.tup (ms.map D.int)) = decide (ns = ms) := by
  simp only [eqd, toPy, PyData.eqv, eqvAll_ints]
@[simp] theorem flatD_int (i : Int) : flatD (.int i) = true := (rfl)
@[simp] theorem flats_ints (xs : List Int) : flats (xs.map D.int) = true := by
  unfold flats
  induction xs with
  | nil => rfl
  | cons y r ih => simp [flatD]
theorem hasD_ints (x : Int) (xs : List Int) : hasD (xs.map D.int) (.int x) = decide (x ∈ xs) := by
  unfold hasD
  induction xs with
  | nil => rfl
  | cons y r ih =>
    rw [List.map_cons, List.any_cons, ih]
    by_cases h : y = x
    · subst h; simp [eqF]
    · have h' : ¬ x = y := fun e => h e.symm
      simp [eqF, h, h']
theorem rngD_get {lo : Int} {n i : Nat} {d : D} (h : (rngD lo n)[i]? = some d) : i < n ∧ d = .int (lo + (i : Int)) := by
  unfold rngD at h
  rw [List.getElem?_map] at h
  by_cases hi : i < n
  · rw [List.getElem?_range hi] at h
    exact ⟨hi, (Option.some.inj h).symm⟩
  · rw [List.getElem?_eq_none (by simpa using hi)] at h
    cases h
theorem rngD_mem {lo : Int} {n : Nat} {d : D} (h : d ∈ rngD lo n) : ∃ i : Nat, i < n ∧ d = .int (lo + (i : Int)) := by
  unfold rngD at h
  rw [List.mem_map] at h
  obtain ⟨i, hi, e⟩ := h
  exact ⟨i, List.mem_range.mp hi, e.symm⟩
@[simp] theorem rngD_length (lo : Int) (n : Nat) : (rngD lo n).length = n := by simp [rngD]
/-! ### loops -/
section
variable {g : D → En → Option En} {body : DS} {d : D} {r : List D} {env env1 env2 : En} {m m2 : Mem}
theorem loopF_nil : loopF g body [] env m = .ok (.nx env) m := (rfl)
theorem loopF_nx (hg : g d env = some env1) (hb : body env1 m = .ok (.nx env2) m2) : loopF g body (d :: r) env m = loopF g body r env2 m2 := by
  simp [loopF, hg, hb]
theorem loopF_ct (hg : g d env = some env1) (hb : body env1 m = .ok (.ct env2) m2) : loopF g body (d :: r) env m = loopF g body r env2 m2 := by
  simp [loopF, hg, hb]
theorem loopF_rt {v : SV} (hg : g d env = some env1) (hb : body env1 m = .ok (.rt v) m2) : loopF g body (d :: r) env m = .ok (.rt v) m2 := by
  simp [loopF, hg, hb]
theorem loopF_bk (hg : g d env = some env1) (hb : body env1 m = .ok (.bk env2) m2) : loopF g body (d :: r) env m = .ok (.nx env2) m2 := by
  simp [loopF, hg, hb]
/-- a loop that comes to its end -/
theorem loopF_inv (I : Nat → En → Mem → Prop) : ∀ (items : List D) (j : Nat) (env : En) (m : Mem), I j env m →
    (∀ i d env m, items[i]? = some d → I (j + i) env m → ∃ env1 env2 m2, g d env = some env1 ∧ (body env1 m = .ok (.nx env2) m2 ∨ body env1 m = .ok (.ct env2) m2) ∧ I (j + i + 1) env2 m2) →
    ∃ env' m', loopF g body items env m = .ok (.nx env') m' ∧ I (j + items.length) env' m'
  | [], j, env, m, h0, _ => ⟨env, m, rfl, h0⟩
  | d :: r, j, env, m, h0, hs => by
    obtain ⟨env1, env2, m2, hg, hb, h1⟩ := hs 0 d env m rfl h0
    obtain ⟨env', m', q, h2⟩ := loopF_inv I r (j + 1) env2 m2 h1 fun i d env m hi hI => by
      have := hs (i + 1) d env m (by simpa using hi) (by rw [show j + (i + 1) = j + 1 + i by omega]; exact hI)
      rw [show j + (i + 1) + 1 = j + 1 + i + 1 by omega] at this
      exact this
    refine ⟨env', m', ?_, by rw [List.length_cons, show j + (r.length + 1) = j + 1 + r.length by omega]; exact h2⟩
    rcases hb with hb | hb
    · rw [loopF_nx hg hb]; exact q
    · rw [loopF_ct hg hb]; exact q
/-- a comprehension whose element is a function of the item -/
theorem loopC_map {t : En → P Bool} {f : En → P SV} {env : En} {m : Mem} (p : D → Bool) (h : D → D) : ∀ (items acc : List D), (∀ d ∈ items, ∃ env1, g d env = some env1 ∧ t env1 m = .ok (p d) m ∧ (p d = true → f env1 m = .ok (.dat (h d)) m)) → acc.length + items.length ≤ 16777216 →
    loopC g t f env items acc m = .ok (acc ++ (items.filter p).map h) m
  | [], acc, _, _ => by simp [loopC]
  | d :: r, acc, hs, hl => by
    obtain ⟨env1, hg, ht, hf⟩ := hs d List.mem_cons_self
    have hr := fun d hd => hs d (List.mem_cons_of_mem _ hd)
    rw [List.length_cons] at hl
    by_cases hp : p d = true
    · have ih := loopC_map (t := t) (f := f) (env := env) (m := m) p h r (acc ++ [h d]) hr (by simp; omega)
      simp [loopC, hg, ht, hp, hf hp, show acc.length < 16777216 by omega, ih]
    · have hp' : p d = false := by simpa using hp
      have ih := loopC_map (t := t) (f := f) (env := env) (m := m) p h r acc hr (by omega)
      simp [loopC, hg, ht, hp', ih]
theorem loopC_all {f : En → P SV} {env : En} {m : Mem} (h : D → D) (items : List D) (hs : ∀ d ∈ items, ∃ env1, g d env = some env1 ∧ f env1 m = .ok (.dat (h d)) m) (hl : items.length ≤ 16777216) :
    noX (loopC g dYes f env items []) m = .ok (items.map h) m := by
  have e := loopC_map (g := g) (t := dYes) (f := f) (env := env) (m := m) (fun _ => true) h items [] (fun d hd => let ⟨e1, a, b⟩ := hs d hd; ⟨e1, a, rfl, fun _ => b⟩) (by simpa using hl)
  rw [List.filter_eq_self.mpr (fun _ _ => rfl)] at e
  simp [noX, e]
end
end PL

/-! PL7: more values: sorted, max, min, slices, repetition, module tuples. -/
namespace PL
open PySem PySem.Spec PyProof.Rows L2
/-- a new list: frozen, or an own one -/
def frs (own : Bool) (xs : List D) : P SV := fun m => if own then .ok (.ref m.length) (m ++ [.lst xs]) else .ok (.dat (.lst xs)) m
@[simp] theorem frs_false (xs : List D) (m : Mem) : frs false xs m = .ok (.dat (.lst xs)) m := (rfl)
@[simp] theorem frs_true (xs : List D) (m : Mem) : frs true xs m = .ok (.ref m.length) (m ++ [.lst xs]) := (rfl)
section
variable {X : Cx} {W : WX}
theorem frs_ok {own : Bool} {G S0 S H : Hp} {ρ0 ρ : List Addr} {m : Mem} {Q : VK} {E : Exc → Mem → Prop} {vs : List V} {xs : List D} (M : MR (gd X) G S H ρ m) (r : RpAll (gd X) S vs xs) (e : Ext S0 ρ0 S ρ)
    (q : wpr (frs own xs m) (QV X G S0 ρ0 Q) E) (p : Addr) (hp : H p = none) : Q (.ref p) (upd H p (.lst vs)) := by
  cases own with
  | false =>
    obtain ⟨s1, M2⟩ := M.grow hp (.lst vs)
    exact q _ _ ρ _ (e.trans ⟨s1, fun _ _ z => z⟩) M2 (.lst upd_same (r.mono s1))
  | true =>
    obtain ⟨e2, M2⟩ := M.alloc hp r
    refine q _ _ _ _ (e.trans e2) M2 ⟨p, ?_, rfl⟩
    rw [← M.len]
    simp
/-! ### sorted, max, min -/
def sortI (ns : List Int) : List Int := ns.mergeSort fun a b => decide (a ≤ b)
theorem sortI_perm (ns : List Int) : (sortI ns).Perm ns := List.mergeSort_perm ..
theorem sortI_up (ns : List Int) : (sortI ns).Pairwise (· ≤ ·) := by
  have h := List.pairwise_mergeSort (le := fun a b : Int => decide (a ≤ b)) (fun a b c h1 h2 => by simp at *; omega) (fun a b => by simp; omega) ns
  exact h.imp fun h => of_decide_eq_true h
theorem up_unique : ∀ {xs ys : List Int}, xs.Perm ys → xs.Pairwise (· ≤ ·) → ys.Pairwise (· ≤ ·) → xs = ys
  | [], ys, p, _, _ => (List.nil_perm.mp p).symm
  | x :: xs, [], p, _, _ => by simpa using p.length_eq
  | x :: xs, y :: ys, p, hx, hy => by
    have h1 : x = y := by
      have a : x ∈ y :: ys := p.subset List.mem_cons_self
      have b : y ∈ x :: xs := p.symm.subset List.mem_cons_self
      rw [List.pairwise_cons] at hx hy
      rcases List.mem_cons.mp a with a | a
      · exact a
      · rcases List.mem_cons.mp b with b | b
        · exact b.symm
        · have := hx.1 y b
          have := hy.1 x a
          omega
    subst h1
    rw [up_unique (List.Perm.cons_inv p) (List.pairwise_cons.mp hx).2 (List.pairwise_cons.mp hy).2]
theorem sortI_eq {xs ys : List Int} (p : xs.Perm ys) (h : xs.Pairwise (· ≤ ·)) : xs = sortI ys := up_unique (p.trans (sortI_perm ys).symm) h (sortI_up ys)
def sortedV (own : Bool) (xs : List SV) : P SV := fun m => match xs with
  | [x] => (match rdL x m with | some ds => (match asIs ds with | some is => frs own ((sortI is).map D.int) m | none => .stuck) | none => .stuck)
  | _ => .stuck
theorem jc_sorted {own : Bool} : JC X W (.builtin "sorted") (sortedV own) := ⟨fun {G S H ρ m σ xs xvs Q} M rx q => by
  unfold sortedV at q
  split at q
  · obtain ⟨v, rfl, r⟩ := paired1 rx
    split at q
    · rename_i ds hd
      split at q
      · rename_i bs hb
        obtain ⟨a, vs, rfl, h1, r1⟩ := rdL_ok M r hd
        have e := rpAll_is r1 hb
        subst e
        refine wc_of cr_sortedI ⟨a, bs, rfl, .inl (.inl h1), fun ns' p hp hu hn => ?_⟩
        rw [sortI_eq hp hu]
        exact frs_ok M (rpAll_ints _) (Ext.refl _ _) q p hn
      · exact q.elim
    · exact q.elim
  · exact q.elim⟩
def maxL : List Int → Option Int
  | [] => none
  | [a] => some a
  | a :: r => (match maxL r with | some b => some (max a b) | none => some a)
def minL : List Int → Option Int
  | [] => none
  | [a] => some a
  | a :: r => (match minL r with | some b => some (min a b) | none => some a)
theorem maxL_ok : ∀ {ns : List Int} {k : Int}, maxL ns = some k → k ∈ ns ∧ ∀ y ∈ ns, y ≤ k
  | [], _, h => by simp [maxL] at h
  | [a], k, h => by simp [maxL] at h; subst h; simp
  | a :: b :: r, k, h => by
    unfold maxL at h
    split at h
    · rename_i c hc
      obtain ⟨i1, i2⟩ := maxL_ok hc
      have e : max a c = k := Option.some.inj h
      refine ⟨?_, fun y hy => ?_⟩
      · by_cases hac : a ≤ c
        · rw [← e, Int.max_eq_right hac]; exact List.mem_cons_of_mem _ i1
        · rw [← e, Int.max_eq_left (by omega)]; exact List.mem_cons_self
      · rcases List.mem_cons.mp hy with rfl | hy
        · omega
        · have := i2 y hy
          omega
    · rename_i hc
      exfalso
      unfold maxL at hc
      split at hc <;> first | contradiction | cases hc | (split at hc <;> cases hc)
theorem minL_ok : ∀ {ns : List Int} {k : Int}, minL ns = some k → k ∈ ns ∧ ∀ y ∈ ns, k ≤ y
  | [], _, h => by simp [minL] at h
  | [a], k, h => by simp [minL] at h; subst h; simp
  | a :: b :: r, k, h => by
    unfold minL at h
    split at h
    · rename_i c hc
      obtain ⟨i1, i2⟩ := minL_ok hc
      have e : min a c = k := Option.some.inj h
      refine ⟨?_, fun y hy => ?_⟩
      · by_cases hac : a ≤ c
        · rw [← e, Int.min_eq_left hac]; exact List.mem_cons_self
        · rw [← e, Int.min_eq_right (by omega)]; exact List.mem_cons_of_mem _ i1
      · rcases List.mem_cons.mp hy with rfl | hy
        · omega
        · have := i2 y hy
          omega
    · rename_i hc
      exfalso
      unfold minL at hc
      split at hc <;> first | contradiction | cases hc | (split at hc <;> cases hc)
def max1V (xs : List SV) : P SV := fun m => match xs with
  | [x] => (match rdL x m with | some ds => (match asIs ds with | some is => (match maxL is with | some k => .ok (.dat (.int k)) m | none => .stuck) | none => .stuck) | none => .stuck)
  | _ => .stuck
def min1V (xs : List SV) : P SV := fun m => match xs with
  | [x] => (match rdL x m with | some ds => (match asIs ds with | some is => (match minL is with | some k => .ok (.dat (.int k)) m | none => .stuck) | none => .stuck) | none => .stuck)
  | _ => .stuck
theorem jc_max1 (hc : X.calm = true) : JC X W (.builtin "max") max1V := ⟨fun {G S H ρ m σ xs xvs Q} M rx q => by
  unfold max1V at q
  split at q
  · obtain ⟨v, rfl, r⟩ := paired1 rx
    split at q
    · rename_i ds hd
      split at q
      · rename_i bs hb
        split at q
        · rename_i k hk
          obtain ⟨a, vs, rfl, h1, r1⟩ := rdL_ok M r hd
          have e := rpAll_is r1 hb
          subst e
          obtain ⟨k1, k2⟩ := maxL_ok hk
          refine wc_of (cr_max hc) ⟨a, bs, rfl, .inl (.inl h1), List.length_pos_of_mem k1, fun m' hm hle => ?_⟩
          have e : m' = k := Int.le_antisymm (k2 m' hm) (hle k k1)
          subst e
          exact q S H ρ _ (Ext.refl _ _) M (.int _)
        · exact q.elim
      · exact q.elim
    · exact q.elim
  · exact q.elim⟩
theorem jc_min1 (hc : X.calm = true) : JC X W (.builtin "min") min1V := ⟨fun {G S H ρ m σ xs xvs Q} M rx q => by
  unfold min1V at q
  split at q
  · obtain ⟨v, rfl, r⟩ := paired1 rx
    split at q
    · rename_i ds hd
      split at q
      · rename_i bs hb
        split at q
        · rename_i k hk
          obtain ⟨a, vs, rfl, h1, r1⟩ := rdL_ok M r hd
          have e := rpAll_is r1 hb
          subst e
          obtain ⟨k1, k2⟩ := minL_ok hk
          refine wc_of (cr_min hc) ⟨a, bs, rfl, .inl (.inl h1), List.length_pos_of_mem k1, fun m' hm hle => ?_⟩
          have e : m' = k := Int.le_antisymm (hle k k1) (k2 m' hm)
          subst e
          exact q S H ρ _ (Ext.refl _ _) M (.int _)
        · exact q.elim
      · exact q.elim
    · exact q.elim
  · exact q.elim⟩
/-! ### xs * n -/
def repV (own : Bool) (x y : SV) : P SV := fun m => match rdL x m, y with
  | some xs, .dat (.int k) => if -(2 ^ 63) ≤ k ∧ k < 2 ^ 63 ∧ xs.length * k.toNat ≤ 16777216 then frs own (List.replicate k.toNat xs).flatten m else .stuck
  | _, _ => .stuck
theorem rpAll_rep {Γ : Gd} {S : Hp} {vs : List V} {ds : List D} (r : RpAll Γ S vs ds) : ∀ n : Nat, RpAll Γ S (List.replicate n vs).flatten (List.replicate n ds).flatten
  | 0 => .nil
  | n + 1 => by
    rw [List.replicate_succ, List.replicate_succ, List.flatten_cons, List.flatten_cons]
    exact r.append (rpAll_rep r n)
theorem jo_rep {own : Bool} : JO X W (binaryOp .Mult) (repV own) := ⟨fun {G S H ρ m σ x y xv yv Q} M rx ry q => by
  unfold repV at q
  split at q
  · rename_i xs k hx
    split at q
    · rename_i hk
      obtain ⟨a, vs, rfl, h1, r1⟩ := rdL_ok M rx hx
      cases ry
      refine wo_of op_rep ⟨a, k, vs, rfl, rfl, h1, hk.1, hk.2.1, by rw [r1.length, sizeLine_eq]; exact hk.2.2, fun p hp => ?_⟩
      exact frs_ok M (rpAll_rep r1 _) (Ext.refl _ _) q p hp
    · exact q.elim
  · exact q.elim⟩
/-- xs + ys as an own list -/
def catO (x y : SV) : P SV := fun m => match rdL x m, rdL y m with
  | some xs, some ys => if xs.length + ys.length ≤ 16777216 then frs true (xs ++ ys) m else .stuck
  | _, _ => .stuck
theorem jo_catO : JO X W (binaryOp .Add) catO := ⟨fun {G S H ρ m σ x y xv yv Q} M rx ry q => by
  unfold catO at q
  split at q
  · rename_i xs ys hx hy
    split at q
    · rename_i hl
      obtain ⟨a, vs, rfl, h1, r1⟩ := rdL_ok M rx hx
      obtain ⟨b, ws, rfl, h2, r2⟩ := rdL_ok M ry hy
      refine wo_of op_cat ⟨a, b, vs, ws, rfl, rfl, h1, h2, by rw [r1.length, r2.length, sizeLine_eq]; exact hl, fun p hp => ?_⟩
      exact frs_ok M (r1.append r2) (Ext.refl _ _) q p hp
    · exact q.elim
  · exact q.elim⟩
/-! ### slices -/
variable {a e : Expr} {lo hi : Option Expr} {pos p2 : Pos} {fa : En → P SV}
def cutD (xs : List D) (lo hi : Option Int) : List D := (xs.drop (HT.sIx xs.length 0 lo)).take (HT.sIx xs.length xs.length hi - HT.sIx xs.length 0 lo)
theorem rpAll_cut {Γ : Gd} {S : Hp} {vs : List V} {ds : List D} (r : RpAll Γ S vs ds) (lo hi : Option Int) : RpAll Γ S (cutV vs lo hi) (cutD ds lo hi) := by
  unfold cutV cutD
  rw [r.length]
  exact (r.drop _).take _
/-- a part of a slice -/
structure JPt (X : Cx) (W : WX) (lo : Option Expr) (f : En → P (Option Int)) : Prop where
  run : ∀ {G S H : Hp} {ρ : List Addr} {m : Mem} {env : En} {σ : St} {Q : Option Int → Hp → Prop}, MR (gd X) G S H ρ m → ER (gd X) S ρ env σ →
    wpr (f env m) (fun o m' => ∀ S' H' ρ', Ext S ρ S' ρ' → MR (gd X) G S' H' ρ' m' → Q o H') (QX X W G S ρ σ) →
    ∀ (pins : List (Addr × Obj)) (s : Shared), Inv X pins σ H s → wpAny (model X.prog X.w) X.A (evalPart lo X.env) (fun u s' => ∃ o H', Inv X pins σ H' s' ∧ IsPart u o ∧ Q o H') X.xe s
def dNoPt : En → P (Option Int) := fun _ => P.ret none
def dPt (f : En → P SV) : En → P (Option Int) := fun env => (f env).bnd fun v => match v with
  | .dat (.int i) => P.ret (some i)
  | _ => P.stk
theorem jp_none : JPt X W none dNoPt := ⟨fun {G S H ρ m env σ Q} M E h pins s I => po_none.run pins s σ H Q I (h S H ρ (Ext.refl _ _) M)⟩
theorem jp_some (ja : JE X W e fa) : JPt X W (some e) (dPt fa) := ⟨fun {G S H ρ m env σ Q} M E h pins s I => by
  refine (po_some (pe_we (X := X) (e := e))).run pins s σ H Q I (ja.run M E (wpr_monoQ (wpr_bnd h) fun v m1 hv => ?_))
  intro S1 H1 ρ1 xv e1 M1 rx
  split at hv
  · rename_i i
    cases rx
    exact ⟨i, rfl, hv S1 H1 ρ1 e1 M1⟩
  · exact hv.elim⟩
def cutVl (own : Bool) (v : SV) (lo hi : Option Int) : P SV := fun m => match v with
  | .dat (.tup xs) => .ok (.dat (.tup (cutD xs lo hi))) m
  | .dat (.scr _) => .stuck
  | v => (match rdL v m with | some xs => frs own (cutD xs lo hi) m | none => .stuck)
def dSl (own : Bool) (fa : En → P SV) (fl fh : En → P (Option Int)) : En → P SV := fun env => (fa env).bnd fun v => (fl env).bnd fun l => (fh env).bnd fun h => cutVl own v l h
theorem cutV_whole (xs : List V) (lo hi : Option Int) (h : HT.sIx xs.length 0 lo = 0 ∧ HT.sIx xs.length xs.length hi = xs.length) : cutV xs lo hi = xs := by
  unfold cutV
  rw [h.1, h.2]
  simp
theorem cutD_whole (xs : List D) (lo hi : Option Int) (h : HT.sIx xs.length 0 lo = 0 ∧ HT.sIx xs.length xs.length hi = xs.length) : cutD xs lo hi = xs := by
  unfold cutD
  rw [h.1, h.2]
  simp
theorem je_slice {own : Bool} {fl fh : En → P (Option Int)} (ja : JE X W a fa) (jl : JPt X W lo fl) (jh : JPt X W hi fh) : JE X W (.Subscript a (.Slice lo hi none p2) pos) (dSl own fa fl fh) := ⟨fun {G S H ρ m env σ Q} M E h => by
  refine we_of (pe_slice (SlR.or sl_tupA sl_list) pe_we
    (tl := fun σ H Q => ∀ (pins : List (Addr × Obj)) (s : Shared), Inv X pins σ H s → wpAny (model X.prog X.w) X.A (evalPart lo X.env) (fun u s' => ∃ o H', Inv X pins σ H' s' ∧ IsPart u o ∧ Q o H') X.xe s) ⟨fun pins s σ H Q I q => q pins s I⟩
    (th := fun σ H Q => ∀ (pins : List (Addr × Obj)) (s : Shared), Inv X pins σ H s → wpAny (model X.prog X.w) X.A (evalPart hi X.env) (fun u s' => ∃ o H', Inv X pins σ H' s' ∧ IsPart u o ∧ Q o H') X.xe s) ⟨fun pins s σ H Q I q => q pins s I⟩) ?_
  refine ja.run M E (wpr_monoQ (wpr_bnd h) fun v m1 hv => ?_)
  intro S1 H1 ρ1 xv e1 M1 rx
  refine jl.run M1 (E.mono e1) (wpr_mono (wpr_bnd hv) (fun l m2 hl => ?_) fun _ _ z => qx_ext e1 z)
  intro S2 H2 ρ2 e2 M2
  refine jh.run M2 ((E.mono e1).mono e2) (wpr_mono (wpr_bnd hl) (fun u m3 hu => ?_) fun _ _ z => qx_ext (e1.trans e2) z)
  intro S3 H3 ρ3 e3 M3
  have e03 := (e1.trans e2).trans e3
  have rx3 := rx.mono (e2.trans e3)
  unfold cutVl at hu
  split at hu
  · cases rx3 with
    | tup hq hr =>
      rename_i ad vs
      refine .inl ⟨ad, vs, rfl, Same.seqT M3.sub hq, fun hw => ?_, fun hw p hp => ?_⟩
      · rw [cutD_whole _ _ _ (by rw [← hr.length]; exact hw)] at hu
        exact hu S3 H3 ρ3 _ e03 M3 (.tup hq hr)
      · obtain ⟨s1, M4⟩ := M3.grow hp (.tup (cutV vs l u))
        exact hu _ _ ρ3 _ (e03.trans ⟨s1, fun _ _ z => z⟩) M4 (.tup (.inl (.inl upd_same)) ((rpAll_cut hr l u).mono s1))
  · exact hu.elim
  · split at hu
    · rename_i xs hx
      obtain ⟨ad, vs, rfl, h1, r1⟩ := rdL_ok M3 rx3 hx
      exact .inr ⟨ad, vs, rfl, .inl (.inl h1), fun p hp => frs_ok M3 (rpAll_cut r1 l u) e03 hu p hp⟩
    · exact hu.elim⟩
/-- xs[::-1], a list -/
def revVl (own : Bool) (v : SV) : P SV := fun m => match rdL v m with
  | some xs => frs own xs.reverse m
  | none => .stuck
theorem rpAll_rev {Γ : Gd} {S : Hp} : ∀ {vs : List V} {ds : List D}, RpAll Γ S vs ds → RpAll Γ S vs.reverse ds.reverse
  | _, _, .nil => .nil
  | _, _, .cons h r => by
    rw [List.reverse_cons, List.reverse_cons]
    exact (rpAll_rev r).append (.cons h .nil)
theorem je_revL {own : Bool} {k : Nat} {p1 p3 : Pos} (ja : JE X W a fa) : JE X W (.Subscript a (.Slice none none (some (.UnaryOp .USub (.Constant (.int 1) k p1) p2)) p3) pos) (d1 (revVl own) fa) := ⟨fun {G S H ρ m env σ Q} M E h => by
  refine we_of (pe_revL pe_we) (ja.run M E (wpr_monoQ (wpr_bnd h) fun v m1 hv => ?_))
  intro S1 H1 ρ1 xv e1 M1 rx
  unfold revVl at hv
  split at hv
  · rename_i xs hx
    obtain ⟨ad, vs, rfl, h1, r1⟩ := rdL_ok M1 rx hx
    exact ⟨ad, vs, rfl, .inl (.inl h1), fun p hp => frs_ok M1 (rpAll_rev r1) e1 hv p hp⟩
  · exact hv.elim⟩
/-! ### a module's tuple -/
/-- what a module's name holds: a tuple of plain things -/
inductive Gk (K : PySem.W.Frag) : V → D → Prop
  | non : Gk K .non .non
  | bl (b : Bool) : Gk K (.bl b) (.bl b)
  | int (i : Int) : Gk K (.int i) (.int i)
  | str (x : Str) : Gk K (.str x) (.str x)
inductive GkAll (K : PySem.W.Frag) : List V → List D → Prop
  | nil : GkAll K [] []
  | cons {v : V} {vs : List V} {d : D} {ds : List D} : Gk K v d → GkAll K vs ds → GkAll K (v :: vs) (d :: ds)
theorem GkAll.rp {Γ : Gd} {S : Hp} {K : PySem.W.Frag} : ∀ {vs : List V} {ds : List D}, GkAll K vs ds → RpAll Γ S vs ds
  | _, _, .nil => .nil
  | _, _, .cons h r => .cons (by cases h <;> constructor) (GkAll.rp r)
def gvD : D → He.Dv
  | .bl b => .bl b
  | .int i => .int i
  | .str x => .str x
  | _ => .non
def gvOk : List D → Bool
  | [] => true
  | .non :: r => gvOk r
  | .bl _ :: r => gvOk r
  | .int _ :: r => gvOk r
  | .str _ :: r => gvOk r
  | _ :: _ => false
theorem gvAll (K : PySem.W.Frag) : ∀ {ds : List D}, gvOk ds = true → GkAll K ((ds.map gvD).map (He.Dv.v K)) ds
  | [], _ => .nil
  | .non :: r, h => .cons .non (gvAll K (by simpa [gvOk] using h))
  | .bl b :: r, h => .cons (.bl b) (gvAll K (by simpa [gvOk] using h))
  | .int i :: r, h => .cons (.int i) (gvAll K (by simpa [gvOk] using h))
  | .str x :: r, h => .cons (.str x) (gvAll K (by simpa [gvOk] using h))
/-- the module's name x is this tuple -/
def GT (K : PySem.W.Frag) (mg : Str → Option Value) (x : Str) (ds : List D) : Prop := mg x = some (.ref (He.ga K x)) ∧ He.tupB K x (ds.map gvD) = true ∧ gvOk ds = true
theorem je_gtup {x : Str} {ds : List D} (hg : Gl X x) (hm : GT X.K X.mg x ds) (hd : (x == ("__debug__" : Str)) = false := by decide) : JE X W (.Name x pos) (dC (.tup ds)) :=
  je_c (pe_glob (v := .ref (He.ga X.K x)) hg hm.1 rfl hd) (fun _ _ _ h => h) fun S => .tup (He.tupB_ok hm.2.1 S) (gvAll X.K hm.2.2).rp
end
/-! ### the head's facts, and more -/
def exG (n : Nat) (fa : List He.Fa) (fn : List He.DefD) (ex : PySem.W.Frag → Bool) (g : Addr → Option Obj) : He.AlD × Bool := (He.obsDG n fa fn g, ex (He.frG g (He.asD g n)))
def hookX (n : Nat) (fa : List He.Fa) (fn : List He.DefD) (ex : PySem.W.Frag → Bool) : PySem.W.Hook where
  α := He.AlD × Bool
  obs := fun s => exG n fa fn ex s.heap.get?
  val := fun _ => (He.valD fn, true)
  says := fun _ h => ∃ K : PySem.W.Frag, K.In h ∧ He.SaysD fa fn K ∧ ex K = true
  of := fun _ _ e => ⟨_, He.frG_in, congrArg Prod.fst e, congrArg Prod.snd e⟩
  keeps := fun _ _ _ ⟨K, hK, c⟩ k => ⟨K, PySem.W.Frag.In.keeps hK k, c⟩
theorem exG_eq {n : Nat} {fa : List He.Fa} {fn : List He.DefD} {ex : PySem.W.Frag → Bool} {g : Addr → Option Obj} {s : Shared} (h : ∀ a, g a = s.heap.get? a) : exG n fa fn ex g = (hookX n fa fn ex).obs s := by
  have e : g = s.heap.get? := funext h
  rw [e] <;> rfl
/-! ### simp lemmas -/
@[simp] theorem asIs_ints : ∀ xs : List Int, asIs (xs.map D.int) = some xs
  | [] => rfl
  | x :: r => by simp [asIs, asIs_ints r]
@[simp] theorem asBs_bls : ∀ xs : List Bool, asBs (xs.map D.bl) = some xs
  | [] => rfl
  | x :: r => by simp [asBs, asBs_bls r]
@[simp] theorem sortedV_ints (own : Bool) (xs : List Int) (m : Mem) : sortedV own [.dat (.lst (xs.map D.int))] m = frs own ((sortI xs).map D.int) m := by simp [sortedV, rdL]
@[simp] theorem revVl_lst (own : Bool) (xs : List D) (m : Mem) : revVl own (.dat (.lst xs)) m = frs own xs.reverse m := (rfl)
@[simp] theorem repV_lst (own : Bool) (xs : List D) (k : Int) (m : Mem) : repV own (.dat (.lst xs)) (.dat (.int k)) m = if -(2 ^ 63) ≤ k ∧ k < 2 ^ 63 ∧ xs.length * k.toNat ≤ 16777216 then frs own (List.replicate k.toNat xs).flatten m else .stuck := (rfl)
@[simp] theorem eqV_lstI (xs ys : List Int) (m : Mem) : PL.eqV (.dat (.lst (xs.map D.int))) (.dat (.lst (ys.map D.int))) m = .ok (.dat (.bl (decide (xs = ys)))) m := by simp [PL.eqV, svD, okD_ints, eqd_ints]
@[simp] theorem neV_lstI (xs ys : List Int) (m : Mem) : PL.neV (.dat (.lst (xs.map D.int))) (.dat (.lst (ys.map D.int))) m = .ok (.dat (.bl (!decide (xs = ys)))) m := by simp [PL.neV, svD, okD_ints, eqd_ints]
theorem eqd_bl (a b : Bool) : eqd (.bl a) (.bl b) = (a == b) := by simp [eqd, toPy, PyData.eqv]
theorem eqv_num (a b : PyData) : True := trivial
theorem eqd_lst_cons (x y : D) (xs ys : List D) : eqd (.lst (x :: xs)) (.lst (y :: ys)) = (eqd x y && eqd (.lst xs) (.lst ys)) := by simp [eqd, toPy, toPys, PyData.eqv, PyData.eqvAll]
theorem eqd_lst_nil : eqd (.lst []) (.lst []) = true := by simp [eqd, toPy, toPys, PyData.eqv, PyData.eqvAll]
theorem eqd_tup_cons (x y : D) (xs ys : List D) : eqd (.tup (x :: xs)) (.tup (y :: ys)) = (eqd x y && eqd (.tup xs) (.tup ys)) := by simp [eqd, toPy, toPys, PyData.eqv, PyData.eqvAll]
theorem eqd_tup_nil : eqd (.tup []) (.tup []) = true := by simp [eqd, toPy, toPys, PyData.eqv, PyData.eqvAll]
theorem plains_cons (x : D) (xs : List D) : plains (x :: xs) = (plain x && plains xs) := by simp [plains]
/-- small things that may be compared -/
def ok1 (d : D) : Bool := plain d && decide (dep d ≤ 63)
theorem okD_lst1 (xs : List D) (h : ∀ x ∈ xs, ok1 x = true) : okD (.lst xs) = true := by
  have a : plains xs = true ∧ deps xs ≤ 63 := by
    induction xs with
    | nil => simp [plains, deps]
    | cons x r ih =>
      obtain ⟨i1, i2⟩ := ih fun y hy => h y (List.mem_cons_of_mem _ hy)
      have h1 := h x List.mem_cons_self
      simp [ok1] at h1
      simp [plains, deps, i1, h1.1]
      omega
  simp [okD, plain, dep, a.1]
  omega
end PL

/-! TR: plain mathematics of triplets. -/
namespace TR
/-- how many elements -/
def sz (f l s : Int) : Int := max 0 ((l - f + s).fdiv s)
theorem sz_nonneg (f l s : Int) : 0 ≤ sz f l s := by unfold sz; omega
theorem fdiv_neg' (a s : Int) : a.fdiv s = (-a).fdiv (-s) := (Int.neg_fdiv_neg a s).symm
theorem lt_sz {f l s k : Int} (hs : s ≠ 0) (hk : 0 ≤ k) : k < sz f l s ↔ (0 < s → f + k * s ≤ l) ∧ (s < 0 → l ≤ f + k * s) := by
  have key : ∀ a t : Int, 0 < t → (k < max 0 ((a + t).fdiv t) ↔ k * t ≤ a) := fun a t ht => by
    rw [Int.fdiv_eq_ediv_of_nonneg _ (by omega)]
    have h1 : k < max 0 ((a + t) / t) ↔ k + 1 ≤ (a + t) / t := by omega
    rw [h1, Int.le_ediv_iff_mul_le ht, Int.add_mul]
    omega
  unfold sz
  by_cases h : 0 < s
  · rw [key (l - f) s h]
    constructor
    · intro q
      exact ⟨fun _ => by omega, fun q => by omega⟩
    · intro q
      have := q.1 h
      omega
  · have h' : s < 0 := by omega
    have e : (l - f + s).fdiv s = (f - l + -s).fdiv (-s) := by
      rw [fdiv_neg']
      congr 1
      omega
    rw [e, key (f - l) (-s) (by omega), Int.mul_neg]
    constructor
    · intro q
      exact ⟨fun _ => by omega, fun _ => by omega⟩
    · intro q
      have := q.2 h'
      omega
/-- the number of an element -/
def spot (f l s x : Int) : Option Int := if (x - f).fmod s ≠ 0 ∨ ¬ (0 ≤ (x - f).fdiv s ∧ (x - f).fdiv s < sz f l s) then none else some ((x - f).fdiv s)
theorem spot_at {f l s k : Int} (hs : s ≠ 0) (h0 : 0 ≤ k) (h1 : k < sz f l s) : spot f l s (f + k * s) = some k := by
  unfold spot
  have e : f + k * s - f = k * s := by omega
  rw [e, Int.mul_fdiv_cancel _ hs, Int.mul_fmod_left]
  rw [if_neg (by omega)]
theorem spot_some {f l s x k : Int} (hs : s ≠ 0) (h : spot f l s x = some k) : x = f + k * s ∧ 0 ≤ k ∧ k < sz f l s := by
  unfold spot at h
  split at h
  · cases h
  · rename_i q
    cases h
    have h1 : (x - f).fmod s = 0 := by omega
    have h2 := Int.mul_fdiv_add_fmod (x - f) s
    rw [h1] at h2
    have h3 : s * (x - f).fdiv s = (x - f).fdiv s * s := Int.mul_comm _ _
    omega
theorem spot_iff {f l s x k : Int} (hs : s ≠ 0) : spot f l s x = some k ↔ x = f + k * s ∧ 0 ≤ k ∧ k < sz f l s := by
  constructor
  · exact spot_some hs
  · rintro ⟨rfl, h0, h1⟩
    exact spot_at hs h0 h1
theorem spot_none {f l s x : Int} (hs : s ≠ 0) (h : ∀ k, 0 ≤ k → k < sz f l s → x ≠ f + k * s) : spot f l s x = none := by
  cases e : spot f l s x with
  | none => rfl
  | some k =>
    obtain ⟨a, b, c⟩ := spot_some hs e
    exact absurd a (h k b c)
theorem mul_inj {a b s : Int} (hs : s ≠ 0) (h : a * s = b * s) : a = b := Int.eq_of_mul_eq_mul_right hs h
/-- an element lies between the ends -/
theorem elt_between {f l s k : Int} (hs : s ≠ 0) (h0 : 0 ≤ k) (h1 : k < sz f l s) : min f l ≤ f + k * s ∧ f + k * s ≤ max f l := by
  obtain ⟨a, b⟩ := (lt_sz hs h0).mp h1
  by_cases h : 0 < s
  · have := a h
    have : 0 ≤ k * s := Int.mul_nonneg h0 (by omega)
    omega
  · have := b (by omega)
    have : k * s ≤ 0 := Int.mul_nonpos_of_nonneg_of_nonpos h0 (by omega)
    omega
theorem sz_le {f l s n : Int} (hs : s ≠ 0) (hn : 0 ≤ n) (h : max f l - min f l < n) : sz f l s ≤ n := by
  have h2 : ¬ n < sz f l s := fun q => by
    obtain ⟨a, b⟩ := (lt_sz hs hn).mp q
    by_cases h' : 0 < s
    · have := a h'
      have : n * 1 ≤ n * s := Int.mul_le_mul_of_nonneg_left (by omega) hn
      omega
    · have := b (by omega)
      have : n * 1 ≤ n * (-s) := Int.mul_le_mul_of_nonneg_left (by omega) hn
      rw [Int.mul_neg] at this
      omega
  omega
theorem sz_count {f l s : Int} (hs : s ≠ 0) : sz f l s = if 0 ≤ (if 0 < s then l - f else f - l) then (if 0 < s then l - f else f - l).fdiv (s.natAbs : Int) + 1 else 0 := by
  have key : ∀ a t : Int, 0 < t → max 0 ((a + t).fdiv t) = if 0 ≤ a then a.fdiv t + 1 else 0 := fun a t ht => by
    rw [Int.fdiv_eq_ediv_of_nonneg _ (by omega), Int.fdiv_eq_ediv_of_nonneg _ (by omega)]
    have e : (a + t) / t = a / t + 1 := by
      have := Int.add_mul_ediv_right a 1 (show t ≠ 0 by omega)
      rw [Int.one_mul] at this
      exact this
    rw [e]
    by_cases h : 0 ≤ a
    · have := Int.ediv_nonneg h (show 0 ≤ t by omega)
      rw [if_pos h]
      omega
    · have := Int.ediv_neg_of_neg_of_pos (show a < 0 by omega) ht
      rw [if_neg h]
      omega
  unfold sz
  by_cases h : 0 < s
  · simp only [if_pos h]
    rw [show (s.natAbs : Int) = s by omega]
    exact key (l - f) s h
  · simp only [if_neg h]
    rw [show (s.natAbs : Int) = -s by omega]
    have e : (l - f + s).fdiv s = (f - l + -s).fdiv (-s) := by
      rw [fdiv_neg']
      congr 1
      omega
    rw [e]
    exact key (f - l) (-s) (by omega)
/-- a number just behind an element is none, if the step is more than 1 -/
theorem spot_next {f l s k : Int} (hs : 1 < s.natAbs) : spot f l s (f + k * s + 1) = none := by
  refine spot_none (by omega) fun j _ _ e => ?_
  have h1 : (j - k) * s = 1 := by rw [Int.sub_mul]; omega
  have h2 : s ∣ 1 := ⟨j - k, by rw [Int.mul_comm]; exact h1.symm⟩
  have h3 := Int.natAbs_dvd_natAbs.mpr h2
  have h4 := Nat.le_of_dvd (by decide) h3
  simp at h4
  omega
theorem spot_behind {f l s : Int} (hs : s ≠ 0) : spot f l s (f + sz f l s * s) = none := by
  refine spot_none hs fun j _ h e => ?_
  have := mul_inj hs (a := sz f l s) (b := j) (by omega)
  omega
end TR

/-! TR2: elements, normal forms. -/
namespace TR
open PL (sortI sortI_eq sortI_perm sortI_up up_unique)
def els (f s : Int) (n : Nat) : List Int := (List.range n).map fun (i : Nat) => f + (i : Int) * s
theorem els_succ (f s : Int) (n : Nat) : els f s (n + 1) = els f s n ++ [f + (n : Int) * s] := by
  unfold els
  rw [List.range_succ, List.map_append]
  rfl
theorem els_length (f s : Int) (n : Nat) : (els f s n).length = n := by simp [els]
theorem els_get {f s : Int} {n j : Nat} (h : j < n) : (els f s n)[j]? = some (f + (j : Int) * s) := by
  unfold els
  rw [List.getElem?_map, List.getElem?_range h]
  rfl
theorem mem_els {f s x : Int} {n : Nat} : x ∈ els f s n ↔ ∃ j : Nat, j < n ∧ x = f + (j : Int) * s := by
  unfold els
  rw [List.mem_map]
  constructor
  · rintro ⟨j, h, e⟩
    exact ⟨j, List.mem_range.mp h, e.symm⟩
  · rintro ⟨j, h, e⟩
    exact ⟨j, List.mem_range.mpr h, e.symm⟩
theorem els_zero (f s : Int) : els f s 0 = [] := rfl
theorem els_one (f s : Int) : els f s 1 = [f] := by simp [els]
/-- turned about -/
theorem els_rev (f s : Int) (n : Nat) : (els f s n).reverse = els (f + ((n : Int) - 1) * s) (-s) n := by
  apply List.ext_getElem?
  intro i
  by_cases h : i < n
  · rw [List.getElem?_reverse (by rw [els_length]; exact h), els_length, els_get (by omega), els_get h]
    congr 1
    have e : ((n - 1 - i : Nat) : Int) = (n : Int) - 1 - (i : Int) := by omega
    rw [e, Int.sub_mul, Int.mul_neg]
    omega
  · rw [List.getElem?_eq_none (by rw [List.length_reverse, els_length]; omega), List.getElem?_eq_none (by rw [els_length]; omega)]
theorem els_up {f s : Int} (h : 0 < s) (n : Nat) : (els f s n).Pairwise (· ≤ ·) := by
  unfold els
  rw [List.pairwise_map]
  have := List.pairwise_lt_range (n := n)
  exact this.imp fun {a b} hab => by
    have : (a : Int) * s ≤ (b : Int) * s := Int.mul_le_mul_of_nonneg_right (by omega) (by omega)
    omega
theorem sort_els_up {f s : Int} (h : 0 < s) (n : Nat) : sortI (els f s n) = els f s n := (sortI_eq (List.Perm.refl _) (els_up h n)).symm
theorem sort_els_down {f s : Int} (h : s < 0) (n : Nat) : sortI (els f s n) = els (f + ((n : Int) - 1) * s) (-s) n := by
  refine (sortI_eq ?_ (els_up (by omega) n)).symm
  rw [← els_rev]
  exact List.reverse_perm _
/-! sizes of the same elements told otherwise -/
theorem sz_eq {f l s n : Int} (hs : s ≠ 0) (hn : 0 ≤ n) (h1 : 0 < n → (0 < s → f + (n - 1) * s ≤ l) ∧ (s < 0 → l ≤ f + (n - 1) * s)) (h2 : (0 < s → l < f + n * s) ∧ (s < 0 → f + n * s < l)) : sz f l s = n := by
  have a : ¬ n < sz f l s := fun q => by
    obtain ⟨u, v⟩ := (lt_sz hs hn).mp q
    by_cases h : 0 < s
    · have := u h; have := h2.1 h; omega
    · have := v (by omega); have := h2.2 (by omega); omega
  have b : ¬ sz f l s < n := fun q => by
    have h0 := sz_nonneg f l s
    have k := h1 (by omega)
    have := (lt_sz (f := f) (l := l) hs (show 0 ≤ n - 1 by omega)).mpr k
    omega
  omega
theorem sz_trim {f s n : Int} (hs : s ≠ 0) (hn : 0 < n) : sz f (f + (n - 1) * s) s = n := by
  refine sz_eq hs (by omega) (fun _ => ⟨fun _ => by omega, fun _ => by omega⟩) ⟨fun h => ?_, fun h => ?_⟩
  · rw [Int.sub_mul]; omega
  · rw [Int.sub_mul]; omega
theorem sz_back {f s n : Int} (hs : s ≠ 0) (hn : 0 < n) : sz (f + (n - 1) * s) f (-s) = n := by
  have e : f = f + (n - 1) * s + (n - 1) * (-s) := by rw [Int.mul_neg]; omega
  have := sz_trim (f := f + (n - 1) * s) (s := -s) (by omega) hn
  rw [← e] at this
  exact this
theorem sz_none : sz 0 (-1) 1 = 0 := by decide
theorem sz_self (f : Int) : sz f f 1 = 1 := by
  unfold sz
  rw [Int.fdiv_eq_ediv_of_nonneg _ (by decide)]
  omega
theorem sz_self' (f : Int) {s : Int} (hs : s ≠ 0) : sz f f s = 1 := by
  have := sz_trim (f := f) (n := 1) hs (by decide)
  rw [show f + ((1 : Int) - 1) * s = f by omega] at this
  exact this
/-- the normal form -/
def nr (f l s : Int) : List Int := if sz f l s = 0 then [0, -1, 1] else if sz f l s = 1 then [f, f, 1] else if 0 < s then [f, f + (sz f l s - 1) * s, s] else [f + (sz f l s - 1) * s, f, -s]
/-- turned about -/
def tn (f l s : Int) : List Int := if sz f l s = 0 then [0, -1, 1] else if sz f l s = 1 then [f, f, 1] else [f + (sz f l s - 1) * s, f, -s]
theorem nr_pos {f l s : Int} (h : 0 < s) : nr f l s = if sz f l s = 0 then [0, -1, 1] else if sz f l s = 1 then [f, f, 1] else [f, f + (sz f l s - 1) * s, s] := by
  unfold nr
  rw [if_pos h]
/-- the triple of a form -/
def A (x : List Int) : Int := x.getD 0 0
def B (x : List Int) : Int := x.getD 1 0
def C (x : List Int) : Int := x.getD 2 0
/-- the elements in rising order, by the normal form -/
theorem sort_nr {f l s : Int} (hs : s ≠ 0) : sortI (els f s (sz f l s).toNat) = els (A (nr f l s)) (C (nr f l s)) (sz (A (nr f l s)) (B (nr f l s)) (C (nr f l s))).toNat := by
  have h0 := sz_nonneg f l s
  unfold nr
  by_cases z0 : sz f l s = 0
  · simp [z0, A, B, C, sz_none, els_zero, sortI]
  · by_cases z1 : sz f l s = 1
    · simp [z1, A, B, C, sz_self, els_one, sortI]
    · by_cases hp : 0 < s
      · simp [z0, z1, hp, A, B, C]
        rw [sz_trim hs (by omega), sort_els_up hp]
      · simp [z0, z1, hp, A, B, C]
        rw [sz_back hs (by omega), sort_els_down (by omega)]
        rw [show (((sz f l s).toNat : Nat) : Int) = sz f l s by omega]
/-- how the law shows a row of elements -/
def shown (xs : List Int) : List Int := match xs with
  | [] => [0, -1, 1]
  | [x] => [x, x, 1]
  | x :: y :: r => [x, (y :: r).getLast (by simp), y - x]
theorem shown_els {f s : Int} {n : Nat} (h : 1 < n) : shown (els f s n) = [f, f + ((n : Int) - 1) * s, s] := by
  have e0 := els_get (f := f) (s := s) (show 0 < n by omega)
  have e1 := els_get (f := f) (s := s) (show 1 < n by omega)
  have el := els_get (f := f) (s := s) (show n - 1 < n by omega)
  have hlen := els_length f s n
  match hx : els f s n with
  | [] => rw [hx] at hlen; simp at hlen; omega
  | [x] => rw [hx] at hlen; simp at hlen; omega
  | x :: y :: r =>
    rw [hx] at e0 e1 el hlen
    simp at e0 e1 hlen
    unfold shown
    have hl : (y :: r).getLast (by simp) = f + ((n : Int) - 1) * s := by
      have := List.getLast?_eq_getElem? (l := y :: r)
      rw [List.getLast?_eq_some_getLast (by simp)] at this
      have h2 : (x :: y :: r)[n - 1]? = (y :: r)[(y :: r).length - 1]? := by
        rw [show n - 1 = ((y :: r).length - 1) + 1 by simp; omega, List.getElem?_cons_succ]
      rw [h2, ← this] at el
      have := Option.some.inj el
      rw [this, show ((n - 1 : Nat) : Int) = (n : Int) - 1 by omega]
    show [x, (y :: r).getLast (by simp), y - x] = _
    rw [hl, e0, e1]
    simp
    omega
theorem nr_shown {f l s : Int} (hs : s ≠ 0) : nr f l s = shown (sortI (els f s (sz f l s).toNat)) := by
  have h0 := sz_nonneg f l s
  rw [sort_nr hs]
  unfold nr
  by_cases z0 : sz f l s = 0
  · simp [z0, A, B, C, sz_none, els_zero, shown]
  · by_cases z1 : sz f l s = 1
    · simp [z1, A, B, C, sz_self, els_one, shown]
    · by_cases hp : 0 < s
      · simp [z0, z1, hp, A, B, C]
        rw [sz_trim hs (by omega), shown_els (by omega), show (((sz f l s).toNat : Nat) : Int) = sz f l s by omega]
      · simp [z0, z1, hp, A, B, C]
        rw [sz_back hs (by omega), shown_els (by omega), show (((sz f l s).toNat : Nat) : Int) = sz f l s by omega, Int.mul_neg]
        congr 2
        omega
theorem nr_sorted {f l s f' l' s' : Int} (hs : s ≠ 0) (hs' : s' ≠ 0) : nr f l s = nr f' l' s' ↔ sortI (els f s (sz f l s).toNat) = sortI (els f' s' (sz f' l' s').toNat) := by
  constructor
  · intro h
    rw [sort_nr hs, sort_nr hs', h]
  · intro h
    rw [nr_shown hs, nr_shown hs', h]
/-- the size by the normal form -/
theorem sz_nr {f l s : Int} (hs : s ≠ 0) : sz (A (nr f l s)) (B (nr f l s)) (C (nr f l s)) = sz f l s := by
  have h0 := sz_nonneg f l s
  unfold nr
  by_cases z0 : sz f l s = 0
  · simp [z0, A, B, C, sz_none]
  · by_cases z1 : sz f l s = 1
    · simp [z1, A, B, C, sz_self]
    · by_cases hp : 0 < s
      · simp [z0, z1, hp, A, B, C]
        exact sz_trim hs (by omega)
      · simp [z0, z1, hp, A, B, C]
        exact sz_back hs (by omega)
theorem nr_nr {f l s : Int} (hs : s ≠ 0) : nr (A (nr f l s)) (B (nr f l s)) (C (nr f l s)) = nr f l s := by
  have h0 := sz_nonneg f l s
  have e := sz_nr (f := f) (l := l) hs
  by_cases z0 : sz f l s = 0
  · rw [nr, e]; simp [nr, z0]
  · by_cases z1 : sz f l s = 1
    · rw [nr, e]; simp [nr, z1, A]
    · by_cases hp : 0 < s
      · rw [nr, e]; simp [nr, z0, z1, hp, A, B, C]
      · rw [nr, e]; simp [nr, z0, z1, hp, A, B, C, show (s < 0) by omega, Int.mul_neg]; omega
theorem sz_tn {f l s : Int} (hs : s ≠ 0) : sz (A (tn f l s)) (B (tn f l s)) (C (tn f l s)) = sz f l s := by
  have h0 := sz_nonneg f l s
  unfold tn
  by_cases z0 : sz f l s = 0
  · simp [z0, A, B, C, sz_none]
  · by_cases z1 : sz f l s = 1
    · simp [z1, A, B, C, sz_self]
    · simp [z0, z1, A, B, C]
      exact sz_back hs (by omega)
theorem nr_tn {f l s : Int} (hs : s ≠ 0) : nr (A (tn f l s)) (B (tn f l s)) (C (tn f l s)) = nr f l s := by
  have h0 := sz_nonneg f l s
  have e := sz_tn (f := f) (l := l) hs
  by_cases z0 : sz f l s = 0
  · rw [nr, e]; simp [nr, tn, z0]
  · by_cases z1 : sz f l s = 1
    · rw [nr, e]; simp [nr, tn, z1, A]
    · by_cases hp : 0 < s
      · rw [nr, e]; simp [nr, tn, z0, z1, hp, A, B, C, show ¬ s < 0 by omega, Int.mul_neg]; omega
      · rw [nr, e]; simp [nr, tn, z0, z1, hp, A, B, C, show s < 0 by omega, Int.mul_neg]; omega
theorem els_tn {f l s : Int} (hs : s ≠ 0) : els (A (tn f l s)) (C (tn f l s)) (sz f l s).toNat = (els f s (sz f l s).toNat).reverse := by
  have h0 := sz_nonneg f l s
  rw [els_rev]
  unfold tn
  by_cases z0 : sz f l s = 0
  · simp [z0, A, B, C, els_zero]
  · by_cases z1 : sz f l s = 1
    · simp [z1, A, B, C, els_one]
    · simp [z0, z1, A, B, C]
      rw [show max (sz f l s) 0 = sz f l s by omega]
theorem els_inj {f s f' s' : Int} {n n' : Nat} (h : els f s n = els f' s' n') : n = n' ∧ (0 < n → f = f') ∧ (1 < n → s = s') := by
  have hn : n = n' := by rw [← els_length f s n, h, els_length]
  subst hn
  refine ⟨rfl, fun h0 => ?_, fun h1 => ?_⟩
  · have a := els_get (f := f) (s := s) h0
    rw [h, els_get h0] at a
    simpa using a.symm
  · have a := els_get (f := f) (s := s) (show 0 < n by omega)
    rw [h, els_get (by omega)] at a
    have b := els_get (f := f) (s := s) h1
    rw [h, els_get h1] at b
    simp at a b
    omega
/-- the same run -/
theorem run_iff {f l s f' l' s' : Int} (hs : s ≠ 0) (hs' : s' ≠ 0) : (nr f l s = nr f' l' s' ∧ (sz f l s = 0 ∨ f = f')) ↔ els f s (sz f l s).toNat = els f' s' (sz f' l' s').toNat := by
  have h0 := sz_nonneg f l s
  have h0' := sz_nonneg f' l' s'
  constructor
  · rintro ⟨h1, h2⟩
    have hz : sz f l s = sz f' l' s' := by rw [← sz_nr hs, h1, sz_nr hs']
    rw [← hz]
    rcases h2 with h2 | h2
    · rw [h2]; rfl
    · subst h2
      by_cases z0 : sz f l s = 0
      · rw [z0]; rfl
      · by_cases z1 : sz f l s = 1
        · rw [z1]; simp [els_one]
        · have hss : s = s' := by
            unfold nr at h1
            rw [← hz] at h1
            simp only [z0, z1, if_false] at h1
            have p1 : 0 < s → 0 < (sz f l s - 1) * s := fun h => Int.mul_pos (by omega) h
            have p2 : s < 0 → (sz f l s - 1) * s < 0 := fun h => Int.mul_neg_of_pos_of_neg (by omega) h
            have p3 : 0 < s' → 0 < (sz f l s - 1) * s' := fun h => Int.mul_pos (by omega) h
            have p4 : s' < 0 → (sz f l s - 1) * s' < 0 := fun h => Int.mul_neg_of_pos_of_neg (by omega) h
            by_cases hp : 0 < s <;> by_cases hp' : 0 < s' <;> simp [hp, hp'] at h1 <;> omega
          rw [hss]
  · intro h
    obtain ⟨h1, h2, _⟩ := els_inj h
    refine ⟨(nr_sorted hs hs').mpr (by rw [h]), ?_⟩
    by_cases z : sz f l s = 0
    · exact .inl z
    · exact .inr (h2 (by omega))
theorem nr_none {f l s : Int} (hs : s ≠ 0) : nr f l s = [0, -1, 1] ↔ sz f l s = 0 := by
  constructor
  · intro h
    have e := sz_nr (f := f) (l := l) hs
    rw [h] at e
    rw [← e]
    decide
  · intro h
    simp [nr, h]
end TR

/-! TR3: shared elements. -/
namespace TR
open PL (sortI sortI_eq sortI_perm sortI_up up_unique)
theorem half_step {b r : Nat} (h0 : 0 < r) (h1 : r < b) : 2 * (b % r) < b := by
  by_cases h : 2 * r ≤ b
  · have := Nat.mod_lt b h0
    omega
  · have e : b % r = b - r := by
      rw [Nat.mod_eq_sub_mod (by omega), Nat.mod_eq_of_lt (by omega)]
    omega
/-- rising lists with the same members -/
theorem lt_ext : ∀ {xs ys : List Int}, xs.Pairwise (· < ·) → ys.Pairwise (· < ·) → (∀ x, x ∈ xs ↔ x ∈ ys) → xs = ys
  | [], [], _, _, _ => rfl
  | [], y :: ys, _, _, h => absurd ((h y).mpr List.mem_cons_self) (by simp)
  | x :: xs, [], _, _, h => absurd ((h x).mp List.mem_cons_self) (by simp)
  | x :: xs, y :: ys, hx, hy, h => by
    rw [List.pairwise_cons] at hx hy
    have e : x = y := by
      rcases List.mem_cons.mp ((h x).mp List.mem_cons_self) with a | a
      · exact a
      · rcases List.mem_cons.mp ((h y).mpr List.mem_cons_self) with b | b
        · exact b.symm
        · have := hx.1 y b
          have := hy.1 x a
          omega
    subst e
    rw [lt_ext hx.2 hy.2 fun z => ?_]
    constructor
    · intro hz
      rcases List.mem_cons.mp ((h z).mp (List.mem_cons_of_mem _ hz)) with a | a
      · have := hx.1 z hz
        omega
      · exact a
    · intro hz
      rcases List.mem_cons.mp ((h z).mpr (List.mem_cons_of_mem _ hz)) with a | a
      · have := hy.1 z hz
        omega
      · exact a
theorem els_lt {f s : Int} (h : 0 < s) (n : Nat) : (els f s n).Pairwise (· < ·) := by
  unfold els
  rw [List.pairwise_map]
  have := List.pairwise_lt_range (n := n)
  exact this.imp fun {a b} hab => by
    have : (a : Int) * s < (b : Int) * s := Int.mul_lt_mul_of_pos_right (by omega) h
    omega
/-- the elements of a rising triplet -/
theorem mem_sz {f l s x : Int} (hs : 0 < s) : x ∈ els f s (sz f l s).toNat ↔ f ≤ x ∧ x ≤ l ∧ s ∣ (x - f) := by
  have h0 := sz_nonneg f l s
  rw [mem_els]
  constructor
  · rintro ⟨j, hj, rfl⟩
    have := ((lt_sz (f := f) (l := l) (k := (j : Int)) (by omega) (by omega)).mp (by omega)).1 hs
    have : 0 ≤ (j : Int) * s := Int.mul_nonneg (by omega) (by omega)
    exact ⟨by omega, by omega, ⟨j, by rw [Int.mul_comm s]; omega⟩⟩
  · rintro ⟨h1, h2, k, hk⟩
    have k0 : 0 ≤ k := by
      by_cases q : 0 ≤ k
      · exact q
      · have : s * k < 0 := Int.mul_neg_of_pos_of_neg hs (by omega)
        omega
    have e : x = f + k * s := by rw [Int.mul_comm k]; omega
    have hk2 : k < sz f l s := (lt_sz (f := f) (l := l) (k := k) (by omega) k0).mpr ⟨fun _ => by omega, fun q => by omega⟩
    exact ⟨k.toNat, by omega, by rw [show ((k.toNat : Nat) : Int) = k by omega]; exact e⟩
/-- the elements, rising -/
def up (f l s : Int) : List Int := sortI (els f s (sz f l s).toNat)
theorem up_lt {f l s : Int} (hs : s ≠ 0) : (up f l s).Pairwise (· < ·) := by
  unfold up
  by_cases h : 0 < s
  · rw [sort_els_up h]; exact els_lt h _
  · rw [sort_els_down (by omega)]; exact els_lt (by omega) _
theorem up_pos {f l s : Int} (hs : 0 < s) : up f l s = els f s (sz f l s).toNat := sort_els_up hs _
theorem up_mem {f l s x : Int} : x ∈ up f l s ↔ x ∈ els f s (sz f l s).toNat := (sortI_perm _).mem_iff
theorem up_length {f l s : Int} : (up f l s).length = (sz f l s).toNat := by rw [up, (sortI_perm _).length_eq, els_length]
theorem nr_up {f l s f' l' s' : Int} (hs : s ≠ 0) (hs' : s' ≠ 0) : nr f l s = nr f' l' s' ↔ up f l s = up f' l' s' := nr_sorted hs hs'
theorem nr_shown' {f l s : Int} (hs : s ≠ 0) : nr f l s = shown (up f l s) := nr_shown hs
/-- the shared elements, rising -/
def cm (f l s f' l' s' : Int) : List Int := (up f l s).filter fun x => decide (x ∈ els f' s' (sz f' l' s').toNat)
theorem cm_lt {f l s f' l' s' : Int} (hs : s ≠ 0) : (cm f l s f' l' s').Pairwise (· < ·) := (up_lt hs).filter _
theorem cm_mem {f l s f' l' s' x : Int} : x ∈ cm f l s f' l' s' ↔ x ∈ els f s (sz f l s).toNat ∧ x ∈ els f' s' (sz f' l' s').toNat := by
  unfold cm
  rw [List.mem_filter, up_mem]
  simp
theorem cm_comm {f l s f' l' s' : Int} (hs : s ≠ 0) (hs' : s' ≠ 0) : cm f l s f' l' s' = cm f' l' s' f l s := lt_ext (cm_lt hs) (cm_lt hs') fun x => by rw [cm_mem, cm_mem]; exact And.comm
theorem cm_all {f l s f' l' s' : Int} : cm f l s f' l' s' = up f l s ↔ (cm f l s f' l' s').length = (up f l s).length := by
  constructor
  · intro h; rw [h]
  · intro h
    exact List.filter_sublist.eq_of_length h
/-- shared elements of two normal forms are those of the triplets -/
theorem els_nr {f l s x : Int} (hs : s ≠ 0) : x ∈ els f s (sz f l s).toNat ↔ x ∈ els (A (nr f l s)) (C (nr f l s)) (sz (A (nr f l s)) (B (nr f l s)) (C (nr f l s))).toNat := by
  rw [← sort_nr hs]
  exact (sortI_perm _).mem_iff.symm
theorem nr_C {f l s : Int} (hs : s ≠ 0) : 0 < C (nr f l s) := by
  have h0 := sz_nonneg f l s
  unfold nr
  by_cases z0 : sz f l s = 0
  · simp [z0, C]
  · by_cases z1 : sz f l s = 1
    · simp [z1, C]
    · by_cases hp : 0 < s
      · simp [z0, z1, hp, C]
      · simp [z0, z1, hp, C]
        omega
theorem cm_nr {f l s f' l' s' : Int} (hs : s ≠ 0) (hs' : s' ≠ 0) : cm (A (nr f l s)) (B (nr f l s)) (C (nr f l s)) (A (nr f' l' s')) (B (nr f' l' s')) (C (nr f' l' s')) = cm f l s f' l' s' :=
  lt_ext (cm_lt (by have := nr_C (f := f) (l := l) hs; omega)) (cm_lt hs) fun x => by rw [cm_mem, cm_mem, ← els_nr hs, ← els_nr hs']
/-! ### congruences -/
theorem dvd_fmod {a b c : Int} (h : c ∣ b) (hb : 0 < b) : c ∣ (a - a.fmod b) := by
  rw [Int.fmod_eq_emod_of_nonneg _ (by omega)]
  have := Int.emod_add_mul_ediv a b
  exact Int.dvd_trans h ⟨a / b, by omega⟩
/-- two rising rows with a meeting x of period L: what they share -/
theorem met_mem {f l s f' l' s' x L : Int} (hs : 0 < s) (hs' : 0 < s') (hL : 0 < L) (x1 : s ∣ (x - f)) (x2 : s' ∣ (x - f')) (d1 : s ∣ L) (d2 : s' ∣ L) (dl : ∀ y, s ∣ y → s' ∣ y → L ∣ y) (y : Int) :
    (y ∈ els f s (sz f l s).toNat ∧ y ∈ els f' s' (sz f' l' s').toNat) ↔ y ∈ els (max f f' + (x - max f f').fmod L) L (sz (max f f' + (x - max f f').fmod L) (min l l') L).toNat := by
  rw [mem_sz hs, mem_sz hs', mem_sz hL]
  have e := dvd_fmod (a := x - max f f') (b := L) (Int.dvd_refl L) hL
  have r1 : 0 ≤ (x - max f f').fmod L ∧ (x - max f f').fmod L < L := by
    rw [Int.fmod_eq_emod_of_nonneg _ (by omega)]
    exact ⟨Int.emod_nonneg _ (by omega), Int.emod_lt_of_pos _ hL⟩
  generalize hst : max f f' + (x - max f f').fmod L = st
  have e2 : L ∣ (x - st) := by
    obtain ⟨k, hk⟩ := e
    exact ⟨k, by omega⟩
  constructor
  · rintro ⟨⟨a1, a2, a3⟩, b1, b2, b3⟩
    have hd : L ∣ (y - st) := by
      have k1 : s ∣ (y - x) := by
        have := Int.dvd_sub a3 x1
        rw [show y - f - (x - f) = y - x by omega] at this
        exact this
      have k2 : s' ∣ (y - x) := by
        have := Int.dvd_sub b3 x2
        rw [show y - f' - (x - f') = y - x by omega] at this
        exact this
      have := Int.dvd_add (dl _ k1 k2) e2
      rw [show y - x + (x - st) = y - st by omega] at this
      exact this
    refine ⟨?_, by omega, hd⟩
    obtain ⟨k, hk⟩ := hd
    by_cases q : 0 ≤ k
    · have : 0 ≤ L * k := Int.mul_nonneg (by omega) q
      omega
    · have : L * k ≤ L * (-1) := Int.mul_le_mul_of_nonneg_left (by omega) (by omega)
      omega
  · rintro ⟨a1, a2, a3⟩
    have k1 : s ∣ (y - f) := by
      have := Int.dvd_add (Int.dvd_sub (Int.dvd_trans d1 a3) (Int.dvd_trans d1 e2)) x1
      rw [show y - st - (x - st) + (x - f) = y - f by omega] at this
      exact this
    have k2 : s' ∣ (y - f') := by
      have := Int.dvd_add (Int.dvd_sub (Int.dvd_trans d2 a3) (Int.dvd_trans d2 e2)) x2
      rw [show y - st - (x - st) + (x - f') = y - f' by omega] at this
      exact this
    exact ⟨⟨by omega, by omega, k1⟩, by omega, by omega, k2⟩
/-- the least common multiple -/
theorem lcm_dvd {s s' y : Int} (h1 : s ∣ y) (h2 : s' ∣ y) : (Int.lcm s s' : Int) ∣ y := by
  have := Nat.lcm_dvd (Int.natAbs_dvd_natAbs.mpr h1) (Int.natAbs_dvd_natAbs.mpr h2)
  exact Int.ofNat_dvd_left.mpr this
theorem gcd_none {s s' f f' : Int} (h : ¬ (Int.gcd s s' : Int) ∣ (f' - f)) (l l' y : Int) (hs : 0 < s) (hs' : 0 < s') : ¬ (y ∈ els f s (sz f l s).toNat ∧ y ∈ els f' s' (sz f' l' s').toNat) := by
  rw [mem_sz hs, mem_sz hs']
  rintro ⟨⟨_, _, a⟩, _, _, b⟩
  apply h
  have g1 : (Int.gcd s s' : Int) ∣ (y - f) := Int.dvd_trans (Int.gcd_dvd_left ..) a
  have g2 : (Int.gcd s s' : Int) ∣ (y - f') := Int.dvd_trans (Int.gcd_dvd_right ..) b
  have := Int.dvd_sub g1 g2
  rw [show y - f - (y - f') = f' - f by omega] at this
  exact this
end TR

/-! TR4: shared elements as a triplet. -/
namespace TR
open PL (sortI sortI_eq sortI_perm sortI_up up_unique)
theorem cm_up_pos {f l s f' l' s' : Int} (hs : 0 < s) (hs' : 0 < s') : ∃ a b c, 0 < c ∧ cm f l s f' l' s' = up a b c := by
  match hx : cm f l s f' l' s' with
  | [] => exact ⟨0, -1, 1, by decide, by rw [up, sz_none]; simp [els_zero, sortI]⟩
  | x :: r =>
    have hm : x ∈ cm f l s f' l' s' := by rw [hx]; exact List.mem_cons_self
    obtain ⟨m1, m2⟩ := cm_mem.mp hm
    have L0 : 0 < Int.lcm s s' := Int.lcm_pos (by omega) (by omega)
    have mm := met_mem (f := f) (l := l) (f' := f') (l' := l') (x := x) (L := (Int.lcm s s' : Int)) hs hs' (by omega) ((mem_sz hs).mp m1).2.2 ((mem_sz hs').mp m2).2.2 (Int.dvd_lcm_left ..) (Int.dvd_lcm_right ..) (fun y a b => lcm_dvd a b)
    refine ⟨max f f' + (x - max f f').fmod (Int.lcm s s' : Int), min l l', (Int.lcm s s' : Int), by omega, ?_⟩
    rw [← hx]
    exact lt_ext (cm_lt (by omega)) (up_lt (by omega)) fun y => by rw [cm_mem, up_mem]; exact mm y
theorem cm_up {f l s f' l' s' : Int} (hs : s ≠ 0) (hs' : s' ≠ 0) : ∃ a b c, 0 < c ∧ cm f l s f' l' s' = up a b c := by
  rw [← cm_nr hs hs']
  exact cm_up_pos (nr_C hs) (nr_C hs')
/-- the one lies within the other -/
theorem lies_iff {f l s f' l' s' : Int} (hs : s ≠ 0) (hs' : s' ≠ 0) : shown (cm f l s f' l' s') = nr f l s ↔ (cm f l s f' l' s').length = (sz f l s).toNat := by
  obtain ⟨a, b, c, hc, e⟩ := cm_up (f := f) (l := l) (f' := f') (l' := l') hs hs'
  rw [← up_length, ← cm_all, e, ← nr_shown' (show c ≠ 0 by omega)]
  exact nr_up (by omega) hs
/-- a row and the same with its elements told otherwise -/
theorem cm_same {f l s f' l' s' a b c : Int} (hs : s ≠ 0) (hc : c ≠ 0) (h : ∀ y, y ∈ els f s (sz f l s).toNat ↔ y ∈ els a c (sz a b c).toNat) : cm f l s f' l' s' = cm a b c f' l' s' :=
  lt_ext (cm_lt hs) (cm_lt hc) fun y => by rw [cm_mem, cm_mem, h y]
/-- shared elements with oneself's part -/
theorem cm_sub {f l s f' l' s' a b c : Int} (hs : s ≠ 0) (hs' : s' ≠ 0) (hc : 0 < c) (h : cm f l s f' l' s' = up a b c) : cm a b c f l s = up a b c ∧ cm a b c f' l' s' = up a b c := by
  constructor
  · refine lt_ext (cm_lt (by omega)) (up_lt (by omega)) fun y => ?_
    rw [cm_mem, ← up_mem (f := a), ← h, cm_mem]
    exact ⟨fun q => q.1, fun q => ⟨q, q.1⟩⟩
  · refine lt_ext (cm_lt (by omega)) (up_lt (by omega)) fun y => ?_
    rw [cm_mem, ← up_mem (f := a), ← h, cm_mem]
    exact ⟨fun q => q.1, fun q => ⟨q, q.2⟩⟩
/-- the least common multiple as the law finds it -/
theorem lcm_least {s s' : Int} (hs : 0 < s) (hs' : 0 < s') {k : Nat} (hk : 0 < k) (h1 : s' ∣ ((k : Int) * s)) (h2 : ∀ i : Nat, 0 < i → i < k → ¬ s' ∣ ((i : Int) * s)) (y : Int) (y1 : s ∣ y) (y2 : s' ∣ y) : ((k : Int) * s) ∣ y := by
  obtain ⟨z, rfl⟩ := y1
  have hk0 : (k : Int) ≠ 0 := by omega
  have e := Int.emod_add_mul_ediv z (k : Int)
  have r0 := Int.emod_nonneg z hk0
  have r1 := Int.emod_lt_of_pos z (show (0 : Int) < k by omega)
  have hd : s' ∣ ((z % (k : Int)) * s) := by
    have a : s' ∣ ((k : Int) * s * (z / (k : Int))) := Int.dvd_trans h1 ⟨_, rfl⟩
    have b := Int.dvd_sub y2 a
    have e2 : s * z - (k : Int) * s * (z / (k : Int)) = (z % (k : Int)) * s := by
      have : z % (k : Int) = z - (k : Int) * (z / (k : Int)) := by omega
      rw [this, Int.sub_mul, Int.mul_comm s z, Int.mul_assoc, Int.mul_assoc, Int.mul_comm s]
    rw [e2] at b
    exact b
  by_cases q : z % (k : Int) = 0
  · exact ⟨z / (k : Int), by
      have : z = (k : Int) * (z / (k : Int)) := by omega
      rw [Int.mul_comm (k : Int) s, Int.mul_assoc, ← this]⟩
  · exfalso
    refine h2 (z % (k : Int)).toNat (by omega) (by omega) ?_
    rw [show (((z % (k : Int)).toNat : Nat) : Int) = z % (k : Int) by omega]
    exact hd
end TR

namespace G
open PySem PySem.Spec PyProof.Rows L2 PL
def den__law_well : DS := (dRet (dA mkOwn (dCons (d2 mulV (dA absV' (dCons (dVar 0) dNil)) (dA intV (dCons (d2 geV (dA absV' (dCons (dVar 0) dNil)) (d2 powV (dC (.int 10)) (dC (.int 18)))) dNil))) (dCons (d2 modV (dA intV (dCons (dA absV' (dCons (dVar 0) dNil)) dNil)) (dC (.int 2147483563))) (dCons (dC (.int 0)) dNil)))))
def F__law_well : List SV → PL.P SV := fnRun 1 exitO den__law_well
def den_is_whole : DS := (dRet (dAndV (d1 (isiV ["int"]) (dVar 0)) (dNotV (d1 (isiV ["bool"]) (dVar 0)))))
def F_is_whole : List SV → PL.P SV := fnRun 1 exitV den_is_whole
def den_is_between : DS := (dRet (dAndV (dA (chk 1 F_is_whole) (dCons (dVar 0) dNil)) (dCh leV leV (dVar 1) (dVar 0) (dVar 2))))
def F_is_between : List SV → PL.P SV := fnRun 3 exitV den_is_between
def ce1_is_triplet : En → PL.P SV := (dA (chk 3 F_is_between) (dCons (dVar 1) (dCons (d1 negV (dC (.int 1000000000000000000000000000000))) (dCons (dC (.int 1000000000000000000000000000000)) dNil))))
def den_is_triplet : DS := (dSeq (dIfS (dOrT (dNotT (dTr (d1 (isiV ["tuple"]) (dVar 0)))) (dOrT (dB (d2 neV (dA lenV (dCons (dVar 0) dNil)) (dC (.int 3)))) (dNotT (dTr (dA allV (dCons (dLc [1] (dIt (dVar 0)) (gN 1) dYes ce1_is_triplet) dNil)))))) (dRet (dC (.bl false))) dNx) (dRet (d2 neV (d2 ixV (dVar 0) (dC (.int 2))) (dC (.int 0)))))
def F_is_triplet : List SV → PL.P SV := fnRun 2 exitV den_is_triplet
def den_check_triplet : DS := (dIfS (dNotT (dTr (dA (chk 1 F_is_triplet) (dCons (dVar 0) dNil)))) dNever dNx)
def F_check_triplet : List SV → PL.P SV := fnRun 2 exitV den_check_triplet
def den_check_two_triplets : DS := (dSeq (dDrop (dA (chk 2 F_check_triplet) (dCons (dVar 0) (dCons (dC (.str "one")) dNil)))) (dDrop (dA (chk 2 F_check_triplet) (dCons (dVar 1) (dCons (dC (.str "other")) dNil)))))
def F_check_two_triplets : List SV → PL.P SV := fnRun 2 exitV den_check_two_triplets
def den_many_in : DS := (dRet (dA max2V (dCons (dC (.int 0)) (dCons (d2 fdivV (d2 addV (d2 subV (d2 ixV (dVar 0) (dC (.int 1))) (d2 ixV (dVar 0) (dC (.int 0)))) (d2 ixV (dVar 0) (dC (.int 2)))) (d2 ixV (dVar 0) (dC (.int 2)))) dNil))))
def F_many_in : List SV → PL.P SV := fnRun 1 exitV den_many_in
def den_trimmed : DS := (dSeq (dSet 3 (d2 addV (d2 fdivV (d2 subV (dVar 1) (dVar 0)) (dVar 2)) (dC (.int 1)))) (dSeq (dIfS (dB (d2 ltV (dVar 3) (dC (.int 1)))) (dRet (dC (.tup [.int 0, .int (-1), .int 1]))) dNx) (dRet (dIf (dB (d2 eqV (dVar 3) (dC (.int 1)))) (dA mkTup (dCons (dVar 0) (dCons (dVar 0) (dCons (dC (.int 1)) dNil)))) (dA mkTup (dCons (dVar 0) (dCons (d2 addV (dVar 0) (d2 mulV (d2 subV (dVar 3) (dC (.int 1))) (dVar 2))) (dCons (dVar 2) dNil))))))))
def F_trimmed : List SV → PL.P SV := fnRun 4 exitV den_trimmed
def den_normal_of : DS := (dSeq (dAsg (dVar 0) (gT 3 (gsC (gN 1) (gsC (gN 2) (gsC (gN 3) gsN))))) (dSeq (dIfS (dB (d2 gtV (dVar 3) (dC (.int 0)))) (dRet (dA (chk 3 F_trimmed) (dCons (dVar 1) (dCons (dVar 2) (dCons (dVar 3) dNil))))) dNx) (dSeq (dSet 4 (dA (chk 1 F_many_in) (dCons (dVar 0) dNil))) (dRet (dIf (dB (d2 gtV (dVar 4) (dC (.int 0)))) (dA (chk 3 F_trimmed) (dCons (d2 addV (dVar 1) (d2 mulV (d2 subV (dVar 4) (dC (.int 1))) (dVar 3))) (dCons (dVar 1) (dCons (d1 negV (dVar 3)) dNil)))) (dC (.tup [.int 0, .int (-1), .int 1])))))))
def F_normal_of : List SV → PL.P SV := fnRun 5 exitV den_normal_of
def lp1_gcd : DS := (dPar 0 1 (dCons (dVar 1) (dCons (d2 modV (dVar 0) (dVar 1)) dNil)))
def ts2_gcd : En → PL.P Bool := (dB (d2 neV (dVar 1) (dC (.int 0))))
def den_gcd : DS := (dSeq (dWhile 1000 ts2_gcd lp1_gcd) (dRet (dA absV' (dCons (dVar 0) dNil))))
def F_gcd : List SV → PL.P SV := fnRun 2 exitV den_gcd
def den_lcm : DS := (dRet (d2 fdivV (dA absV' (dCons (d2 mulV (dVar 0) (dVar 1)) dNil)) (dA (chk 2 F_gcd) (dCons (dVar 0) (dCons (dVar 1) dNil)))))
def F_lcm : List SV → PL.P SV := fnRun 2 exitV den_lcm
def lp1_inverse : DS := (dSeq (dSet 6 (d2 fdivV (dVar 2) (dVar 3))) (dSeq (dPar 2 3 (dCons (dVar 3) (dCons (d2 subV (dVar 2) (d2 mulV (dVar 6) (dVar 3))) dNil))) (dPar 4 5 (dCons (dVar 5) (dCons (d2 subV (dVar 4) (d2 mulV (dVar 6) (dVar 5))) dNil)))))
def ts2_inverse : En → PL.P Bool := (dB (d2 neV (dVar 3) (dC (.int 0))))
def den_inverse : DS := (dSeq (dAsg (dA mkTup (dCons (d2 modV (dVar 0) (dVar 1)) (dCons (dVar 1) (dCons (dC (.int 1)) (dCons (dC (.int 0)) dNil))))) (gT 4 (gsC (gN 2) (gsC (gN 3) (gsC (gN 4) (gsC (gN 5) gsN)))))) (dSeq (dWhile 1000 ts2_inverse lp1_inverse) (dRet (d2 modV (dVar 4) (dVar 1)))))
def F_inverse : List SV → PL.P SV := fnRun 7 exitV den_inverse
def den_meeting : DS := (dSeq (dSet 4 (dA (chk 2 F_gcd) (dCons (dVar 1) (dCons (dVar 3) dNil)))) (dSeq (dIfS (dB (d2 neV (d2 modV (d2 subV (dVar 2) (dVar 0)) (dVar 4)) (dC (.int 0)))) (dRet (dC .non)) dNx) (dSeq (dSet 5 (dA (chk 2 F_lcm) (dCons (dVar 1) (dCons (dVar 3) dNil)))) (dSeq (dSet 6 (d2 fdivV (dVar 3) (dVar 4))) (dSeq (dSet 7 (dIf (dB (d2 gtV (dVar 6) (dC (.int 1)))) (d2 modV (d2 mulV (d2 fdivV (d2 subV (dVar 2) (dVar 0)) (dVar 4)) (dA (chk 2 F_inverse) (dCons (d2 fdivV (dVar 1) (dVar 4)) (dCons (dVar 6) dNil)))) (dVar 6)) (dC (.int 0)))) (dRet (dA mkTup (dCons (d2 modV (d2 addV (dVar 0) (d2 mulV (dVar 7) (dVar 1))) (dVar 5)) (dCons (dVar 5) dNil)))))))))
def F_meeting : List SV → PL.P SV := fnRun 8 exitV den_meeting
def den_met_in : DS := (dSeq (dSet 2 (dA (chk 4 F_meeting) (dCons (d2 ixV (dVar 0) (dC (.int 0))) (dCons (d2 ixV (dVar 0) (dC (.int 2))) (dCons (d2 ixV (dVar 1) (dC (.int 0))) (dCons (d2 ixV (dVar 1) (dC (.int 2))) dNil)))))) (dSeq (dIfS (dOrT (dB (d2 isNV (dVar 2) (dC .non))) (dOrT (dB (d2 eqV (dVar 0) (dC (.tup [.int 0, .int (-1), .int 1])))) (dB (d2 eqV (dVar 1) (dC (.tup [.int 0, .int (-1), .int 1])))))) (dRet (dC (.tup [.int 0, .int (-1), .int 1]))) dNx) (dSeq (dSet 3 (dA max2V (dCons (d2 ixV (dVar 0) (dC (.int 0))) (dCons (d2 ixV (dVar 1) (dC (.int 0))) dNil)))) (dRet (dA (chk 3 F_trimmed) (dCons (d2 addV (dVar 3) (d2 modV (d2 subV (d2 ixV (dVar 2) (dC (.int 0))) (dVar 3)) (d2 ixV (dVar 2) (dC (.int 1))))) (dCons (dA min2V (dCons (d2 ixV (dVar 0) (dC (.int 1))) (dCons (d2 ixV (dVar 1) (dC (.int 1))) dNil))) (dCons (d2 ixV (dVar 2) (dC (.int 1))) dNil))))))))
def F_met_in : List SV → PL.P SV := fnRun 4 exitV den_met_in
def den_met : DS := (dSeq (dDrop (dA (chk 2 F_check_two_triplets) (dCons (dVar 0) (dCons (dVar 1) dNil)))) (dRet (dA (chk 2 F_met_in) (dCons (dA (chk 1 F_normal_of) (dCons (dVar 0) dNil)) (dCons (dA (chk 1 F_normal_of) (dCons (dVar 1) dNil)) dNil)))))
def F_met : List SV → PL.P SV := fnRun 2 exitV den_met
def den_lies_in : DS := (dSeq (dDrop (dA (chk 2 F_check_two_triplets) (dCons (dVar 0) (dCons (dVar 1) dNil)))) (dRet (d2 eqV (dA (chk 2 F_met_in) (dCons (dA (chk 1 F_normal_of) (dCons (dVar 0) dNil)) (dCons (dA (chk 1 F_normal_of) (dCons (dVar 1) dNil)) dNil))) (dA (chk 1 F_normal_of) (dCons (dVar 0) dNil)))))
def F_lies_in : List SV → PL.P SV := fnRun 2 exitV den_lies_in
def lp1__law_members : DS := (dSeq (dSet 3 (d2 addV (d2 ixV (dVar 0) (dC (.int 0))) (d2 mulV (dVar 2) (d2 ixV (dVar 0) (dC (.int 2)))))) (dSeq (dIfS (dOrT (dAndT (dB (d2 gtV (d2 ixV (dVar 0) (dC (.int 2))) (dC (.int 0)))) (dB (d2 gtV (dVar 3) (d2 ixV (dVar 0) (dC (.int 1)))))) (dAndT (dB (d2 ltV (d2 ixV (dVar 0) (dC (.int 2))) (dC (.int 0)))) (dB (d2 ltV (dVar 3) (d2 ixV (dVar 0) (dC (.int 1))))))) (dRet (dVar 1)) dNx) (dApp (dVar 1) (dVar 3))))
def den__law_members : DS := (dSeq (dSet 1 (dA mkOwn dNil)) (dSeq (dFor (dAI rng1V (dCons (dC (.int 200)) dNil)) (gN 2) lp1__law_members) (dRet (dVar 1))))
def F__law_members : List SV → PL.P SV := fnRun 4 exitV den__law_members
def den__law_draw : DS := (dSeq (dIfS (dB (d2 gtV (d2 ixV (dVar 0) (dC (.int 0))) (dC (.int 0)))) (dSeq (dSet 2 (d2 modV (dA intV (dCons (d2 ixV (dVar 0) (dC (.int 0))) dNil)) (dVar 1))) (dSeq (dSetIx (dVar 0) (dC (.int 0)) (d2 fdivV (d2 ixV (dVar 0) (dC (.int 0))) (dVar 1))) (dRet (dVar 2)))) dNx) (dSeq (dSetIx (dVar 0) (dC (.int 2)) (d2 addV (d2 ixV (dVar 0) (dC (.int 2))) (dC (.int 1)))) (dSeq (dSet 3 (d2 modV (dA intV (dCons (d2 mulV (d2 addV (d2 addV (d2 ixV (dVar 0) (dC (.int 1))) (d2 mulV (dC (.int 50021)) (d2 ixV (dVar 0) (dC (.int 2))))) (dC (.int 73))) (dC (.int 40692))) dNil)) (dC (.int 2147483629)))) (dSeq (dSet 3 (d2 modV (dA intV (dCons (d2 mulV (dVar 3) (d2 addV (d2 fdivV (dVar 3) (dC (.int 1031))) (dC (.int 69621)))) dNil)) (dC (.int 2147483579)))) (dRet (d2 modV (dA intV (dCons (d2 fdivV (d2 modV (dA intV (dCons (d2 mulV (dVar 3) (d2 addV (d2 fdivV (dVar 3) (dC (.int 2017))) (dC (.int 48271)))) dNil)) (dC (.int 2147483549))) (dC (.int 13))) dNil)) (dVar 1)))))))
def F__law_draw : List SV → PL.P SV := fnRun 4 exitV den__law_draw
def den__law_pick : DS := (dRet (d2 ixV (dVar 1) (dA (chk 2 F__law_draw) (dCons (dVar 0) (dCons (dA lenV (dCons (dVar 1) dNil)) dNil)))))
def F__law_pick : List SV → PL.P SV := fnRun 2 exitV den__law_pick
def den__law_near : DS := (dSeq (dSet 1 (d2 addV (dC (.int 1)) (dA (chk 2 F__law_pick) (dCons (dVar 0) (dCons (dA mkLst (dCons (dC (.int 0)) (dCons (dC (.int 0)) (dCons (dC (.int 1)) (dCons (dC (.int 2)) (dCons (dC (.int 3)) (dCons (dC (.int 4)) (dCons (dC (.int 5)) (dCons (dC (.int 8)) dNil))))))))) dNil))))) (dSeq (dSet 2 (d2 subV (dA (chk 2 F__law_draw) (dCons (dVar 0) (dCons (dC (.int 41)) dNil))) (dC (.int 20)))) (dSeq (dSet 3 (d2 subV (d2 addV (dVar 2) (dA (chk 2 F__law_draw) (dCons (dVar 0) (dCons (dC (.int 61)) dNil)))) (dC (.int 20)))) (dRet (dIf (dB (d2 eqV (dA (chk 2 F__law_draw) (dCons (dVar 0) (dCons (dC (.int 2)) dNil))) (dC (.int 0)))) (dA mkTup (dCons (dVar 2) (dCons (dVar 3) (dCons (dVar 1) dNil)))) (dA mkTup (dCons (dVar 3) (dCons (dVar 2) (dCons (d2 subV (dC (.int 0)) (dVar 1)) dNil)))))))))
def F__law_near : List SV → PL.P SV := fnRun 4 exitV den__law_near
def den__law_shown : DS := (dSeq (dIfS (dB (d2 eqV (dVar 0) (dA mkLst dNil))) (dRet (dA mkTup (dCons (dC (.int 0)) (dCons (d1 negV (dC (.int 1))) (dCons (dC (.int 1)) dNil))))) dNx) (dRet (dA mkTup (dCons (d2 ixV (dVar 0) (dC (.int 0))) (dCons (d2 ixV (dVar 0) (d1 negV (dC (.int 1)))) (dCons (dIf (dB (d2 gtV (dA lenV (dCons (dVar 0) dNil)) (dC (.int 1)))) (d2 subV (d2 ixV (dVar 0) (dC (.int 1))) (d2 ixV (dVar 0) (dC (.int 0)))) (dC (.int 1))) dNil))))))
def F__law_shown : List SV → PL.P SV := fnRun 1 exitV den__law_shown
def ce1__law_near_right : En → PL.P SV := (dVar 6)
def ct2__law_near_right : En → PL.P Bool := (dB (d2 inSV (dVar 6) (dVar 4)))
def den__law_near_right : DS := (dSeq (dPar 1 2 (dCons (dA (chk 1 F__law_near) (dCons (dVar 0) dNil)) (dCons (dA (chk 1 F__law_near) (dCons (dVar 0) dNil)) dNil))) (dSeq (dAsg (dA mkTup (dCons (dA (chk 1 F__law_members) (dCons (dVar 1) dNil)) (dCons (dA (chk 1 F__law_members) (dCons (dVar 2) dNil)) dNil))) (gT 2 (gsC (gN 3) (gsC (gN 4) gsN)))) (dSeq (dSet 5 (dLc [6] (dIt (dA (sortedV false) (dCons (dVar 3) dNil))) (gN 6) ct2__law_near_right ce1__law_near_right)) (dSeq (dIfS (dOrT (dB (d2 neV (dA (chk 2 F_met) (dCons (dVar 1) (dCons (dVar 2) dNil))) (dA (chk 1 F__law_shown) (dCons (dVar 5) dNil)))) (dB (d2 neV (dA (chk 2 F_met) (dCons (dVar 2) (dCons (dVar 1) dNil))) (dA (chk 1 F__law_shown) (dCons (dVar 5) dNil))))) (dRet (dC (.bl false))) dNx) (dRet (d2 eqV (dA mkLst (dCons (dA (chk 2 F_lies_in) (dCons (dVar 1) (dCons (dVar 2) dNil))) (dCons (dA (chk 2 F_lies_in) (dCons (dVar 2) (dCons (dVar 1) dNil))) dNil))) (dA mkLst (dCons (d2 eqV (dA lenV (dCons (dVar 5) dNil)) (dA lenV (dCons (dVar 3) dNil))) (dCons (d2 eqV (dA lenV (dCons (dVar 5) dNil)) (dA lenV (dCons (dVar 4) dNil))) dNil)))))))))
def F__law_near_right : List SV → PL.P SV := fnRun 7 exitV den__law_near_right
def den__law_count : DS := (dSeq (dSet 1 (dIf (dB (d2 gtV (d2 ixV (dVar 0) (dC (.int 2))) (dC (.int 0)))) (d2 subV (d2 ixV (dVar 0) (dC (.int 1))) (d2 ixV (dVar 0) (dC (.int 0)))) (d2 subV (d2 ixV (dVar 0) (dC (.int 0))) (d2 ixV (dVar 0) (dC (.int 1)))))) (dRet (dIf (dB (d2 geV (dVar 1) (dC (.int 0)))) (d2 addV (d2 fdivV (dVar 1) (dA absV' (dCons (d2 ixV (dVar 0) (dC (.int 2))) dNil))) (dC (.int 1))) (dC (.int 0)))))
def F__law_count : List SV → PL.P SV := fnRun 2 exitV den__law_count
def den__law_far_trio : DS := (dSeq (dSet 3 (d2 mulV (dVar 2) (d2 addV (dC (.int 1)) (dA (chk 2 F__law_draw) (dCons (dVar 0) (dCons (dC (.int 60)) dNil)))))) (dSeq (dSet 4 (d2 addV (d2 addV (dVar 1) (d2 mulV (dVar 2) (d2 subV (dA (chk 2 F__law_draw) (dCons (dVar 0) (dCons (d2 powV (dC (.int 10)) (dC (.int 6))) dNil))) (d2 mulV (dC (.int 5)) (d2 powV (dC (.int 10)) (dC (.int 5))))))) (dA (chk 2 F__law_pick) (dCons (dVar 0) (dCons (dA mkLst (dCons (dC (.int 0)) (dCons (dC (.int 0)) (dCons (dC (.int 0)) (dCons (dC (.int 1)) dNil))))) dNil))))) (dSeq (dSet 5 (d2 addV (dC (.int 1)) (dA (chk 2 F__law_pick) (dCons (dVar 0) (dCons (dA mkLst (dCons (dC (.int 0)) (dCons (dC (.int 1)) (dCons (dC (.int 5)) (dCons (dC (.int 100)) (dCons (d2 powV (dC (.int 10)) (dC (.int 9))) (dCons (d2 powV (dC (.int 10)) (dC (.int 12))) dNil))))))) dNil))))) (dRet (dA mkTup (dCons (dVar 4) (dCons (dA min2V (dCons (d2 powV (dC (.int 10)) (dC (.int 30))) (dCons (d2 addV (d2 addV (dVar 4) (d2 mulV (d2 subV (dVar 5) (dC (.int 1))) (dVar 3))) (dA (chk 2 F__law_draw) (dCons (dVar 0) (dCons (dVar 3) dNil)))) dNil))) (dCons (dVar 3) dNil))))))))
def F__law_far_trio : List SV → PL.P SV := fnRun 6 exitV den__law_far_trio
def lp1__law_found : DS := (dSeq (dIfS (dB (d2 eqV (d2 modV (d2 subV (dVar 2) (d2 ixV (dVar 1) (dC (.int 0)))) (d2 ixV (dVar 1) (dC (.int 2)))) (dC (.int 0)))) dBk dNx) (dSet 2 (d2 addV (dVar 2) (d2 ixV (dVar 0) (dC (.int 2))))))
def lp2__law_found : DS := (dIfS (dB (d2 neV (d2 modV (dA intV (dCons (dVar 5) dNil)) (d2 ixV (dVar 1) (dC (.int 2)))) (dC (.int 0)))) (dSet 5 (d2 addV (dVar 5) (d2 ixV (dVar 0) (dC (.int 2))))) dNx)
def den__law_found : DS := (dSeq (dSet 2 (dA max2V (dCons (d2 ixV (dVar 0) (dC (.int 0))) (dCons (d2 addV (d2 ixV (dVar 0) (dC (.int 0))) (d2 mulV (d1 negV (d2 fdivV (d1 negV (d2 subV (d2 ixV (dVar 1) (dC (.int 0))) (d2 ixV (dVar 0) (dC (.int 0))))) (d2 ixV (dVar 0) (dC (.int 2))))) (d2 ixV (dVar 0) (dC (.int 2))))) dNil)))) (dSeq (dFor (dAI rng1V (dCons (dC (.int 61)) dNil)) (gN 3) lp1__law_found) (dSeq (dSet 4 (dA min2V (dCons (d2 ixV (dVar 0) (dC (.int 1))) (dCons (d2 ixV (dVar 1) (dC (.int 1))) dNil)))) (dSeq (dIfS (dOrT (dB (d2 neV (d2 modV (d2 subV (dVar 2) (d2 ixV (dVar 1) (dC (.int 0)))) (d2 ixV (dVar 1) (dC (.int 2)))) (dC (.int 0)))) (dB (d2 gtV (dVar 2) (dVar 4)))) (dRet (dA mkTup (dCons (dC (.int 0)) (dCons (d1 negV (dC (.int 1))) (dCons (dC (.int 1)) dNil))))) dNx) (dSeq (dSet 5 (d2 ixV (dVar 0) (dC (.int 2)))) (dSeq (dFor (dAI rng1V (dCons (dC (.int 61)) dNil)) (gN 3) lp2__law_found) (dSeq (dSet 6 (d2 fdivV (d2 subV (dVar 4) (dVar 2)) (dVar 5))) (dRet (dIf (dB (d2 gtV (dVar 6) (dC (.int 0)))) (dA mkTup (dCons (dVar 2) (dCons (d2 addV (dVar 2) (d2 mulV (dVar 6) (dVar 5))) (dCons (dVar 5) dNil)))) (dA mkTup (dCons (dVar 2) (dCons (dVar 2) (dCons (dC (.int 1)) dNil)))))))))))))
def F__law_found : List SV → PL.P SV := fnRun 7 exitV den__law_found
def den__law_far_right : DS := (dSeq (dSet 1 (dA (chk 2 F__law_pick) (dCons (dVar 0) (dCons (dA mkLst (dCons (dC (.int 1)) (dCons (dC (.int 1)) (dCons (d2 powV (dC (.int 10)) (dC (.int 3))) (dCons (d2 addV (d2 powV (dC (.int 10)) (dC (.int 9))) (dC (.int 7))) dNil))))) dNil)))) (dSeq (dSet 2 (dA (chk 2 F__law_pick) (dCons (dVar 0) (dCons (dA mkLst (dCons (dC (.int 0)) (dCons (d2 powV (dC (.int 10)) (dC (.int 15))) (dCons (d2 subV (dC (.int 0)) (d2 mulV (dC (.int 3)) (d2 powV (dC (.int 10)) (dC (.int 29))))) (dCons (d2 mulV (dC (.int 9)) (d2 powV (dC (.int 10)) (dC (.int 29)))) dNil))))) dNil)))) (dSeq (dPar 3 4 (dCons (dA (chk 3 F__law_far_trio) (dCons (dVar 0) (dCons (dVar 2) (dCons (dVar 1) dNil)))) (dCons (dA (chk 3 F__law_far_trio) (dCons (dVar 0) (dCons (dVar 2) (dCons (dVar 1) dNil)))) dNil))) (dSeq (dSet 5 (dA (chk 2 F__law_found) (dCons (dVar 3) (dCons (dVar 4) dNil)))) (dSeq (dSet 6 (dA mkTup (dCons (d2 addV (d2 ixV (dVar 3) (dC (.int 0))) (d2 mulV (d2 subV (dA (chk 1 F__law_count) (dCons (dVar 3) dNil)) (dC (.int 1))) (d2 ixV (dVar 3) (dC (.int 2))))) (dCons (d2 ixV (dVar 3) (dC (.int 0))) (dCons (d2 subV (dC (.int 0)) (d2 ixV (dVar 3) (dC (.int 2)))) dNil))))) (dSeq (dIfS (dB (d2 neV (dA mkLst (dCons (dA (chk 2 F_met) (dCons (dVar 3) (dCons (dVar 4) dNil))) (dCons (dA (chk 2 F_met) (dCons (dVar 4) (dCons (dVar 3) dNil))) (dCons (dA (chk 2 F_met) (dCons (dVar 6) (dCons (dVar 4) dNil))) dNil)))) (d2 (repV false) (dA mkLst (dCons (dVar 5) dNil)) (dC (.int 3))))) (dRet (dC (.bl false))) dNx) (dSeq (dIfS (dOrT (dNotT (dTr (dA (chk 2 F_lies_in) (dCons (dVar 5) (dCons (dVar 3) dNil))))) (dNotT (dTr (dA (chk 2 F_lies_in) (dCons (dVar 5) (dCons (dVar 4) dNil)))))) (dRet (dC (.bl false))) dNx) (dRet (d2 eqV (dA (chk 2 F_lies_in) (dCons (dVar 3) (dCons (dVar 4) dNil))) (d2 eqV (dA (chk 1 F__law_count) (dCons (dVar 5) dNil)) (dA (chk 1 F__law_count) (dCons (dVar 3) dNil))))))))))))
def F__law_far_right : List SV → PL.P SV := fnRun 7 exitV den__law_far_right
def lp1_law : DS := (dIfS (dOrT (dNotT (dTr (dA (chk 1 F__law_near_right) (dCons (dVar 2) dNil)))) (dNotT (dTr (dA (chk 1 F__law_far_right) (dCons (dVar 2) dNil))))) (dRet (dC (.bl false))) dNx)
def lp2_law : DS := (dSeq (dSet 2 (dA (chk 1 F__law_well) (dCons (dIf (dB (d2 ltV (dVar 1) (dA lenV (dCons (dVar 0) dNil)))) (d2 ixV (dVar 0) (dVar 1)) (dC (.int 0))) dNil))) (dFor (dAI rng1V (dCons (dC (.int 8)) dNil)) (gN 3) lp1_law))
def den_law : DS := (dSeq (dFor (dAI rng1V (dCons (d2 addV (dA max2V (dCons (dC (.int 1)) (dCons (dA min2V (dCons (dC (.int 5)) (dCons (dA lenV (dCons (dVar 0) dNil)) dNil))) dNil))) (dC (.int 1))) dNil)) (gN 1) lp2_law) (dRet (dC (.bl true))))
def F_law : List SV → PL.P SV := fnRun 4 exitV den_law
end G

namespace G
open PySem PySem.Spec PyProof.Rows L2 PL
/-! ### wells -/
def Wl (k : Nat) (m : Mem) : Prop := ∃ a b c : Int, m[k]? = some (.lst [.int a, .int b, .int c])
theorem fmod_nonneg {a b : Int} (h : 0 < b) : 0 ≤ a.fmod b ∧ a.fmod b < b := by
  rw [Int.fmod_eq_emod_of_nonneg a (by omega)]
  exact ⟨Int.emod_nonneg a (by omega), Int.emod_lt_of_pos a h⟩
theorem mulOk_r (i : Int) {j : Int} (h : j.natAbs < 18446744073709551616) : mulOk i j = true := by
  unfold mulOk
  simp [h]
theorem mulOk_l {i : Int} (j : Int) (h : i.natAbs < 18446744073709551616) : mulOk i j = true := by
  unfold mulOk
  simp [h]
theorem wl_lt {k : Nat} {m : Mem} (h : Wl k m) : k < m.length := by
  obtain ⟨a, b, c, e⟩ := h
  exact (List.getElem?_eq_some_iff.mp e).1
theorem draw_ok {k : Nat} {m : Mem} (h : Wl k m) {n : Int} (hn : 0 < n) (hb : n.natAbs < big) : ∃ d m', F__law_draw [.ref k, .dat (.int n)] m = .ok (.dat (.int d)) m' ∧ Wl k m' ∧ m'.length = m.length ∧ 0 ≤ d ∧ d < n := by
  have hk := wl_lt h
  obtain ⟨a, b, c, e⟩ := h
  by_cases ha : 0 < a
  · refine ⟨a.fmod n, m.set k (.lst [.int (a.fdiv n), .int b, .int c]), ?_, ⟨a.fdiv n, b, c, by simp [hk]⟩, by simp, fmod_nonneg hn⟩
    have h0 : n ≠ 0 := by omega
    simp [F__law_draw, fnRun_ap, den__law_draw, enter, setC, ixV, atI, ixN, rdSq, rdL, e, ha, h0, hb]
  · have e1 : ∀ x : Int, mulOk 50021 x = true := fun x => mulOk_l x (by decide)
    have e2 : ∀ x : Int, mulOk x 40692 = true := fun x => mulOk_r x (by decide)
    have e3 : ∀ x y : Int, mulOk (x.fmod 2147483629) y = true := fun x y => mulOk_l y (by have := fmod_nonneg (a := x) (b := 2147483629) (by decide); omega)
    have e4 : ∀ x y : Int, mulOk (x.fmod 2147483579) y = true := fun x y => mulOk_l y (by have := fmod_nonneg (a := x) (b := 2147483579) (by decide); omega)
    have b1 : (1031 : Nat) < big := big_of (by decide)
    have b2 : (2017 : Nat) < big := big_of (by decide)
    have b3 : (13 : Nat) < big := big_of (by decide)
    have h0 : n ≠ 0 := by omega
    let x1 : Int := ((b + 50021 * (c + 1) + 73) * 40692).fmod 2147483629
    let x2 : Int := (x1 * (x1.fdiv 1031 + 69621)).fmod 2147483579
    let x3 : Int := ((x2 * (x2.fdiv 2017 + 48271)).fmod 2147483549).fdiv 13
    refine ⟨x3.fmod n, m.set k (.lst [.int a, .int b, .int (c + 1)]), ?_, ⟨a, b, c + 1, by simp [hk]⟩, by simp, fmod_nonneg hn⟩
    have e5 : ∀ c' : Cell, (m.set k c')[k]? = some c' := fun c' => by simp [hk]
    simp [F__law_draw, fnRun_ap, den__law_draw, enter, setC, ixV, atI, ixN, rdSq, rdL, e, e5, ha, h0, hb, e1, e2, e3, e4, b1, b2, b3, x1, x2, x3]
/-! ### pick -/
theorem atI_ofNat {α : Type} {xs : List α} {i : Int} (h0 : 0 ≤ i) (h1 : i < xs.length) : atI xs i = xs[i.toNat]? := by
  unfold atI ixN
  rw [if_pos h0, if_pos h1]
  rfl
theorem small_big {n : Nat} (h : n ≤ 1000000000000000000000000000000000000000000000000000000000000000000000) : n < big := big_of (Nat.lt_of_le_of_lt h (by decide +kernel))
theorem pick_ok {k : Nat} {m : Mem} (h : Wl k m) {xs : List D} (hx : 0 < xs.length) (hl : xs.length ≤ 1000) : ∃ d m', F__law_pick [.ref k, .dat (.lst xs)] m = .ok (.dat d) m' ∧ Wl k m' ∧ m'.length = m.length ∧ d ∈ xs := by
  obtain ⟨d, m', e, hw, hlen, h0, h1⟩ := draw_ok h (n := (xs.length : Int)) (by omega) (small_big (by omega))
  have hi : d.toNat < xs.length := by omega
  refine ⟨xs[d.toNat], m', ?_, hw, hlen, List.getElem_mem _⟩
  have ht : m'.take m.length = m' := List.take_of_length_le (by omega)
  simp [F__law_pick, fnRun_ap, den__law_pick, enter, ixV, rdSq, rdL, lenV, e, atI_ofNat h0 h1, List.getElem?_eq_getElem hi, ht]

/-! ### triplets: the program's small defs -/
def FARn : Int := 1000000000000000000000000000000
def tri (f l s : Int) : D := .tup [.int f, .int l, .int s]
def Far (f l s : Int) : Prop := s ≠ 0 ∧ -FARn ≤ s ∧ s ≤ FARn ∧ -FARn ≤ f ∧ f ≤ FARn ∧ -FARn ≤ l ∧ l ≤ FARn
theorem is_whole_int (i : Int) (m : Mem) : F_is_whole [.dat (.int i)] m = .ok (.dat (.bl true)) m := by
  simp [F_is_whole, fnRun_ap, den_is_whole, enter, isiV, tyName, tyIs]
theorem is_between_int (i lo hi : Int) (m : Mem) : F_is_between [.dat (.int i), .dat (.int lo), .dat (.int hi)] m = .ok (.dat (.bl (decide (lo ≤ i ∧ i ≤ hi)))) m := by
  by_cases h : lo ≤ i
  · simp [F_is_between, fnRun_ap, den_is_between, enter, is_whole_int, h]
  · simp [F_is_between, fnRun_ap, den_is_between, enter, is_whole_int, h]
theorem is_triplet_far {f l s : Int} (h : Far f l s) (m : Mem) : F_is_triplet [.dat (tri f l s)] m = .ok (.dat (.bl true)) m := by
  unfold Far FARn at h
  obtain ⟨h0, h1, h2, h3, h4, h5, h6⟩ := h
  simp [F_is_triplet, fnRun_ap, den_is_triplet, ce1_is_triplet, enter, tri, isiV, tyName, tyIs, lenV, rdSq, itemsV, noX, loopC, gN, wipeE, dYes, is_between_int, h0, h1, h2, h3, h4, h5, h6, allV, rdL, asBs, ixV, atI, ixN]
theorem check_triplet_far {f l s : Int} (h : Far f l s) (x : Str) (m : Mem) : F_check_triplet [.dat (tri f l s), .dat (.str x)] m = .ok (.dat .non) m := by
  simp [F_check_triplet, fnRun_ap, den_check_triplet, enter, is_triplet_far h]
theorem far_big {i : Int} (h0 : -FARn ≤ i) (h1 : i ≤ FARn) : i.natAbs < big := small_big (by unfold FARn at *; omega)
theorem many_in_ok {f l s : Int} (h : Far f l s) (m : Mem) : F_many_in [.dat (tri f l s)] m = .ok (.dat (.int (TR.sz f l s))) m := by
  have hb := far_big h.2.1 h.2.2.1
  simp [F_many_in, fnRun_ap, den_many_in, enter, tri, ixV, atI, ixN, rdSq, h.1, hb, TR.sz]

theorem sz_far {f l s : Int} (h : Far f l s) : TR.sz f l s ≤ 3 * FARn := TR.sz_le h.1 (by decide) (by obtain ⟨_, _, _, h3, h4, h5, h6⟩ := h; unfold FARn at *; omega)
theorem mulOk_far {i j : Int} (h0 : -(3 * FARn) ≤ i) (h1 : i ≤ 3 * FARn) (h2 : -(3 * FARn) ≤ j) (h3 : j ≤ 3 * FARn) : mulOk i j = true := by
  have a : i.natAbs < big := small_big (by unfold FARn at *; omega)
  have b : j.natAbs < big := small_big (by unfold FARn at *; omega)
  simp [mulOk, a, b]
/-! ### near triplets -/
def Near (f l s : Int) : Prop := s ≠ 0 ∧ -9 ≤ s ∧ s ≤ 9 ∧ -60 ≤ f ∧ f ≤ 60 ∧ -60 ≤ l ∧ l ≤ 60
theorem near_ok {k : Nat} {m : Mem} (h : Wl k m) : ∃ f l s m', F__law_near [.ref k] m = .ok (.dat (tri f l s)) m' ∧ Wl k m' ∧ m'.length = m.length ∧ Near f l s := by
  obtain ⟨d1, m1, e1, w1, l1, h1⟩ := pick_ok h (xs := [.int 0, .int 0, .int 1, .int 2, .int 3, .int 4, .int 5, .int 8]) (by decide) (by decide)
  obtain ⟨d2, m2, e2, w2, l2, h2a, h2b⟩ := draw_ok w1 (n := 41) (by decide) (small_big (by decide))
  obtain ⟨d3, m3, e3, w3, l3, h3a, h3b⟩ := draw_ok w2 (n := 61) (by decide) (small_big (by decide))
  obtain ⟨d4, m4, e4, w4, l4, h4a, h4b⟩ := draw_ok w3 (n := 2) (by decide) (small_big (by decide))
  obtain ⟨x, rfl, hx⟩ : ∃ x : Int, d1 = .int x ∧ 0 ≤ x ∧ x ≤ 8 := by
    simp at h1
    rcases h1 with h | h | h | h | h | h | h <;> exact ⟨_, h, by decide⟩
  have ht : m4.take m.length = m4 := List.take_of_length_le (by omega)
  by_cases h4 : d4 = 0
  · refine ⟨d2 - 20, d2 - 20 + d3 - 20, 1 + x, m4, ?_, w4, by omega, ?_⟩
    · simp [F__law_near, fnRun_ap, den__law_near, enter, mkLst, mkTup, allDat, e1, e2, e3, e4, h4, ht, tri]
    · unfold Near; omega
  · refine ⟨d2 - 20 + d3 - 20, d2 - 20, 0 - (1 + x), m4, ?_, w4, by omega, ?_⟩
    · simp [F__law_near, fnRun_ap, den__law_near, enter, mkLst, mkTup, allDat, e1, e2, e3, e4, h4, ht, tri]
    · unfold Near; omega

/-! ### members -/
theorem members_loop {f l s : Int} (hs : s ≠ 0) (hm : ∀ k : Nat, k < 200 → mulOk (k : Int) s = true) {n : Nat} (hn : (n : Int) = TR.sz f l s) (hlt : n < 200) (m : Mem) :
    ∀ (r j : Nat), j + r = 200 → j ≤ n → ∀ a b : Option SV, loopF (gN 2) lp1__law_members ((List.range' j r).map fun (i : Nat) => D.int (0 + (i : Int))) [some (.dat (tri f l s)), some (.ref m.length), a, b] (m ++ [.lst ((TR.els f s j).map D.int)]) = .ok (.rt (.ref m.length)) (m ++ [.lst ((TR.els f s n).map D.int)]) := by
  intro r
  induction r with
  | zero => intro j h1 h2; omega
  | succ r ih =>
    intro j h1 h2 a b
    have hmj := hm j (by omega)
    have key := TR.lt_sz (f := f) (l := l) (s := s) (k := (j : Int)) hs (by omega)
    rw [List.range'_succ, List.map_cons, Int.zero_add]
    by_cases hj : j < n
    · have q := ih (j + 1) (by omega) (by omega) (some (.dat (.int (j : Int)))) (some (.dat (.int (f + (j : Int) * s))))
      obtain ⟨p1, p2⟩ := key.mp (by omega)
      rw [TR.els_succ, List.map_append] at q
      refine (loopF_nx (env2 := [some (.dat (tri f l s)), some (.ref m.length), some (.dat (.int (j : Int))), some (.dat (.int (f + (j : Int) * s)))]) (m2 := m ++ [.lst ((TR.els f s j).map D.int ++ [.int (f + (j : Int) * s)])]) rfl ?_).trans q
      by_cases s0 : 0 < s
      · have u1 : ¬ l < f + (j : Int) * s := by omega
        have u2 : ¬ s < 0 := by omega
        simp [lp1__law_members, tri, ixV, atI, ixN, rdSq, hmj, s0, u1, u2, rdL, TR.els_length, show j < 16777216 by omega]
      · have u1 : s < 0 := by omega
        have u2 : ¬ f + (j : Int) * s < l := by omega
        simp [lp1__law_members, tri, ixV, atI, ixN, rdSq, hmj, s0, u1, u2, rdL, TR.els_length, show j < 16777216 by omega]
    · have e : j = n := by omega
      subst e
      have hout : ¬ (j : Int) < TR.sz f l s := by omega
      refine loopF_rt rfl ?_
      by_cases s0 : 0 < s
      · have u1 : l < f + (j : Int) * s := by
          by_cases q : l < f + (j : Int) * s
          · exact q
          · exact absurd (key.mpr ⟨fun _ => by omega, fun _ => by omega⟩) hout
        simp [lp1__law_members, tri, ixV, atI, ixN, rdSq, hmj, s0, u1]
      · have u0 : s < 0 := by omega
        have u1 : f + (j : Int) * s < l := by
          by_cases q : f + (j : Int) * s < l
          · exact q
          · exact absurd (key.mpr ⟨fun _ => by omega, fun _ => by omega⟩) hout
        simp [lp1__law_members, tri, ixV, atI, ixN, rdSq, hmj, s0, u0, u1]
theorem members_gen {f l s : Int} (hs : s ≠ 0) (hb : s.natAbs < 18446744073709551616) (hz : TR.sz f l s < 200) (m : Mem) : F__law_members [.dat (tri f l s)] m = .ok (.dat (.lst ((TR.els f s (TR.sz f l s).toNat).map D.int))) m := by
  have h0 := TR.sz_nonneg f l s
  have q := members_loop (f := f) (l := l) hs (fun k hk => mulOk_r _ hb) (n := (TR.sz f l s).toNat) (by omega) (by omega) m 200 0 rfl (by omega) none none
  have e : rngD 0 200 = (List.range' 0 200).map fun (i : Nat) => D.int (0 + (i : Int)) := by
    unfold rngD
    rw [List.range_eq_range']
  simp [F__law_members, fnRun_ap, den__law_members, enter, mkOwn, allDat, rng1V]
  rw [e]
  have e0 : (TR.els f s 0).map D.int = [] := rfl
  rw [e0] at q
  rw [q]
  simp [exitV]

/-! ### normal forms -/
def trL (x : List Int) : D := .tup (x.map D.int)
theorem tri_trL (f l s : Int) : tri f l s = trL [f, l, s] := rfl
theorem fdiv_step (a s : Int) (hs : 0 < s) : (a + s).fdiv s = a.fdiv s + 1 := by
  rw [Int.fdiv_eq_ediv_of_nonneg _ (by omega), Int.fdiv_eq_ediv_of_nonneg _ (by omega)]
  have := Int.add_mul_ediv_right a 1 (show s ≠ 0 by omega)
  rw [Int.one_mul] at this
  exact this
theorem mulOk_big {i j : Int} (h0 : i.natAbs < big) (h1 : j.natAbs < big) : mulOk i j = true := by simp [mulOk, h0, h1]
theorem trimmed_gen {lo hi st : Int} (hs : 0 < st) (hbb : st.natAbs < big) (hz : (TR.sz lo hi st).natAbs < big) (m : Mem) : F_trimmed [.dat (.int lo), .dat (.int hi), .dat (.int st)] m = .ok (.dat (trL (TR.nr lo hi st))) m := by
  have h0 : st ≠ 0 := by omega
  have hm : TR.sz lo hi st = max 0 ((hi - lo).fdiv st + 1) := by rw [← fdiv_step _ _ hs]; rfl
  generalize hq : (hi - lo).fdiv st = q at hm
  by_cases c1 : q + 1 < 1
  · have z0 : TR.sz lo hi st = 0 := by omega
    simp [F_trimmed, fnRun_ap, den_trimmed, enter, h0, hbb, hq, c1, TR.nr, z0, trL]
  · by_cases c2 : q = 0
    · have z1 : TR.sz lo hi st = 1 := by omega
      simp [F_trimmed, fnRun_ap, den_trimmed, enter, h0, hbb, hq, c1, c2, TR.nr, z1, trL, mkTup, allDat]
    · have z : TR.sz lo hi st = q + 1 := by omega
      have z0 : ¬ q + 1 = 0 := by omega
      have z1 : ¬ q + 1 = 1 := by omega
      have mo : mulOk q st = true := mulOk_big (by omega) hbb
      have e : q + 1 - 1 = q := by omega
      simp [F_trimmed, fnRun_ap, den_trimmed, enter, h0, hbb, hq, c1, c2, TR.nr, z, z0, z1, trL, mkTup, allDat, mo, hs, e]
theorem trimmed_ok {lo hi st : Int} (hs : 0 < st) (hb : st ≤ 3 * FARn) (hz : TR.sz lo hi st ≤ 3 * FARn) (m : Mem) : F_trimmed [.dat (.int lo), .dat (.int hi), .dat (.int st)] m = .ok (.dat (trL (TR.nr lo hi st))) m :=
  trimmed_gen hs (small_big (by unfold FARn at *; omega)) (small_big (by have := TR.sz_nonneg lo hi st; unfold FARn at *; omega)) m
theorem normal_of_ok {f l s : Int} (h : Far f l s) (m : Mem) : F_normal_of [.dat (tri f l s)] m = .ok (.dat (trL (TR.nr f l s))) m := by
  have hs := h.1
  have hz := sz_far h
  have h0 := TR.sz_nonneg f l s
  have em := many_in_ok h
  have s1 := h.2.1
  have s2 := h.2.2.1
  by_cases hp : 0 < s
  · have q := trimmed_ok (lo := f) (hi := l) hp (by unfold FARn at *; omega) hz
    simp [F_normal_of, fnRun_ap, den_normal_of, enter, tri, gT, gsC, gN, gsN, hp, q]
  · by_cases z0 : TR.sz f l s = 0
    · unfold tri at em
      simp [F_normal_of, fnRun_ap, den_normal_of, enter, tri, gT, gsC, gN, gsN, hp, em, z0, TR.nr, trL]
    · have hz2 : TR.sz (f + (TR.sz f l s - 1) * s) f (-s) = TR.sz f l s := TR.sz_back hs (by omega)
      have q := trimmed_ok (lo := f + (TR.sz f l s - 1) * s) (hi := f) (st := -s) (by omega) (by unfold FARn at *; omega) (by omega)
      have mo : mulOk (TR.sz f l s - 1) s = true := mulOk_far (by unfold FARn at *; omega) (by omega) (by unfold FARn at *; omega) (by unfold FARn at *; omega)
      have e : TR.nr (f + (TR.sz f l s - 1) * s) f (-s) = TR.nr f l s := by
        have t := TR.nr_tn (f := f) (l := l) hs
        by_cases z1 : TR.sz f l s = 1
        · rw [TR.nr, hz2, TR.nr, z1]; simp
        · simpa [TR.tn, z0, z1, TR.A, TR.B, TR.C] using t
      rw [e] at q
      have hpos : 0 < TR.sz f l s := by omega
      unfold tri at em
      simp [F_normal_of, fnRun_ap, den_normal_of, enter, tri, gT, gsC, gN, gsN, hp, em, hpos, mo, q]
/-- a form of three ints that is a triplet -/
structure Tp (x : List Int) : Prop where
  len : x.length = 3
  far : Far (TR.A x) (TR.B x) (TR.C x)
theorem trL_tri {x : List Int} (h : x.length = 3) : trL x = tri (TR.A x) (TR.B x) (TR.C x) := by
  match x, h with
  | [a, b, c], _ => rfl
theorem nr_len (f l s : Int) : (TR.nr f l s).length = 3 := by
  unfold TR.nr
  split
  · rfl
  · split
    · rfl
    · split <;> rfl
theorem tn_len (f l s : Int) : (TR.tn f l s).length = 3 := by
  unfold TR.tn
  split
  · rfl
  · split <;> rfl
theorem last_far {f l s : Int} (h : Far f l s) (hz : TR.sz f l s ≠ 0) : -FARn ≤ f + (TR.sz f l s - 1) * s ∧ f + (TR.sz f l s - 1) * s ≤ FARn := by
  have h0 := TR.sz_nonneg f l s
  obtain ⟨a, b⟩ := TR.elt_between (f := f) (l := l) (k := TR.sz f l s - 1) h.1 (by omega) (by omega)
  obtain ⟨_, _, _, h3, h4, h5, h6⟩ := h
  omega
theorem far_none : Far 0 (-1) 1 := by unfold Far FARn; omega
theorem nr_tp {f l s : Int} (h : Far f l s) : Tp (TR.nr f l s) := by
  refine ⟨nr_len _ _ _, ?_⟩
  obtain ⟨h0, h1, h2, h3, h4, h5, h6⟩ := id h
  unfold TR.nr
  by_cases z0 : TR.sz f l s = 0
  · simpa [z0, TR.A, TR.B, TR.C] using far_none
  · have hl := last_far h z0
    by_cases z1 : TR.sz f l s = 1
    · simp [z1, TR.A, TR.B, TR.C, Far]
      unfold FARn at *
      omega
    · by_cases hp : 0 < s
      · simp [z0, z1, hp, TR.A, TR.B, TR.C, Far]
        omega
      · simp [z0, z1, hp, TR.A, TR.B, TR.C, Far]
        omega
theorem tn_tp {f l s : Int} (h : Far f l s) : Tp (TR.tn f l s) := by
  refine ⟨tn_len _ _ _, ?_⟩
  obtain ⟨h0, h1, h2, h3, h4, h5, h6⟩ := id h
  unfold TR.tn
  by_cases z0 : TR.sz f l s = 0
  · simpa [z0, TR.A, TR.B, TR.C] using far_none
  · have hl := last_far h z0
    by_cases z1 : TR.sz f l s = 1
    · simp [z1, TR.A, TR.B, TR.C, Far]
      unfold FARn at *
      omega
    · simp [z0, z1, TR.A, TR.B, TR.C, Far]
      omega
theorem okD_trL (x : List Int) : okD (trL x) = true := okD_intsT x
theorem eqd_trL (x y : List Int) : eqd (trL x) (trL y) = decide (x = y) := eqd_intsT x y
@[simp] theorem eqV_trL (x y : List Int) (m : Mem) : PL.eqV (.dat (trL x)) (.dat (trL y)) m = .ok (.dat (.bl (decide (x = y)))) m := by
  simp [PL.eqV, svD, okD_trL, eqd_trL]
@[simp] theorem neV_trL (x y : List Int) (m : Mem) : PL.neV (.dat (trL x)) (.dat (trL y)) m = .ok (.dat (.bl (!decide (x = y)))) m := by
  simp [PL.neV, svD, okD_trL, eqd_trL]
theorem check_two_ok {f l s f' l' s' : Int} (h : Far f l s) (h' : Far f' l' s') (m : Mem) : F_check_two_triplets [.dat (tri f l s), .dat (tri f' l' s')] m = .ok (.dat .non) m := by
  simp [F_check_two_triplets, fnRun_ap, den_check_two_triplets, enter, check_triplet_far h, check_triplet_far h']

/-! ### gcd, lcm, inverse, meeting -/
theorem loopW_go {t : En → PL.P Bool} {body : DS} {n : Nat} {env env' : En} {m m' : Mem} (ht : t env m = .ok true m) (hb : body env m = .ok (.nx env') m') : loopW t body (n + 1) env m = loopW t body n env' m' := by
  simp [loopW, ht, hb]
theorem loopW_end {t : En → PL.P Bool} {body : DS} {n : Nat} {env : En} {m : Mem} (ht : t env m = .ok false m) : loopW t body (n + 1) env m = .ok (.nx env) m := by
  simp [loopW, ht]
theorem nat_fmod (x y : Nat) : ((x : Int)).fmod (y : Int) = ((x % y : Nat) : Int) := by
  rw [Int.fmod_eq_emod_of_nonneg _ (by omega)]
  exact (Int.natCast_emod x y).symm
theorem nat_fdiv (x y : Nat) : ((x : Int)).fdiv (y : Int) = ((x / y : Nat) : Int) := by
  rw [Int.fdiv_eq_ediv_of_nonneg _ (by omega)]
  exact (Int.natCast_ediv x y).symm
theorem gcd_test (x y : Nat) (m : Mem) : ts2_gcd [some (.dat (.int x)), some (.dat (.int y))] m = .ok (!decide (y = 0)) m := by
  simp [ts2_gcd] <;> omega
theorem gcd_body (x y : Nat) (hy : y ≠ 0) (m : Mem) : lp1_gcd [some (.dat (.int x)), some (.dat (.int y))] m = .ok (.nx [some (.dat (.int y)), some (.dat (.int ((x % y : Nat) : Int)))]) m := by
  simp [lp1_gcd, hy, nat_fmod]
theorem gcd_loop (m : Mem) : ∀ (k x y n : Nat), y < 2 ^ k → 2 * k + 1 ≤ n → loopW ts2_gcd lp1_gcd n [some (.dat (.int x)), some (.dat (.int y))] m = .ok (.nx [some (.dat (.int (Nat.gcd x y : Nat))), some (.dat (.int 0))]) m
  | 0, x, y, n, h, hn => by
    obtain ⟨n, rfl⟩ : ∃ n', n = n' + 1 := ⟨n - 1, by omega⟩
    have hy : y = 0 := by simpa using h
    subst hy
    rw [loopW_end (by rw [gcd_test]; simp)]
    simp
  | k + 1, x, y, n, h, hn => by
    obtain ⟨n, rfl⟩ : ∃ n', n = n' + 2 := ⟨n - 2, by omega⟩
    by_cases hy : y = 0
    · subst hy
      rw [loopW_end (by rw [gcd_test]; simp)]
      simp
    · rw [loopW_go (by rw [gcd_test]; simp [hy]) (gcd_body x y hy m)]
      by_cases hr : x % y = 0
      · rw [hr, loopW_end (by rw [gcd_test]; simp)]
        have : Nat.gcd x y = y := by rw [Nat.gcd_comm, Nat.gcd_rec, hr]; simp
        rw [this]
        rfl
      · rw [loopW_go (by rw [gcd_test]; simp [hr]) (gcd_body y (x % y) hr m)]
        have h2 := TR.half_step (show 0 < x % y by omega) (Nat.mod_lt x (by omega))
        rw [gcd_loop m k (x % y) (y % (x % y)) n (by rw [Nat.pow_succ] at h; omega) (by omega)]
        have : Nat.gcd (x % y) (y % (x % y)) = Nat.gcd x y := by
          rw [Nat.gcd_comm, ← Nat.gcd_rec, Nat.gcd_comm x y, Nat.gcd_rec y x]
        rw [this]
theorem gcd_ok {a b : Int} (ha : 0 ≤ a) (hb : 0 ≤ b) (h : b < 2 ^ 400) (m : Mem) : F_gcd [.dat (.int a), .dat (.int b)] m = .ok (.dat (.int (Int.gcd a b))) m := by
  have q := gcd_loop m 400 a.toNat b.toNat 1000 (by omega) (by decide)
  rw [show ((a.toNat : Nat) : Int) = a by omega, show ((b.toNat : Nat) : Int) = b by omega] at q
  have e : Int.gcd a b = Nat.gcd a.toNat b.toNat := by
    unfold Int.gcd
    rw [show a.natAbs = a.toNat by omega, show b.natAbs = b.toNat by omega]
  rw [e]
  simp [F_gcd, fnRun_ap, den_gcd, enter, dWhile, q]
theorem lcm_ok {a b : Int} (ha : 0 < a) (hb : 0 < b) (h : a ≤ FARn) (h' : b ≤ FARn) (m : Mem) : F_lcm [.dat (.int a), .dat (.int b)] m = .ok (.dat (.int (Int.lcm a b))) m := by
  have g := gcd_ok (a := a) (b := b) (by omega) (by omega) (by unfold FARn at h'; omega)
  have mo : mulOk a b = true := mulOk_big (small_big (by unfold FARn at *; omega)) (small_big (by unfold FARn at *; omega))
  have g0 : 0 < Int.gcd a b := Int.gcd_pos_of_ne_zero_left _ (by omega)
  have gle : Int.gcd a b ≤ a.natAbs := Nat.le_of_dvd (by omega) (Nat.gcd_dvd_left ..)
  have gb : Int.gcd a b < big := small_big (by unfold FARn at *; omega)
  have e : ((a * b).natAbs : Int).fdiv (Int.gcd a b : Int) = (Int.lcm a b : Int) := by
    rw [nat_fdiv]
    rw [Int.natAbs_mul]
    rfl
  simp [F_lcm, fnRun_ap, den_lcm, enter, g, mo, show Int.gcd a b ≠ 0 by omega, gb, e]
/-! the extended gcd -/
structure EInv (M a : Int) (x y : Nat) (u v : Int) : Prop where
  d1 : M ∣ ((x : Int) - u * a)
  d2 : M ∣ ((y : Int) - v * a)
  sum : (u.natAbs * y + v.natAbs * x : Nat) = M.toNat
  sgn : u * v ≤ 0
  pos : 0 < x ∨ v = 0
theorem natAbs_opp {u v : Int} (t : Nat) (h : u * v ≤ 0) : (u - (t : Int) * v).natAbs = u.natAbs + t * v.natAbs := by
  have e : ((t : Int) * v).natAbs = t * v.natAbs := by rw [Int.natAbs_mul]; simp
  rcases Int.lt_trichotomy v 0 with hv | hv | hv
  · have hu : 0 ≤ u := by
      by_cases q : 0 ≤ u
      · exact q
      · have := Int.mul_pos_of_neg_of_neg (show u < 0 by omega) hv
        omega
    have : (t : Int) * v ≤ 0 := Int.mul_nonpos_of_nonneg_of_nonpos (by omega) (by omega)
    omega
  · subst hv; simp
  · have hu : u ≤ 0 := by
      by_cases q : u ≤ 0
      · exact q
      · have := Int.mul_pos (show 0 < u by omega) hv
        omega
    have : 0 ≤ (t : Int) * v := Int.mul_nonneg (by omega) (by omega)
    omega
theorem EInv.step {M a : Int} {x y : Nat} {u v : Int} (h : EInv M a x y u v) (hy : y ≠ 0) : EInv M a y (x % y) v (u - ((x / y : Nat) : Int) * v) := by
  have hx := Nat.div_add_mod x y
  generalize hq : x / y = q at *
  refine ⟨h.d2, ?_, ?_, ?_, .inl (by omega)⟩
  · have h1 : M ∣ ((q : Int) * ((y : Int) - v * a)) := Int.dvd_trans h.d2 ⟨(q : Int), Int.mul_comm _ _⟩
    have h2 := Int.dvd_sub h.d1 h1
    have e : (x : Int) - u * a - (q : Int) * ((y : Int) - v * a) = ((x % y : Nat) : Int) - (u - (q : Int) * v) * a := by
      have e1 : (x : Int) = (y : Int) * (q : Int) + ((x % y : Nat) : Int) := by omega
      rw [Int.mul_sub, Int.sub_mul, Int.mul_assoc, Int.mul_comm (q : Int) (y : Int)]
      omega
    rw [e] at h2
    exact h2
  · rw [natAbs_opp _ h.sgn, ← h.sum]
    have e1 : x = y * q + x % y := by omega
    have e2 : v.natAbs * x = v.natAbs * (y * q) + v.natAbs * (x % y) := by
      rw [← Nat.mul_add]
      rw [← e1]
    have e3 : (u.natAbs + q * v.natAbs) * y = u.natAbs * y + v.natAbs * (y * q) := by
      rw [Nat.add_mul, Nat.mul_comm q v.natAbs, Nat.mul_assoc, Nat.mul_comm q y]
    omega
  · have : v * (u - (q : Int) * v) = u * v - (q : Int) * (v * v) := by
      rw [Int.mul_sub, Int.mul_comm v u, Int.mul_left_comm]
    rw [this]
    have h1 := h.sgn
    have h2 : 0 ≤ v * v := by
      rcases Int.le_total 0 v with h | h
      · exact Int.mul_nonneg h h
      · exact Int.mul_nonneg_of_nonpos_of_nonpos h h
    have h3 : 0 ≤ (q : Int) * (v * v) := Int.mul_nonneg (by omega) h2
    omega
theorem inv_test (a b : Option SV) (x y : Nat) (u v : Option SV) (t : Option SV) (m : Mem) : ts2_inverse [a, b, some (.dat (.int x)), some (.dat (.int y)), u, v, t] m = .ok (!decide (y = 0)) m := by
  simp [ts2_inverse] <;> omega
theorem inv_body {M c : Int} (hM : M ≤ 3 * FARn) {x y : Nat} {u v : Int} (h : EInv M c x y u v) (hx : x ≤ 3 * FARn) (hy : y ≠ 0) (hy2 : y ≤ 3 * FARn) (a b t : Option SV) (m : Mem) : lp1_inverse [a, b, some (.dat (.int x)), some (.dat (.int y)), some (.dat (.int u)), some (.dat (.int v)), t] m =
    .ok (.nx [a, b, some (.dat (.int y)), some (.dat (.int ((x % y : Nat) : Int))), some (.dat (.int v)), some (.dat (.int (u - ((x / y : Nat) : Int) * v))), some (.dat (.int ((x / y : Nat) : Int)))]) m := by
  have hy' : (y : Int) ≠ 0 := by omega
  have yb : y < big := small_big (by unfold FARn at *; omega)
  have hq : x / y ≤ x := Nat.div_le_self x y
  have vb : v.natAbs < big := by
    rcases h.pos with p | p
    · have : v.natAbs * 1 ≤ v.natAbs * x := Nat.mul_le_mul_left _ p
      have := h.sum
      exact small_big (by unfold FARn at *; omega)
    · subst p; exact small_big (by decide)
  have qb : x / y < big := small_big (by unfold FARn at *; omega)
  have mo1 : mulOk ((x / y : Nat) : Int) (y : Int) = true := mulOk_big (by rw [Int.natAbs_natCast]; exact qb) (by rw [Int.natAbs_natCast]; exact yb)
  have mo2 : mulOk ((x / y : Nat) : Int) v = true := mulOk_big (by rw [Int.natAbs_natCast]; exact qb) vb
  have e : (x : Int) - ((x / y : Nat) : Int) * (y : Int) = ((x % y : Nat) : Int) := by
    have := Nat.div_add_mod x y
    rw [Int.mul_comm]
    have h2 : ((y * (x / y) : Nat) : Int) = (y : Int) * ((x / y : Nat) : Int) := by simp
    omega
  have fd := nat_fdiv x y
  generalize ((x / y : Nat) : Int) = q at *
  generalize ((x % y : Nat) : Int) = r at *
  simp only [lp1_inverse]
  simp [hy, yb, fd, mo1, mo2, e]
theorem inv_loop {M c : Int} (hM : M ≤ 3 * FARn) (a b : Option SV) (m : Mem) : ∀ (k x y n : Nat) (u v : Int) (t : Option SV), EInv M c x y u v → y < 2 ^ k → 2 * k + 1 ≤ n → x ≤ 3 * FARn → y ≤ 3 * FARn →
    ∃ u' v' t', loopW ts2_inverse lp1_inverse n [a, b, some (.dat (.int x)), some (.dat (.int y)), some (.dat (.int u)), some (.dat (.int v)), t] m = .ok (.nx [a, b, some (.dat (.int (Nat.gcd x y : Nat))), some (.dat (.int 0)), some (.dat (.int u')), v', t']) m ∧ M ∣ ((Nat.gcd x y : Nat) - u' * c)
  | 0, x, y, n, u, v, t, hI, h, hn, hx, hy2 => by
    obtain ⟨n, rfl⟩ : ∃ n', n = n' + 1 := ⟨n - 1, by omega⟩
    have hy : y = 0 := by simpa using h
    subst hy
    exact ⟨u, some (.dat (.int v)), t, by rw [loopW_end (by rw [inv_test]; simp)]; simp, by simpa using hI.d1⟩
  | k + 1, x, y, n, u, v, t, hI, h, hn, hx, hy2 => by
    obtain ⟨n, rfl⟩ : ∃ n', n = n' + 2 := ⟨n - 2, by omega⟩
    by_cases hy : y = 0
    · subst hy
      exact ⟨u, some (.dat (.int v)), t, by rw [loopW_end (by rw [inv_test]; simp)]; simp, by simpa using hI.d1⟩
    · rw [loopW_go (by rw [inv_test]; simp [hy]) (inv_body hM hI hx hy hy2 a b t m)]
      have hI2 := hI.step hy
      have hr2 : x % y < y := Nat.mod_lt x (by omega)
      by_cases hr : x % y = 0
      · have e : Nat.gcd x y = y := by rw [Nat.gcd_comm, Nat.gcd_rec, hr]; simp
        rw [e]
        exact ⟨v, _, _, by rw [hr, loopW_end (by rw [inv_test]; simp)]; rfl, hI.d2⟩
      · rw [loopW_go (by rw [inv_test]; simp [hr]) (inv_body hM hI2 (by omega) hr (by omega) a b _ m)]
        have h2 := TR.half_step (show 0 < x % y by omega) hr2
        have e : Nat.gcd (x % y) (y % (x % y)) = Nat.gcd x y := by
          rw [Nat.gcd_comm, ← Nat.gcd_rec, Nat.gcd_comm x y, Nat.gcd_rec y x]
        have q := inv_loop hM a b m k (x % y) (y % (x % y)) n _ _ (some (.dat (.int ((y / (x % y) : Nat) : Int)))) (hI2.step hr) (by rw [Nat.pow_succ] at h; omega) (by omega) (by omega) (by omega)
        rw [e] at q
        exact q
theorem inverse_ok {a M : Int} (hM : 0 < M) (hM2 : M ≤ FARn) (hg : Int.gcd a M = 1) (m : Mem) : ∃ u : Int, F_inverse [.dat (.int a), .dat (.int M)] m = .ok (.dat (.int u)) m ∧ 0 ≤ u ∧ u < M ∧ M ∣ (1 - u * a) := by
  have hr := fmod_nonneg (a := a) hM
  have hI : EInv M (a.fmod M) (a.fmod M).toNat M.toNat 1 0 := by
    refine ⟨?_, ?_, by simp, by simp, .inr rfl⟩
    · rw [show ((a.fmod M).toNat : Int) - 1 * a.fmod M = 0 by omega]; exact Int.dvd_zero _
    · rw [show (M.toNat : Int) - 0 * a.fmod M = M by omega]; exact Int.dvd_refl _
  obtain ⟨u, v', t', q, hd⟩ := inv_loop (show M ≤ 3 * FARn by unfold FARn at *; omega) (some (.dat (.int a))) (some (.dat (.int M))) m 400 (a.fmod M).toNat M.toNat 1000 1 0 none hI (by unfold FARn at hM2; omega) (by decide) (by unfold FARn at *; omega) (by unfold FARn at *; omega)
  have ed := TR.dvd_fmod (a := a) (b := M) (Int.dvd_refl M) hM
  have eg : Nat.gcd (a.fmod M).toNat M.toNat = 1 := by
    have h1 : Nat.gcd (a.fmod M).toNat M.toNat = Int.gcd (a.fmod M) M := by
      unfold Int.gcd
      rw [show (a.fmod M).natAbs = (a.fmod M).toNat by omega, show M.natAbs = M.toNat by omega]
    rw [h1, ← hg, Int.fmod_eq_emod_of_nonneg _ (by omega)]
    have := Int.gcd_add_mul_left_left M (a % M) (a / M)
    rw [Int.emod_add_mul_ediv] at this
    exact this.symm
  rw [eg] at hd
  rw [show (((a.fmod M).toNat : Nat) : Int) = a.fmod M by omega, show ((M.toNat : Nat) : Int) = M by omega] at q
  have hr2 := fmod_nonneg (a := u) hM
  refine ⟨u.fmod M, ?_, hr2.1, hr2.2, ?_⟩
  · simp [F_inverse, fnRun_ap, den_inverse, enter, mkTup, allDat, gT, gsC, gN, gsN, dWhile, q, show M ≠ 0 by omega]
  · have eu := TR.dvd_fmod (a := u) (b := M) (Int.dvd_refl M) hM
    obtain ⟨k1, hk1⟩ := hd
    obtain ⟨k2, hk2⟩ := ed
    obtain ⟨k3, hk3⟩ := eu
    refine ⟨k1 - u * k2 + a * k3, ?_⟩
    have e1 : u.fmod M = u - M * k3 := by omega
    have e2 : a.fmod M = a - M * k2 := by omega
    rw [e2] at hk1
    rw [e1]
    have x1 : u * (a - M * k2) = u * a - M * (u * k2) := by rw [Int.mul_sub, Int.mul_left_comm]
    have x2 : (u - M * k3) * a = u * a - M * (a * k3) := by rw [Int.sub_mul, Int.mul_assoc, Int.mul_comm k3 a]
    have x3 : M * (k1 - u * k2 + a * k3) = M * k1 - M * (u * k2) + M * (a * k3) := by rw [Int.mul_add, Int.mul_sub]
    rw [x2, x3]
    rw [x1] at hk1
    simp at hk1
    omega
/-! ### meeting -/
theorem meeting_none {f s f' s' : Int} (hs : 0 < s) (hs' : 0 < s') (h2 : s' ≤ FARn) (hd : ¬ (Int.gcd s s' : Int) ∣ (f' - f)) (m : Mem) : F_meeting [.dat (.int f), .dat (.int s), .dat (.int f'), .dat (.int s')] m = .ok (.dat .non) m := by
  have g := gcd_ok (a := s) (b := s') (by omega) (by omega) (by unfold FARn at h2; omega)
  have g0 : 0 < Int.gcd s s' := Int.gcd_pos_of_ne_zero_left _ (by omega)
  have hm : ¬ (f' - f).fmod (Int.gcd s s' : Int) = 0 := fun q => hd (Int.dvd_of_fmod_eq_zero q)
  simp [F_meeting, fnRun_ap, den_meeting, enter, g, show Int.gcd s s' ≠ 0 by omega, hm]
theorem dvd_cancel {g p x : Int} (h : p ∣ x) : g * p ∣ g * x := Int.mul_dvd_mul (Int.dvd_refl g) h
theorem meeting_ok {f s f' s' : Int} (hs : 0 < s) (hs' : 0 < s') (h1 : s ≤ FARn) (h2 : s' ≤ FARn) (hf : (f' - f).natAbs ≤ 3 * FARn) (hd : (Int.gcd s s' : Int) ∣ (f' - f)) (m : Mem) :
    ∃ x : Int, F_meeting [.dat (.int f), .dat (.int s), .dat (.int f'), .dat (.int s')] m = .ok (.dat (.tup [.int x, .int (Int.lcm s s')])) m ∧ s ∣ (x - f) ∧ s' ∣ (x - f') := by
  have g := gcd_ok (a := s) (b := s') (by omega) (by omega) (by unfold FARn at h2; omega)
  have g0 : 0 < Int.gcd s s' := Int.gcd_pos_of_ne_zero_left _ (by omega)
  have gle : Int.gcd s s' ≤ s.natAbs := Nat.le_of_dvd (by omega) (Nat.gcd_dvd_left ..)
  have gb : Int.gcd s s' < big := small_big (by unfold FARn at *; omega)
  have hm : (f' - f).fmod (Int.gcd s s' : Int) = 0 := Int.fmod_eq_zero_of_dvd hd
  have l1 := lcm_ok hs hs' h1 h2
  have L0 : 0 < Int.lcm s s' := Int.lcm_pos (by omega) (by omega)
  have dL1 : s ∣ (Int.lcm s s' : Int) := Int.dvd_lcm_left ..
  have dL2 : s' ∣ (Int.lcm s s' : Int) := Int.dvd_lcm_right ..
  obtain ⟨c, hc⟩ := hd
  obtain ⟨p, hp⟩ : (Int.gcd s s' : Int) ∣ s' := Int.gcd_dvd_right ..
  obtain ⟨o, ho⟩ : (Int.gcd s s' : Int) ∣ s := Int.gcd_dvd_left ..
  generalize hgg : (Int.gcd s s' : Int) = gg at *
  have gg0 : 0 < gg := by omega
  have ggn : gg ≠ 0 := by omega
  have p0 : 0 < p := by
    by_cases q : 0 < p
    · exact q
    · have := Int.mul_nonpos_of_nonneg_of_nonpos (show 0 ≤ gg by omega) (show p ≤ 0 by omega)
      omega
  have o0 : 0 < o := by
    by_cases q : 0 < o
    · exact q
    · have := Int.mul_nonpos_of_nonneg_of_nonpos (show 0 ≤ gg by omega) (show o ≤ 0 by omega)
      omega
  have e1 : s'.fdiv gg = p := by rw [hp]; exact Int.mul_fdiv_cancel_left _ ggn
  have e2 : s.fdiv gg = o := by rw [ho]; exact Int.mul_fdiv_cancel_left _ ggn
  have e3 : (f' - f).fdiv gg = c := by rw [hc]; exact Int.mul_fdiv_cancel_left _ ggn
  have ple : p ≤ s' := by
    have : 1 * p ≤ gg * p := Int.mul_le_mul_of_nonneg_right (by omega) (by omega)
    omega
  have ole : o ≤ s := by
    have : 1 * o ≤ gg * o := Int.mul_le_mul_of_nonneg_right (by omega) (by omega)
    omega
  have cle : c.natAbs ≤ (f' - f).natAbs := by
    rw [hc, Int.natAbs_mul]
    exact Nat.le_mul_of_pos_left _ (by omega)
  have gbI : gg.natAbs < big := by omega
  have hcop : Int.gcd o p = 1 := by
    have := Int.gcd_mul_left gg o p
    rw [← ho, ← hp] at this
    have h3 : gg.natAbs = Int.gcd s s' := by omega
    rw [h3] at this
    have h4 : Int.gcd s s' * 1 = Int.gcd s s' * Int.gcd o p := by omega
    exact (Nat.eq_of_mul_eq_mul_left g0 h4).symm
  have fin_ : ∀ t : Int, p ∣ (t * o - c) → s ∣ ((f + t * s).fmod (Int.lcm s s' : Int) - f) ∧ s' ∣ ((f + t * s).fmod (Int.lcm s s' : Int) - f') := fun t ht => by
    have q1 := TR.dvd_fmod (a := f + t * s) (b := (Int.lcm s s' : Int)) dL1 (by omega)
    have q2 := TR.dvd_fmod (a := f + t * s) (b := (Int.lcm s s' : Int)) dL2 (by omega)
    generalize (f + t * s).fmod (Int.lcm s s' : Int) = z at *
    constructor
    · have := Int.dvd_sub (show s ∣ t * s from ⟨t, Int.mul_comm _ _⟩) q1
      rw [show t * s - (f + t * s - z) = z - f by omega] at this
      exact this
    · have h5 : s' ∣ (t * s - (f' - f)) := by
        have := dvd_cancel (g := gg) ht
        rw [← hp, Int.mul_sub, ← hc, Int.mul_left_comm, ← ho] at this
        exact this
      have := Int.dvd_sub h5 q2
      rw [show t * s - (f' - f) - (f + t * s - z) = z - f' by omega] at this
      exact this
  have lb : Int.lcm s s' ≠ 0 := by omega
  by_cases hp1 : 1 < p
  · obtain ⟨u, hu, u0, u1, ud⟩ := inverse_ok (a := o) (M := p) (by omega) (by omega) hcop m
    have mo1 : mulOk c u = true := mulOk_big (small_big (by unfold FARn at *; omega)) (small_big (by unfold FARn at *; omega))
    have ht := fmod_nonneg (a := c * u) p0
    have mo2 : mulOk ((c * u).fmod p) s = true := mulOk_big (small_big (by unfold FARn at *; omega)) (small_big (by unfold FARn at *; omega))
    have hpd : p ∣ ((c * u).fmod p * o - c) := by
      have q := TR.dvd_fmod (a := c * u) (b := p) (Int.dvd_refl p) p0
      obtain ⟨k1, hk1⟩ := q
      obtain ⟨k2, hk2⟩ := ud
      refine ⟨-(k1 * o) - c * k2, ?_⟩
      have x1 : (c * u).fmod p = c * u - p * k1 := by omega
      rw [x1, Int.sub_mul, Int.mul_sub, Int.mul_neg, Int.mul_assoc, Int.mul_assoc]
      have x2 : c * (1 - u * o) = c * (p * k2) := by rw [hk2]
      rw [Int.mul_sub, Int.mul_one, Int.mul_left_comm c p k2] at x2
      omega
    obtain ⟨y1, y2⟩ := fin_ _ hpd
    refine ⟨_, ?_, y1, y2⟩
    simp [F_meeting, fnRun_ap, den_meeting, enter, g, ggn, hm, l1, e1, e2, e3, hp1, gbI, hu, mo1, mo2, show p ≠ 0 by omega, mkTup, allDat, lb]
  · have p1 : p = 1 := by omega
    obtain ⟨y1, y2⟩ := fin_ 0 (by rw [p1]; exact Int.one_dvd _)
    refine ⟨_, ?_, y1, y2⟩
    have mo : mulOk 0 s = true := mulOk_l _ (by decide)
    simp [F_meeting, fnRun_ap, den_meeting, enter, g, ggn, hm, l1, e1, hp1, gbI, mo, mkTup, allDat, lb]

theorem eqV_none (x : List Int) (m : Mem) : PL.eqV (.dat (trL x)) (.dat (.tup [.int 0, .int (-1), .int 1])) m = .ok (.dat (.bl (decide (x = [0, -1, 1])))) m := eqV_trL x [0, -1, 1] m
theorem eqV_none3 (a b c : Int) (m : Mem) : PL.eqV (.dat (tri a b c)) (.dat (.tup [.int 0, .int (-1), .int 1])) m = .ok (.dat (.bl (decide ([a, b, c] = [0, -1, 1])))) m := eqV_trL [a, b, c] [0, -1, 1] m
theorem tri_ix0 (a b c : Int) (m : Mem) : ixV (.dat (tri a b c)) (.dat (.int 0)) m = .ok (.dat (.int a)) m := by simp [tri, ixV, atI, ixN, rdSq]
theorem tri_ix1 (a b c : Int) (m : Mem) : ixV (.dat (tri a b c)) (.dat (.int 1)) m = .ok (.dat (.int b)) m := by simp [tri, ixV, atI, ixN, rdSq]
theorem tri_ix2 (a b c : Int) (m : Mem) : ixV (.dat (tri a b c)) (.dat (.int 2)) m = .ok (.dat (.int c)) m := by simp [tri, ixV, atI, ixN, rdSq]
theorem mk3 (a b c : Int) (m : Mem) : mkTup [.dat (.int a), .dat (.int b), .dat (.int c)] m = .ok (.dat (trL [a, b, c])) m := by simp [mkTup, allDat, trL]
theorem pair_ix0 (a b : Int) (m : Mem) : ixV (.dat (.tup [.int a, .int b])) (.dat (.int 0)) m = .ok (.dat (.int a)) m := by simp [ixV, atI, ixN, rdSq]
theorem pair_ix1 (a b : Int) (m : Mem) : ixV (.dat (.tup [.int a, .int b])) (.dat (.int 1)) m = .ok (.dat (.int b)) m := by simp [ixV, atI, ixN, rdSq]
theorem cm_nil {f l s f' l' s' : Int} (h : ∀ y, ¬ (y ∈ TR.els f s (TR.sz f l s).toNat ∧ y ∈ TR.els f' s' (TR.sz f' l' s').toNat)) : TR.cm f l s f' l' s' = [] := by
  match hx : TR.cm f l s f' l' s' with
  | [] => rfl
  | y :: r => exact absurd (TR.cm_mem.mp (by rw [hx]; exact List.mem_cons_self)) (h y)
theorem met_in_gen {f l s f' l' s' : Int} (h : Far f l s) (h' : Far f' l' s') (hs : 0 < s) (hs' : 0 < s') (m : Mem) : F_met_in [.dat (tri f l s), .dat (tri f' l' s')] m = .ok (.dat (trL (TR.shown (TR.cm f l s f' l' s')))) m := by
  obtain ⟨_, s1, s2, f1, f2, l1, l2⟩ := id h
  obtain ⟨_, s1', s2', f1', f2', l1', l2'⟩ := id h'
  have sh0 : TR.shown [] = [0, -1, 1] := rfl
  by_cases hd : (Int.gcd s s' : Int) ∣ (f' - f)
  · obtain ⟨x, q, x1, x2⟩ := meeting_ok (f := f) (f' := f') hs hs' s2 s2' (by unfold FARn at *; omega) hd m
    by_cases n1 : [f, l, s] = [0, -1, 1]
    · have e : TR.cm f l s f' l' s' = [] := cm_nil fun y hy => by
        simp at n1
        obtain ⟨rfl, rfl, rfl⟩ := n1
        rw [TR.sz_none] at hy
        exact absurd hy.1 (by simp [TR.els_zero])
      rw [e, sh0]
      simp [F_met_in, fnRun_ap, den_met_in, enter, tri_ix0, tri_ix2, q, eqV_none3, n1, trL]
    · by_cases n2 : [f', l', s'] = [0, -1, 1]
      · have e : TR.cm f l s f' l' s' = [] := cm_nil fun y hy => by
          simp at n2
          obtain ⟨rfl, rfl, rfl⟩ := n2
          rw [TR.sz_none] at hy
          exact absurd hy.2 (by simp [TR.els_zero])
        rw [e, sh0]
        have t1 := eqV_none3 f l s m
        have t2 := eqV_none3 f' l' s' m
        rw [decide_eq_false n1] at t1
        rw [decide_eq_true n2] at t2
        simp [F_met_in, fnRun_ap, den_met_in, enter, tri_ix0, tri_ix2, q, t1, t2, trL]
      · have L0 : 0 < Int.lcm s s' := Int.lcm_pos (by omega) (by omega)
        have Lle : Int.lcm s s' ≤ s.natAbs * s'.natAbs := Nat.le_of_dvd (Nat.mul_pos (by omega) (by omega)) (Nat.lcm_dvd_mul ..)
        have Lb : Int.lcm s s' < big := by
          have : s.natAbs * s'.natAbs ≤ 1000000000000000000000000000000 * 1000000000000000000000000000000 := Nat.mul_le_mul (by unfold FARn at *; omega) (by unfold FARn at *; omega)
          exact small_big (by omega)
        have hr := fmod_nonneg (a := x - max f f') (b := (Int.lcm s s' : Int)) (by omega)
        generalize hL : (Int.lcm s s' : Int) = L at *
        have mm := TR.met_mem (f := f) (l := l) (f' := f') (l' := l') (x := x) (L := L) hs hs' (by omega) x1 x2 (by rw [← hL]; exact Int.dvd_lcm_left ..) (by rw [← hL]; exact Int.dvd_lcm_right ..) (fun y a b => by rw [← hL]; exact TR.lcm_dvd a b)
        generalize hst : max f f' + (x - max f f').fmod L = st at *
        have hz : TR.sz st (min l l') L ≤ 6 * FARn := by
          by_cases q : st ≤ min l l'
          · exact TR.sz_le (by omega) (by decide) (by unfold FARn at *; omega)
          · have : ¬ 0 < TR.sz st (min l l') L := fun z => by
              have := ((TR.lt_sz (f := st) (l := min l l') (s := L) (k := 0) (by omega) (by omega)).mp z).1 (by omega)
              omega
            unfold FARn
            omega
        have z0 := TR.sz_nonneg st (min l l') L
        have tr := trimmed_gen (lo := st) (hi := min l l') (st := L) (by omega) (by omega) (small_big (by unfold FARn at *; omega))
        have e : TR.cm f l s f' l' s' = TR.up st (min l l') L := TR.lt_ext (TR.cm_lt (by omega)) (TR.up_lt (by omega)) fun y => by rw [TR.cm_mem, TR.up_mem]; exact mm y
        rw [e, ← TR.nr_shown' (by omega)]
        have t1 := eqV_none3 f l s m
        have t2 := eqV_none3 f' l' s' m
        rw [decide_eq_false n1] at t1
        rw [decide_eq_false n2] at t2
        simp [F_met_in, fnRun_ap, den_met_in, enter, tri_ix0, tri_ix1, tri_ix2, q, t1, t2, pair_ix0, pair_ix1, show L ≠ 0 by omega, hst, tr]
  · have q := meeting_none (f := f) (f' := f') hs hs' s2' hd m
    have e : TR.cm f l s f' l' s' = [] := cm_nil fun y => TR.gcd_none hd l l' y hs hs'
    rw [e, sh0]
    simp [F_met_in, fnRun_ap, den_met_in, enter, tri_ix0, tri_ix2, q, trL]
theorem met_in_ok {f l s f' l' s' : Int} (h : Far f l s) (h' : Far f' l' s') (m : Mem) : F_met_in [.dat (trL (TR.nr f l s)), .dat (trL (TR.nr f' l' s'))] m = .ok (.dat (trL (TR.shown (TR.cm f l s f' l' s')))) m := by
  rw [trL_tri (nr_len _ _ _), trL_tri (nr_len _ _ _), met_in_gen (nr_tp h).far (nr_tp h').far (TR.nr_C h.1) (TR.nr_C h'.1), TR.cm_nr h.1 h'.1]
theorem met_ok {f l s f' l' s' : Int} (h : Far f l s) (h' : Far f' l' s') (m : Mem) : F_met [.dat (tri f l s), .dat (tri f' l' s')] m = .ok (.dat (trL (TR.shown (TR.cm f l s f' l' s')))) m := by
  simp [F_met, fnRun_ap, den_met, enter, check_two_ok h h', normal_of_ok h, normal_of_ok h', met_in_ok h h']
theorem lies_in_ok {f l s f' l' s' : Int} (h : Far f l s) (h' : Far f' l' s') (m : Mem) : F_lies_in [.dat (tri f l s), .dat (tri f' l' s')] m = .ok (.dat (.bl (decide (TR.shown (TR.cm f l s f' l' s') = TR.nr f l s)))) m := by
  simp [F_lies_in, fnRun_ap, den_lies_in, enter, check_two_ok h h', normal_of_ok h, normal_of_ok h', met_in_ok h h']

theorem getL_ints (x : Int) (r : List Int) : atI ((x :: r).map D.int) (-1) = some (.int ((x :: r).getLast (by simp))) := by
  have e : ixN (((x :: r).map D.int).length) (-1) = some ((x :: r).length - 1) := by
    unfold ixN
    simp
    omega
  unfold atI
  rw [e]
  simp only [Option.bind_some]
  rw [List.getElem?_map, ← List.getLast?_eq_getElem?, List.getLast?_eq_some_getLast (by simp)]
  rfl
theorem eq_nil_ints (xs : List Int) (m : Mem) : PL.eqV (.dat (.lst (xs.map D.int))) (.dat (.lst [])) m = .ok (.dat (.bl (decide (xs = [])))) m := by
  have e := eqd_ints xs []
  have o := okD_ints xs
  have o0 := okD_ints []
  simp only [List.map_nil] at e o0
  simp [PL.eqV, svD, o, o0, e]
theorem ne_nil_ints (xs : List Int) (m : Mem) : PL.neV (.dat (.lst (xs.map D.int))) (.dat (.lst [])) m = .ok (.dat (.bl (!decide (xs = [])))) m := by
  have e := eqd_ints xs []
  have o := okD_ints xs
  have o0 := okD_ints []
  simp only [List.map_nil] at e o0
  simp [PL.neV, svD, o, o0, e]
theorem atI_0 {α : Type} (x : α) (z : List α) : atI (x :: z) 0 = some x := by
  have h : ixN (z.length + 1) 0 = some 0 := by simp [ixN] <;> omega
  simp [atI, h]
theorem atI_1 {α : Type} (x y : α) (z : List α) : atI (x :: y :: z) 1 = some y := by
  have h : ixN (z.length + 1 + 1) 1 = some 1 := by simp [ixN] <;> omega
  simp [atI, h]
theorem atI_2 {α : Type} (x y w : α) (z : List α) : atI (x :: y :: w :: z) 2 = some w := by
  have h : ixN (z.length + 1 + 1 + 1) 2 = some 2 := by simp [ixN] <;> omega
  simp [atI, h]
theorem shown_ok (xs : List Int) (m : Mem) : F__law_shown [.dat (.lst (xs.map D.int))] m = .ok (.dat (trL (TR.shown xs))) m := by
  have e := eq_nil_ints xs m
  match xs with
  | [] =>
    simp only [List.map_nil] at e
    simp [F__law_shown, fnRun_ap, den__law_shown, enter, mkLst, mkTup, allDat, e, TR.shown, trL]
  | [x] =>
    have g := getL_ints x []
    simp only [List.map_cons, List.map_nil] at e g
    simp [F__law_shown, fnRun_ap, den__law_shown, enter, mkLst, mkTup, allDat, e, TR.shown, trL, ixV, rdSq, rdL, lenV, g, atI_0]
  | x :: y :: r =>
    have g := getL_ints x (y :: r)
    simp only [List.map_cons] at e g
    simp [F__law_shown, fnRun_ap, den__law_shown, enter, mkLst, mkTup, allDat, e, TR.shown, trL, ixV, rdSq, rdL, lenV, atI_0, atI_1, g, show (1 : Int) < (r.length : Int) + 1 + 1 by omega]

/-! ### far -/
theorem sgn_mul {x d : Int} (hd : d = 0 ∨ d = 1) : x * (1 - 2 * d) = x ∨ x * (1 - 2 * d) = -x := by
  rcases hd with rfl | rfl
  · exact .inl (by omega)
  · exact .inr (by omega)
theorem count_ok {f l s : Int} (h : Far f l s) (m : Mem) : F__law_count [.dat (tri f l s)] m = .ok (.dat (.int (TR.sz f l s))) m := by
  have hb : s.natAbs < big := far_big h.2.1 h.2.2.1
  have hs := h.1
  rw [TR.sz_count hs]
  by_cases h1 : 0 < s
  · by_cases h2 : 0 ≤ l - f
    · have h2' : f ≤ l := by omega
      simp [F__law_count, fnRun_ap, den__law_count, enter, tri, ixV, atI, ixN, rdSq, h1, h2', hs, hb]
    · have h2' : ¬ f ≤ l := by omega
      simp [F__law_count, fnRun_ap, den__law_count, enter, tri, ixV, atI, ixN, rdSq, h1, h2', hs, hb]
  · by_cases h2 : 0 ≤ f - l
    · have h2' : l ≤ f := by omega
      simp [F__law_count, fnRun_ap, den__law_count, enter, tri, ixV, atI, ixN, rdSq, h1, h2', hs, hb]
    · have h2' : ¬ l ≤ f := by omega
      simp [F__law_count, fnRun_ap, den__law_count, enter, tri, ixV, atI, ixN, rdSq, h1, h2', hs, hb]

/-! ### near -/
theorem near_far {f l s : Int} (h : Near f l s) : Far f l s := by
  unfold Near at h
  unfold Far FARn
  omega
theorem members_ok {f l s : Int} (h : Near f l s) (m : Mem) : F__law_members [.dat (tri f l s)] m = .ok (.dat (.lst ((TR.els f s (TR.sz f l s).toNat).map D.int))) m :=
  members_gen h.1 (by unfold Near at h; omega) (by have : TR.sz f l s ≤ 121 := TR.sz_le h.1 (by decide) (by unfold Near at h; omega); omega) m
theorem okb2 (a b : Bool) : okD (.lst [.bl a, .bl b]) = true := by simp [okD, PL.plain, plains, dep, deps]
@[simp] theorem eqV_bl2 (a b c d : Bool) (m : Mem) : PL.eqV (.dat (.lst [.bl a, .bl b])) (.dat (.lst [.bl c, .bl d])) m = .ok (.dat (.bl (a == c && b == d))) m := by
  simp [PL.eqV, svD, okb2, eqd_lst_cons, eqd_lst_nil, eqd_bl]
theorem both_lc (xs ys : List Int) (hl : xs.length ≤ 1000) (a b c d e : Option SV) (m : Mem) : noX (loopC (gN 6) ct2__law_near_right ce1__law_near_right [a, b, c, d, some (.dat (.lst (ys.map D.int))), e, none] (xs.map D.int) []) m = .ok ((xs.filter fun x => decide (x ∈ ys)).map D.int) m := by
  have q := loopC_map (g := gN 6) (t := ct2__law_near_right) (f := ce1__law_near_right) (env := [a, b, c, d, some (.dat (.lst (ys.map D.int))), e, none]) (m := m) (fun x => match x with | .int i => decide (i ∈ ys) | _ => false) (fun x => x) (xs.map D.int) [] (fun x hx => by
    obtain ⟨i, _, rfl⟩ := List.mem_map.mp hx
    refine ⟨_, rfl, ?_, fun _ => ?_⟩
    · simp [ct2__law_near_right, inSV, rdSq, rdL, hasD_ints]
    · simp [ce1__law_near_right]) (by simp; omega)
  simp only [noX, q]
  simp [List.filter_map]
  rfl
theorem near_right_ok {k : Nat} {m : Mem} (h : Wl k m) : ∃ m', F__law_near_right [.ref k] m = .ok (.dat (.bl true)) m' ∧ Wl k m' ∧ m'.length = m.length := by
  obtain ⟨f, l, s, m1, e1, w1, l1, hn⟩ := near_ok h
  obtain ⟨f', l', s', m2, e2, w2, l2, hn'⟩ := near_ok w1
  have hF := near_far hn
  have hF' := near_far hn'
  have hs := hF.1
  have hs' := hF'.1
  have hz : TR.sz f l s ≤ 121 := TR.sz_le hn.1 (by decide) (by unfold Near at hn; omega)
  have hz' : TR.sz f' l' s' ≤ 121 := TR.sz_le hn'.1 (by decide) (by unfold Near at hn'; omega)
  have z0 := TR.sz_nonneg f l s
  have z0' := TR.sz_nonneg f' l' s'
  have ht : m2.take m.length = m2 := List.take_of_length_le (by omega)
  have t1 := members_ok hn
  have t2 := members_ok hn'
  have lc := both_lc (TR.up f l s) (TR.els f' s' (TR.sz f' l' s').toNat) (by rw [TR.up_length]; omega) (some (.ref k)) (some (.dat (tri f l s))) (some (.dat (tri f' l' s'))) (some (.dat (.lst ((TR.els f s (TR.sz f l s).toNat).map D.int)))) none
  have hcm : ((TR.up f l s).filter fun x => decide (x ∈ TR.els f' s' (TR.sz f' l' s').toNat)) = TR.cm f l s f' l' s' := rfl
  rw [hcm] at lc
  have t3 := met_ok hF hF'
  have t4 := met_ok hF' hF
  rw [← TR.cm_comm hs hs'] at t4
  have t5 := shown_ok (TR.cm f l s f' l' s')
  have t6 := lies_in_ok hF hF'
  have t7 := lies_in_ok hF' hF
  have d6 : decide (TR.shown (TR.cm f l s f' l' s') = TR.nr f l s) = decide ((TR.cm f l s f' l' s').length = (TR.sz f l s).toNat) := decide_eq_decide.mpr (TR.lies_iff hs hs')
  have d7 : decide (TR.shown (TR.cm f' l' s' f l s) = TR.nr f' l' s') = decide ((TR.cm f l s f' l' s').length = (TR.sz f' l' s').toNat) := decide_eq_decide.mpr (by rw [TR.lies_iff hs' hs, TR.cm_comm hs' hs])
  rw [d6] at t6
  rw [d7] at t7
  have su : sortI (TR.els f s (TR.sz f l s).toNat) = TR.up f l s := rfl
  have tl1 : (((TR.sz f l s).toNat : Nat) : Int) = TR.sz f l s := by omega
  refine ⟨m2, ?_, w2, by omega⟩
  simp [F__law_near_right, fnRun_ap, den__law_near_right, enter, e1, e2, t1, t2, mkTup, allDat, gT, gsC, gsN, gN, su, itemsV, wipeE, lc, t3, t4, t5, t6, t7, mkLst, lenV, rdSq, rdL, TR.els_length, ht]
  omega

/-! ### far -/
structure FT (u f l s : Int) : Prop where
  far : Far f l s
  pos : 0 < s
  sm : s ≤ 60000000420
  mul : ∃ i : Int, 1 ≤ i ∧ i ≤ 60 ∧ s = u * i
  le : f ≤ l
theorem far_trio_ok {k : Nat} {m : Mem} (h : Wl k m) {b u : Int} (hu : 1 ≤ u) (hu2 : u ≤ 1000000007) (hb : -300000000000000000000000000000 ≤ b) (hb2 : b ≤ 900000000000000000000000000000) :
    ∃ f l s m', F__law_far_trio [.ref k, .dat (.int b), .dat (.int u)] m = .ok (.dat (tri f l s)) m' ∧ Wl k m' ∧ m'.length = m.length ∧ FT u f l s := by
  obtain ⟨a1, m1, e1, w1, l1, h1a, h1b⟩ := draw_ok h (n := 60) (by decide) (small_big (by decide))
  obtain ⟨a2, m2, e2, w2, l2, h2a, h2b⟩ := draw_ok w1 (n := 1000000) (by decide) (small_big (by decide))
  obtain ⟨d3, m3, e3, w3, l3, h3⟩ := pick_ok w2 (xs := [.int 0, .int 0, .int 0, .int 1]) (by decide) (by decide)
  obtain ⟨d4, m4, e4, w4, l4, h4⟩ := pick_ok w3 (xs := [.int 0, .int 1, .int 5, .int 100, .int 1000000000, .int 1000000000000]) (by decide) (by decide)
  obtain ⟨x3, rfl, x3a, x3b⟩ : ∃ x : Int, d3 = .int x ∧ 0 ≤ x ∧ x ≤ 1 := by
    simp at h3
    rcases h3 with h | h <;> exact ⟨_, h, by decide⟩
  obtain ⟨x4, rfl, x4a, x4b⟩ : ∃ x : Int, d4 = .int x ∧ 0 ≤ x ∧ x ≤ 1000000000000 := by
    simp at h4
    rcases h4 with h | h | h | h | h | h <;> exact ⟨_, h, by decide⟩
  have sp : u * (1 + a1) ≤ 1000000007 * 60 := Int.mul_le_mul hu2 (by omega) (by omega) (by omega)
  have sq : 1 * 1 ≤ u * (1 + a1) := Int.mul_le_mul hu (by omega) (by omega) (by omega)
  obtain ⟨a5, m5, e5, w5, l5, h5a, h5b⟩ := draw_ok w4 (n := u * (1 + a1)) (by omega) (small_big (by omega))
  have ht : m5.take m.length = m5 := List.take_of_length_le (by omega)
  have mo1 : mulOk u (1 + a1) = true := mulOk_l _ (by omega)
  have mo2 : mulOk u (a2 - 500000) = true := mulOk_l _ (by omega)
  have mo3 : mulOk 5 100000 = true := mulOk_l _ (by decide)
  have mo4 : mulOk x4 (u * (1 + a1)) = true := mulOk_l _ (by omega)
  have b1 : u * (a2 - 500000) ≤ 1000000007 * 500000 := by
    by_cases q : 0 ≤ a2 - 500000
    · exact Int.mul_le_mul hu2 (by omega) q (by omega)
    · have := Int.mul_nonpos_of_nonneg_of_nonpos (show 0 ≤ u by omega) (show a2 - 500000 ≤ 0 by omega)
      omega
  have b2 : -(1000000007 * 500000) ≤ u * (a2 - 500000) := by
    have : u * (500000 - a2) ≤ 1000000007 * 500000 := by
      by_cases q : 0 ≤ 500000 - a2
      · exact Int.mul_le_mul hu2 (by omega) q (by omega)
      · have := Int.mul_nonpos_of_nonneg_of_nonpos (show 0 ≤ u by omega) (show 500000 - a2 ≤ 0 by omega)
        omega
    have e : u * (a2 - 500000) = -(u * (500000 - a2)) := by rw [← Int.mul_neg]; congr 1; omega
    omega
  have b3 : 0 ≤ x4 * (u * (1 + a1)) := Int.mul_nonneg x4a (by omega)
  have ex : 1 + x4 - 1 = x4 := by omega
  refine ⟨b + u * (a2 - 500000) + x3, min 1000000000000000000000000000000 (b + u * (a2 - 500000) + x3 + x4 * (u * (1 + a1)) + a5), u * (1 + a1), m5, ?_, w5, by omega, ⟨?_, by omega, by omega, ⟨1 + a1, by omega, by omega, rfl⟩, by omega⟩⟩
  · simp [F__law_far_trio, fnRun_ap, den__law_far_trio, enter, e1, e2, e3, e4, mkLst, mkTup, allDat, mo1, mo2, mo3, mo4, ex, e5, ht, tri]
  · unfold Far FARn
    omega
/-- the first place -/
theorem first_place {f f' s : Int} (hs : 0 < s) : ∃ k : Nat, max f (f + -((-(f' - f)).fdiv s) * s) = f + (k : Int) * s ∧ f' ≤ f + (k : Int) * s ∧ (∀ j : Nat, f' ≤ f + (j : Int) * s → k ≤ j) := by
  rw [Int.fdiv_eq_ediv_of_nonneg _ (by omega)]
  have e := Int.emod_add_mul_ediv (-(f' - f)) s
  have r0 := Int.emod_nonneg (-(f' - f)) (show s ≠ 0 by omega)
  have r1 := Int.emod_lt_of_pos (-(f' - f)) hs
  generalize (-(f' - f)) / s = q at *
  generalize (-(f' - f)) % s = r at *
  have eq1 : -q * s = -(s * q) := by rw [Int.neg_mul, Int.mul_comm]
  by_cases h : 0 ≤ -q
  · refine ⟨(-q).toNat, ?_, ?_, fun j hj => ?_⟩
    · rw [show (((-q).toNat : Nat) : Int) = -q by omega]
      have : 0 ≤ -q * s := Int.mul_nonneg h (by omega)
      omega
    · rw [show (((-q).toNat : Nat) : Int) = -q by omega]
      omega
    · by_cases c : (-q).toNat ≤ j
      · exact c
      · have : ((j : Int) + 1) * s ≤ -q * s := Int.mul_le_mul_of_nonneg_right (by omega) (by omega)
        rw [Int.add_mul] at this
        omega
  · refine ⟨0, ?_, ?_, fun j _ => by omega⟩
    · have : -q * s ≤ 0 := Int.mul_nonpos_of_nonpos_of_nonneg (by omega) (by omega)
      simp
      omega
    · have : -q * s ≤ 0 := Int.mul_nonpos_of_nonpos_of_nonneg (by omega) (by omega)
      simp
      omega
theorem loop1 {f l s f' l' s' : Int} (hs' : 0 < s') (c d e : Option SV) (m : Mem) (t0 : Int) :
    ∀ (r j : Nat), j + r = 61 → ∀ b : Option SV, ∃ (k : Nat) (b' : Option SV), j ≤ k ∧ k ≤ 61 ∧ (∀ i, j ≤ i → i < k → ¬ s' ∣ (t0 + (i : Int) * s - f')) ∧ (k < 61 → s' ∣ (t0 + (k : Int) * s - f')) ∧
      loopF (gN 3) lp1__law_found ((List.range' j r).map fun (i : Nat) => D.int (0 + (i : Int))) [some (.dat (tri f l s)), some (.dat (tri f' l' s')), some (.dat (.int (t0 + (j : Int) * s))), b, c, d, e] m =
        .ok (.nx [some (.dat (tri f l s)), some (.dat (tri f' l' s')), some (.dat (.int (t0 + (k : Int) * s))), b', c, d, e]) m := by
  intro r
  induction r with
  | zero =>
    intro j h b
    have hj : j = 61 := by omega
    subst hj
    exact ⟨61, b, by omega, by omega, fun i _ _ => by omega, fun q => by omega, rfl⟩
  | succ r ih =>
    intro j h b
    rw [List.range'_succ, List.map_cons]
    by_cases hd : s' ∣ (t0 + (j : Int) * s - f')
    · have hm : (t0 + (j : Int) * s - f').fmod s' = 0 := Int.fmod_eq_zero_of_dvd hd
      refine ⟨j, some (.dat (.int (0 + (j : Int)))), by omega, by omega, fun i _ _ => by omega, fun _ => hd, loopF_bk rfl ?_⟩
      simp [lp1__law_found, tri_ix0, tri_ix2, show s' ≠ 0 by omega, hm]
    · have hm : ¬ (t0 + (j : Int) * s - f').fmod s' = 0 := fun q => hd (Int.dvd_of_fmod_eq_zero q)
      obtain ⟨k, b', k1, k2, k3, k4, q⟩ := ih (j + 1) (by omega) (some (.dat (.int (0 + (j : Int)))))
      refine ⟨k, b', by omega, k2, fun i h1 h2 => ?_, k4, (loopF_nx rfl ?_).trans q⟩
      · by_cases q : i = j
        · subst q; exact hd
        · exact k3 i (by omega) h2
      · have e : t0 + (j : Int) * s + s = t0 + ((j + 1 : Nat) : Int) * s := by
          rw [show ((j + 1 : Nat) : Int) = (j : Int) + 1 by omega, Int.add_mul]
          omega
        simp [lp1__law_found, tri_ix0, tri_ix2, show s' ≠ 0 by omega, hm]
        rw [e]
        simp
theorem loop2 {f l s f' l' s' : Int} (hs' : 0 < s') (a b e : Option SV) (m : Mem) {k0 : Nat} (k1 : 0 < k0) (h1 : s' ∣ ((k0 : Int) * s)) (h2 : ∀ i : Nat, 0 < i → i < k0 → ¬ s' ∣ ((i : Int) * s)) :
    ∀ (r j : Nat), 0 < j → j ≤ k0 → k0 ≤ j + r → ∀ (c : Option SV) (jj : Nat), ∃ c' : Option SV,
      loopF (gN 3) lp2__law_found ((List.range' jj r).map fun (i : Nat) => D.int (0 + (i : Int))) [some (.dat (tri f l s)), some (.dat (tri f' l' s')), a, c, b, some (.dat (.int ((j : Int) * s))), e] m =
        .ok (.nx [some (.dat (tri f l s)), some (.dat (tri f' l' s')), a, c', b, some (.dat (.int ((k0 : Int) * s))), e]) m := by
  intro r
  induction r with
  | zero =>
    intro j j0 j1 j2 c jj
    have hj : j = k0 := by omega
    subst hj
    exact ⟨c, rfl⟩
  | succ r ih =>
    intro j j0 j1 j2 c jj
    rw [List.range'_succ, List.map_cons]
    by_cases hj : j = k0
    · subst hj
      have hm : ((j : Int) * s).fmod s' = 0 := Int.fmod_eq_zero_of_dvd h1
      obtain ⟨c', q⟩ := ih j j0 (by omega) (by omega) (some (.dat (.int (0 + (jj : Int))))) (jj + 1)
      refine ⟨c', (loopF_nx rfl ?_).trans q⟩
      simp [lp2__law_found, tri_ix2, show s' ≠ 0 by omega, hm]
    · have hm : ¬ ((j : Int) * s).fmod s' = 0 := fun q => h2 j j0 (by omega) (Int.dvd_of_fmod_eq_zero q)
      obtain ⟨c', q⟩ := ih (j + 1) (by omega) (by omega) (by omega) (some (.dat (.int (0 + (jj : Int))))) (jj + 1)
      refine ⟨c', (loopF_nx rfl ?_).trans q⟩
      have e : (j : Int) * s + s = ((j + 1 : Nat) : Int) * s := by
        rw [show ((j + 1 : Nat) : Int) = (j : Int) + 1 by omega, Int.add_mul]
        omega
      simp [lp2__law_found, tri_ix2, show s' ≠ 0 by omega, hm]
      rw [e]
      simp
/-- the least k with s' ∣ k * s -/
theorem least_mul {s s' : Int} {n : Nat} (hn : 0 < n) (h : s' ∣ ((n : Int) * s)) : ∃ k : Nat, 0 < k ∧ k ≤ n ∧ s' ∣ ((k : Int) * s) ∧ ∀ i : Nat, 0 < i → i < k → ¬ s' ∣ ((i : Int) * s) := by
  induction n using Nat.strongRecOn with
  | ind n ih =>
    by_cases q : ∃ i : Nat, 0 < i ∧ i < n ∧ s' ∣ ((i : Int) * s)
    · obtain ⟨i, i0, i1, i2⟩ := q
      obtain ⟨k, k0, k1, k2, k3⟩ := ih i i1 i0 i2
      exact ⟨k, k0, by omega, k2, k3⟩
    · exact ⟨n, hn, Nat.le_refl _, h, fun i i0 i1 i2 => q ⟨i, i0, i1, i2⟩⟩
theorem found_ok {u f l s f' l' s' : Int} (hu : 1 ≤ u) (h : FT u f l s) (h' : FT u f' l' s') (m : Mem) : ∃ a b c, F__law_found [.dat (tri f l s), .dat (tri f' l' s')] m = .ok (.dat (trL (TR.nr a b c))) m ∧ 0 < c ∧ c ≤ 100000000000000 ∧ TR.cm f l s f' l' s' = TR.up a b c ∧ Far a b c := by
  have hs := h.pos
  have hs' := h'.pos
  obtain ⟨i, i1, i2, ei⟩ := h.mul
  obtain ⟨j, j1, j2, ej⟩ := h'.mul
  have hF := h.far
  have hF' := h'.far
  obtain ⟨_, s1, s2, f1, f2, l1, l2⟩ := id hF
  obtain ⟨_, s1', s2', f1', f2', l1', l2'⟩ := id hF'
  obtain ⟨k, ek, kf, kmin⟩ := first_place (f := f) (f' := f') hs
  have period : ∀ t : Int, (s' ∣ t) ↔ s' ∣ (t + (j : Int) * s) := fun t => by
    have q : s' ∣ (j * s) := ⟨i, by rw [ei, ej, Int.mul_left_comm, Int.mul_assoc]⟩
    constructor
    · intro h; exact Int.dvd_add h q
    · intro h
      have := Int.dvd_sub h q
      rw [show t + j * s - j * s = t by omega] at this
      exact this
  obtain ⟨n, b', _, n2, n3, n4, lp⟩ := loop1 (f := f) (l := l) (s := s) (f' := f') (l' := l') hs' none none none m (f + (k : Int) * s) 61 0 rfl none
  have rng : rngD 0 61 = (List.range' 0 61).map fun (i : Nat) => D.int (0 + (i : Int)) := by
    unfold rngD
    rw [List.range_eq_range']
  rw [← rng] at lp
  simp only [Int.natCast_zero, Int.zero_mul, Int.add_zero] at lp
  generalize ht0 : f + (k : Int) * s = t0 at *
  have red : ∀ p : Nat, s' ∣ (t0 + (p : Int) * s - f') → ∃ p' : Nat, p' ≤ p ∧ p' < 61 ∧ s' ∣ (t0 + (p' : Int) * s - f') := by
    intro p
    induction p using Nat.strongRecOn with
    | ind p ih =>
      intro hp
      by_cases c : p < 61
      · exact ⟨p, Nat.le_refl _, c, hp⟩
      · have e : t0 + (p : Int) * s - f' = t0 + ((p - j.toNat : Nat) : Int) * s - f' + j * s := by
          rw [show ((p - j.toNat : Nat) : Int) = (p : Int) - j by omega, Int.sub_mul]
          omega
        rw [e] at hp
        obtain ⟨p', a, b, c⟩ := ih (p - j.toNat) (by omega) ((period _).mpr hp)
        exact ⟨p', by omega, b, c⟩
  have least : ∀ p : Nat, s' ∣ (t0 + (p : Int) * s - f') → n ≤ p ∧ n < 61 := fun p hp => by
    obtain ⟨p', a, b, c⟩ := red p hp
    by_cases q : n ≤ p'
    · exact ⟨by omega, by omega⟩
    · exact absurd c (n3 p' (by omega) (by omega))
  have cmy : ∀ y, y ∈ TR.els f s (TR.sz f l s).toNat ∧ y ∈ TR.els f' s' (TR.sz f' l' s').toNat → t0 + (n : Int) * s ≤ y ∧ n < 61 ∧ y ≤ min l l' ∧ s ∣ (y - f) ∧ s' ∣ (y - f') := fun y hy => by
    obtain ⟨⟨a1, a2, q, hq⟩, b1, b2, b3⟩ := (And.intro ((TR.mem_sz hs).mp hy.1) ((TR.mem_sz hs').mp hy.2))
    have q0 : 0 ≤ q := by
      by_cases z : 0 ≤ q
      · exact z
      · have : s * q < 0 := Int.mul_neg_of_pos_of_neg hs (by omega)
        omega
    have ey : y = f + (q.toNat : Int) * s := by rw [show ((q.toNat : Nat) : Int) = q by omega, Int.mul_comm]; omega
    have hk := kmin q.toNat (by omega)
    have ey2 : y = t0 + ((q.toNat - k : Nat) : Int) * s := by
      rw [show ((q.toNat - k : Nat) : Int) = (q.toNat : Int) - (k : Int) by omega, Int.sub_mul]
      omega
    have := least (q.toNat - k) (by rw [← ey2]; exact b3)
    have : (n : Int) * s ≤ ((q.toNat - k : Nat) : Int) * s := Int.mul_le_mul_of_nonneg_right (by omega) (by omega)
    exact ⟨by omega, by omega, by omega, ⟨q, hq⟩, b3⟩
  have mo1 : ∀ x : Int, mulOk x s = true := fun x => mulOk_r _ (by have := h.sm; omega)
  have hsb : s.natAbs < big := small_big (by have := h.sm; omega)
  have upn : TR.up 0 (-1) 1 = [] := by rw [TR.up, TR.sz_none]; simp [TR.els_zero, sortI]
  have nrn : TR.nr 0 (-1) 1 = [0, -1, 1] := by decide
  by_cases cA : s' ∣ (t0 + (n : Int) * s - f')
  · have hmA : (t0 + (n : Int) * s - f').fmod s' = 0 := Int.fmod_eq_zero_of_dvd cA
    by_cases cB : min l l' < t0 + (n : Int) * s
    · refine ⟨0, -1, 1, ?_, by decide, by decide, ?_, far_none⟩
      · rw [nrn]
        simp [F__law_found, fnRun_ap, den__law_found, enter, tri_ix0, tri_ix1, tri_ix2, mo1, hsb, show s ≠ 0 by omega, show s' ≠ 0 by omega, rng1V]
        simp [ek, lp, tri_ix0, tri_ix1, tri_ix2, hmA, cB, mkTup, allDat, trL, show s' ≠ 0 by omega]
      · rw [upn]
        exact cm_nil fun y hy => by
          have := cmy y hy
          omega
    · obtain ⟨k0, k01, k02, k03, k04⟩ := least_mul (s := s) (s' := s') (n := j.toNat) (by omega) (by
        rw [show ((j.toNat : Nat) : Int) = j by omega]
        exact ⟨i, by rw [ei, ej, Int.mul_left_comm, Int.mul_assoc]⟩)
      obtain ⟨c', lp2⟩ := loop2 (f := f) (l := l) (f' := f') (l' := l') hs' (some (.dat (.int (t0 + (n : Int) * s)))) (some (.dat (.int (min l l')))) none m k01 k03 k04 61 1 (by decide) (by omega) (by omega) b' 0
      have stp : 1 * s ≤ (k0 : Int) * s := Int.mul_le_mul_of_nonneg_right (by omega) (by omega)
      have stq : (k0 : Int) * s ≤ 60 * s := Int.mul_le_mul_of_nonneg_right (by omega) (by omega)
      have hsm := h.sm
      have dl := TR.lcm_least hs hs' k01 k03 k04
      have d1 : s ∣ ((k0 : Int) * s) := ⟨(k0 : Int), Int.mul_comm _ _⟩
      generalize hst : (k0 : Int) * s = st at *
      generalize hfi : t0 + (n : Int) * s = fi at *
      have fif : f ≤ fi ∧ s ∣ (fi - f) := by
        have a1 : 0 ≤ (k : Int) * s := Int.mul_nonneg (by omega) (by omega)
        have a2 : 0 ≤ (n : Int) * s := Int.mul_nonneg (by omega) (by omega)
        refine ⟨by omega, ⟨(k : Int) + (n : Int), ?_⟩⟩
        rw [Int.mul_comm, Int.add_mul]
        omega
      have fif' : f' ≤ fi := by
        have a2 : 0 ≤ (n : Int) * s := Int.mul_nonneg (by omega) (by omega)
        omega
      have hz : TR.sz fi (min l l') st = (min l l' - fi).fdiv st + 1 := by
        unfold TR.sz
        rw [fdiv_step _ _ (by omega), Int.fdiv_eq_ediv_of_nonneg _ (by omega)]
        have := Int.ediv_nonneg (show 0 ≤ min l l' - fi by omega) (show 0 ≤ st by omega)
        omega
      have q0 : 0 ≤ (min l l' - fi).fdiv st := by
        rw [Int.fdiv_eq_ediv_of_nonneg _ (by omega)]
        exact Int.ediv_nonneg (by omega) (by omega)
      have mo2 : ∀ x : Int, mulOk x st = true := fun x => mulOk_r _ (by omega)
      have hstb : st.natAbs < big := small_big (by omega)
      refine ⟨fi, min l l', st, ?_, by omega, by omega, ?_, ?_⟩
      · rw [← rng] at lp2
        simp only [Int.natCast_one, Int.one_mul] at lp2
        have cB' : ¬ min l l' < fi := cB
        simp [F__law_found, fnRun_ap, den__law_found, enter, tri_ix0, tri_ix1, tri_ix2, mo1, hsb, show s ≠ 0 by omega, show s' ≠ 0 by omega, rng1V]
        simp [ek, lp, tri_ix0, tri_ix1, tri_ix2, hmA, cB', show s' ≠ 0 by omega, lp2, show st ≠ 0 by omega, hstb, rng1V]
        generalize (min l l' - fi).fdiv st = mn at *
        unfold TR.nr
        rw [hz]
        by_cases cm : 0 < mn
        · simp [cm, mo2, mk3, show ¬ mn + 1 = 0 by omega, show ¬ mn = 0 by omega, show ¬ mn + 1 = 1 by omega, show 0 < st by omega, show mn + 1 - 1 = mn by omega]
        · have : mn = 0 := by omega
          subst this
          simp [mk3]
      · refine TR.lt_ext (TR.cm_lt (by omega)) (TR.up_lt (by omega)) fun y => ?_
        rw [TR.cm_mem, TR.up_mem]
        constructor
        · intro hy
          obtain ⟨c1, c2, c3, c4, c5⟩ := cmy y hy
          refine (TR.mem_sz (by omega)).mpr ⟨c1, c3, dl _ ?_ ?_⟩
          · have := Int.dvd_sub c4 fif.2
            rw [show y - f - (fi - f) = y - fi by omega] at this
            exact this
          · have := Int.dvd_sub c5 cA
            rw [show y - f' - (fi - f') = y - fi by omega] at this
            exact this
        · intro hy
          obtain ⟨c1, c2, c3⟩ := (TR.mem_sz (show 0 < st by omega)).mp hy
          refine ⟨(TR.mem_sz hs).mpr ⟨by omega, by omega, ?_⟩, (TR.mem_sz hs').mpr ⟨by omega, by omega, ?_⟩⟩
          · have := Int.dvd_add (Int.dvd_trans d1 c3) fif.2
            rw [show y - fi + (fi - f) = y - f by omega] at this
            exact this
          · have := Int.dvd_add (Int.dvd_trans k03 c3) cA
            rw [show y - fi + (fi - f') = y - f' by omega] at this
            exact this
      · unfold Far FARn at *
        omega
  · have hmA : ¬ (t0 + (n : Int) * s - f').fmod s' = 0 := fun q => cA (Int.dvd_of_fmod_eq_zero q)
    refine ⟨0, -1, 1, ?_, by decide, by decide, ?_, far_none⟩
    · rw [nrn]
      simp [F__law_found, fnRun_ap, den__law_found, enter, tri_ix0, tri_ix1, tri_ix2, mo1, hsb, show s ≠ 0 by omega, show s' ≠ 0 by omega, rng1V]
      simp [ek, lp, tri_ix0, tri_ix1, tri_ix2, hmA, mkTup, allDat, trL, show s' ≠ 0 by omega]
    · rw [upn]
      exact cm_nil fun y hy => by
        have q := (cmy y hy).2.1
        exact cA (n4 q)

theorem okD_trL3 (a b c : List Int) : okD (.lst [trL a, trL b, trL c]) = true := okD_lst1 _ fun x hx => by
  simp at hx
  rcases hx with rfl | rfl | rfl <;> simp [ok1, trL, PL.plain, plains_ints, dep, deps_ints]
@[simp] theorem neV_trL3 (a b c d e f : List Int) (m : Mem) : PL.neV (.dat (.lst [trL a, trL b, trL c])) (.dat (.lst [trL d, trL e, trL f])) m = .ok (.dat (.bl (!(decide (a = d) && (decide (b = e) && decide (c = f)))))) m := by
  simp [PL.neV, svD, okD_trL3, eqd_lst_cons, eqd_lst_nil, eqd_trL]
@[simp] theorem eqV_bl (a c : Bool) (m : Mem) : PL.eqV (.dat (.bl a)) (.dat (.bl c)) m = .ok (.dat (.bl (a == c))) m := by
  simp [PL.eqV, svD, okD_bl, eqd_bl]
theorem far_right_ok {k : Nat} {m : Mem} (h : Wl k m) : ∃ m', F__law_far_right [.ref k] m = .ok (.dat (.bl true)) m' ∧ Wl k m' ∧ m'.length = m.length := by
  obtain ⟨d1, m1, e1, w1, l1, h1⟩ := pick_ok h (xs := [.int 1, .int 1, .int 1000, .int 1000000007]) (by decide) (by decide)
  obtain ⟨d2, m2, e2, w2, l2, h2⟩ := pick_ok w1 (xs := [.int 0, .int 1000000000000000, .int (-300000000000000000000000000000), .int 900000000000000000000000000000]) (by decide) (by decide)
  obtain ⟨u, rfl, u1, u2⟩ : ∃ x : Int, d1 = .int x ∧ 1 ≤ x ∧ x ≤ 1000000007 := by
    simp at h1
    rcases h1 with h | h | h <;> exact ⟨_, h, by decide⟩
  obtain ⟨b, rfl, b1, b2⟩ : ∃ x : Int, d2 = .int x ∧ -300000000000000000000000000000 ≤ x ∧ x ≤ 900000000000000000000000000000 := by
    simp at h2
    rcases h2 with h | h | h | h <;> exact ⟨_, h, by decide⟩
  obtain ⟨f, l, s, m3, e3, w3, l3, hT⟩ := far_trio_ok w2 u1 u2 b1 b2
  obtain ⟨f', l', s', m4, e4, w4, l4, hT'⟩ := far_trio_ok w3 u1 u2 b1 b2
  obtain ⟨a, bb, c, e5, c0, c1, ecm, hFd⟩ := found_ok u1 hT hT' m4
  have hF := hT.far
  have hF' := hT'.far
  have hs := hF.1
  have hs' := hF'.1
  have hsz := sz_far hF
  have z0 := TR.sz_nonneg f l s
  have zp : 0 < TR.sz f l s := (TR.lt_sz hs (by omega)).mpr ⟨fun _ => by have := hT.le; omega, fun q => by have := hT.pos; omega⟩
  have ht : m4.take m.length = m4 := List.take_of_length_le (by omega)
  have ec := count_ok hF
  have mo : mulOk (TR.sz f l s - 1) s = true := mulOk_r _ (by have := hT.sm; have := hT.pos; omega)
  have mo3 : mulOk 3 100000000000000000000000000000 = true := mulOk_l _ (by decide)
  have mo9 : mulOk 9 100000000000000000000000000000 = true := mulOk_l _ (by decide)
  have hB : Far (f + (TR.sz f l s - 1) * s) f (-s) := by
    have := last_far hF (by omega)
    obtain ⟨q0, q1, q2, q3, q4, q5, q6⟩ := hF
    unfold Far
    omega
  have t1 := met_ok hF hF' m4
  have t2 := met_ok hF' hF m4
  have t3 := met_ok hB hF' m4
  have szB : TR.sz (f + (TR.sz f l s - 1) * s) f (-s) = TR.sz f l s := TR.sz_back hs zp
  have ecB : TR.cm (f + (TR.sz f l s - 1) * s) f (-s) f' l' s' = TR.cm f l s f' l' s' := TR.cm_same (by omega) hs fun y => by
    rw [szB]
    have := TR.els_rev f s (TR.sz f l s).toNat
    rw [show (((TR.sz f l s).toNat : Nat) : Int) = TR.sz f l s by omega] at this
    rw [← this, List.mem_reverse]
  have nrd : TR.nr a bb c = TR.shown (TR.cm f l s f' l' s') := by rw [ecm, TR.nr_shown' (by omega)]
  rw [← nrd] at t1
  rw [← TR.cm_comm hs hs', ← nrd] at t2
  rw [ecB, ← nrd] at t3
  have hD := (nr_tp hFd).far
  obtain ⟨s1, s2⟩ := TR.cm_sub hs hs' c0 ecm
  have tD : trL (TR.nr a bb c) = tri (TR.A (TR.nr a bb c)) (TR.B (TR.nr a bb c)) (TR.C (TR.nr a bb c)) := trL_tri (nr_len _ _ _)
  have nn := TR.nr_nr (f := a) (l := bb) (s := c) (by omega)
  have sD : ∀ x y z : Int, z ≠ 0 → TR.cm (TR.A (TR.nr a bb c)) (TR.B (TR.nr a bb c)) (TR.C (TR.nr a bb c)) x y z = TR.cm a bb c x y z := fun x y z hz => TR.cm_same hD.1 (by omega) fun y => (TR.els_nr (by omega)).symm
  have t4 := lies_in_ok hD hF m4
  have t5 := lies_in_ok hD hF' m4
  rw [sD _ _ _ hs, s1, ← TR.nr_shown' (by omega), nn, ← tD] at t4
  rw [sD _ _ _ hs', s2, ← TR.nr_shown' (by omega), nn, ← tD] at t5
  have t6 := lies_in_ok hF hF' m4
  have d6 : decide (TR.shown (TR.cm f l s f' l' s') = TR.nr f l s) = decide (TR.sz a bb c = TR.sz f l s) := decide_eq_decide.mpr (by
    rw [TR.lies_iff hs hs', ecm, TR.up_length]
    have := TR.sz_nonneg a bb c
    omega)
  rw [d6] at t6
  have ec2 := count_ok hD m4
  rw [TR.sz_nr (by omega), ← tD] at ec2
  refine ⟨m4, ?_, w4, by omega⟩
  simp [F__law_far_right, fnRun_ap, den__law_far_right, enter, mkLst, allDat, mo3, mo9, e1, e2, e3, e4, e5, tri_ix0, tri_ix2, ec, mo, mk3]
  rw [← tri_trL]
  simp [t1, t2, t3, t4, t5, t6, ec, ec2, mkLst, allDat, ht]
theorem turn_ok {k : Nat} {m : Mem} (h : Wl k m) (a b c : Option SV) : ∃ m', lp1_law [a, b, some (.ref k), c] m = .ok (.nx [a, b, some (.ref k), c]) m' ∧ Wl k m' := by
  obtain ⟨m1, e1, w1, _⟩ := near_right_ok h
  obtain ⟨m2, e2, w2, _⟩ := far_right_ok w1
  refine ⟨m2, ?_, w2⟩
  simp [lp1_law, e1, e2]

/-! ### the law -/
theorem well_ok (x : Int) (m : Mem) : ∃ w, F__law_well [.dat (.int x)] m = .ok (.ref m.length) (m ++ [w]) ∧ Wl m.length (m ++ [w]) := by
  have mo1 : mulOk (x.natAbs : Int) 1 = true := mulOk_r _ (by decide)
  have mo0 : mulOk (x.natAbs : Int) 0 = true := mulOk_r _ (by decide)
  by_cases h : (1000000000000000000 : Int) ≤ (x.natAbs : Int)
  · refine ⟨.lst [.int (x.natAbs : Int), .int ((x.natAbs : Int).fmod 2147483563), .int 0], ?_, _, _, _, get_app_len _ _⟩
    simp [F__law_well, fnRun_ap, den__law_well, enter, mkOwn, allDat, mo1, exitO, h]
  · refine ⟨.lst [.int 0, .int ((x.natAbs : Int).fmod 2147483563), .int 0], ?_, _, _, _, get_app_len _ _⟩
    simp [F__law_well, fnRun_ap, den__law_well, enter, mkOwn, allDat, mo0, exitO, h]

theorem six_ok {k : Nat} {m : Mem} (h : Wl k m) (a b c : Option SV) : ∃ c' m', loopF (gN 3) lp1_law (rngD 0 8) [a, b, some (.ref k), c] m = .ok (.nx [a, b, some (.ref k), c']) m' := by
  obtain ⟨env', m', q, ⟨c', rfl⟩, _⟩ := loopF_inv (g := gN 3) (body := lp1_law) (fun _ env m => (∃ c', env = [a, b, some (.ref k), c']) ∧ Wl k m) (rngD 0 8) 0 [a, b, some (.ref k), c] m ⟨⟨c, rfl⟩, h⟩ (by
    rintro i d env mm hi ⟨⟨c', rfl⟩, hw⟩
    obtain ⟨m', e, w⟩ := turn_ok hw a b (some (.dat d))
    exact ⟨_, _, m', rfl, .inl e, ⟨_, rfl⟩, w⟩)
  exact ⟨c', m', q⟩
theorem outer_ok (ns : List Int) (i : Nat) (b c : Option SV) (m : Mem) : ∃ b' c' m', lp2_law [some (.dat (.scr ns)), some (.dat (.int (0 + (i : Int)))), b, c] m = .ok (.nx [some (.dat (.scr ns)), some (.dat (.int (0 + (i : Int)))), b', c']) m' := by
  by_cases h : (i : Int) < ns.length
  · have hi : i < ns.length := by omega
    obtain ⟨w, e, hw⟩ := well_ok ns[i] m
    obtain ⟨c', m', q⟩ := six_ok hw (some (.dat (.scr ns))) (some (.dat (.int (i : Int)))) c
    refine ⟨some (.ref m.length), c', m', ?_⟩
    have ea : atI ns (i : Int) = some ns[i] := atI_nat (List.getElem?_eq_getElem hi)
    simp [lp2_law, lenV, ixV, h, ea, e, rng1V, q]
  · obtain ⟨w, e, hw⟩ := well_ok 0 m
    obtain ⟨c', m', q⟩ := six_ok hw (some (.dat (.scr ns))) (some (.dat (.int (i : Int)))) c
    refine ⟨some (.ref m.length), c', m', ?_⟩
    simp [lp2_law, lenV, ixV, h, e, rng1V, q]
theorem law_true (ns : List Int) (hl : ns.length ≤ 63) : ∃ m', F_law [.dat (.scr ns)] [] = .ok (.dat (.bl true)) m' := by
  obtain ⟨env', m', q, _⟩ := loopF_inv (g := gN 1) (body := lp2_law) (fun _ env m => ∃ a b c, env = [some (.dat (.scr ns)), a, b, c]) (rngD 0 ((max 1 (min 5 (ns.length : Int)) + 1).toNat)) 0 [some (.dat (.scr ns)), none, none, none] [] ⟨none, none, none, rfl⟩ (by
    rintro i d env mm hi ⟨a, b, c, rfl⟩
    obtain ⟨_, rfl⟩ := rngD_get hi
    obtain ⟨b', c', m', e⟩ := outer_ok ns i b c mm
    exact ⟨_, _, m', rfl, .inl e, _, _, _, rfl⟩)
  refine ⟨[], ?_⟩
  have hb : -4611686018427387904 ≤ max 1 (min 5 (ns.length : Int)) + 1 ∧ max 1 (min 5 (ns.length : Int)) + 1 < 4611686018427387904 := by omega
  simp [F_law, fnRun_ap, den_law, enter, lenV, rng1V, hb, q]

end G

namespace G
open PySem PySem.Spec PyProof.Rows L2 PL
def topS (i : Nat) : Stmt := PySem.Challenge.pw_sectionwise_k03_whole_elements_that_trip.main.body.getD i (.Pass ⟨0, 0, 0, 0⟩)
abbrev s__law_well : Stmt := topS 23
theorem sc__law_well : FnScope ["_law_cell"] ["_law_cell"] (defScope s__law_well) := ⟨rfl, rfl, rfl, by decide +kernel, rfl, by decide +kernel, by decide +kernel⟩
abbrev s_is_whole : Stmt := topS 5
theorem sc_is_whole : FnScope ["value"] ["value"] (defScope s_is_whole) := ⟨rfl, rfl, rfl, by decide +kernel, rfl, by decide +kernel, by decide +kernel⟩
abbrev s_is_between : Stmt := topS 6
theorem sc_is_between : FnScope ["value", "low", "high"] ["value", "low", "high"] (defScope s_is_between) := ⟨rfl, rfl, rfl, by decide +kernel, rfl, by decide +kernel, by decide +kernel⟩
abbrev s_is_triplet : Stmt := topS 13
theorem sc_is_triplet : FnScope ["value", "one"] ["value"] (defScope s_is_triplet) := ⟨rfl, rfl, rfl, by decide +kernel, rfl, by decide +kernel, by decide +kernel⟩
abbrev s_check_triplet : Stmt := topS 14
theorem sc_check_triplet : FnScope ["value", "part"] ["value", "part"] (defScope s_check_triplet) := ⟨rfl, rfl, rfl, by decide +kernel, rfl, by decide +kernel, by decide +kernel⟩
abbrev s_check_two_triplets : Stmt := topS 15
theorem sc_check_two_triplets : FnScope ["one", "other"] ["one", "other"] (defScope s_check_two_triplets) := ⟨rfl, rfl, rfl, by decide +kernel, rfl, by decide +kernel, by decide +kernel⟩
abbrev s_many_in : Stmt := topS 16
theorem sc_many_in : FnScope ["triplet"] ["triplet"] (defScope s_many_in) := ⟨rfl, rfl, rfl, by decide +kernel, rfl, by decide +kernel, by decide +kernel⟩
abbrev s_trimmed : Stmt := topS 17
theorem sc_trimmed : FnScope ["low", "high", "step", "many"] ["low", "high", "step"] (defScope s_trimmed) := ⟨rfl, rfl, rfl, by decide +kernel, rfl, by decide +kernel, by decide +kernel⟩
abbrev s_normal_of : Stmt := topS 18
theorem sc_normal_of : FnScope ["triplet", "first", "last", "step", "many"] ["triplet"] (defScope s_normal_of) := ⟨rfl, rfl, rfl, by decide +kernel, rfl, by decide +kernel, by decide +kernel⟩
abbrev s_gcd : Stmt := topS 7
theorem sc_gcd : FnScope ["one", "other"] ["one", "other"] (defScope s_gcd) := ⟨rfl, rfl, rfl, by decide +kernel, rfl, by decide +kernel, by decide +kernel⟩
abbrev s_lcm : Stmt := topS 8
theorem sc_lcm : FnScope ["one", "other"] ["one", "other"] (defScope s_lcm) := ⟨rfl, rfl, rfl, by decide +kernel, rfl, by decide +kernel, by decide +kernel⟩
abbrev s_inverse : Stmt := topS 9
theorem sc_inverse : FnScope ["number", "modulus", "one", "other", "first", "last", "times"] ["number", "modulus"] (defScope s_inverse) := ⟨rfl, rfl, rfl, by decide +kernel, rfl, by decide +kernel, by decide +kernel⟩
abbrev s_meeting : Stmt := topS 10
theorem sc_meeting : FnScope ["first", "step", "other", "stride", "shared", "whole", "part", "times"] ["first", "step", "other", "stride"] (defScope s_meeting) := ⟨rfl, rfl, rfl, by decide +kernel, rfl, by decide +kernel, by decide +kernel⟩
abbrev s_met_in : Stmt := topS 19
theorem sc_met_in : FnScope ["one", "other", "found", "low"] ["one", "other"] (defScope s_met_in) := ⟨rfl, rfl, rfl, by decide +kernel, rfl, by decide +kernel, by decide +kernel⟩
abbrev s_met : Stmt := topS 20
theorem sc_met : FnScope ["one", "other"] ["one", "other"] (defScope s_met) := ⟨rfl, rfl, rfl, by decide +kernel, rfl, by decide +kernel, by decide +kernel⟩
abbrev s_lies_in : Stmt := topS 21
theorem sc_lies_in : FnScope ["one", "other"] ["one", "other"] (defScope s_lies_in) := ⟨rfl, rfl, rfl, by decide +kernel, rfl, by decide +kernel, by decide +kernel⟩
abbrev s__law_members : Stmt := topS 26
theorem sc__law_members : FnScope ["_law_trio", "_law_found_here", "_law_k", "_law_number"] ["_law_trio"] (defScope s__law_members) := ⟨rfl, rfl, rfl, by decide +kernel, rfl, by decide +kernel, by decide +kernel⟩
abbrev s__law_draw : Stmt := topS 24
theorem sc__law_draw : FnScope ["_law_well_here", "_law_many", "_law_digit", "_law_drawn"] ["_law_well_here", "_law_many"] (defScope s__law_draw) := ⟨rfl, rfl, rfl, by decide +kernel, rfl, by decide +kernel, by decide +kernel⟩
abbrev s__law_pick : Stmt := topS 25
theorem sc__law_pick : FnScope ["_law_well_here", "_law_some"] ["_law_well_here", "_law_some"] (defScope s__law_pick) := ⟨rfl, rfl, rfl, by decide +kernel, rfl, by decide +kernel, by decide +kernel⟩
abbrev s__law_near : Stmt := topS 27
theorem sc__law_near : FnScope ["_law_well_here", "_law_step", "_law_first", "_law_last"] ["_law_well_here"] (defScope s__law_near) := ⟨rfl, rfl, rfl, by decide +kernel, rfl, by decide +kernel, by decide +kernel⟩
abbrev s__law_shown : Stmt := topS 28
theorem sc__law_shown : FnScope ["_law_some"] ["_law_some"] (defScope s__law_shown) := ⟨rfl, rfl, rfl, by decide +kernel, rfl, by decide +kernel, by decide +kernel⟩
abbrev s__law_near_right : Stmt := topS 31
theorem sc__law_near_right : FnScope ["_law_well_here", "_law_trio", "_law_twin", "_law_some", "_law_others", "_law_both", "_law_number"] ["_law_well_here"] (defScope s__law_near_right) := ⟨rfl, rfl, rfl, by decide +kernel, rfl, by decide +kernel, by decide +kernel⟩
abbrev s__law_count : Stmt := topS 30
theorem sc__law_count : FnScope ["_law_trio", "_law_far_here"] ["_law_trio"] (defScope s__law_count) := ⟨rfl, rfl, rfl, by decide +kernel, rfl, by decide +kernel, by decide +kernel⟩
abbrev s__law_far_trio : Stmt := topS 32
theorem sc__law_far_trio : FnScope ["_law_well_here", "_law_base", "_law_unit", "_law_step", "_law_first", "_law_many"] ["_law_well_here", "_law_base", "_law_unit"] (defScope s__law_far_trio) := ⟨rfl, rfl, rfl, by decide +kernel, rfl, by decide +kernel, by decide +kernel⟩
abbrev s__law_found : Stmt := topS 33
theorem sc__law_found : FnScope ["_law_trio", "_law_twin", "_law_first", "_law_turn", "_law_highest", "_law_step", "_law_many"] ["_law_trio", "_law_twin"] (defScope s__law_found) := ⟨rfl, rfl, rfl, by decide +kernel, rfl, by decide +kernel, by decide +kernel⟩
abbrev s__law_far_right : Stmt := topS 34
theorem sc__law_far_right : FnScope ["_law_well_here", "_law_unit", "_law_base", "_law_trio", "_law_twin", "_law_due", "_law_back"] ["_law_well_here"] (defScope s__law_far_right) := ⟨rfl, rfl, rfl, by decide +kernel, rfl, by decide +kernel, by decide +kernel⟩
abbrev s_law : Stmt := topS 35
theorem sc_law : FnScope ["_law_script", "_law_k", "_law_well_here", "_law_turn"] ["_law_script"] (defScope s_law) := ⟨rfl, rfl, rfl, by decide +kernel, rfl, by decide +kernel, by decide +kernel⟩
structure Hd (K : PySem.W.Frag) (mg : Str → Option Value) : Prop where
  m_abs : mg "abs" = none
  m_all : mg "all" = none
  m_bool : mg "bool" = none
  m_int : mg "int" = none
  m_isinstance : mg "isinstance" = none
  m_len : mg "len" = none
  m_max : mg "max" = none
  m_min : mg "min" = none
  m_range : mg "range" = none
  m_sorted : mg "sorted" = none
  m_tuple : mg "tuple" = none
  h_FAR : ∃ t, mg "FAR" = some (.int 1000000000000000000000000000000 t)
  t_NONE : GT K mg "NONE" [.int 0, .int (-1), .int 1]
  f__law_well : ∃ f fd, mg "_law_well" = some (.ref f) ∧ FunD K "_law_well" "_law_well" (defArgs s__law_well) (defBody s__law_well) (defScope s__law_well) [] [] f fd
  f_is_whole : ∃ f fd, mg "is_whole" = some (.ref f) ∧ FunD K "is_whole" "is_whole" (defArgs s_is_whole) (defBody s_is_whole) (defScope s_is_whole) [] [] f fd
  f_is_between : ∃ f fd, mg "is_between" = some (.ref f) ∧ FunD K "is_between" "is_between" (defArgs s_is_between) (defBody s_is_between) (defScope s_is_between) [] [] f fd
  f_is_triplet : ∃ f fd, mg "is_triplet" = some (.ref f) ∧ FunD K "is_triplet" "is_triplet" (defArgs s_is_triplet) (defBody s_is_triplet) (defScope s_is_triplet) [] [] f fd
  f_check_triplet : ∃ f fd, mg "check_triplet" = some (.ref f) ∧ FunD K "check_triplet" "check_triplet" (defArgs s_check_triplet) (defBody s_check_triplet) (defScope s_check_triplet) [] [] f fd
  f_check_two_triplets : ∃ f fd, mg "check_two_triplets" = some (.ref f) ∧ FunD K "check_two_triplets" "check_two_triplets" (defArgs s_check_two_triplets) (defBody s_check_two_triplets) (defScope s_check_two_triplets) [] [] f fd
  f_many_in : ∃ f fd, mg "many_in" = some (.ref f) ∧ FunD K "many_in" "many_in" (defArgs s_many_in) (defBody s_many_in) (defScope s_many_in) [] [] f fd
  f_trimmed : ∃ f fd, mg "trimmed" = some (.ref f) ∧ FunD K "trimmed" "trimmed" (defArgs s_trimmed) (defBody s_trimmed) (defScope s_trimmed) [] [] f fd
  f_normal_of : ∃ f fd, mg "normal_of" = some (.ref f) ∧ FunD K "normal_of" "normal_of" (defArgs s_normal_of) (defBody s_normal_of) (defScope s_normal_of) [] [] f fd
  f_gcd : ∃ f fd, mg "gcd" = some (.ref f) ∧ FunD K "gcd" "gcd" (defArgs s_gcd) (defBody s_gcd) (defScope s_gcd) [] [] f fd
  f_lcm : ∃ f fd, mg "lcm" = some (.ref f) ∧ FunD K "lcm" "lcm" (defArgs s_lcm) (defBody s_lcm) (defScope s_lcm) [] [] f fd
  f_inverse : ∃ f fd, mg "inverse" = some (.ref f) ∧ FunD K "inverse" "inverse" (defArgs s_inverse) (defBody s_inverse) (defScope s_inverse) [] [] f fd
  f_meeting : ∃ f fd, mg "meeting" = some (.ref f) ∧ FunD K "meeting" "meeting" (defArgs s_meeting) (defBody s_meeting) (defScope s_meeting) [] [] f fd
  f_met_in : ∃ f fd, mg "met_in" = some (.ref f) ∧ FunD K "met_in" "met_in" (defArgs s_met_in) (defBody s_met_in) (defScope s_met_in) [] [] f fd
  f_met : ∃ f fd, mg "met" = some (.ref f) ∧ FunD K "met" "met" (defArgs s_met) (defBody s_met) (defScope s_met) [] [] f fd
  f_lies_in : ∃ f fd, mg "lies_in" = some (.ref f) ∧ FunD K "lies_in" "lies_in" (defArgs s_lies_in) (defBody s_lies_in) (defScope s_lies_in) [] [] f fd
  f__law_members : ∃ f fd, mg "_law_members" = some (.ref f) ∧ FunD K "_law_members" "_law_members" (defArgs s__law_members) (defBody s__law_members) (defScope s__law_members) [] [] f fd
  f__law_draw : ∃ f fd, mg "_law_draw" = some (.ref f) ∧ FunD K "_law_draw" "_law_draw" (defArgs s__law_draw) (defBody s__law_draw) (defScope s__law_draw) [] [] f fd
  f__law_pick : ∃ f fd, mg "_law_pick" = some (.ref f) ∧ FunD K "_law_pick" "_law_pick" (defArgs s__law_pick) (defBody s__law_pick) (defScope s__law_pick) [] [] f fd
  f__law_near : ∃ f fd, mg "_law_near" = some (.ref f) ∧ FunD K "_law_near" "_law_near" (defArgs s__law_near) (defBody s__law_near) (defScope s__law_near) [] [] f fd
  f__law_shown : ∃ f fd, mg "_law_shown" = some (.ref f) ∧ FunD K "_law_shown" "_law_shown" (defArgs s__law_shown) (defBody s__law_shown) (defScope s__law_shown) [] [] f fd
  f__law_near_right : ∃ f fd, mg "_law_near_right" = some (.ref f) ∧ FunD K "_law_near_right" "_law_near_right" (defArgs s__law_near_right) (defBody s__law_near_right) (defScope s__law_near_right) [] [] f fd
  f__law_count : ∃ f fd, mg "_law_count" = some (.ref f) ∧ FunD K "_law_count" "_law_count" (defArgs s__law_count) (defBody s__law_count) (defScope s__law_count) [] [] f fd
  f__law_far_trio : ∃ f fd, mg "_law_far_trio" = some (.ref f) ∧ FunD K "_law_far_trio" "_law_far_trio" (defArgs s__law_far_trio) (defBody s__law_far_trio) (defScope s__law_far_trio) [] [] f fd
  f__law_found : ∃ f fd, mg "_law_found" = some (.ref f) ∧ FunD K "_law_found" "_law_found" (defArgs s__law_found) (defBody s__law_found) (defScope s__law_found) [] [] f fd
  f__law_far_right : ∃ f fd, mg "_law_far_right" = some (.ref f) ∧ FunD K "_law_far_right" "_law_far_right" (defArgs s__law_far_right) (defBody s__law_far_right) (defScope s__law_far_right) [] [] f fd
  f_law : ∃ f fd, mg "law" = some (.ref f) ∧ FunD K "law" "law" (defArgs s_law) (defBody s_law) (defScope s_law) [] [] f fd
section
variable {P : Program} {w : World} {K : PySem.W.Frag} {mg : Str → Option Value} {base : Heap}
theorem fok__law_well (h : Hd K mg) {f : Addr} {fd : FuncData} (F : FunD K "_law_well" "_law_well" (defArgs s__law_well) (defBody s__law_well) (defScope s__law_well) [] [] f fd) : FnOk P w K mg base (L2.CX P w) 1 f fd ["_law_cell"] (spF ⟨K, mg⟩ 1 F__law_well) := by
  have m_abs := h.m_abs
  have m_int := h.m_int
  refine fok_of F sc__law_well exitO_ok fun cdv A outer s H E hr => ?_
  have tk := takes_of (X := cxOf (L2.CX P w) P w K mg base ["_law_cell"] "_law_well" (defScope s__law_well) f cdv A outer s H E) (E := E) rfl rfl rfl rfl
  have hp := passes_of (X := cxOf (L2.CX P w) P w K mg base ["_law_cell"] "_law_well" (defScope s__law_well) f cdv A outer s H E) rfl
  exact (jb_one (js_ret (je_own (ja_cons (je_bin jo_mul (je_callB jc_abs (by rfl) m_abs (by decide +kernel) (ja_cons (je_var 0) ja_nil)) (je_callTy jc_int (by rfl) m_int (by decide +kernel) (ja_cons (je_cmp jo_ge (je_callB jc_abs (by rfl) m_abs (by decide +kernel) (ja_cons (je_var 0) ja_nil)) (je_bin jo_pow je_int je_int)) ja_nil))) (ja_cons (je_bin jo_mod (je_callTy jc_int (by rfl) m_int (by decide +kernel) (ja_cons (je_callB jc_abs (by rfl) m_abs (by decide +kernel) (ja_cons (je_var 0) ja_nil)) ja_nil)) je_int) (ja_cons je_int ja_nil))))))
theorem cal__law_well (h : Hd K mg) : Cal P w K mg base 1 "_law_well" ["_law_cell"] F__law_well := by
  obtain ⟨f, fd, hm, F⟩ := h.f__law_well
  exact cal_of F hm (F.bindsN fun _ _ _ _ _ _ us hl => match us, hl with | [_], _ => rfl) (fok__law_well h F)
theorem fok_is_whole (h : Hd K mg) {f : Addr} {fd : FuncData} (F : FunD K "is_whole" "is_whole" (defArgs s_is_whole) (defBody s_is_whole) (defScope s_is_whole) [] [] f fd) : FnOk P w K mg base (L2.CX P w) 1 f fd ["value"] (spF ⟨K, mg⟩ 1 F_is_whole) := by
  have m_bool := h.m_bool
  have m_int := h.m_int
  have m_isinstance := h.m_isinstance
  refine fok_of F sc_is_whole exitV_ok fun cdv A outer s H E hr => ?_
  have tk := takes_of (X := cxOf (L2.CX P w) P w K mg base ["value"] "is_whole" (defScope s_is_whole) f cdv A outer s H E) (E := E) rfl rfl rfl rfl
  have hp := passes_of (X := cxOf (L2.CX P w) P w K mg base ["value"] "is_whole" (defScope s_is_whole) f cdv A outer s H E) rfl
  exact (jb_one (js_ret (je_and (je_isi tab_int (by rfl) m_isinstance (by rfl) m_int (by decide +kernel) (je_var 0)) (je_one (je_not (je_isi tab_bool (by rfl) m_isinstance (by rfl) m_bool (by decide +kernel) (je_var 0)))))))
theorem cal_is_whole (h : Hd K mg) : Cal P w K mg base 1 "is_whole" ["value"] F_is_whole := by
  obtain ⟨f, fd, hm, F⟩ := h.f_is_whole
  exact cal_of F hm (F.bindsN fun _ _ _ _ _ _ us hl => match us, hl with | [_], _ => rfl) (fok_is_whole h F)
theorem fok_is_between (h : Hd K mg) (c_is_whole : Cal P w K mg base 1 "is_whole" ["value"] F_is_whole) {f : Addr} {fd : FuncData} (F : FunD K "is_between" "is_between" (defArgs s_is_between) (defBody s_is_between) (defScope s_is_between) [] [] f fd) : FnOk P w K mg base (L2.CX P w) 2 f fd ["value", "low", "high"] (spF ⟨K, mg⟩ 3 F_is_between) := by
  refine fok_of F sc_is_between exitV_ok fun cdv A outer s H E hr => ?_
  have tk := takes_of (X := cxOf (L2.CX P w) P w K mg base ["value", "low", "high"] "is_between" (defScope s_is_between) f cdv A outer s H E) (E := E) rfl rfl rfl rfl
  have hp := passes_of (X := cxOf (L2.CX P w) P w K mg base ["value", "low", "high"] "is_between" (defScope s_is_between) f cdv A outer s H E) rfl
  exact (jb_one (js_ret (je_and (je_call c_is_whole (hr.mono (by decide)) tk (by rfl) (ja_cons (je_var 0) ja_nil)) (je_one (je_chain jo_le jo_le (je_var 1) (je_var 0) (je_var 2))))))
theorem cal_is_between (h : Hd K mg) (c_is_whole : Cal P w K mg base 1 "is_whole" ["value"] F_is_whole) : Cal P w K mg base 2 "is_between" ["value", "low", "high"] F_is_between := by
  obtain ⟨f, fd, hm, F⟩ := h.f_is_between
  exact cal_of F hm (F.bindsN fun _ _ _ _ _ _ us hl => match us, hl with | [_, _, _], _ => rfl) (fok_is_between h c_is_whole F)
theorem fok_is_triplet (h : Hd K mg) (c_is_between : Cal P w K mg base 2 "is_between" ["value", "low", "high"] F_is_between) {f : Addr} {fd : FuncData} (F : FunD K "is_triplet" "is_triplet" (defArgs s_is_triplet) (defBody s_is_triplet) (defScope s_is_triplet) [] [] f fd) : FnOk P w K mg base (L2.CX P w) 3 f fd ["value"] (spF ⟨K, mg⟩ 1 F_is_triplet) := by
  have m_all := h.m_all
  have m_isinstance := h.m_isinstance
  have m_len := h.m_len
  have m_tuple := h.m_tuple
  have h_FAR := h.h_FAR
  refine fok_of F sc_is_triplet exitV_ok fun cdv A outer s H E hr => ?_
  have tk := takes_of (X := cxOf (L2.CX P w) P w K mg base ["value", "one"] "is_triplet" (defScope s_is_triplet) f cdv A outer s H E) (E := E) rfl rfl rfl rfl
  have hp := passes_of (X := cxOf (L2.CX P w) P w K mg base ["value", "one"] "is_triplet" (defScope s_is_triplet) f cdv A outer s H E) rfl
  exact (jb_cons (js_if (JW.pt (jw_or (jt_not (jt_val (je_isi tab_tuple (by rfl) m_isinstance (by rfl) m_tuple (by decide +kernel) (je_var 0)))) (jw_or (jt_cmp (jo_ne hr.units) (je_callB jc_len (by rfl) m_len (by decide +kernel) (ja_cons (je_var 0) ja_nil)) je_int) (jw_or1 (jt_not (jt_val (je_callB (jc_all rfl) (by rfl) m_all (by decide +kernel) (ja_cons (je_lc [("one", 1)] rfl sc_is_triplet.nd (ji_seq (je_var 0)) (blkOk_by (by kernel_rfl)) (fun _ _ _ _ _ => (jg_name (i := 1) sc_is_triplet.nd)) (by decide) test_no (fun _ _ _ _ _ => (je_call c_is_between (hr.mono (by decide)) takes0 (by rfl) (ja_cons (je_var 1) (ja_cons (je_neg (je_gint (by rfl) h_FAR)) (ja_cons (je_gint (by rfl) h_FAR) ja_nil)))))) ja_nil)))))))) (jb_one (js_ret je_bl)) jb_nil) (jb_one (js_ret (je_cmp (jo_ne hr.units) (je_ix (je_var 0) je_int) je_int))))
theorem cal_is_triplet (h : Hd K mg) (c_is_between : Cal P w K mg base 2 "is_between" ["value", "low", "high"] F_is_between) : Cal P w K mg base 3 "is_triplet" ["value"] F_is_triplet := by
  obtain ⟨f, fd, hm, F⟩ := h.f_is_triplet
  exact cal_of F hm (F.bindsN fun _ _ _ _ _ _ us hl => match us, hl with | [_], _ => rfl) (fok_is_triplet h c_is_between F)
theorem fok_check_triplet (h : Hd K mg) (c_is_triplet : Cal P w K mg base 3 "is_triplet" ["value"] F_is_triplet) {f : Addr} {fd : FuncData} (F : FunD K "check_triplet" "check_triplet" (defArgs s_check_triplet) (defBody s_check_triplet) (defScope s_check_triplet) [] [] f fd) : FnOk P w K mg base (L2.CX P w) 4 f fd ["value", "part"] (spF ⟨K, mg⟩ 2 F_check_triplet) := by
  refine fok_of F sc_check_triplet exitV_ok fun cdv A outer s H E hr => ?_
  have tk := takes_of (X := cxOf (L2.CX P w) P w K mg base ["value", "part"] "check_triplet" (defScope s_check_triplet) f cdv A outer s H E) (E := E) rfl rfl rfl rfl
  have hp := passes_of (X := cxOf (L2.CX P w) P w K mg base ["value", "part"] "check_triplet" (defScope s_check_triplet) f cdv A outer s H E) rfl
  exact (jb_one (js_if (jt_not (jt_val (je_call c_is_triplet (hr.mono (by decide)) tk (by rfl) (ja_cons (je_var 0) ja_nil)))) (jb_one js_never) jb_nil))
theorem cal_check_triplet (h : Hd K mg) (c_is_triplet : Cal P w K mg base 3 "is_triplet" ["value"] F_is_triplet) : Cal P w K mg base 4 "check_triplet" ["value", "part"] F_check_triplet := by
  obtain ⟨f, fd, hm, F⟩ := h.f_check_triplet
  exact cal_of F hm (F.bindsN fun _ _ _ _ _ _ us hl => match us, hl with | [_, _], _ => rfl) (fok_check_triplet h c_is_triplet F)
theorem fok_check_two_triplets (h : Hd K mg) (c_check_triplet : Cal P w K mg base 4 "check_triplet" ["value", "part"] F_check_triplet) {f : Addr} {fd : FuncData} (F : FunD K "check_two_triplets" "check_two_triplets" (defArgs s_check_two_triplets) (defBody s_check_two_triplets) (defScope s_check_two_triplets) [] [] f fd) : FnOk P w K mg base (L2.CX P w) 5 f fd ["one", "other"] (spF ⟨K, mg⟩ 2 F_check_two_triplets) := by
  refine fok_of F sc_check_two_triplets exitV_ok fun cdv A outer s H E hr => ?_
  have tk := takes_of (X := cxOf (L2.CX P w) P w K mg base ["one", "other"] "check_two_triplets" (defScope s_check_two_triplets) f cdv A outer s H E) (E := E) rfl rfl rfl rfl
  have hp := passes_of (X := cxOf (L2.CX P w) P w K mg base ["one", "other"] "check_two_triplets" (defScope s_check_two_triplets) f cdv A outer s H E) rfl
  exact (jb_cons (js_expr (je_call c_check_triplet (hr.mono (by decide)) tk (by rfl) (ja_cons (je_var 0) (ja_cons je_str ja_nil)))) (jb_one (js_expr (je_call c_check_triplet (hr.mono (by decide)) tk (by rfl) (ja_cons (je_var 1) (ja_cons je_str ja_nil))))))
theorem cal_check_two_triplets (h : Hd K mg) (c_check_triplet : Cal P w K mg base 4 "check_triplet" ["value", "part"] F_check_triplet) : Cal P w K mg base 5 "check_two_triplets" ["one", "other"] F_check_two_triplets := by
  obtain ⟨f, fd, hm, F⟩ := h.f_check_two_triplets
  exact cal_of F hm (F.bindsN fun _ _ _ _ _ _ us hl => match us, hl with | [_, _], _ => rfl) (fok_check_two_triplets h c_check_triplet F)
theorem fok_many_in (h : Hd K mg) {f : Addr} {fd : FuncData} (F : FunD K "many_in" "many_in" (defArgs s_many_in) (defBody s_many_in) (defScope s_many_in) [] [] f fd) : FnOk P w K mg base (L2.CX P w) 1 f fd ["triplet"] (spF ⟨K, mg⟩ 1 F_many_in) := by
  have m_max := h.m_max
  refine fok_of F sc_many_in exitV_ok fun cdv A outer s H E hr => ?_
  have tk := takes_of (X := cxOf (L2.CX P w) P w K mg base ["triplet"] "many_in" (defScope s_many_in) f cdv A outer s H E) (E := E) rfl rfl rfl rfl
  have hp := passes_of (X := cxOf (L2.CX P w) P w K mg base ["triplet"] "many_in" (defScope s_many_in) f cdv A outer s H E) rfl
  exact (jb_one (js_ret (je_callB (jc_max2 rfl) (by rfl) m_max (by decide +kernel) (ja_cons je_int (ja_cons (je_bin jo_fdiv (je_bin jo_add (je_bin jo_sub (je_ix (je_var 0) je_int) (je_ix (je_var 0) je_int)) (je_ix (je_var 0) je_int)) (je_ix (je_var 0) je_int)) ja_nil)))))
theorem cal_many_in (h : Hd K mg) : Cal P w K mg base 1 "many_in" ["triplet"] F_many_in := by
  obtain ⟨f, fd, hm, F⟩ := h.f_many_in
  exact cal_of F hm (F.bindsN fun _ _ _ _ _ _ us hl => match us, hl with | [_], _ => rfl) (fok_many_in h F)
theorem fok_trimmed (h : Hd K mg) {f : Addr} {fd : FuncData} (F : FunD K "trimmed" "trimmed" (defArgs s_trimmed) (defBody s_trimmed) (defScope s_trimmed) [] [] f fd) : FnOk P w K mg base (L2.CX P w) 1 f fd ["low", "high", "step"] (spF ⟨K, mg⟩ 3 F_trimmed) := by
  have t_NONE := h.t_NONE
  refine fok_of F sc_trimmed exitV_ok fun cdv A outer s H E hr => ?_
  have tk := takes_of (X := cxOf (L2.CX P w) P w K mg base ["low", "high", "step", "many"] "trimmed" (defScope s_trimmed) f cdv A outer s H E) (E := E) rfl rfl rfl rfl
  have hp := passes_of (X := cxOf (L2.CX P w) P w K mg base ["low", "high", "step", "many"] "trimmed" (defScope s_trimmed) f cdv A outer s H E) rfl
  exact (jb_cons (js_set 3 sc_trimmed.nd (je_bin jo_add (je_bin jo_fdiv (je_bin jo_sub (je_var 1) (je_var 0)) (je_var 2)) je_int)) (jb_cons (js_if (jt_cmp jo_lt (je_var 3) je_int) (jb_one (js_ret (je_gtup (by rfl) t_NONE))) jb_nil) (jb_one (js_ret (je_if (jt_cmp (jo_eq hr.units) (je_var 3) je_int) (je_tup (ja_cons (je_var 0) (ja_cons (je_var 0) (ja_cons je_int ja_nil)))) (je_tup (ja_cons (je_var 0) (ja_cons (je_bin jo_add (je_var 0) (je_bin jo_mul (je_bin jo_sub (je_var 3) je_int) (je_var 2))) (ja_cons (je_var 2) ja_nil)))))))))
theorem cal_trimmed (h : Hd K mg) : Cal P w K mg base 1 "trimmed" ["low", "high", "step"] F_trimmed := by
  obtain ⟨f, fd, hm, F⟩ := h.f_trimmed
  exact cal_of F hm (F.bindsN fun _ _ _ _ _ _ us hl => match us, hl with | [_, _, _], _ => rfl) (fok_trimmed h F)
theorem fok_normal_of (h : Hd K mg) (c_many_in : Cal P w K mg base 1 "many_in" ["triplet"] F_many_in) (c_trimmed : Cal P w K mg base 1 "trimmed" ["low", "high", "step"] F_trimmed) {f : Addr} {fd : FuncData} (F : FunD K "normal_of" "normal_of" (defArgs s_normal_of) (defBody s_normal_of) (defScope s_normal_of) [] [] f fd) : FnOk P w K mg base (L2.CX P w) 2 f fd ["triplet"] (spF ⟨K, mg⟩ 1 F_normal_of) := by
  have t_NONE := h.t_NONE
  refine fok_of F sc_normal_of exitV_ok fun cdv A outer s H E hr => ?_
  have tk := takes_of (X := cxOf (L2.CX P w) P w K mg base ["triplet", "first", "last", "step", "many"] "normal_of" (defScope s_normal_of) f cdv A outer s H E) (E := E) rfl rfl rfl rfl
  have hp := passes_of (X := cxOf (L2.CX P w) P w K mg base ["triplet", "first", "last", "step", "many"] "normal_of" (defScope s_normal_of) f cdv A outer s H E) rfl
  exact (jb_cons (js_asg (je_var 0) (jg_tup rfl (jgs_cons (jg_name (i := 1) sc_normal_of.nd) (jgs_cons (jg_name (i := 2) sc_normal_of.nd) (jgs_cons (jg_name (i := 3) sc_normal_of.nd) jgs_nil))))) (jb_cons (js_if (jt_cmp jo_gt (je_var 3) je_int) (jb_one (js_ret (je_call c_trimmed (hr.mono (by decide)) tk (by rfl) (ja_cons (je_var 1) (ja_cons (je_var 2) (ja_cons (je_var 3) ja_nil)))))) jb_nil) (jb_cons (js_set 4 sc_normal_of.nd (je_call c_many_in (hr.mono (by decide)) tk (by rfl) (ja_cons (je_var 0) ja_nil))) (jb_one (js_ret (je_if (jt_cmp jo_gt (je_var 4) je_int) (je_call c_trimmed (hr.mono (by decide)) tk (by rfl) (ja_cons (je_bin jo_add (je_var 1) (je_bin jo_mul (je_bin jo_sub (je_var 4) je_int) (je_var 3))) (ja_cons (je_var 1) (ja_cons (je_neg (je_var 3)) ja_nil)))) (je_gtup (by rfl) t_NONE)))))))
theorem cal_normal_of (h : Hd K mg) (c_many_in : Cal P w K mg base 1 "many_in" ["triplet"] F_many_in) (c_trimmed : Cal P w K mg base 1 "trimmed" ["low", "high", "step"] F_trimmed) : Cal P w K mg base 2 "normal_of" ["triplet"] F_normal_of := by
  obtain ⟨f, fd, hm, F⟩ := h.f_normal_of
  exact cal_of F hm (F.bindsN fun _ _ _ _ _ _ us hl => match us, hl with | [_], _ => rfl) (fok_normal_of h c_many_in c_trimmed F)
theorem fok_gcd (h : Hd K mg) {f : Addr} {fd : FuncData} (F : FunD K "gcd" "gcd" (defArgs s_gcd) (defBody s_gcd) (defScope s_gcd) [] [] f fd) : FnOk P w K mg base (L2.CX P w) 1 f fd ["one", "other"] (spF ⟨K, mg⟩ 2 F_gcd) := by
  have m_abs := h.m_abs
  refine fok_of F sc_gcd exitV_ok fun cdv A outer s H E hr => ?_
  have tk := takes_of (X := cxOf (L2.CX P w) P w K mg base ["one", "other"] "gcd" (defScope s_gcd) f cdv A outer s H E) (E := E) rfl rfl rfl rfl
  have hp := passes_of (X := cxOf (L2.CX P w) P w K mg base ["one", "other"] "gcd" (defScope s_gcd) f cdv A outer s H E) rfl
  exact (jb_cons (js_while hp (jt_cmp (jo_ne hr.units) (je_var 1) je_int) (jb_one (js_par 0 1 rfl sc_gcd.nd (ja_cons (je_var 1) (ja_cons (je_bin jo_mod (je_var 0) (je_var 1)) ja_nil))))) (jb_one (js_ret (je_callB jc_abs (by rfl) m_abs (by decide +kernel) (ja_cons (je_var 0) ja_nil)))))
theorem cal_gcd (h : Hd K mg) : Cal P w K mg base 1 "gcd" ["one", "other"] F_gcd := by
  obtain ⟨f, fd, hm, F⟩ := h.f_gcd
  exact cal_of F hm (F.bindsN fun _ _ _ _ _ _ us hl => match us, hl with | [_, _], _ => rfl) (fok_gcd h F)
theorem fok_lcm (h : Hd K mg) (c_gcd : Cal P w K mg base 1 "gcd" ["one", "other"] F_gcd) {f : Addr} {fd : FuncData} (F : FunD K "lcm" "lcm" (defArgs s_lcm) (defBody s_lcm) (defScope s_lcm) [] [] f fd) : FnOk P w K mg base (L2.CX P w) 2 f fd ["one", "other"] (spF ⟨K, mg⟩ 2 F_lcm) := by
  have m_abs := h.m_abs
  refine fok_of F sc_lcm exitV_ok fun cdv A outer s H E hr => ?_
  have tk := takes_of (X := cxOf (L2.CX P w) P w K mg base ["one", "other"] "lcm" (defScope s_lcm) f cdv A outer s H E) (E := E) rfl rfl rfl rfl
  have hp := passes_of (X := cxOf (L2.CX P w) P w K mg base ["one", "other"] "lcm" (defScope s_lcm) f cdv A outer s H E) rfl
  exact (jb_one (js_ret (je_bin jo_fdiv (je_callB jc_abs (by rfl) m_abs (by decide +kernel) (ja_cons (je_bin jo_mul (je_var 0) (je_var 1)) ja_nil)) (je_call c_gcd (hr.mono (by decide)) tk (by rfl) (ja_cons (je_var 0) (ja_cons (je_var 1) ja_nil))))))
theorem cal_lcm (h : Hd K mg) (c_gcd : Cal P w K mg base 1 "gcd" ["one", "other"] F_gcd) : Cal P w K mg base 2 "lcm" ["one", "other"] F_lcm := by
  obtain ⟨f, fd, hm, F⟩ := h.f_lcm
  exact cal_of F hm (F.bindsN fun _ _ _ _ _ _ us hl => match us, hl with | [_, _], _ => rfl) (fok_lcm h c_gcd F)
theorem fok_inverse (h : Hd K mg) {f : Addr} {fd : FuncData} (F : FunD K "inverse" "inverse" (defArgs s_inverse) (defBody s_inverse) (defScope s_inverse) [] [] f fd) : FnOk P w K mg base (L2.CX P w) 1 f fd ["number", "modulus"] (spF ⟨K, mg⟩ 2 F_inverse) := by
  refine fok_of F sc_inverse exitV_ok fun cdv A outer s H E hr => ?_
  have tk := takes_of (X := cxOf (L2.CX P w) P w K mg base ["number", "modulus", "one", "other", "first", "last", "times"] "inverse" (defScope s_inverse) f cdv A outer s H E) (E := E) rfl rfl rfl rfl
  have hp := passes_of (X := cxOf (L2.CX P w) P w K mg base ["number", "modulus", "one", "other", "first", "last", "times"] "inverse" (defScope s_inverse) f cdv A outer s H E) rfl
  exact (jb_cons (js_asg (je_tup (ja_cons (je_bin jo_mod (je_var 0) (je_var 1)) (ja_cons (je_var 1) (ja_cons je_int (ja_cons je_int ja_nil))))) (jg_tup rfl (jgs_cons (jg_name (i := 2) sc_inverse.nd) (jgs_cons (jg_name (i := 3) sc_inverse.nd) (jgs_cons (jg_name (i := 4) sc_inverse.nd) (jgs_cons (jg_name (i := 5) sc_inverse.nd) jgs_nil)))))) (jb_cons (js_while hp (jt_cmp (jo_ne hr.units) (je_var 3) je_int) (jb_cons (js_set 6 sc_inverse.nd (je_bin jo_fdiv (je_var 2) (je_var 3))) (jb_cons (js_par 2 3 rfl sc_inverse.nd (ja_cons (je_var 3) (ja_cons (je_bin jo_sub (je_var 2) (je_bin jo_mul (je_var 6) (je_var 3))) ja_nil))) (jb_one (js_par 4 5 rfl sc_inverse.nd (ja_cons (je_var 5) (ja_cons (je_bin jo_sub (je_var 4) (je_bin jo_mul (je_var 6) (je_var 5))) ja_nil))))))) (jb_one (js_ret (je_bin jo_mod (je_var 4) (je_var 1))))))
theorem cal_inverse (h : Hd K mg) : Cal P w K mg base 1 "inverse" ["number", "modulus"] F_inverse := by
  obtain ⟨f, fd, hm, F⟩ := h.f_inverse
  exact cal_of F hm (F.bindsN fun _ _ _ _ _ _ us hl => match us, hl with | [_, _], _ => rfl) (fok_inverse h F)
theorem fok_meeting (h : Hd K mg) (c_gcd : Cal P w K mg base 1 "gcd" ["one", "other"] F_gcd) (c_lcm : Cal P w K mg base 2 "lcm" ["one", "other"] F_lcm) (c_inverse : Cal P w K mg base 1 "inverse" ["number", "modulus"] F_inverse) {f : Addr} {fd : FuncData} (F : FunD K "meeting" "meeting" (defArgs s_meeting) (defBody s_meeting) (defScope s_meeting) [] [] f fd) : FnOk P w K mg base (L2.CX P w) 3 f fd ["first", "step", "other", "stride"] (spF ⟨K, mg⟩ 4 F_meeting) := by
  refine fok_of F sc_meeting exitV_ok fun cdv A outer s H E hr => ?_
  have tk := takes_of (X := cxOf (L2.CX P w) P w K mg base ["first", "step", "other", "stride", "shared", "whole", "part", "times"] "meeting" (defScope s_meeting) f cdv A outer s H E) (E := E) rfl rfl rfl rfl
  have hp := passes_of (X := cxOf (L2.CX P w) P w K mg base ["first", "step", "other", "stride", "shared", "whole", "part", "times"] "meeting" (defScope s_meeting) f cdv A outer s H E) rfl
  exact (jb_cons (js_set 4 sc_meeting.nd (je_call c_gcd (hr.mono (by decide)) tk (by rfl) (ja_cons (je_var 1) (ja_cons (je_var 3) ja_nil)))) (jb_cons (js_if (jt_cmp (jo_ne hr.units) (je_bin jo_mod (je_bin jo_sub (je_var 2) (je_var 0)) (je_var 4)) je_int) (jb_one (js_ret je_non)) jb_nil) (jb_cons (js_set 5 sc_meeting.nd (je_call c_lcm (hr.mono (by decide)) tk (by rfl) (ja_cons (je_var 1) (ja_cons (je_var 3) ja_nil)))) (jb_cons (js_set 6 sc_meeting.nd (je_bin jo_fdiv (je_var 3) (je_var 4))) (jb_cons (js_set 7 sc_meeting.nd (je_if (jt_cmp jo_gt (je_var 6) je_int) (je_bin jo_mod (je_bin jo_mul (je_bin jo_fdiv (je_bin jo_sub (je_var 2) (je_var 0)) (je_var 4)) (je_call c_inverse (hr.mono (by decide)) tk (by rfl) (ja_cons (je_bin jo_fdiv (je_var 1) (je_var 4)) (ja_cons (je_var 6) ja_nil)))) (je_var 6)) je_int)) (jb_one (js_ret (je_tup (ja_cons (je_bin jo_mod (je_bin jo_add (je_var 0) (je_bin jo_mul (je_var 7) (je_var 1))) (je_var 5)) (ja_cons (je_var 5) ja_nil))))))))))
theorem cal_meeting (h : Hd K mg) (c_gcd : Cal P w K mg base 1 "gcd" ["one", "other"] F_gcd) (c_lcm : Cal P w K mg base 2 "lcm" ["one", "other"] F_lcm) (c_inverse : Cal P w K mg base 1 "inverse" ["number", "modulus"] F_inverse) : Cal P w K mg base 3 "meeting" ["first", "step", "other", "stride"] F_meeting := by
  obtain ⟨f, fd, hm, F⟩ := h.f_meeting
  exact cal_of F hm (F.bindsN fun _ _ _ _ _ _ us hl => match us, hl with | [_, _, _, _], _ => rfl) (fok_meeting h c_gcd c_lcm c_inverse F)
theorem fok_met_in (h : Hd K mg) (c_meeting : Cal P w K mg base 3 "meeting" ["first", "step", "other", "stride"] F_meeting) (c_trimmed : Cal P w K mg base 1 "trimmed" ["low", "high", "step"] F_trimmed) {f : Addr} {fd : FuncData} (F : FunD K "met_in" "met_in" (defArgs s_met_in) (defBody s_met_in) (defScope s_met_in) [] [] f fd) : FnOk P w K mg base (L2.CX P w) 4 f fd ["one", "other"] (spF ⟨K, mg⟩ 2 F_met_in) := by
  have m_max := h.m_max
  have m_min := h.m_min
  have t_NONE := h.t_NONE
  refine fok_of F sc_met_in exitV_ok fun cdv A outer s H E hr => ?_
  have tk := takes_of (X := cxOf (L2.CX P w) P w K mg base ["one", "other", "found", "low"] "met_in" (defScope s_met_in) f cdv A outer s H E) (E := E) rfl rfl rfl rfl
  have hp := passes_of (X := cxOf (L2.CX P w) P w K mg base ["one", "other", "found", "low"] "met_in" (defScope s_met_in) f cdv A outer s H E) rfl
  exact (jb_cons (js_set 2 sc_met_in.nd (je_call c_meeting (hr.mono (by decide)) tk (by rfl) (ja_cons (je_ix (je_var 0) je_int) (ja_cons (je_ix (je_var 0) je_int) (ja_cons (je_ix (je_var 1) je_int) (ja_cons (je_ix (je_var 1) je_int) ja_nil)))))) (jb_cons (js_if (JW.pt (jw_or (jt_cmp jo_isN (je_var 2) je_non) (jw_or (jt_cmp (jo_eq hr.units) (je_var 0) (je_gtup (by rfl) t_NONE)) (jw_or1 (jt_cmp (jo_eq hr.units) (je_var 1) (je_gtup (by rfl) t_NONE)))))) (jb_one (js_ret (je_gtup (by rfl) t_NONE))) jb_nil) (jb_cons (js_set 3 sc_met_in.nd (je_callB (jc_max2 rfl) (by rfl) m_max (by decide +kernel) (ja_cons (je_ix (je_var 0) je_int) (ja_cons (je_ix (je_var 1) je_int) ja_nil)))) (jb_one (js_ret (je_call c_trimmed (hr.mono (by decide)) tk (by rfl) (ja_cons (je_bin jo_add (je_var 3) (je_bin jo_mod (je_bin jo_sub (je_ix (je_var 2) je_int) (je_var 3)) (je_ix (je_var 2) je_int))) (ja_cons (je_callB (jc_min2 rfl) (by rfl) m_min (by decide +kernel) (ja_cons (je_ix (je_var 0) je_int) (ja_cons (je_ix (je_var 1) je_int) ja_nil))) (ja_cons (je_ix (je_var 2) je_int) ja_nil)))))))))
theorem cal_met_in (h : Hd K mg) (c_meeting : Cal P w K mg base 3 "meeting" ["first", "step", "other", "stride"] F_meeting) (c_trimmed : Cal P w K mg base 1 "trimmed" ["low", "high", "step"] F_trimmed) : Cal P w K mg base 4 "met_in" ["one", "other"] F_met_in := by
  obtain ⟨f, fd, hm, F⟩ := h.f_met_in
  exact cal_of F hm (F.bindsN fun _ _ _ _ _ _ us hl => match us, hl with | [_, _], _ => rfl) (fok_met_in h c_meeting c_trimmed F)
theorem fok_met (h : Hd K mg) (c_check_two_triplets : Cal P w K mg base 5 "check_two_triplets" ["one", "other"] F_check_two_triplets) (c_normal_of : Cal P w K mg base 2 "normal_of" ["triplet"] F_normal_of) (c_met_in : Cal P w K mg base 4 "met_in" ["one", "other"] F_met_in) {f : Addr} {fd : FuncData} (F : FunD K "met" "met" (defArgs s_met) (defBody s_met) (defScope s_met) [] [] f fd) : FnOk P w K mg base (L2.CX P w) 6 f fd ["one", "other"] (spF ⟨K, mg⟩ 2 F_met) := by
  refine fok_of F sc_met exitV_ok fun cdv A outer s H E hr => ?_
  have tk := takes_of (X := cxOf (L2.CX P w) P w K mg base ["one", "other"] "met" (defScope s_met) f cdv A outer s H E) (E := E) rfl rfl rfl rfl
  have hp := passes_of (X := cxOf (L2.CX P w) P w K mg base ["one", "other"] "met" (defScope s_met) f cdv A outer s H E) rfl
  exact (jb_cons (js_expr (je_call c_check_two_triplets (hr.mono (by decide)) tk (by rfl) (ja_cons (je_var 0) (ja_cons (je_var 1) ja_nil)))) (jb_one (js_ret (je_call c_met_in (hr.mono (by decide)) tk (by rfl) (ja_cons (je_call c_normal_of (hr.mono (by decide)) tk (by rfl) (ja_cons (je_var 0) ja_nil)) (ja_cons (je_call c_normal_of (hr.mono (by decide)) tk (by rfl) (ja_cons (je_var 1) ja_nil)) ja_nil))))))
theorem cal_met (h : Hd K mg) (c_check_two_triplets : Cal P w K mg base 5 "check_two_triplets" ["one", "other"] F_check_two_triplets) (c_normal_of : Cal P w K mg base 2 "normal_of" ["triplet"] F_normal_of) (c_met_in : Cal P w K mg base 4 "met_in" ["one", "other"] F_met_in) : Cal P w K mg base 6 "met" ["one", "other"] F_met := by
  obtain ⟨f, fd, hm, F⟩ := h.f_met
  exact cal_of F hm (F.bindsN fun _ _ _ _ _ _ us hl => match us, hl with | [_, _], _ => rfl) (fok_met h c_check_two_triplets c_normal_of c_met_in F)
theorem fok_lies_in (h : Hd K mg) (c_check_two_triplets : Cal P w K mg base 5 "check_two_triplets" ["one", "other"] F_check_two_triplets) (c_normal_of : Cal P w K mg base 2 "normal_of" ["triplet"] F_normal_of) (c_met_in : Cal P w K mg base 4 "met_in" ["one", "other"] F_met_in) {f : Addr} {fd : FuncData} (F : FunD K "lies_in" "lies_in" (defArgs s_lies_in) (defBody s_lies_in) (defScope s_lies_in) [] [] f fd) : FnOk P w K mg base (L2.CX P w) 6 f fd ["one", "other"] (spF ⟨K, mg⟩ 2 F_lies_in) := by
  refine fok_of F sc_lies_in exitV_ok fun cdv A outer s H E hr => ?_
  have tk := takes_of (X := cxOf (L2.CX P w) P w K mg base ["one", "other"] "lies_in" (defScope s_lies_in) f cdv A outer s H E) (E := E) rfl rfl rfl rfl
  have hp := passes_of (X := cxOf (L2.CX P w) P w K mg base ["one", "other"] "lies_in" (defScope s_lies_in) f cdv A outer s H E) rfl
  exact (jb_cons (js_expr (je_call c_check_two_triplets (hr.mono (by decide)) tk (by rfl) (ja_cons (je_var 0) (ja_cons (je_var 1) ja_nil)))) (jb_one (js_ret (je_cmp (jo_eq hr.units) (je_call c_met_in (hr.mono (by decide)) tk (by rfl) (ja_cons (je_call c_normal_of (hr.mono (by decide)) tk (by rfl) (ja_cons (je_var 0) ja_nil)) (ja_cons (je_call c_normal_of (hr.mono (by decide)) tk (by rfl) (ja_cons (je_var 1) ja_nil)) ja_nil))) (je_call c_normal_of (hr.mono (by decide)) tk (by rfl) (ja_cons (je_var 0) ja_nil))))))
theorem cal_lies_in (h : Hd K mg) (c_check_two_triplets : Cal P w K mg base 5 "check_two_triplets" ["one", "other"] F_check_two_triplets) (c_normal_of : Cal P w K mg base 2 "normal_of" ["triplet"] F_normal_of) (c_met_in : Cal P w K mg base 4 "met_in" ["one", "other"] F_met_in) : Cal P w K mg base 6 "lies_in" ["one", "other"] F_lies_in := by
  obtain ⟨f, fd, hm, F⟩ := h.f_lies_in
  exact cal_of F hm (F.bindsN fun _ _ _ _ _ _ us hl => match us, hl with | [_, _], _ => rfl) (fok_lies_in h c_check_two_triplets c_normal_of c_met_in F)
theorem fok__law_members (h : Hd K mg) {f : Addr} {fd : FuncData} (F : FunD K "_law_members" "_law_members" (defArgs s__law_members) (defBody s__law_members) (defScope s__law_members) [] [] f fd) : FnOk P w K mg base (L2.CX P w) 1 f fd ["_law_trio"] (spF ⟨K, mg⟩ 1 F__law_members) := by
  have m_range := h.m_range
  refine fok_of F sc__law_members exitV_ok fun cdv A outer s H E hr => ?_
  have tk := takes_of (X := cxOf (L2.CX P w) P w K mg base ["_law_trio", "_law_found_here", "_law_k", "_law_number"] "_law_members" (defScope s__law_members) f cdv A outer s H E) (E := E) rfl rfl rfl rfl
  have hp := passes_of (X := cxOf (L2.CX P w) P w K mg base ["_law_trio", "_law_found_here", "_law_k", "_law_number"] "_law_members" (defScope s__law_members) f cdv A outer s H E) rfl
  exact (jb_cons (js_set 1 sc__law_members.nd (je_own ja_nil)) (jb_cons (js_for hp rfl (ji_rng1 (by rfl) m_range (ja_cons je_int ja_nil)) (jg_name (i := 2) sc__law_members.nd) (jb_cons (js_set 3 sc__law_members.nd (je_bin jo_add (je_ix (je_var 0) je_int) (je_bin jo_mul (je_var 2) (je_ix (je_var 0) je_int)))) (jb_cons (js_if (JW.pt (jw_or (JW.pt (jw_and (jt_cmp jo_gt (je_ix (je_var 0) je_int) je_int) (jw_and1 (jt_cmp jo_gt (je_var 3) (je_ix (je_var 0) je_int))))) (jw_or1 (JW.pt (jw_and (jt_cmp jo_lt (je_ix (je_var 0) je_int) je_int) (jw_and1 (jt_cmp jo_lt (je_var 3) (je_ix (je_var 0) je_int)))))))) (jb_one (js_ret (je_var 1))) jb_nil) (jb_one (js_append (je_var 1) (je_var 3)))))) (jb_one (js_ret (je_var 1)))))
theorem cal__law_members (h : Hd K mg) : Cal P w K mg base 1 "_law_members" ["_law_trio"] F__law_members := by
  obtain ⟨f, fd, hm, F⟩ := h.f__law_members
  exact cal_of F hm (F.bindsN fun _ _ _ _ _ _ us hl => match us, hl with | [_], _ => rfl) (fok__law_members h F)
theorem fok__law_draw (h : Hd K mg) {f : Addr} {fd : FuncData} (F : FunD K "_law_draw" "_law_draw" (defArgs s__law_draw) (defBody s__law_draw) (defScope s__law_draw) [] [] f fd) : FnOk P w K mg base (L2.CX P w) 1 f fd ["_law_well_here", "_law_many"] (spF ⟨K, mg⟩ 2 F__law_draw) := by
  have m_int := h.m_int
  refine fok_of F sc__law_draw exitV_ok fun cdv A outer s H E hr => ?_
  have tk := takes_of (X := cxOf (L2.CX P w) P w K mg base ["_law_well_here", "_law_many", "_law_digit", "_law_drawn"] "_law_draw" (defScope s__law_draw) f cdv A outer s H E) (E := E) rfl rfl rfl rfl
  have hp := passes_of (X := cxOf (L2.CX P w) P w K mg base ["_law_well_here", "_law_many", "_law_digit", "_law_drawn"] "_law_draw" (defScope s__law_draw) f cdv A outer s H E) rfl
  exact (jb_cons (js_if (jt_cmp jo_gt (je_ix (je_var 0) je_int) je_int) (jb_cons (js_set 2 sc__law_draw.nd (je_bin jo_mod (je_callTy jc_int (by rfl) m_int (by decide +kernel) (ja_cons (je_ix (je_var 0) je_int) ja_nil)) (je_var 1))) (jb_cons (js_setIx (je_var 0) je_int (je_bin jo_fdiv (je_ix (je_var 0) je_int) (je_var 1))) (jb_one (js_ret (je_var 2))))) jb_nil) (jb_cons (js_setIx (je_var 0) je_int (je_bin jo_add (je_ix (je_var 0) je_int) je_int)) (jb_cons (js_set 3 sc__law_draw.nd (je_bin jo_mod (je_callTy jc_int (by rfl) m_int (by decide +kernel) (ja_cons (je_bin jo_mul (je_bin jo_add (je_bin jo_add (je_ix (je_var 0) je_int) (je_bin jo_mul je_int (je_ix (je_var 0) je_int))) je_int) je_int) ja_nil)) je_int)) (jb_cons (js_set 3 sc__law_draw.nd (je_bin jo_mod (je_callTy jc_int (by rfl) m_int (by decide +kernel) (ja_cons (je_bin jo_mul (je_var 3) (je_bin jo_add (je_bin jo_fdiv (je_var 3) je_int) je_int)) ja_nil)) je_int)) (jb_one (js_ret (je_bin jo_mod (je_callTy jc_int (by rfl) m_int (by decide +kernel) (ja_cons (je_bin jo_fdiv (je_bin jo_mod (je_callTy jc_int (by rfl) m_int (by decide +kernel) (ja_cons (je_bin jo_mul (je_var 3) (je_bin jo_add (je_bin jo_fdiv (je_var 3) je_int) je_int)) ja_nil)) je_int) je_int) ja_nil)) (je_var 1))))))))
theorem cal__law_draw (h : Hd K mg) : Cal P w K mg base 1 "_law_draw" ["_law_well_here", "_law_many"] F__law_draw := by
  obtain ⟨f, fd, hm, F⟩ := h.f__law_draw
  exact cal_of F hm (F.bindsN fun _ _ _ _ _ _ us hl => match us, hl with | [_, _], _ => rfl) (fok__law_draw h F)
theorem fok__law_pick (h : Hd K mg) (c__law_draw : Cal P w K mg base 1 "_law_draw" ["_law_well_here", "_law_many"] F__law_draw) {f : Addr} {fd : FuncData} (F : FunD K "_law_pick" "_law_pick" (defArgs s__law_pick) (defBody s__law_pick) (defScope s__law_pick) [] [] f fd) : FnOk P w K mg base (L2.CX P w) 2 f fd ["_law_well_here", "_law_some"] (spF ⟨K, mg⟩ 2 F__law_pick) := by
  have m_len := h.m_len
  refine fok_of F sc__law_pick exitV_ok fun cdv A outer s H E hr => ?_
  have tk := takes_of (X := cxOf (L2.CX P w) P w K mg base ["_law_well_here", "_law_some"] "_law_pick" (defScope s__law_pick) f cdv A outer s H E) (E := E) rfl rfl rfl rfl
  have hp := passes_of (X := cxOf (L2.CX P w) P w K mg base ["_law_well_here", "_law_some"] "_law_pick" (defScope s__law_pick) f cdv A outer s H E) rfl
  exact (jb_one (js_ret (je_ix (je_var 1) (je_call c__law_draw (hr.mono (by decide)) tk (by rfl) (ja_cons (je_var 0) (ja_cons (je_callB jc_len (by rfl) m_len (by decide +kernel) (ja_cons (je_var 1) ja_nil)) ja_nil))))))
theorem cal__law_pick (h : Hd K mg) (c__law_draw : Cal P w K mg base 1 "_law_draw" ["_law_well_here", "_law_many"] F__law_draw) : Cal P w K mg base 2 "_law_pick" ["_law_well_here", "_law_some"] F__law_pick := by
  obtain ⟨f, fd, hm, F⟩ := h.f__law_pick
  exact cal_of F hm (F.bindsN fun _ _ _ _ _ _ us hl => match us, hl with | [_, _], _ => rfl) (fok__law_pick h c__law_draw F)
theorem fok__law_near (h : Hd K mg) (c__law_draw : Cal P w K mg base 1 "_law_draw" ["_law_well_here", "_law_many"] F__law_draw) (c__law_pick : Cal P w K mg base 2 "_law_pick" ["_law_well_here", "_law_some"] F__law_pick) {f : Addr} {fd : FuncData} (F : FunD K "_law_near" "_law_near" (defArgs s__law_near) (defBody s__law_near) (defScope s__law_near) [] [] f fd) : FnOk P w K mg base (L2.CX P w) 3 f fd ["_law_well_here"] (spF ⟨K, mg⟩ 1 F__law_near) := by
  refine fok_of F sc__law_near exitV_ok fun cdv A outer s H E hr => ?_
  have tk := takes_of (X := cxOf (L2.CX P w) P w K mg base ["_law_well_here", "_law_step", "_law_first", "_law_last"] "_law_near" (defScope s__law_near) f cdv A outer s H E) (E := E) rfl rfl rfl rfl
  have hp := passes_of (X := cxOf (L2.CX P w) P w K mg base ["_law_well_here", "_law_step", "_law_first", "_law_last"] "_law_near" (defScope s__law_near) f cdv A outer s H E) rfl
  exact (jb_cons (js_set 1 sc__law_near.nd (je_bin jo_add je_int (je_call c__law_pick (hr.mono (by decide)) tk (by rfl) (ja_cons (je_var 0) (ja_cons (je_lst (ja_cons je_int (ja_cons je_int (ja_cons je_int (ja_cons je_int (ja_cons je_int (ja_cons je_int (ja_cons je_int (ja_cons je_int ja_nil))))))))) ja_nil))))) (jb_cons (js_set 2 sc__law_near.nd (je_bin jo_sub (je_call c__law_draw (hr.mono (by decide)) tk (by rfl) (ja_cons (je_var 0) (ja_cons je_int ja_nil))) je_int)) (jb_cons (js_set 3 sc__law_near.nd (je_bin jo_sub (je_bin jo_add (je_var 2) (je_call c__law_draw (hr.mono (by decide)) tk (by rfl) (ja_cons (je_var 0) (ja_cons je_int ja_nil)))) je_int)) (jb_one (js_ret (je_if (jt_cmp (jo_eq hr.units) (je_call c__law_draw (hr.mono (by decide)) tk (by rfl) (ja_cons (je_var 0) (ja_cons je_int ja_nil))) je_int) (je_tup (ja_cons (je_var 2) (ja_cons (je_var 3) (ja_cons (je_var 1) ja_nil)))) (je_tup (ja_cons (je_var 3) (ja_cons (je_var 2) (ja_cons (je_bin jo_sub je_int (je_var 1)) ja_nil))))))))))
theorem cal__law_near (h : Hd K mg) (c__law_draw : Cal P w K mg base 1 "_law_draw" ["_law_well_here", "_law_many"] F__law_draw) (c__law_pick : Cal P w K mg base 2 "_law_pick" ["_law_well_here", "_law_some"] F__law_pick) : Cal P w K mg base 3 "_law_near" ["_law_well_here"] F__law_near := by
  obtain ⟨f, fd, hm, F⟩ := h.f__law_near
  exact cal_of F hm (F.bindsN fun _ _ _ _ _ _ us hl => match us, hl with | [_], _ => rfl) (fok__law_near h c__law_draw c__law_pick F)
theorem fok__law_shown (h : Hd K mg) {f : Addr} {fd : FuncData} (F : FunD K "_law_shown" "_law_shown" (defArgs s__law_shown) (defBody s__law_shown) (defScope s__law_shown) [] [] f fd) : FnOk P w K mg base (L2.CX P w) 1 f fd ["_law_some"] (spF ⟨K, mg⟩ 1 F__law_shown) := by
  have m_len := h.m_len
  refine fok_of F sc__law_shown exitV_ok fun cdv A outer s H E hr => ?_
  have tk := takes_of (X := cxOf (L2.CX P w) P w K mg base ["_law_some"] "_law_shown" (defScope s__law_shown) f cdv A outer s H E) (E := E) rfl rfl rfl rfl
  have hp := passes_of (X := cxOf (L2.CX P w) P w K mg base ["_law_some"] "_law_shown" (defScope s__law_shown) f cdv A outer s H E) rfl
  exact (jb_cons (js_if (jt_cmp (jo_eq hr.units) (je_var 0) (je_lst ja_nil)) (jb_one (js_ret (je_tup (ja_cons je_int (ja_cons (je_neg je_int) (ja_cons je_int ja_nil)))))) jb_nil) (jb_one (js_ret (je_tup (ja_cons (je_ix (je_var 0) je_int) (ja_cons (je_ix (je_var 0) (je_neg je_int)) (ja_cons (je_if (jt_cmp jo_gt (je_callB jc_len (by rfl) m_len (by decide +kernel) (ja_cons (je_var 0) ja_nil)) je_int) (je_bin jo_sub (je_ix (je_var 0) je_int) (je_ix (je_var 0) je_int)) je_int) ja_nil)))))))
theorem cal__law_shown (h : Hd K mg) : Cal P w K mg base 1 "_law_shown" ["_law_some"] F__law_shown := by
  obtain ⟨f, fd, hm, F⟩ := h.f__law_shown
  exact cal_of F hm (F.bindsN fun _ _ _ _ _ _ us hl => match us, hl with | [_], _ => rfl) (fok__law_shown h F)
theorem fok__law_near_right (h : Hd K mg) (c_met : Cal P w K mg base 6 "met" ["one", "other"] F_met) (c_lies_in : Cal P w K mg base 6 "lies_in" ["one", "other"] F_lies_in) (c__law_members : Cal P w K mg base 1 "_law_members" ["_law_trio"] F__law_members) (c__law_near : Cal P w K mg base 3 "_law_near" ["_law_well_here"] F__law_near) (c__law_shown : Cal P w K mg base 1 "_law_shown" ["_law_some"] F__law_shown) {f : Addr} {fd : FuncData} (F : FunD K "_law_near_right" "_law_near_right" (defArgs s__law_near_right) (defBody s__law_near_right) (defScope s__law_near_right) [] [] f fd) : FnOk P w K mg base (L2.CX P w) 7 f fd ["_law_well_here"] (spF ⟨K, mg⟩ 1 F__law_near_right) := by
  have m_len := h.m_len
  have m_sorted := h.m_sorted
  refine fok_of F sc__law_near_right exitV_ok fun cdv A outer s H E hr => ?_
  have tk := takes_of (X := cxOf (L2.CX P w) P w K mg base ["_law_well_here", "_law_trio", "_law_twin", "_law_some", "_law_others", "_law_both", "_law_number"] "_law_near_right" (defScope s__law_near_right) f cdv A outer s H E) (E := E) rfl rfl rfl rfl
  have hp := passes_of (X := cxOf (L2.CX P w) P w K mg base ["_law_well_here", "_law_trio", "_law_twin", "_law_some", "_law_others", "_law_both", "_law_number"] "_law_near_right" (defScope s__law_near_right) f cdv A outer s H E) rfl
  exact (jb_cons (js_par 1 2 rfl sc__law_near_right.nd (ja_cons (je_call c__law_near (hr.mono (by decide)) tk (by rfl) (ja_cons (je_var 0) ja_nil)) (ja_cons (je_call c__law_near (hr.mono (by decide)) tk (by rfl) (ja_cons (je_var 0) ja_nil)) ja_nil))) (jb_cons (js_asg (je_tup (ja_cons (je_call c__law_members (hr.mono (by decide)) tk (by rfl) (ja_cons (je_var 1) ja_nil)) (ja_cons (je_call c__law_members (hr.mono (by decide)) tk (by rfl) (ja_cons (je_var 2) ja_nil)) ja_nil))) (jg_tup rfl (jgs_cons (jg_name (i := 3) sc__law_near_right.nd) (jgs_cons (jg_name (i := 4) sc__law_near_right.nd) jgs_nil)))) (jb_cons (js_setLc 5 [("_law_number", 6)] rfl sc__law_near_right.nd (ji_seq (je_callB jc_sorted (by rfl) m_sorted (by decide +kernel) (ja_cons (je_var 3) ja_nil))) (blkOk_by (by kernel_rfl)) (fun _ _ _ _ _ => (jg_name (i := 6) sc__law_near_right.nd)) (by decide) (test_one fun _ _ _ _ _ => (jt_cmp jo_in (je_var 6) (je_var 4) (by rfl))) (fun _ _ _ _ _ => (je_var 6)) (sw_true rfl rfl rfl (by decide +kernel))) (jb_cons (js_if (JW.pt (jw_or (jt_cmp (jo_ne hr.units) (je_call c_met (hr.mono (by decide)) tk (by rfl) (ja_cons (je_var 1) (ja_cons (je_var 2) ja_nil))) (je_call c__law_shown (hr.mono (by decide)) tk (by rfl) (ja_cons (je_var 5) ja_nil))) (jw_or1 (jt_cmp (jo_ne hr.units) (je_call c_met (hr.mono (by decide)) tk (by rfl) (ja_cons (je_var 2) (ja_cons (je_var 1) ja_nil))) (je_call c__law_shown (hr.mono (by decide)) tk (by rfl) (ja_cons (je_var 5) ja_nil)))))) (jb_one (js_ret je_bl)) jb_nil) (jb_one (js_ret (je_cmp (jo_eq hr.units) (je_lst (ja_cons (je_call c_lies_in (hr.mono (by decide)) tk (by rfl) (ja_cons (je_var 1) (ja_cons (je_var 2) ja_nil))) (ja_cons (je_call c_lies_in (hr.mono (by decide)) tk (by rfl) (ja_cons (je_var 2) (ja_cons (je_var 1) ja_nil))) ja_nil))) (je_lst (ja_cons (je_cmp (jo_eq hr.units) (je_callB jc_len (by rfl) m_len (by decide +kernel) (ja_cons (je_var 5) ja_nil)) (je_callB jc_len (by rfl) m_len (by decide +kernel) (ja_cons (je_var 3) ja_nil))) (ja_cons (je_cmp (jo_eq hr.units) (je_callB jc_len (by rfl) m_len (by decide +kernel) (ja_cons (je_var 5) ja_nil)) (je_callB jc_len (by rfl) m_len (by decide +kernel) (ja_cons (je_var 4) ja_nil))) ja_nil))))))))))
theorem cal__law_near_right (h : Hd K mg) (c_met : Cal P w K mg base 6 "met" ["one", "other"] F_met) (c_lies_in : Cal P w K mg base 6 "lies_in" ["one", "other"] F_lies_in) (c__law_members : Cal P w K mg base 1 "_law_members" ["_law_trio"] F__law_members) (c__law_near : Cal P w K mg base 3 "_law_near" ["_law_well_here"] F__law_near) (c__law_shown : Cal P w K mg base 1 "_law_shown" ["_law_some"] F__law_shown) : Cal P w K mg base 7 "_law_near_right" ["_law_well_here"] F__law_near_right := by
  obtain ⟨f, fd, hm, F⟩ := h.f__law_near_right
  exact cal_of F hm (F.bindsN fun _ _ _ _ _ _ us hl => match us, hl with | [_], _ => rfl) (fok__law_near_right h c_met c_lies_in c__law_members c__law_near c__law_shown F)
theorem fok__law_count (h : Hd K mg) {f : Addr} {fd : FuncData} (F : FunD K "_law_count" "_law_count" (defArgs s__law_count) (defBody s__law_count) (defScope s__law_count) [] [] f fd) : FnOk P w K mg base (L2.CX P w) 1 f fd ["_law_trio"] (spF ⟨K, mg⟩ 1 F__law_count) := by
  have m_abs := h.m_abs
  refine fok_of F sc__law_count exitV_ok fun cdv A outer s H E hr => ?_
  have tk := takes_of (X := cxOf (L2.CX P w) P w K mg base ["_law_trio", "_law_far_here"] "_law_count" (defScope s__law_count) f cdv A outer s H E) (E := E) rfl rfl rfl rfl
  have hp := passes_of (X := cxOf (L2.CX P w) P w K mg base ["_law_trio", "_law_far_here"] "_law_count" (defScope s__law_count) f cdv A outer s H E) rfl
  exact (jb_cons (js_set 1 sc__law_count.nd (je_if (jt_cmp jo_gt (je_ix (je_var 0) je_int) je_int) (je_bin jo_sub (je_ix (je_var 0) je_int) (je_ix (je_var 0) je_int)) (je_bin jo_sub (je_ix (je_var 0) je_int) (je_ix (je_var 0) je_int)))) (jb_one (js_ret (je_if (jt_cmp jo_ge (je_var 1) je_int) (je_bin jo_add (je_bin jo_fdiv (je_var 1) (je_callB jc_abs (by rfl) m_abs (by decide +kernel) (ja_cons (je_ix (je_var 0) je_int) ja_nil))) je_int) je_int))))
theorem cal__law_count (h : Hd K mg) : Cal P w K mg base 1 "_law_count" ["_law_trio"] F__law_count := by
  obtain ⟨f, fd, hm, F⟩ := h.f__law_count
  exact cal_of F hm (F.bindsN fun _ _ _ _ _ _ us hl => match us, hl with | [_], _ => rfl) (fok__law_count h F)
theorem fok__law_far_trio (h : Hd K mg) (c__law_draw : Cal P w K mg base 1 "_law_draw" ["_law_well_here", "_law_many"] F__law_draw) (c__law_pick : Cal P w K mg base 2 "_law_pick" ["_law_well_here", "_law_some"] F__law_pick) {f : Addr} {fd : FuncData} (F : FunD K "_law_far_trio" "_law_far_trio" (defArgs s__law_far_trio) (defBody s__law_far_trio) (defScope s__law_far_trio) [] [] f fd) : FnOk P w K mg base (L2.CX P w) 3 f fd ["_law_well_here", "_law_base", "_law_unit"] (spF ⟨K, mg⟩ 3 F__law_far_trio) := by
  have m_min := h.m_min
  refine fok_of F sc__law_far_trio exitV_ok fun cdv A outer s H E hr => ?_
  have tk := takes_of (X := cxOf (L2.CX P w) P w K mg base ["_law_well_here", "_law_base", "_law_unit", "_law_step", "_law_first", "_law_many"] "_law_far_trio" (defScope s__law_far_trio) f cdv A outer s H E) (E := E) rfl rfl rfl rfl
  have hp := passes_of (X := cxOf (L2.CX P w) P w K mg base ["_law_well_here", "_law_base", "_law_unit", "_law_step", "_law_first", "_law_many"] "_law_far_trio" (defScope s__law_far_trio) f cdv A outer s H E) rfl
  exact (jb_cons (js_set 3 sc__law_far_trio.nd (je_bin jo_mul (je_var 2) (je_bin jo_add je_int (je_call c__law_draw (hr.mono (by decide)) tk (by rfl) (ja_cons (je_var 0) (ja_cons je_int ja_nil)))))) (jb_cons (js_set 4 sc__law_far_trio.nd (je_bin jo_add (je_bin jo_add (je_var 1) (je_bin jo_mul (je_var 2) (je_bin jo_sub (je_call c__law_draw (hr.mono (by decide)) tk (by rfl) (ja_cons (je_var 0) (ja_cons (je_bin jo_pow je_int je_int) ja_nil))) (je_bin jo_mul je_int (je_bin jo_pow je_int je_int))))) (je_call c__law_pick (hr.mono (by decide)) tk (by rfl) (ja_cons (je_var 0) (ja_cons (je_lst (ja_cons je_int (ja_cons je_int (ja_cons je_int (ja_cons je_int ja_nil))))) ja_nil))))) (jb_cons (js_set 5 sc__law_far_trio.nd (je_bin jo_add je_int (je_call c__law_pick (hr.mono (by decide)) tk (by rfl) (ja_cons (je_var 0) (ja_cons (je_lst (ja_cons je_int (ja_cons je_int (ja_cons je_int (ja_cons je_int (ja_cons (je_bin jo_pow je_int je_int) (ja_cons (je_bin jo_pow je_int je_int) ja_nil))))))) ja_nil))))) (jb_one (js_ret (je_tup (ja_cons (je_var 4) (ja_cons (je_callB (jc_min2 rfl) (by rfl) m_min (by decide +kernel) (ja_cons (je_bin jo_pow je_int je_int) (ja_cons (je_bin jo_add (je_bin jo_add (je_var 4) (je_bin jo_mul (je_bin jo_sub (je_var 5) je_int) (je_var 3))) (je_call c__law_draw (hr.mono (by decide)) tk (by rfl) (ja_cons (je_var 0) (ja_cons (je_var 3) ja_nil)))) ja_nil))) (ja_cons (je_var 3) ja_nil)))))))))
theorem cal__law_far_trio (h : Hd K mg) (c__law_draw : Cal P w K mg base 1 "_law_draw" ["_law_well_here", "_law_many"] F__law_draw) (c__law_pick : Cal P w K mg base 2 "_law_pick" ["_law_well_here", "_law_some"] F__law_pick) : Cal P w K mg base 3 "_law_far_trio" ["_law_well_here", "_law_base", "_law_unit"] F__law_far_trio := by
  obtain ⟨f, fd, hm, F⟩ := h.f__law_far_trio
  exact cal_of F hm (F.bindsN fun _ _ _ _ _ _ us hl => match us, hl with | [_, _, _], _ => rfl) (fok__law_far_trio h c__law_draw c__law_pick F)
theorem fok__law_found (h : Hd K mg) {f : Addr} {fd : FuncData} (F : FunD K "_law_found" "_law_found" (defArgs s__law_found) (defBody s__law_found) (defScope s__law_found) [] [] f fd) : FnOk P w K mg base (L2.CX P w) 1 f fd ["_law_trio", "_law_twin"] (spF ⟨K, mg⟩ 2 F__law_found) := by
  have m_int := h.m_int
  have m_max := h.m_max
  have m_min := h.m_min
  have m_range := h.m_range
  refine fok_of F sc__law_found exitV_ok fun cdv A outer s H E hr => ?_
  have tk := takes_of (X := cxOf (L2.CX P w) P w K mg base ["_law_trio", "_law_twin", "_law_first", "_law_turn", "_law_highest", "_law_step", "_law_many"] "_law_found" (defScope s__law_found) f cdv A outer s H E) (E := E) rfl rfl rfl rfl
  have hp := passes_of (X := cxOf (L2.CX P w) P w K mg base ["_law_trio", "_law_twin", "_law_first", "_law_turn", "_law_highest", "_law_step", "_law_many"] "_law_found" (defScope s__law_found) f cdv A outer s H E) rfl
  exact (jb_cons (js_set 2 sc__law_found.nd (je_callB (jc_max2 rfl) (by rfl) m_max (by decide +kernel) (ja_cons (je_ix (je_var 0) je_int) (ja_cons (je_bin jo_add (je_ix (je_var 0) je_int) (je_bin jo_mul (je_neg (je_bin jo_fdiv (je_neg (je_bin jo_sub (je_ix (je_var 1) je_int) (je_ix (je_var 0) je_int))) (je_ix (je_var 0) je_int))) (je_ix (je_var 0) je_int))) ja_nil)))) (jb_cons (js_for hp rfl (ji_rng1 (by rfl) m_range (ja_cons je_int ja_nil)) (jg_name (i := 3) sc__law_found.nd) (jb_cons (js_if (jt_cmp (jo_eq hr.units) (je_bin jo_mod (je_bin jo_sub (je_var 2) (je_ix (je_var 1) je_int)) (je_ix (je_var 1) je_int)) je_int) (jb_one js_break) jb_nil) (jb_one (js_set 2 sc__law_found.nd (je_bin jo_add (je_var 2) (je_ix (je_var 0) je_int)))))) (jb_cons (js_set 4 sc__law_found.nd (je_callB (jc_min2 rfl) (by rfl) m_min (by decide +kernel) (ja_cons (je_ix (je_var 0) je_int) (ja_cons (je_ix (je_var 1) je_int) ja_nil)))) (jb_cons (js_if (JW.pt (jw_or (jt_cmp (jo_ne hr.units) (je_bin jo_mod (je_bin jo_sub (je_var 2) (je_ix (je_var 1) je_int)) (je_ix (je_var 1) je_int)) je_int) (jw_or1 (jt_cmp jo_gt (je_var 2) (je_var 4))))) (jb_one (js_ret (je_tup (ja_cons je_int (ja_cons (je_neg je_int) (ja_cons je_int ja_nil)))))) jb_nil) (jb_cons (js_set 5 sc__law_found.nd (je_ix (je_var 0) je_int)) (jb_cons (js_for hp rfl (ji_rng1 (by rfl) m_range (ja_cons je_int ja_nil)) (jg_name (i := 3) sc__law_found.nd) (jb_one (js_if (jt_cmp (jo_ne hr.units) (je_bin jo_mod (je_callTy jc_int (by rfl) m_int (by decide +kernel) (ja_cons (je_var 5) ja_nil)) (je_ix (je_var 1) je_int)) je_int) (jb_one (js_set 5 sc__law_found.nd (je_bin jo_add (je_var 5) (je_ix (je_var 0) je_int)))) jb_nil))) (jb_cons (js_set 6 sc__law_found.nd (je_bin jo_fdiv (je_bin jo_sub (je_var 4) (je_var 2)) (je_var 5))) (jb_one (js_ret (je_if (jt_cmp jo_gt (je_var 6) je_int) (je_tup (ja_cons (je_var 2) (ja_cons (je_bin jo_add (je_var 2) (je_bin jo_mul (je_var 6) (je_var 5))) (ja_cons (je_var 5) ja_nil)))) (je_tup (ja_cons (je_var 2) (ja_cons (je_var 2) (ja_cons je_int ja_nil))))))))))))))
theorem cal__law_found (h : Hd K mg) : Cal P w K mg base 1 "_law_found" ["_law_trio", "_law_twin"] F__law_found := by
  obtain ⟨f, fd, hm, F⟩ := h.f__law_found
  exact cal_of F hm (F.bindsN fun _ _ _ _ _ _ us hl => match us, hl with | [_, _], _ => rfl) (fok__law_found h F)
theorem fok__law_far_right (h : Hd K mg) (c_met : Cal P w K mg base 6 "met" ["one", "other"] F_met) (c_lies_in : Cal P w K mg base 6 "lies_in" ["one", "other"] F_lies_in) (c__law_pick : Cal P w K mg base 2 "_law_pick" ["_law_well_here", "_law_some"] F__law_pick) (c__law_count : Cal P w K mg base 1 "_law_count" ["_law_trio"] F__law_count) (c__law_far_trio : Cal P w K mg base 3 "_law_far_trio" ["_law_well_here", "_law_base", "_law_unit"] F__law_far_trio) (c__law_found : Cal P w K mg base 1 "_law_found" ["_law_trio", "_law_twin"] F__law_found) {f : Addr} {fd : FuncData} (F : FunD K "_law_far_right" "_law_far_right" (defArgs s__law_far_right) (defBody s__law_far_right) (defScope s__law_far_right) [] [] f fd) : FnOk P w K mg base (L2.CX P w) 7 f fd ["_law_well_here"] (spF ⟨K, mg⟩ 1 F__law_far_right) := by
  refine fok_of F sc__law_far_right exitV_ok fun cdv A outer s H E hr => ?_
  have tk := takes_of (X := cxOf (L2.CX P w) P w K mg base ["_law_well_here", "_law_unit", "_law_base", "_law_trio", "_law_twin", "_law_due", "_law_back"] "_law_far_right" (defScope s__law_far_right) f cdv A outer s H E) (E := E) rfl rfl rfl rfl
  have hp := passes_of (X := cxOf (L2.CX P w) P w K mg base ["_law_well_here", "_law_unit", "_law_base", "_law_trio", "_law_twin", "_law_due", "_law_back"] "_law_far_right" (defScope s__law_far_right) f cdv A outer s H E) rfl
  exact (jb_cons (js_set 1 sc__law_far_right.nd (je_call c__law_pick (hr.mono (by decide)) tk (by rfl) (ja_cons (je_var 0) (ja_cons (je_lst (ja_cons je_int (ja_cons je_int (ja_cons (je_bin jo_pow je_int je_int) (ja_cons (je_bin jo_add (je_bin jo_pow je_int je_int) je_int) ja_nil))))) ja_nil)))) (jb_cons (js_set 2 sc__law_far_right.nd (je_call c__law_pick (hr.mono (by decide)) tk (by rfl) (ja_cons (je_var 0) (ja_cons (je_lst (ja_cons je_int (ja_cons (je_bin jo_pow je_int je_int) (ja_cons (je_bin jo_sub je_int (je_bin jo_mul je_int (je_bin jo_pow je_int je_int))) (ja_cons (je_bin jo_mul je_int (je_bin jo_pow je_int je_int)) ja_nil))))) ja_nil)))) (jb_cons (js_par 3 4 rfl sc__law_far_right.nd (ja_cons (je_call c__law_far_trio (hr.mono (by decide)) tk (by rfl) (ja_cons (je_var 0) (ja_cons (je_var 2) (ja_cons (je_var 1) ja_nil)))) (ja_cons (je_call c__law_far_trio (hr.mono (by decide)) tk (by rfl) (ja_cons (je_var 0) (ja_cons (je_var 2) (ja_cons (je_var 1) ja_nil)))) ja_nil))) (jb_cons (js_set 5 sc__law_far_right.nd (je_call c__law_found (hr.mono (by decide)) tk (by rfl) (ja_cons (je_var 3) (ja_cons (je_var 4) ja_nil)))) (jb_cons (js_set 6 sc__law_far_right.nd (je_tup (ja_cons (je_bin jo_add (je_ix (je_var 3) je_int) (je_bin jo_mul (je_bin jo_sub (je_call c__law_count (hr.mono (by decide)) tk (by rfl) (ja_cons (je_var 3) ja_nil)) je_int) (je_ix (je_var 3) je_int))) (ja_cons (je_ix (je_var 3) je_int) (ja_cons (je_bin jo_sub je_int (je_ix (je_var 3) je_int)) ja_nil))))) (jb_cons (js_if (jt_cmp (jo_ne hr.units) (je_lst (ja_cons (je_call c_met (hr.mono (by decide)) tk (by rfl) (ja_cons (je_var 3) (ja_cons (je_var 4) ja_nil))) (ja_cons (je_call c_met (hr.mono (by decide)) tk (by rfl) (ja_cons (je_var 4) (ja_cons (je_var 3) ja_nil))) (ja_cons (je_call c_met (hr.mono (by decide)) tk (by rfl) (ja_cons (je_var 6) (ja_cons (je_var 4) ja_nil))) ja_nil)))) (je_bin jo_rep (je_lst (ja_cons (je_var 5) ja_nil)) je_int)) (jb_one (js_ret je_bl)) jb_nil) (jb_cons (js_if (JW.pt (jw_or (jt_not (jt_val (je_call c_lies_in (hr.mono (by decide)) tk (by rfl) (ja_cons (je_var 5) (ja_cons (je_var 3) ja_nil))))) (jw_or1 (jt_not (jt_val (je_call c_lies_in (hr.mono (by decide)) tk (by rfl) (ja_cons (je_var 5) (ja_cons (je_var 4) ja_nil)))))))) (jb_one (js_ret je_bl)) jb_nil) (jb_one (js_ret (je_cmp (jo_eq hr.units) (je_call c_lies_in (hr.mono (by decide)) tk (by rfl) (ja_cons (je_var 3) (ja_cons (je_var 4) ja_nil))) (je_cmp (jo_eq hr.units) (je_call c__law_count (hr.mono (by decide)) tk (by rfl) (ja_cons (je_var 5) ja_nil)) (je_call c__law_count (hr.mono (by decide)) tk (by rfl) (ja_cons (je_var 3) ja_nil)))))))))))))
theorem cal__law_far_right (h : Hd K mg) (c_met : Cal P w K mg base 6 "met" ["one", "other"] F_met) (c_lies_in : Cal P w K mg base 6 "lies_in" ["one", "other"] F_lies_in) (c__law_pick : Cal P w K mg base 2 "_law_pick" ["_law_well_here", "_law_some"] F__law_pick) (c__law_count : Cal P w K mg base 1 "_law_count" ["_law_trio"] F__law_count) (c__law_far_trio : Cal P w K mg base 3 "_law_far_trio" ["_law_well_here", "_law_base", "_law_unit"] F__law_far_trio) (c__law_found : Cal P w K mg base 1 "_law_found" ["_law_trio", "_law_twin"] F__law_found) : Cal P w K mg base 7 "_law_far_right" ["_law_well_here"] F__law_far_right := by
  obtain ⟨f, fd, hm, F⟩ := h.f__law_far_right
  exact cal_of F hm (F.bindsN fun _ _ _ _ _ _ us hl => match us, hl with | [_], _ => rfl) (fok__law_far_right h c_met c_lies_in c__law_pick c__law_count c__law_far_trio c__law_found F)
theorem fok_law (h : Hd K mg) (c__law_well : Cal P w K mg base 1 "_law_well" ["_law_cell"] F__law_well) (c__law_near_right : Cal P w K mg base 7 "_law_near_right" ["_law_well_here"] F__law_near_right) (c__law_far_right : Cal P w K mg base 7 "_law_far_right" ["_law_well_here"] F__law_far_right) {f : Addr} {fd : FuncData} (F : FunD K "law" "law" (defArgs s_law) (defBody s_law) (defScope s_law) [] [] f fd) : FnOk P w K mg base (L2.CX P w) 8 f fd ["_law_script"] (spF ⟨K, mg⟩ 1 F_law) := by
  have m_len := h.m_len
  have m_max := h.m_max
  have m_min := h.m_min
  have m_range := h.m_range
  refine fok_of F sc_law exitV_ok fun cdv A outer s H E hr => ?_
  have tk := takes_of (X := cxOf (L2.CX P w) P w K mg base ["_law_script", "_law_k", "_law_well_here", "_law_turn"] "law" (defScope s_law) f cdv A outer s H E) (E := E) rfl rfl rfl rfl
  have hp := passes_of (X := cxOf (L2.CX P w) P w K mg base ["_law_script", "_law_k", "_law_well_here", "_law_turn"] "law" (defScope s_law) f cdv A outer s H E) rfl
  exact (jb_cons (js_for hp rfl (ji_rng1 (by rfl) m_range (ja_cons (je_bin jo_add (je_callB (jc_max2 rfl) (by rfl) m_max (by decide +kernel) (ja_cons je_int (ja_cons (je_callB (jc_min2 rfl) (by rfl) m_min (by decide +kernel) (ja_cons je_int (ja_cons (je_callB jc_len (by rfl) m_len (by decide +kernel) (ja_cons (je_var 0) ja_nil)) ja_nil))) ja_nil))) je_int) ja_nil)) (jg_name (i := 1) sc_law.nd) (jb_cons (js_set 2 sc_law.nd (je_call c__law_well (hr.mono (by decide)) tk (by rfl) (ja_cons (je_if (jt_cmp jo_lt (je_var 1) (je_callB jc_len (by rfl) m_len (by decide +kernel) (ja_cons (je_var 0) ja_nil))) (je_ix (je_var 0) (je_var 1)) je_int) ja_nil))) (jb_one (js_for hp rfl (ji_rng1 (by rfl) m_range (ja_cons je_int ja_nil)) (jg_name (i := 3) sc_law.nd) (jb_one (js_if (JW.pt (jw_or (jt_not (jt_val (je_call c__law_near_right (hr.mono (by decide)) tk (by rfl) (ja_cons (je_var 2) ja_nil)))) (jw_or1 (jt_not (jt_val (je_call c__law_far_right (hr.mono (by decide)) tk (by rfl) (ja_cons (je_var 2) ja_nil))))))) (jb_one (js_ret je_bl)) jb_nil)))))) (jb_one (js_ret je_bl)))
theorem cal_all (h : Hd K mg) {f : Addr} {fd : FuncData} (F : FunD K "law" "law" (defArgs s_law) (defBody s_law) (defScope s_law) [] [] f fd) : FnOk P w K mg base (L2.CX P w) 8 f fd ["_law_script"] (spF ⟨K, mg⟩ 1 F_law) := by
  have c__law_well := cal__law_well (P := P) (w := w) (base := base) h
  have c_is_whole := cal_is_whole (P := P) (w := w) (base := base) h
  have c_is_between := cal_is_between (P := P) (w := w) (base := base) h c_is_whole
  have c_is_triplet := cal_is_triplet (P := P) (w := w) (base := base) h c_is_between
  have c_check_triplet := cal_check_triplet (P := P) (w := w) (base := base) h c_is_triplet
  have c_check_two_triplets := cal_check_two_triplets (P := P) (w := w) (base := base) h c_check_triplet
  have c_many_in := cal_many_in (P := P) (w := w) (base := base) h
  have c_trimmed := cal_trimmed (P := P) (w := w) (base := base) h
  have c_normal_of := cal_normal_of (P := P) (w := w) (base := base) h c_many_in c_trimmed
  have c_gcd := cal_gcd (P := P) (w := w) (base := base) h
  have c_lcm := cal_lcm (P := P) (w := w) (base := base) h c_gcd
  have c_inverse := cal_inverse (P := P) (w := w) (base := base) h
  have c_meeting := cal_meeting (P := P) (w := w) (base := base) h c_gcd c_lcm c_inverse
  have c_met_in := cal_met_in (P := P) (w := w) (base := base) h c_meeting c_trimmed
  have c_met := cal_met (P := P) (w := w) (base := base) h c_check_two_triplets c_normal_of c_met_in
  have c_lies_in := cal_lies_in (P := P) (w := w) (base := base) h c_check_two_triplets c_normal_of c_met_in
  have c__law_members := cal__law_members (P := P) (w := w) (base := base) h
  have c__law_draw := cal__law_draw (P := P) (w := w) (base := base) h
  have c__law_pick := cal__law_pick (P := P) (w := w) (base := base) h c__law_draw
  have c__law_near := cal__law_near (P := P) (w := w) (base := base) h c__law_draw c__law_pick
  have c__law_shown := cal__law_shown (P := P) (w := w) (base := base) h
  have c__law_near_right := cal__law_near_right (P := P) (w := w) (base := base) h c_met c_lies_in c__law_members c__law_near c__law_shown
  have c__law_count := cal__law_count (P := P) (w := w) (base := base) h
  have c__law_far_trio := cal__law_far_trio (P := P) (w := w) (base := base) h c__law_draw c__law_pick
  have c__law_found := cal__law_found (P := P) (w := w) (base := base) h
  have c__law_far_right := cal__law_far_right (P := P) (w := w) (base := base) h c_met c_lies_in c__law_pick c__law_count c__law_far_trio c__law_found
  exact fok_law h c__law_well c__law_near_right c__law_far_right F
end
/-! ### the head -/
def d__law_well : He.DefD := ⟨("_law_well", none), "_law_well", "_law_well", defArgs s__law_well, defBody s__law_well, defScope s__law_well, [], []⟩
def d_is_whole : He.DefD := ⟨("is_whole", none), "is_whole", "is_whole", defArgs s_is_whole, defBody s_is_whole, defScope s_is_whole, [], []⟩
def d_is_between : He.DefD := ⟨("is_between", none), "is_between", "is_between", defArgs s_is_between, defBody s_is_between, defScope s_is_between, [], []⟩
def d_is_triplet : He.DefD := ⟨("is_triplet", none), "is_triplet", "is_triplet", defArgs s_is_triplet, defBody s_is_triplet, defScope s_is_triplet, [], []⟩
def d_check_triplet : He.DefD := ⟨("check_triplet", none), "check_triplet", "check_triplet", defArgs s_check_triplet, defBody s_check_triplet, defScope s_check_triplet, [], []⟩
def d_check_two_triplets : He.DefD := ⟨("check_two_triplets", none), "check_two_triplets", "check_two_triplets", defArgs s_check_two_triplets, defBody s_check_two_triplets, defScope s_check_two_triplets, [], []⟩
def d_many_in : He.DefD := ⟨("many_in", none), "many_in", "many_in", defArgs s_many_in, defBody s_many_in, defScope s_many_in, [], []⟩
def d_trimmed : He.DefD := ⟨("trimmed", none), "trimmed", "trimmed", defArgs s_trimmed, defBody s_trimmed, defScope s_trimmed, [], []⟩
def d_normal_of : He.DefD := ⟨("normal_of", none), "normal_of", "normal_of", defArgs s_normal_of, defBody s_normal_of, defScope s_normal_of, [], []⟩
def d_gcd : He.DefD := ⟨("gcd", none), "gcd", "gcd", defArgs s_gcd, defBody s_gcd, defScope s_gcd, [], []⟩
def d_lcm : He.DefD := ⟨("lcm", none), "lcm", "lcm", defArgs s_lcm, defBody s_lcm, defScope s_lcm, [], []⟩
def d_inverse : He.DefD := ⟨("inverse", none), "inverse", "inverse", defArgs s_inverse, defBody s_inverse, defScope s_inverse, [], []⟩
def d_meeting : He.DefD := ⟨("meeting", none), "meeting", "meeting", defArgs s_meeting, defBody s_meeting, defScope s_meeting, [], []⟩
def d_met_in : He.DefD := ⟨("met_in", none), "met_in", "met_in", defArgs s_met_in, defBody s_met_in, defScope s_met_in, [], []⟩
def d_met : He.DefD := ⟨("met", none), "met", "met", defArgs s_met, defBody s_met, defScope s_met, [], []⟩
def d_lies_in : He.DefD := ⟨("lies_in", none), "lies_in", "lies_in", defArgs s_lies_in, defBody s_lies_in, defScope s_lies_in, [], []⟩
def d__law_members : He.DefD := ⟨("_law_members", none), "_law_members", "_law_members", defArgs s__law_members, defBody s__law_members, defScope s__law_members, [], []⟩
def d__law_draw : He.DefD := ⟨("_law_draw", none), "_law_draw", "_law_draw", defArgs s__law_draw, defBody s__law_draw, defScope s__law_draw, [], []⟩
def d__law_pick : He.DefD := ⟨("_law_pick", none), "_law_pick", "_law_pick", defArgs s__law_pick, defBody s__law_pick, defScope s__law_pick, [], []⟩
def d__law_near : He.DefD := ⟨("_law_near", none), "_law_near", "_law_near", defArgs s__law_near, defBody s__law_near, defScope s__law_near, [], []⟩
def d__law_shown : He.DefD := ⟨("_law_shown", none), "_law_shown", "_law_shown", defArgs s__law_shown, defBody s__law_shown, defScope s__law_shown, [], []⟩
def d__law_near_right : He.DefD := ⟨("_law_near_right", none), "_law_near_right", "_law_near_right", defArgs s__law_near_right, defBody s__law_near_right, defScope s__law_near_right, [], []⟩
def d__law_count : He.DefD := ⟨("_law_count", none), "_law_count", "_law_count", defArgs s__law_count, defBody s__law_count, defScope s__law_count, [], []⟩
def d__law_far_trio : He.DefD := ⟨("_law_far_trio", none), "_law_far_trio", "_law_far_trio", defArgs s__law_far_trio, defBody s__law_far_trio, defScope s__law_far_trio, [], []⟩
def d__law_found : He.DefD := ⟨("_law_found", none), "_law_found", "_law_found", defArgs s__law_found, defBody s__law_found, defScope s__law_found, [], []⟩
def d__law_far_right : He.DefD := ⟨("_law_far_right", none), "_law_far_right", "_law_far_right", defArgs s__law_far_right, defBody s__law_far_right, defScope s__law_far_right, [], []⟩
def d_law : He.DefD := ⟨("law", none), "law", "law", defArgs s_law, defBody s_law, defScope s_law, [], []⟩
def fn : List He.DefD := [d__law_well, d_is_whole, d_is_between, d_is_triplet, d_check_triplet, d_check_two_triplets, d_many_in, d_trimmed, d_normal_of, d_gcd, d_lcm, d_inverse, d_meeting, d_met_in, d_met, d_lies_in, d__law_members, d__law_draw, d__law_pick, d__law_near, d__law_shown, d__law_near_right, d__law_count, d__law_far_trio, d__law_found, d__law_far_right, d_law]
def fa0 : List He.Fa := [.glo "_law_well", .glo "is_whole", .glo "is_between", .glo "is_triplet", .glo "check_triplet", .glo "check_two_triplets", .glo "many_in", .glo "trimmed", .glo "normal_of", .glo "gcd", .glo "lcm", .glo "inverse", .glo "meeting", .glo "met_in", .glo "met", .glo "lies_in", .glo "_law_members", .glo "_law_draw", .glo "_law_pick", .glo "_law_near", .glo "_law_shown", .glo "_law_near_right", .glo "_law_count", .glo "_law_far_trio", .glo "_law_found", .glo "_law_far_right", .glo "law", .free "abs", .free "all", .free "bool"]
def fa1 : List He.Fa := [.free "int", .free "isinstance", .free "len", .free "max", .free "min", .free "range", .free "sorted", .free "tuple", .int "FAR" 1000000000000000000000000000000, .glo "NONE"]
def fa : List He.Fa := fa0 ++ fa1
abbrev Rw : PySem.W.OpenRow := PySem.W.OpenLaw.row PySem.Challenge.rw_sectionwise_k03_whole_elements_that_trip
def exs : List (Str × List PL.D) := [("NONE", [.int 0, .int (-1), .int 1])]
def ex (K : PySem.W.Frag) : Bool := exs.all fun q => He.tupB K q.1 (q.2.map gvD)
abbrev hk : PySem.W.Hook := PL.hookX 4 fa fn ex
def ob (s : PySem.W.SharedT) : He.AlD × Bool := PL.exG 4 fa fn ex (HandSHeadRun.getT s)
theorem ob_eq (s : PySem.W.SharedT) : ob s = hk.obs s.abs := PL.exG_eq (HandSHeadRun.getT_eq s)
def loose0 : List PySem.Str := ["SectionError", "InvalidTriplet", "FAR", "is_whole", "is_between", "gcd", "lcm", "inverse", "meeting", "NONE", "is_triplet", "check_triplet", "check_two_triplets", "many_in", "trimmed", "normal_of", "met_in", "met", "lies_in", "_law_well", "_law_draw", "_law_pick", "_law_members", "_law_near", "_law_shown", "_law_far", "_law_count", "_law_near_right", "_law_far_trio", "_law_found"]
def loose1 : List PySem.Str := ["_law_far_right"]
def loose : List PySem.Str := loose0 ++ loose1
theorem run (w : World) : HandSHeadRun.RunEq Rw (PySem.W.view Rw.prog [35]) hk ob 4000 loose w := by
  intro os
  kernel_rfl
theorem hd_of {K : PySem.W.Frag} {h : Heap} {mg : Str → Option Value} (X : K.In h) (G : h.Ns mainGlobals mg) (c : He.SaysD fa fn K) (cx : ex K = true) : Hd K mg := by
  refine ⟨He.free_ok X G (c.fact 27 (f := .free "abs") rfl), He.free_ok X G (c.fact 28 (f := .free "all") rfl), He.free_ok X G (c.fact 29 (f := .free "bool") rfl), He.free_ok X G (c.fact 30 (f := .free "int") rfl), He.free_ok X G (c.fact 31 (f := .free "isinstance") rfl), He.free_ok X G (c.fact 32 (f := .free "len") rfl), He.free_ok X G (c.fact 33 (f := .free "max") rfl), He.free_ok X G (c.fact 34 (f := .free "min") rfl), He.free_ok X G (c.fact 35 (f := .free "range") rfl), He.free_ok X G (c.fact 36 (f := .free "sorted") rfl), He.free_ok X G (c.fact 37 (f := .free "tuple") rfl), He.int_ok X G (c.fact 38 (f := .int "FAR" 1000000000000000000000000000000) rfl), ⟨He.glo_ok X G (c.fact 39 (f := .glo "NONE") rfl), List.all_eq_true.mp cx ("NONE", [.int 0, .int (-1), .int 1]) (List.mem_of_getElem? (i := 0) rfl), rfl⟩, (let ⟨fd, F⟩ := c.def_ 0 (d := d__law_well) rfl; ⟨_, fd, He.glo_ok X G (c.fact 0 (f := .glo "_law_well") rfl), F⟩), (let ⟨fd, F⟩ := c.def_ 1 (d := d_is_whole) rfl; ⟨_, fd, He.glo_ok X G (c.fact 1 (f := .glo "is_whole") rfl), F⟩), (let ⟨fd, F⟩ := c.def_ 2 (d := d_is_between) rfl; ⟨_, fd, He.glo_ok X G (c.fact 2 (f := .glo "is_between") rfl), F⟩), (let ⟨fd, F⟩ := c.def_ 3 (d := d_is_triplet) rfl; ⟨_, fd, He.glo_ok X G (c.fact 3 (f := .glo "is_triplet") rfl), F⟩), (let ⟨fd, F⟩ := c.def_ 4 (d := d_check_triplet) rfl; ⟨_, fd, He.glo_ok X G (c.fact 4 (f := .glo "check_triplet") rfl), F⟩), (let ⟨fd, F⟩ := c.def_ 5 (d := d_check_two_triplets) rfl; ⟨_, fd, He.glo_ok X G (c.fact 5 (f := .glo "check_two_triplets") rfl), F⟩), (let ⟨fd, F⟩ := c.def_ 6 (d := d_many_in) rfl; ⟨_, fd, He.glo_ok X G (c.fact 6 (f := .glo "many_in") rfl), F⟩), (let ⟨fd, F⟩ := c.def_ 7 (d := d_trimmed) rfl; ⟨_, fd, He.glo_ok X G (c.fact 7 (f := .glo "trimmed") rfl), F⟩), (let ⟨fd, F⟩ := c.def_ 8 (d := d_normal_of) rfl; ⟨_, fd, He.glo_ok X G (c.fact 8 (f := .glo "normal_of") rfl), F⟩), (let ⟨fd, F⟩ := c.def_ 9 (d := d_gcd) rfl; ⟨_, fd, He.glo_ok X G (c.fact 9 (f := .glo "gcd") rfl), F⟩), (let ⟨fd, F⟩ := c.def_ 10 (d := d_lcm) rfl; ⟨_, fd, He.glo_ok X G (c.fact 10 (f := .glo "lcm") rfl), F⟩), (let ⟨fd, F⟩ := c.def_ 11 (d := d_inverse) rfl; ⟨_, fd, He.glo_ok X G (c.fact 11 (f := .glo "inverse") rfl), F⟩), (let ⟨fd, F⟩ := c.def_ 12 (d := d_meeting) rfl; ⟨_, fd, He.glo_ok X G (c.fact 12 (f := .glo "meeting") rfl), F⟩), (let ⟨fd, F⟩ := c.def_ 13 (d := d_met_in) rfl; ⟨_, fd, He.glo_ok X G (c.fact 13 (f := .glo "met_in") rfl), F⟩), (let ⟨fd, F⟩ := c.def_ 14 (d := d_met) rfl; ⟨_, fd, He.glo_ok X G (c.fact 14 (f := .glo "met") rfl), F⟩), (let ⟨fd, F⟩ := c.def_ 15 (d := d_lies_in) rfl; ⟨_, fd, He.glo_ok X G (c.fact 15 (f := .glo "lies_in") rfl), F⟩), (let ⟨fd, F⟩ := c.def_ 16 (d := d__law_members) rfl; ⟨_, fd, He.glo_ok X G (c.fact 16 (f := .glo "_law_members") rfl), F⟩), (let ⟨fd, F⟩ := c.def_ 17 (d := d__law_draw) rfl; ⟨_, fd, He.glo_ok X G (c.fact 17 (f := .glo "_law_draw") rfl), F⟩), (let ⟨fd, F⟩ := c.def_ 18 (d := d__law_pick) rfl; ⟨_, fd, He.glo_ok X G (c.fact 18 (f := .glo "_law_pick") rfl), F⟩), (let ⟨fd, F⟩ := c.def_ 19 (d := d__law_near) rfl; ⟨_, fd, He.glo_ok X G (c.fact 19 (f := .glo "_law_near") rfl), F⟩), (let ⟨fd, F⟩ := c.def_ 20 (d := d__law_shown) rfl; ⟨_, fd, He.glo_ok X G (c.fact 20 (f := .glo "_law_shown") rfl), F⟩), (let ⟨fd, F⟩ := c.def_ 21 (d := d__law_near_right) rfl; ⟨_, fd, He.glo_ok X G (c.fact 21 (f := .glo "_law_near_right") rfl), F⟩), (let ⟨fd, F⟩ := c.def_ 22 (d := d__law_count) rfl; ⟨_, fd, He.glo_ok X G (c.fact 22 (f := .glo "_law_count") rfl), F⟩), (let ⟨fd, F⟩ := c.def_ 23 (d := d__law_far_trio) rfl; ⟨_, fd, He.glo_ok X G (c.fact 23 (f := .glo "_law_far_trio") rfl), F⟩), (let ⟨fd, F⟩ := c.def_ 24 (d := d__law_found) rfl; ⟨_, fd, He.glo_ok X G (c.fact 24 (f := .glo "_law_found") rfl), F⟩), (let ⟨fd, F⟩ := c.def_ 25 (d := d__law_far_right) rfl; ⟨_, fd, He.glo_ok X G (c.fact 25 (f := .glo "_law_far_right") rfl), F⟩), (let ⟨fd, F⟩ := c.def_ 26 (d := d_law) rfl; ⟨_, fd, He.glo_ok X G (c.fact 26 (f := .glo "law") rfl), F⟩)⟩
end G

open PySem PySem.W PySem.Calls PyProof.Rows
set_option maxRecDepth 100000 in
set_option maxHeartbeats 0 in
theorem PySem.Challenge.cw_sectionwise_k03_whole_elements_that_trip_holds : PySem.Challenge.rw_sectionwise_k03_whole_elements_that_trip.Holds := by
  w_on; o_law
  refine HandSHeadRun.head_any (r := OpenLaw.row PySem.Challenge.rw_sectionwise_k03_whole_elements_that_trip) (q := view (OpenLaw.row PySem.Challenge.rw_sectionwise_k03_whole_elements_that_trip).prog [35]) (H := G.hk) (ob := G.ob) (M := 4000) (loose := G.loose) (d := HandSHeadRun.topDef (OpenLaw.row PySem.Challenge.rw_sectionwise_k03_whole_elements_that_trip).prog 35) (kwd := []) G.ob_eq
    (by kernel_rfl) (fun s => by kernel_rfl) G.run (by kernel_rfl) (by kernel_rfl) (by kernel_rfl) (by rfl) (by first | assumption | decide +kernel) (by decide +kernel) ⟨rfl, rfl, rfl, rfl, rfl, by decide +kernel⟩ ?hw ?hc
  case hw => w_witness2
  case hc =>
    refine PL.walk_law (l := PySem.Challenge.rw_sectionwise_k03_whole_elements_that_trip) (n := 63) (k := 8) (x := "_law_script") (F := G.F_law) rfl (by decide) (by kernel_rfl) ⟨rfl, by decide, by decide⟩ ?F G.law_true
    intro w mg h Y G'
    obtain ⟨K, KX, c, cx⟩ := Y
    have hd := G.hd_of KX G' c cx
    obtain ⟨f, fd, hm, F⟩ := hd.f_law
    have b := L2.FunD.bindsA (ps := ["_law_script"]) F fun _ _ _ _ _ _ us hl => match us, hl with | [_], _ => rfl
    refine ⟨K, f, fd, KX, ?_, fun s u => b s [u] rfl, fun base => G.cal_all hd F⟩
    have e : (HandSHeadRun.topDef (OpenLaw.row PySem.Challenge.rw_sectionwise_k03_whole_elements_that_trip).prog 35).name = ("law" : PySem.Str) := by kernel_rfl
    rw [e]
    exact hm

