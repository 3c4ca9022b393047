import PyProof.Rows.All
import Wide.All
import OpenK.AllK
import Wide.FinOn
import HandS.ForMost
import HandS.ForExc
import HandS.Wide
import HandS.IsInst
import HandS.CallSlots
import HandS.TupAny
import HandS.Defaults
import HandS.SortInts
import HandS.Style
import HandS.HeadHook2
import KE.GoesZip
import KE.GoesMore
import KE.GoesEnum
import HandS.Iter
import HandS.Zip
import PyProof.ReprRoads
import HandS.ExcInit
import HandS.ExcField
import HandS.TryOnly
import KE.KExcInit
import HandS.HeadHook1
import HandS.Words
import HandS.SetFor
import HandS.Strs
import KE.KStateDown
import HandS.More
import HandS.Head0
import HandS.Head1
import HandS.Head2
import HandS.HeadEnd
import PySem.Challenge.RW_sectionwise_k14_whole_far_sections_that
set_option Elab.async false
set_option linter.all false
set_option maxRecDepth 100000
set_option maxHeartbeats 4000000
set_option exponentiation.threshold 5000
/-! PL1: the pure layer's core: data, memory, results, relations, judgements. -/
namespace PL
open PySem PySem.Spec PyProof.Rows L2
abbrev St := L2.St

/-! ### data -/
inductive D where
  | non | bl (b : Bool) | int (i : Int) | str (x : Str) | tup (xs : List D) | lst (xs : List D) | fn (x : Str) | ty (n : String) | scr (ns : List Int)
/-- what an expression gives: data, or an own list by its number -/
inductive SV where
  | dat (d : D) | ref (n : Nat)
inductive Cell where
  | lst (xs : List D) | dead
abbrev Mem := List Cell
abbrev En := List (Option SV)
structure Exc where
  cls : Str
  fs : List (Str × D)
inductive R (α : Type) where
  | ok (a : α) (m : Mem) | exc (x : Exc) (m : Mem) | stuck
abbrev P (α : Type) := Mem → R α
def P.ret {α : Type} (a : α) : P α := fun m => .ok a m
def P.stk {α : Type} : P α := fun _ => .stuck
def R.bnd {α β : Type} (r : R α) (f : α → Mem → R β) : R β := match r with
  | .ok a m => f a m
  | .exc e m => .exc e m
  | .stuck => .stuck
def P.bnd {α β : Type} (x : P α) (f : α → P β) : P β := fun m => (x m).bnd f
def wpr {α : Type} (r : R α) (Q : α → Mem → Prop) (E : Exc → Mem → Prop) : Prop := match r with
  | .ok a m => Q a m
  | .exc x m => E x m
  | .stuck => False
theorem wpr_bnd {α β : Type} {x : P α} {f : α → P β} {m : Mem} {Q : β → Mem → Prop} {E : Exc → Mem → Prop} (h : wpr (P.bnd x f m) Q E) : wpr (x m) (fun a m' => wpr (f a m') Q E) E := by
  unfold P.bnd R.bnd at h
  cases e : x m with
  | ok a m' => rw [e] at h; exact h
  | exc y m' => rw [e] at h; exact h
  | stuck => rw [e] at h; exact h
theorem wpr_mono {α : Type} {r : R α} {Q Q' : α → Mem → Prop} {E E' : Exc → Mem → Prop} (h : wpr r Q E) (hQ : ∀ a m, Q a m → Q' a m) (hE : ∀ x m, E x m → E' x m) : wpr r Q' E' := by
  cases r with
  | ok a m => exact hQ a m h
  | exc x m => exact hE x m h
  | stuck => exact h
theorem wpr_monoQ {α : Type} {r : R α} {Q Q' : α → Mem → Prop} {E : Exc → Mem → Prop} (h : wpr r Q E) (hQ : ∀ a m, Q a m → Q' a m) : wpr r Q' E := wpr_mono h hQ fun _ _ x => x

/-! ### relations -/
structure Gd where
  K : PySem.W.Frag
  mg : Str → Option Value
abbrev gd (X : Cx) : Gd := ⟨X.K, X.mg⟩
mutual
inductive Rp (Γ : Gd) (S : Hp) : V → D → Prop
  | non : Rp Γ S .non .non
  | bl (b : Bool) : Rp Γ S (.bl b) (.bl b)
  | int (i : Int) : Rp Γ S (.int i) (.int i)
  | str (x : Str) : Rp Γ S (.str x) (.str x)
  | ty (n : String) : Rp Γ S (.ty n) (.ty n)
  | lst {a : Addr} {vs : List V} {ds : List D} : S a = some (.lst vs) → RpAll Γ S vs ds → Rp Γ S (.ref a) (.lst ds)
  | scr {a : Addr} {ns : List Int} : SqL Γ.K S a (ns.map V.int) → Rp Γ S (.ref a) (.scr ns)
  | tup {a : Addr} {vs : List V} {ds : List D} : SqT Γ.K S a vs → RpAll Γ S vs ds → Rp Γ S (.ref a) (.tup ds)
  | fn {x : Str} {a : Addr} : Γ.mg x = some (.ref a) → Rp Γ S (.ref a) (.fn x)
inductive RpAll (Γ : Gd) (S : Hp) : List V → List D → Prop
  | nil : RpAll Γ S [] []
  | cons {v : V} {vs : List V} {d : D} {ds : List D} : Rp Γ S v d → RpAll Γ S vs ds → RpAll Γ S (v :: vs) (d :: ds)
end
theorem Same.seqT {K : PySem.W.Frag} {H H' : Hp} {a : Addr} {xs : List V} (e : Same H H') (h : SqT K H a xs) : SqT K H' a xs := by
  rcases h with (h | ⟨o, h⟩) | h
  · exact .inl (.inl (e _ _ h))
  · exact .inl (.inr ⟨o, e _ _ h⟩)
  · exact .inr h
mutual
theorem Rp.mono {Γ : Gd} {S S' : Hp} (e : Same S S') : ∀ {v : V} {d : D}, Rp Γ S v d → Rp Γ S' v d
  | _, _, .non => .non
  | _, _, .bl b => .bl b
  | _, _, .int i => .int i
  | _, _, .str x => .str x
  | _, _, .ty n => .ty n
  | _, _, .lst h r => .lst (e _ _ h) (RpAll.mono e r)
  | _, _, .scr h => .scr (e.seq h)
  | _, _, .tup h r => .tup (Same.seqT e h) (RpAll.mono e r)
  | _, _, .fn h => .fn h
theorem RpAll.mono {Γ : Gd} {S S' : Hp} (e : Same S S') : ∀ {vs : List V} {ds : List D}, RpAll Γ S vs ds → RpAll Γ S' vs ds
  | _, _, .nil => .nil
  | _, _, .cons h r => .cons (Rp.mono e h) (RpAll.mono e r)
end
theorem RpAll.length {Γ : Gd} {S : Hp} : ∀ {vs : List V} {ds : List D}, RpAll Γ S vs ds → vs.length = ds.length
  | _, _, .nil => rfl
  | _, _, .cons _ r => by rw [List.length_cons, List.length_cons, RpAll.length r]
theorem RpAll.get {Γ : Gd} {S : Hp} : ∀ {vs : List V} {ds : List D} {i : Nat} {d : D}, RpAll Γ S vs ds → ds[i]? = some d → ∃ v, vs[i]? = some v ∧ Rp Γ S v d
  | _, _, _, _, .nil, e => by simp at e
  | _, _, 0, _, .cons h _, e => by simp at e; subst e; exact ⟨_, rfl, h⟩
  | _, _, i + 1, d, .cons _ r, e => by
    obtain ⟨v, h1, h2⟩ := RpAll.get (i := i) (d := d) r (by simpa using e)
    exact ⟨v, by simpa using h1, h2⟩
theorem RpAll.get' {Γ : Gd} {S : Hp} : ∀ {vs : List V} {ds : List D} {i : Nat} {v : V}, RpAll Γ S vs ds → vs[i]? = some v → ∃ d, ds[i]? = some d ∧ Rp Γ S v d
  | _, _, _, _, .nil, e => by simp at e
  | _, _, 0, _, .cons h _, e => by simp at e; subst e; exact ⟨_, rfl, h⟩
  | _, _, i + 1, d, .cons _ r, e => by
    obtain ⟨v, h1, h2⟩ := RpAll.get' (i := i) (v := d) r (by simpa using e)
    exact ⟨v, by simpa using h1, h2⟩
theorem RpAll.append {Γ : Gd} {S : Hp} : ∀ {vs ws : List V} {ds es : List D}, RpAll Γ S vs ds → RpAll Γ S ws es → RpAll Γ S (vs ++ ws) (ds ++ es)
  | _, _, _, _, .nil, s => s
  | _, _, _, _, .cons h r, s => .cons h (RpAll.append r s)
theorem RpAll.take {Γ : Gd} {S : Hp} : ∀ {vs : List V} {ds : List D} (n : Nat), RpAll Γ S vs ds → RpAll Γ S (vs.take n) (ds.take n)
  | _, _, 0, _ => .nil
  | _, _, _ + 1, .nil => .nil
  | _, _, n + 1, .cons h r => .cons h (RpAll.take n r)
theorem RpAll.drop {Γ : Gd} {S : Hp} : ∀ {vs : List V} {ds : List D} (n : Nat), RpAll Γ S vs ds → RpAll Γ S (vs.drop n) (ds.drop n)
  | _, _, 0, r => r
  | _, _, _ + 1, .nil => .nil
  | _, _, n + 1, .cons _ r => RpAll.drop n r
theorem RpAll.set {Γ : Gd} {S : Hp} {v : V} {d : D} (h : Rp Γ S v d) : ∀ {vs : List V} {ds : List D} (i : Nat), RpAll Γ S vs ds → RpAll Γ S (vs.set i v) (ds.set i d)
  | _, _, _, .nil => .nil
  | _, _, 0, .cons _ r => .cons h r
  | _, _, i + 1, .cons q r => .cons q (RpAll.set h i r)

def RSV (Γ : Gd) (S : Hp) (ρ : List Addr) (v : V) : SV → Prop
  | .dat d => Rp Γ S v d
  | .ref n => ∃ a, ρ[n]? = some a ∧ v = .ref a
/-- later -/
structure Ext (S : Hp) (ρ : List Addr) (S' : Hp) (ρ' : List Addr) : Prop where
  s : Same S S'
  r : ∀ (i : Nat) (a : Addr), ρ[i]? = some a → ρ'[i]? = some a
theorem Ext.refl (S : Hp) (ρ : List Addr) : Ext S ρ S ρ := ⟨Same.refl S, fun _ _ h => h⟩
theorem Ext.trans {S S1 S2 : Hp} {ρ ρ1 ρ2 : List Addr} (a : Ext S ρ S1 ρ1) (b : Ext S1 ρ1 S2 ρ2) : Ext S ρ S2 ρ2 := ⟨a.s.trans b.s, fun i x h => b.r i x (a.r i x h)⟩
theorem RSV.mono {Γ : Gd} {S S' : Hp} {ρ ρ' : List Addr} (e : Ext S ρ S' ρ') {v : V} {x : SV} (h : RSV Γ S ρ v x) : RSV Γ S' ρ' v x := by
  cases x with
  | dat d => exact Rp.mono e.s h
  | ref n => obtain ⟨a, h1, h2⟩ := h; exact ⟨a, e.r n a h1, h2⟩

/-- the memory: S what is frozen, G what is guarded, H the heap -/
structure MR (Γ : Gd) (G S H : Hp) (ρ : List Addr) (m : Mem) : Prop where
  sub : Same S H
  gsub : Same G H
  dis : ∀ a o, G a = some o → S a = none
  len : ρ.length = m.length
  cell : ∀ (i : Nat) (xs : List D), m[i]? = some (.lst xs) → ∃ a vs, ρ[i]? = some a ∧ H a = some (.lst vs) ∧ RpAll Γ S vs xs ∧ S a = none ∧ G a = none
  inj : ∀ (i j : Nat) (xs ys : List D) (a : Addr), m[i]? = some (.lst xs) → m[j]? = some (.lst ys) → ρ[i]? = some a → ρ[j]? = some a → i = j
structure ER (Γ : Gd) (S : Hp) (ρ : List Addr) (env : En) (σ : St) : Prop where
  len : env.length = σ.length
  at_ : ∀ (i : Nat) (v : SV), env[i]? = some (some v) → ∃ vv, σ[i]? = some (some vv) ∧ RSV Γ S ρ vv v
theorem ER.mono {Γ : Gd} {S S' : Hp} {ρ ρ' : List Addr} {env : En} {σ : St} (e : Ext S ρ S' ρ') (h : ER Γ S ρ env σ) : ER Γ S' ρ' env σ :=
  ⟨h.len, fun i v q => let ⟨vv, a, b⟩ := h.at_ i v q; ⟨vv, a, b.mono e⟩⟩
theorem ER.set {Γ : Gd} {S : Hp} {ρ : List Addr} {env : En} {σ : St} (h : ER Γ S ρ env σ) (i : Nat) {v : SV} {vv : V} (r : RSV Γ S ρ vv v) : ER Γ S ρ (env.set i (some v)) (σ.set i (some vv)) := by
  refine ⟨by rw [List.length_set, List.length_set]; exact h.len, fun j x q => ?_⟩
  by_cases e : i = j
  · subst e
    by_cases hl : i < env.length
    · rw [List.getElem?_set_self hl] at q
      cases q
      exact ⟨vv, List.getElem?_set_self (by rw [← h.len]; exact hl), r⟩
    · rw [List.getElem?_eq_none (by rw [List.length_set]; omega)] at q
      cases q
  · rw [List.getElem?_set_ne e] at q
    obtain ⟨w, a, b⟩ := h.at_ j x q
    exact ⟨w, by rw [List.getElem?_set_ne e]; exact a, b⟩
theorem ER.clear {Γ : Gd} {S : Hp} {ρ : List Addr} {env : En} {σ : St} (h : ER Γ S ρ env σ) (i : Nat) : ER Γ S ρ (env.set i none) (σ.set i none) := by
  refine ⟨by rw [List.length_set, List.length_set]; exact h.len, fun j x q => ?_⟩
  by_cases e : i = j
  · subst e
    by_cases hl : i < env.length
    · rw [List.getElem?_set_self hl] at q
      cases q
    · rw [List.getElem?_eq_none (by rw [List.length_set]; omega)] at q
      cases q
  · rw [List.getElem?_set_ne e] at q
    obtain ⟨w, a, b⟩ := h.at_ j x q
    exact ⟨w, by rw [List.getElem?_set_ne e]; exact a, b⟩

section
variable {Γ : Gd} {G S H : Hp} {ρ : List Addr} {m : Mem} {p : Addr}
/-- a new thing, frozen -/
theorem MR.grow (M : MR Γ G S H ρ m) (hp : H p = none) (o : HO) : Same S (upd S p o) ∧ MR Γ G (upd S p o) (upd H p o) ρ m := by
  have sp : S p = none := M.sub.free hp
  have gp : G p = none := M.gsub.free hp
  have s1 : Same S (upd S p o) := fun b x q => by rw [upd_ne (ne_of_none q sp)]; exact q
  refine ⟨s1, ⟨fun b x q => ?_, fun b x q => ?_, fun b x q => ?_, M.len, fun i xs q => ?_, M.inj⟩⟩
  · by_cases e : b = p
    · subst e; rw [upd_same] at q ⊢; exact q
    · rw [upd_ne e] at q ⊢; exact M.sub b x q
  · rw [upd_ne (ne_of_none q gp)]; exact M.gsub b x q
  · rw [upd_ne (ne_of_none q gp)]; exact M.dis b x q
  · obtain ⟨a, vs, h1, h2, h3, h4, h5⟩ := M.cell i xs q
    have ne : a ≠ p := ne_of_none h2 hp
    exact ⟨a, vs, h1, by rw [upd_ne ne]; exact h2, h3.mono s1, by rw [upd_ne ne]; exact h4, h5⟩
/-- a new own list -/
theorem MR.alloc (M : MR Γ G S H ρ m) (hp : H p = none) {vs : List V} {xs : List D} (r : RpAll Γ S vs xs) :
    Ext S ρ S (ρ ++ [p]) ∧ MR Γ G S (upd H p (.lst vs)) (ρ ++ [p]) (m ++ [.lst xs]) := by
  have sp : S p = none := M.sub.free hp
  have gp : G p = none := M.gsub.free hp
  have pre : ∀ (i : Nat) (a : Addr), ρ[i]? = some a → (ρ ++ [p])[i]? = some a := fun i a q => by
    rw [List.getElem?_append_left (List.getElem?_eq_some_iff.mp q).1]; exact q
  have at_ : ∀ (i : Nat) (xs' : List D), (m ++ [Cell.lst xs])[i]? = some (.lst xs') → (m[i]? = some (.lst xs') ∧ i < m.length) ∨ (i = m.length ∧ xs' = xs) := fun i xs' q => by
    by_cases hi : i < m.length
    · rw [List.getElem?_append_left hi] at q; exact .inl ⟨q, hi⟩
    · rw [List.getElem?_append_right (by omega)] at q
      have h0 : i - m.length = 0 := by
        have := (List.getElem?_eq_some_iff.mp q).1
        simp at this
        omega
      rw [h0] at q
      simp at q
      exact .inr ⟨by omega, q.symm⟩
  refine ⟨⟨Same.refl S, pre⟩, ⟨fun b x q => ?_, fun b x q => ?_, M.dis, by rw [List.length_append, List.length_append, M.len]; rfl, fun i xs' q => ?_, fun i j xs' ys' a q1 q2 q3 q4 => ?_⟩⟩
  · rw [upd_ne (ne_of_none q sp)]; exact M.sub b x q
  · rw [upd_ne (ne_of_none q gp)]; exact M.gsub b x q
  · rcases at_ i xs' q with ⟨q1, _⟩ | ⟨q1, q2⟩
    · obtain ⟨a, vs', h1, h2, h3, h4, h5⟩ := M.cell i xs' q1
      exact ⟨a, vs', pre i a h1, by rw [upd_ne (ne_of_none h2 hp)]; exact h2, h3, h4, h5⟩
    · subst q1 q2
      exact ⟨p, vs, by rw [← M.len]; simp, upd_same, r, sp, gp⟩
  · have key : ∀ (i : Nat) (xs' : List D) (a : Addr), (m ++ [Cell.lst xs])[i]? = some (.lst xs') → (ρ ++ [p])[i]? = some a → (m[i]? = some (.lst xs') ∧ ρ[i]? = some a ∧ a ≠ p) ∨ (i = m.length ∧ a = p) := fun i xs' a q r => by
      rcases at_ i xs' q with ⟨q1, q2⟩ | ⟨q1, q2⟩
      · obtain ⟨a', vs', h1, h2, _⟩ := M.cell i xs' q1
        have e := pre i a' h1
        rw [r] at e
        cases e
        exact .inl ⟨q1, h1, ne_of_none h2 hp⟩
      · subst q1
        rw [← M.len] at r
        simp at r
        exact .inr ⟨rfl, r.symm⟩
    rcases key i xs' a q1 q3 with ⟨b1, b2, b3⟩ | ⟨b1, b2⟩
    · rcases key j ys' a q2 q4 with ⟨c1, c2, c3⟩ | ⟨c1, c2⟩
      · exact M.inj i j xs' ys' a b1 c1 b2 c2
      · exact absurd c2 b3
    · rcases key j ys' a q2 q4 with ⟨c1, c2, c3⟩ | ⟨c1, c2⟩
      · exact absurd b2 c3
      · rw [b1, c1]
/-- an own list written -/
theorem MR.write (M : MR Γ G S H ρ m) {i : Nat} {xs ys : List D} {a : Addr} {ws : List V} (hm : m[i]? = some (.lst xs)) (ha : ρ[i]? = some a) (r : RpAll Γ S ws ys) :
    MR Γ G S (upd H a (.lst ws)) ρ (m.set i (.lst ys)) := by
  have hi : i < m.length := (List.getElem?_eq_some_iff.mp hm).1
  obtain ⟨a', vs, h1, h2, h3, h4, h5⟩ := M.cell i xs hm
  rw [ha] at h1
  cases h1
  have at_ : ∀ (j : Nat) (zs : List D), (m.set i (Cell.lst ys))[j]? = some (.lst zs) → (j = i ∧ zs = ys) ∨ (j ≠ i ∧ m[j]? = some (.lst zs)) := fun j zs q => by
    by_cases e : i = j
    · subst e
      rw [List.getElem?_set_self hi] at q
      cases q
      exact .inl ⟨rfl, rfl⟩
    · rw [List.getElem?_set_ne e] at q
      exact .inr ⟨Ne.symm e, q⟩
  have live : ∀ (j : Nat) (zs : List D), (m.set i (Cell.lst ys))[j]? = some (.lst zs) → ∃ zs', m[j]? = some (.lst zs') := fun j zs q => by
    rcases at_ j zs q with ⟨rfl, _⟩ | ⟨_, q⟩
    · exact ⟨_, hm⟩
    · exact ⟨_, q⟩
  refine ⟨fun b x q => ?_, fun b x q => ?_, M.dis, by rw [List.length_set]; exact M.len, fun j zs q => ?_, fun j k zs ws' b q1 q2 q3 q4 => ?_⟩
  · rw [upd_ne (ne_of_none q h4)]; exact M.sub b x q
  · rw [upd_ne (ne_of_none q h5)]; exact M.gsub b x q
  · rcases at_ j zs q with ⟨rfl, rfl⟩ | ⟨e, q⟩
    · exact ⟨a, ws, ha, upd_same, r, h4, h5⟩
    · obtain ⟨b, us, g1, g2, g3, g4, g5⟩ := M.cell j zs q
      refine ⟨b, us, g1, ?_, g3, g4, g5⟩
      rw [upd_ne (fun z => e (M.inj j i zs xs a q hm (by rw [← z]; exact g1) ha))]
      exact g2
  · obtain ⟨z1, l1⟩ := live j zs q1
    obtain ⟨z2, l2⟩ := live k ws' q2
    exact M.inj j k z1 z2 b l1 l2 q3 q4
/-- an own list frozen -/
theorem MR.freeze (M : MR Γ G S H ρ m) {i : Nat} {xs : List D} (hm : m[i]? = some (.lst xs)) :
    ∃ a vs, ρ[i]? = some a ∧ Ext S ρ (upd S a (.lst vs)) ρ ∧ MR Γ G (upd S a (.lst vs)) H ρ (m.set i .dead) ∧ Rp Γ (upd S a (.lst vs)) (.ref a) (.lst xs) := by
  have hi : i < m.length := (List.getElem?_eq_some_iff.mp hm).1
  obtain ⟨a, vs, h1, h2, h3, h4, h5⟩ := M.cell i xs hm
  have s1 : Same S (upd S a (.lst vs)) := fun b x q => by rw [upd_ne (ne_of_none q h4)]; exact q
  have at_ : ∀ (j : Nat) (zs : List D), (m.set i Cell.dead)[j]? = some (.lst zs) → j ≠ i ∧ m[j]? = some (.lst zs) := fun j zs q => by
    by_cases e : i = j
    · subst e
      rw [List.getElem?_set_self hi] at q
      cases q
    · rw [List.getElem?_set_ne e] at q
      exact ⟨Ne.symm e, q⟩
  refine ⟨a, vs, h1, ⟨s1, fun _ _ q => q⟩, ⟨fun b x q => ?_, M.gsub, fun b x q => ?_, by rw [List.length_set]; exact M.len, fun j zs q => ?_, fun j k zs ws b q1 q2 q3 q4 => ?_⟩, .lst upd_same (h3.mono s1)⟩
  · by_cases e : b = a
    · subst e; rw [upd_same] at q; cases q; exact h2
    · rw [upd_ne e] at q; exact M.sub b x q
  · have ne : b ≠ a := fun z => by subst z; rw [q] at h5; cases h5
    rw [upd_ne ne]; exact M.dis b x q
  · obtain ⟨e, q⟩ := at_ j zs q
    obtain ⟨b, us, g1, g2, g3, g4, g5⟩ := M.cell j zs q
    refine ⟨b, us, g1, g2, g3.mono s1, ?_, g5⟩
    rw [upd_ne (fun z => e (M.inj j i zs xs a q hm (by rw [← z]; exact g1) h1))]
    exact g4
  · exact M.inj j k zs ws b (at_ j zs q1).2 (at_ k ws q2).2 q3 q4
/-- the last own lists forgotten -/
theorem MR.take (M : MR Γ G S H ρ m) (n : Nat) : MR Γ G S H (ρ.take n) (m.take n) := by
  have at_ : ∀ (j : Nat) (c : Cell), (m.take n)[j]? = some c → j < n ∧ m[j]? = some c := fun j c q => by
    have h := (List.getElem?_eq_some_iff.mp q).1
    rw [List.length_take] at h
    have hn : j < n := by omega
    rw [List.getElem?_take_of_lt hn] at q
    exact ⟨hn, q⟩
  refine ⟨M.sub, M.gsub, M.dis, by rw [List.length_take, List.length_take, M.len], fun i xs q => ?_, fun i j xs ys a q1 q2 q3 q4 => ?_⟩
  · obtain ⟨hn, q⟩ := at_ i _ q
    obtain ⟨a, vs, h1, h2⟩ := M.cell i xs q
    exact ⟨a, vs, by rw [List.getElem?_take_of_lt hn]; exact h1, h2⟩
  · obtain ⟨hi, q1⟩ := at_ i _ q1
    obtain ⟨hj, q2⟩ := at_ j _ q2
    rw [List.getElem?_take_of_lt hi] at q3
    rw [List.getElem?_take_of_lt hj] at q4
    exact M.inj i j xs ys a q1 q2 q3 q4
/-- one thing more is guarded -/
theorem MR.guard (M : MR Γ G S H ρ m) {o : HO} (hp : H p = some o) (hs : S p = none) (hc : ∀ (i : Nat) (xs : List D), m[i]? = some (.lst xs) → ρ[i]? ≠ some p) : MR Γ (upd G p o) S H ρ m := by
  refine ⟨M.sub, fun b x q => ?_, fun b x q => ?_, M.len, fun i xs q => ?_, M.inj⟩
  · by_cases e : b = p
    · subst e; rw [upd_same] at q; cases q; exact hp
    · rw [upd_ne e] at q; exact M.gsub b x q
  · by_cases e : b = p
    · subst e; exact hs
    · rw [upd_ne e] at q; exact M.dis b x q
  · obtain ⟨a, vs, h1, h2, h3, h4, h5⟩ := M.cell i xs q
    refine ⟨a, vs, h1, h2, h3, h4, ?_⟩
    rw [upd_ne (fun z => hc i xs q (by rw [← z]; exact h1))]
    exact h5
/-- what was guarded is written, and guarded no more -/
theorem MR.unguard {G' : Hp} {o : HO} (M : MR Γ (upd G p o) S H ρ m) (hg : G p = none) (u : HO) : MR Γ G S (upd H p u) ρ m ∧ S p = none ∧ (∀ (i : Nat) (xs : List D), m[i]? = some (.lst xs) → ρ[i]? ≠ some p) := by
  have hs : S p = none := M.dis p o upd_same
  have hc : ∀ (i : Nat) (xs : List D), m[i]? = some (.lst xs) → ρ[i]? ≠ some p := fun i xs q z => by
    obtain ⟨a, vs, h1, _, _, _, h5⟩ := M.cell i xs q
    rw [z] at h1
    cases h1
    rw [upd_same] at h5
    cases h5
  refine ⟨⟨fun b x q => ?_, fun b x q => ?_, fun b x q => ?_, M.len, fun i xs q => ?_, M.inj⟩, hs, hc⟩
  · rw [upd_ne (ne_of_none q hs)]; exact M.sub b x q
  · rw [upd_ne (ne_of_none q hg)]; exact M.gsub b x (by rw [upd_ne (ne_of_none q hg)]; exact q)
  · exact M.dis b x (by rw [upd_ne (ne_of_none q hg)]; exact q)
  · obtain ⟨a, vs, h1, h2, h3, h4, h5⟩ := M.cell i xs q
    have ne : a ≠ p := fun z => hc i xs q (by rw [← z]; exact h1)
    exact ⟨a, vs, h1, by rw [upd_ne ne]; exact h2, h3, h4, by rw [upd_ne ne] at h5; exact h5⟩
end

/-! ### judgements -/
def WE (X : Cx) (e : Expr) (σ : St) (H : Hp) (Q : VK) : Prop :=
  ∀ (pins : List (Addr × Obj)) (s : Shared), Inv X pins σ H s → wpAny (model X.prog X.w) X.A (eval e X.env) (EP X pins σ Q) X.xe s
theorem pe_we {X : Cx} {e : Expr} : PE X e (WE X e) := ⟨fun pins s _ _ _ I h => h pins s I⟩
theorem we_of {X : Cx} {e : Expr} {t : TE} {σ : St} {H : Hp} {Q : VK} (h : PE X e t) (q : t σ H Q) : WE X e σ H Q := fun pins s I => h.run pins s σ H Q I q
def WT (X : Cx) (e : Expr) (σ : St) (H : Hp) (Q : Bool → Hp → Prop) : Prop :=
  ∀ (pins : List (Addr × Obj)) (s : Shared), Inv X pins σ H s → wpAny (model X.prog X.w) X.A (isTrue e X.env (eval e X.env)) (TP X pins σ Q) X.xe s
theorem pt_wt {X : Cx} {e : Expr} : PT X e (WT X e) := ⟨fun pins s _ _ _ I h => h pins s I⟩
theorem wt_of {X : Cx} {e : Expr} {t : TT} {σ : St} {H : Hp} {Q : Bool → Hp → Prop} (h : PT X e t) (q : t σ H Q) : WT X e σ H Q := fun pins s I => h.run pins s σ H Q I q
def WA (X : Cx) (es : List Expr) (σ : St) (H : Hp) (Q : List V → Hp → Prop) : Prop :=
  ∀ (pos : Pos) (pins : List (Addr × Obj)) (s : Shared), Inv X pins σ H s → wpAny (model X.prog X.w) X.A (spliced (backTo pos (starEach es X.env))) (AP X pins σ Q) X.xe s
theorem pa_wa {X : Cx} {es : List Expr} : PA X es (WA X es) := ⟨fun pos pins s _ _ _ I h => h pos pins s I⟩
theorem wa_of {X : Cx} {es : List Expr} {t : TA} {σ : St} {H : Hp} {Q : List V → Hp → Prop} (h : PA X es t) (q : t σ H Q) : WA X es σ H Q := fun pos pins s I => h.run pos pins s σ H Q I q
def WS (X : Cx) (st : Stmt) (D : Ends) (σ : St) (H : Hp) : Prop :=
  ∀ (pins : List (Addr × Obj)) (s : Shared), Inv X pins σ H s → wpAny (model X.prog X.w) X.A (exec st X.env) (SP X pins D) X.xe s
theorem ps_ws {X : Cx} {st : Stmt} : PS X st (WS X st) := ⟨fun pins s _ _ _ I h => h pins s I⟩
theorem ws_of {X : Cx} {st : Stmt} {t : TS} {σ : St} {H : Hp} {D : Ends} (h : PS X st t) (q : t D σ H) : WS X st D σ H := fun pins s I => h.run pins s σ H D I q
def WSs (X : Cx) (st : List Stmt) (D : Ends) (σ : St) (H : Hp) : Prop :=
  ∀ (pins : List (Addr × Obj)) (s : Shared), Inv X pins σ H s → wpAny (model X.prog X.w) X.A (execs st X.env) (SP X pins D) X.xe s
theorem pss_wss {X : Cx} {st : List Stmt} : PSs X st (WSs X st) := ⟨fun pins s _ _ _ I h => h pins s I⟩
theorem wss_of {X : Cx} {st : List Stmt} {t : TS} {σ : St} {H : Hp} {D : Ends} (h : PSs X st t) (q : t D σ H) : WSs X st D σ H := fun pins s I => h.run pins s σ H D I q
def WG (X : Cx) (tg : Expr) (v : V) (σ : St) (H : Hp) (Q : St → Hp → Prop) : Prop :=
  ∀ (pins : List (Addr × Obj)) (s : Shared) (u : Value), Inv X pins σ H s → RelV v u → wpAny (model X.prog X.w) X.A (assign tg X.env u) (fun _ s' => ∃ σ' H', Inv X pins σ' H' s' ∧ Q σ' H') X.xe s
theorem pg_wg {X : Cx} {tg : Expr} : PG X tg (WG X tg) := ⟨fun pins s _ _ _ u _ I r h => h pins s u I r⟩
theorem wg_of {X : Cx} {tg : Expr} {t : TG} {v : V} {σ : St} {H : Hp} {Q : St → Hp → Prop} (h : PG X tg t) (q : t v σ H Q) : WG X tg v σ H Q := fun pins s u I r => h.run pins s σ H v u Q I r q
def WI (X : Cx) (tg iter : Expr) (σ : St) (H : Hp) (Rr : It → Hp → Prop) : Prop :=
  ∀ (pins : List (Addr × Obj)) (s : Shared), Inv X pins σ H s → wpAny (model X.prog X.w) X.A (eval iter X.env) (fun v s1 => wpAny (model X.prog X.w) X.A (pyIter v) (PIE X pins σ tg Rr) X.xe s1) X.xe s
theorem pi_wi {X : Cx} {tg iter : Expr} : PI X tg iter (WI X tg iter) := ⟨fun pins s _ _ _ I h => h pins s I⟩
theorem wi_of {X : Cx} {tg iter : Expr} {t : TI} {σ : St} {H : Hp} {Rr : It → Hp → Prop} (h : PI X tg iter t) (q : t σ H Rr) : WI X tg iter σ H Rr := fun pins s I => h.run pins s σ H Rr I q
/-- a two-place operation at two values -/
def WO (X : Cx) (f : Value → Value → Sem Value) (x y : V) (σ : St) (H : Hp) (Q : VK) : Prop :=
  ∀ (pins : List (Addr × Obj)) (s : Shared) (v u : Value), Inv X pins σ H s → RelV x v → RelV y u → wpAny (model X.prog X.w) X.A (f v u) (EP X pins σ Q) X.xe s
theorem wo_of {X : Cx} {f : Value → Value → Sem Value} {r : R2} (h : OpR X f r) {x y : V} {σ : St} {H : Hp} {Q : VK} (q : r x y H Q) : WO X f x y σ H Q := fun pins s v u I rx ry => h pins s σ H x y v u Q I rx ry q
/-- a call of a known value -/
def WC (X : Cx) (f : Value) (xs : List V) (σ : St) (H : Hp) (Q : VK) : Prop :=
  ∀ (pins : List (Addr × Obj)) (s : Shared) (us : List Value), Inv X pins σ H s → Vals xs us → wpAny (model X.prog X.w) X.A (call f us) (EP X pins σ Q) X.xe s
theorem wc_of {X : Cx} {f : Value} {r : List V → Hp → VK → Prop} (h : CallR X f r) {xs : List V} {σ : St} {H : Hp} {Q : VK} (q : r xs H Q) : WC X f xs σ H Q := fun pins s us I rx => h pins s σ H xs us Q I rx q

/-- how an exception lies -/
def XR (Γ : Gd) (S H : Hp) (cls : Value) (d : Option Addr) (x : Exc) : Prop :=
  ∃ (C dd : Addr) (fs : List (Str × V)), Γ.mg x.cls = some (.ref C) ∧ cls = .ref C ∧ d = some dd ∧ H dd = some (.xd fs) ∧ fs.map (·.1) = x.fs.map (·.1) ∧ RpAll Γ S (fs.map (·.2)) (x.fs.map (·.2))

section
variable (X : Cx) (W : WX)
/-- what is wanted behind: of a value -/
def QV (G S : Hp) (ρ : List Addr) (Q : VK) : SV → Mem → Prop := fun v m' => ∀ S' H' ρ' vv, Ext S ρ S' ρ' → MR (gd X) G S' H' ρ' m' → RSV (gd X) S' ρ' vv v → Q vv H'
def QX (G S : Hp) (ρ : List Addr) (σ : St) : Exc → Mem → Prop := fun x m' => ∀ S' H' ρ' cls d, Ext S ρ S' ρ' → MR (gd X) G S' H' ρ' m' → XR (gd X) S' H' cls d x → W cls d σ H'
def QA (G S : Hp) (ρ : List Addr) (Q : List V → Hp → Prop) : List SV → Mem → Prop := fun v m' => ∀ S' H' ρ' vv, Ext S ρ S' ρ' → MR (gd X) G S' H' ρ' m' → Paired (RSV (gd X) S' ρ') vv v → Q vv H'
def QB (G S : Hp) (ρ : List Addr) (Q : Bool → Hp → Prop) : Bool → Mem → Prop := fun b m' => ∀ S' H' ρ', Ext S ρ S' ρ' → MR (gd X) G S' H' ρ' m' → Q b H'
structure JE (e : Expr) (f : En → P SV) : Prop where
  run : ∀ {G S H : Hp} {ρ : List Addr} {m : Mem} {env : En} {σ : St} {Q : VK}, MR (gd X) G S H ρ m → ER (gd X) S ρ env σ → wpr (f env m) (QV X G S ρ Q) (QX X W G S ρ σ) → WE X e σ H Q
structure JT (e : Expr) (f : En → P Bool) : Prop where
  run : ∀ {G S H : Hp} {ρ : List Addr} {m : Mem} {env : En} {σ : St} {Q : Bool → Hp → Prop}, MR (gd X) G S H ρ m → ER (gd X) S ρ env σ → wpr (f env m) (QB X G S ρ Q) (QX X W G S ρ σ) → WT X e σ H Q
structure JA (es : List Expr) (f : En → P (List SV)) : Prop where
  run : ∀ {G S H : Hp} {ρ : List Addr} {m : Mem} {env : En} {σ : St} {Q : List V → Hp → Prop}, MR (gd X) G S H ρ m → ER (gd X) S ρ env σ → wpr (f env m) (QA X G S ρ Q) (QX X W G S ρ σ) → WA X es σ H Q
/-- an operation at two values -/
structure JO (f : Value → Value → Sem Value) (g : SV → SV → P SV) : Prop where
  run : ∀ {G S H : Hp} {ρ : List Addr} {m : Mem} {σ : St} {x y : SV} {xv yv : V} {Q : VK}, MR (gd X) G S H ρ m → RSV (gd X) S ρ xv x → RSV (gd X) S ρ yv y → wpr (g x y m) (QV X G S ρ Q) (QX X W G S ρ σ) → WO X f xv yv σ H Q
/-- a call of a known value -/
structure JC (f : Value) (g : List SV → P SV) : Prop where
  run : ∀ {G S H : Hp} {ρ : List Addr} {m : Mem} {σ : St} {xs : List SV} {xvs : List V} {Q : VK}, MR (gd X) G S H ρ m → Paired (RSV (gd X) S ρ) xvs xs → wpr (g xs m) (QV X G S ρ Q) (QX X W G S ρ σ) → WC X f xvs σ H Q
end

inductive Out where
  | nx (env : En) | rt (v : SV) | bk (env : En) | ct (env : En)
abbrev DS := En → P Out
section
variable (X : Cx) (W : WX)
def QS (G S : Hp) (ρ : List Addr) (D : Ends) : Out → Mem → Prop := fun o m' => match o with
  | .nx env => ∀ S' H' ρ' σ', Ext S ρ S' ρ' → MR (gd X) G S' H' ρ' m' → ER (gd X) S' ρ' env σ' → D.nx σ' H'
  | .rt v => ∀ S' H' ρ' vv, Ext S ρ S' ρ' → MR (gd X) G S' H' ρ' m' → RSV (gd X) S' ρ' vv v → D.rt vv H'
  | .bk env => ∀ S' H' ρ' σ', Ext S ρ S' ρ' → MR (gd X) G S' H' ρ' m' → ER (gd X) S' ρ' env σ' → D.bk σ' H'
  | .ct env => ∀ S' H' ρ' σ', Ext S ρ S' ρ' → MR (gd X) G S' H' ρ' m' → ER (gd X) S' ρ' env σ' → D.ct σ' H'
def QXs (G S : Hp) (ρ : List Addr) : Exc → Mem → Prop := fun x m' => ∀ S' H' ρ' σ' cls d, Ext S ρ S' ρ' → MR (gd X) G S' H' ρ' m' → XR (gd X) S' H' cls d x → W cls d σ' H'
structure JS (st : Stmt) (f : DS) : Prop where
  run : ∀ {G S H : Hp} {ρ : List Addr} {m : Mem} {env : En} {σ : St} {D : Ends}, MR (gd X) G S H ρ m → ER (gd X) S ρ env σ → wpr (f env m) (QS X G S ρ D) (QXs X W G S ρ) → WS X st D σ H
structure JB (st : List Stmt) (f : DS) : Prop where
  run : ∀ {G S H : Hp} {ρ : List Addr} {m : Mem} {env : En} {σ : St} {D : Ends}, MR (gd X) G S H ρ m → ER (gd X) S ρ env σ → wpr (f env m) (QS X G S ρ D) (QXs X W G S ρ) → WSs X st D σ H
end
section
variable {X : Cx} {W : WX}
theorem qv_ext {G S S1 : Hp} {ρ ρ1 : List Addr} {Q : VK} (e : Ext S ρ S1 ρ1) {v : SV} {m : Mem} (h : QV X G S ρ Q v m) : QV X G S1 ρ1 Q v m := fun S' H' ρ' vv e' M r => h S' H' ρ' vv (e.trans e') M r
theorem qb_ext {G S S1 : Hp} {ρ ρ1 : List Addr} {Q : Bool → Hp → Prop} (e : Ext S ρ S1 ρ1) {v : Bool} {m : Mem} (h : QB X G S ρ Q v m) : QB X G S1 ρ1 Q v m := fun S' H' ρ' e' M => h S' H' ρ' (e.trans e') M
theorem qa_ext {G S S1 : Hp} {ρ ρ1 : List Addr} {Q : List V → Hp → Prop} (e : Ext S ρ S1 ρ1) {v : List SV} {m : Mem} (h : QA X G S ρ Q v m) : QA X G S1 ρ1 Q v m := fun S' H' ρ' vv e' M r => h S' H' ρ' vv (e.trans e') M r
theorem qx_ext {G S S1 : Hp} {ρ ρ1 : List Addr} {σ : St} (e : Ext S ρ S1 ρ1) {x : Exc} {m : Mem} (h : QX X W G S ρ σ x m) : QX X W G S1 ρ1 σ x m := fun S' H' ρ' c d e' M r => h S' H' ρ' c d (e.trans e') M r
theorem qxs_ext {G S S1 : Hp} {ρ ρ1 : List Addr} (e : Ext S ρ S1 ρ1) {x : Exc} {m : Mem} (h : QXs X W G S ρ x m) : QXs X W G S1 ρ1 x m := fun S' H' ρ' σ' c d e' M r => h S' H' ρ' σ' c d (e.trans e') M r
theorem qs_ext {G S S1 : Hp} {ρ ρ1 : List Addr} {D : Ends} (e : Ext S ρ S1 ρ1) {o : Out} {m : Mem} (h : QS X G S ρ D o m) : QS X G S1 ρ1 D o m := by
  cases o with
  | nx env => exact fun S' H' ρ' σ' e' M r => h S' H' ρ' σ' (e.trans e') M r
  | rt v => exact fun S' H' ρ' σ' e' M r => h S' H' ρ' σ' (e.trans e') M r
  | bk env => exact fun S' H' ρ' σ' e' M r => h S' H' ρ' σ' (e.trans e') M r
  | ct env => exact fun S' H' ρ' σ' e' M r => h S' H' ρ' σ' (e.trans e') M r
theorem qx_of {G S : Hp} {ρ : List Addr} {σ : St} {x : Exc} {m : Mem} (h : QXs X W G S ρ x m) : QX X W G S ρ σ x m := fun S' H' ρ' c d e' M r => h S' H' ρ' σ c d e' M r
end
end PL

/-! PL2: the pure layer's rules for expressions and tests. -/
namespace PL
open PySem PySem.Spec PyProof.Rows L2
section
variable {X : Cx} {W : WX} {a b c e : Expr} {es : List Expr} {pos : Pos} {σ : St} {H : Hp}

/-! ### closures of the layer's rules -/
theorem we_bin {op : Operator} {Q : VK} (h : WE X a σ H fun x H1 => WE X b σ H1 fun y H2 => WO X (binaryOp op) x y σ H2 Q) : WE X (.BinOp a op b pos) σ H Q := fun pins s I =>
  wpAny_BinOp (thn (h pins s I) fun v s1 ⟨x, H1, I1, r1, q1⟩ => thn (q1 pins s1 I1) fun u s2 ⟨y, H2, I2, r2, q2⟩ => q2 pins s2 v u I2 r1 r2)
theorem we_cmp {op : CmpOp} {Q : VK} (hm : behindInMarks op b = false) (h : WE X a σ H fun x H1 => WE X b σ H1 fun y H2 => WO X (compareOp op) x y σ H2 Q) : WE X (.Compare a [op] [b] pos) σ H Q := fun pins s I =>
  wpAny_Compare1 (thn (h pins s I) fun v s1 ⟨x, H1, I1, r1, q1⟩ => thn (q1 pins s1 I1) fun u s2 ⟨y, H2, I2, r2, q2⟩ => q2 pins s2 v u I2 r1 r2) hm
theorem wt_cmp {op : CmpOp} {Q : Bool → Hp → Prop} (hm : behindInMarks op b = false) (h : WE X a σ H fun x H1 => WE X b σ H1 fun y H2 => WO X (compareOp op) x y σ H2 fun z H3 => ∃ k, z = .bl k ∧ Q k H3) : WT X (.Compare a [op] [b] pos) σ H Q := fun pins s I => by
  refine wpAny_isTrue_Compare1 (thn (h pins s I) fun v s1 ⟨x, H1, I1, r1, q1⟩ => thn (q1 pins s1 I1) fun u s2 ⟨y, H2, I2, r2, q2⟩ => thn (q2 pins s2 v u I2 r1 r2) fun cc s3 ⟨z, H3, I3, r3, k, ez, q3⟩ => ?_) hm
  subst ez
  cases r3
  exact wpAny_truthy_bool ⟨H3, I3, q3⟩
theorem we_chain {op op' : CmpOp} {Q : VK} (hm : lastMarks [op, op'] [b, c] = false) (h : WE X a σ H fun x H1 => WE X b σ H1 fun y H2 => WO X (compareOp op) x y σ H2 fun z H3 => ∃ k, z = .bl k ∧
    (if k = true then WE X c σ H3 fun w' H4 => WO X (compareOp op') y w' σ H4 Q else Q (.bl false) H3)) : WE X (.Compare a [op, op'] [b, c] pos) σ H Q := fun pins s I => by
  refine Compare_chain (thn (h pins s I) fun v s1 ⟨x, H1, I1, r1, q1⟩ => chain_link (thn (q1 pins s1 I1) fun u s2 ⟨y, H2, I2, r2, q2⟩ =>
    thn (q2 pins s2 v u I2 r1 r2) fun d s3 ⟨z, H3, I3, r3, k, ez, q3⟩ => ?_)) hm
  subst ez
  cases r3
  refine wpAny_truthy_bool ?_
  cases k with
  | false => exact ite_ff ⟨.bl false, H3, I3, rfl, q3⟩
  | true => exact ite_tt (chain_last (thn (q3 pins s3 I3) fun w' s4 ⟨z', H4, I4, r4, q4⟩ => q4 pins s4 u w' I4 r2 r4))
theorem wt_chain {op op' : CmpOp} {Q : Bool → Hp → Prop} (hm : lastMarks [op, op'] [b, c] = false) (h : WE X a σ H fun x H1 => WE X b σ H1 fun y H2 => WO X (compareOp op) x y σ H2 fun z H3 => ∃ k, z = .bl k ∧
    (if k = true then WE X c σ H3 fun w' H4 => WO X (compareOp op') y w' σ H4 fun z H5 => ∃ k, z = .bl k ∧ Q k H5 else Q false H3)) : WT X (.Compare a [op, op'] [b, c] pos) σ H Q := fun pins s I => by
  refine isTrue_chain (thn (h pins s I) fun v s1 ⟨x, H1, I1, r1, q1⟩ => test_link (thn (q1 pins s1 I1) fun u s2 ⟨y, H2, I2, r2, q2⟩ =>
    thn (q2 pins s2 v u I2 r1 r2) fun d s3 ⟨z, H3, I3, r3, k, ez, q3⟩ => ?_)) hm
  subst ez
  cases r3
  refine wpAny_truthy_bool ?_
  cases k with
  | false => exact ite_ff ⟨H3, I3, q3⟩
  | true =>
    refine ite_tt (test_last (thn (q3 pins s3 I3) fun w' s4 ⟨z', H4, I4, r4, q4⟩ => thn (q4 pins s4 u w' I4 r2 r4) fun d' s5 ⟨z2, H5, I5, r5, k2, e2, q5⟩ => ?_))
    subst e2
    cases r5
    exact wpAny_truthy_bool ⟨H5, I5, q5⟩
theorem we_callB {id : String} {x : Str} {p : Pos} {Q : VK} (hg : Gl X x) (hm : X.mg x = none) (hv : bootBuiltins x = some (.builtin id)) (h : WA X (e :: es) σ H fun vs H1 => WC X (.builtin id) vs σ H1 Q) (hn : x ≠ "__name__" := by decide) (hdb : (x == ("__debug__" : Str)) = false := by decide)
    (he : starEach (e :: es) X.env = (false, eval e X.env) :: starEach es X.env := by rfl) (hpl : (backTo pos (starEach es X.env)).any (·.1) = false := by rfl) : WE X (.Call (.Name x p) (e :: es) [] pos) σ H Q := fun pins s I => by
  refine wpAny_Call_Name_kw (ld_blt I hg hm hv ?_ hn hdb)
  exact PyProof.Rows.callWith_builtin1 (thn (h pos pins s I) fun us s1 ⟨vs, H1, I1, r1, q1⟩ => q1 pins s1 us I1 r1) he hpl
theorem we_callTy {T : String} {x : Str} {p : Pos} {Q : VK} (hg : Gl X x) (hm : X.mg x = none) (hv : bootBuiltins x = some (.type T)) (h : WA X (e :: es) σ H fun vs H1 => WC X (.type T) vs σ H1 Q) (hn : x ≠ "__name__" := by decide) (hdb : (x == ("__debug__" : Str)) = false := by decide)
    (he : starEach (e :: es) X.env = (false, eval e X.env) :: starEach es X.env := by rfl) (hpl : (backTo pos (starEach es X.env)).any (·.1) = false := by rfl) : WE X (.Call (.Name x p) (e :: es) [] pos) σ H Q := fun pins s I => by
  refine wpAny_Call_Name_kw (ld_blt I hg hm hv ?_ hn hdb)
  exact PyProof.Rows.callWith_type1 (thn (h pos pins s I) fun us s1 ⟨vs, H1, I1, r1, q1⟩ => q1 pins s1 us I1 r1) he hpl

/-! ### names, constants -/
def dVar (i : Nat) : En → P SV := fun env m => match env[i]? with
  | some (some v) => .ok v m
  | _ => .stuck
def dC (d : D) : En → P SV := fun _ => P.ret (.dat d)
theorem je_var (i : Nat) {x : Str} {pos : Pos} (hN : X.N[i]? = some x := by rfl) (hv : Vis X.env.scope x := by first | exact Or.inl rfl | exact Or.inr (Or.inl rfl) | exact Or.inr (Or.inr rfl)) (hd : (x == ("__debug__" : Str)) = false := by decide)
    (hcd : (x == ("__classdict__" : Str)) = false := by decide) : JE X W (.Name x pos) (dVar i) := ⟨fun {G S H ρ m env σ Q} M E h => by
  unfold dVar at h
  split at h
  · rename_i v hv'
    obtain ⟨vv, h1, h2⟩ := E.at_ i v hv'
    exact we_of (pe_var hN hv hd hcd) ⟨vv, h1, h S H ρ vv (Ext.refl _ _) M h2⟩
  · exact h.elim⟩
theorem je_c {t : TE} {d : D} {v : V} (h : PE X e t) (ht : ∀ σ H Q, Q v H → t σ H Q) (r : ∀ S, Rp (gd X) S v d) : JE X W e (dC d) := ⟨fun {G S H ρ m env σ Q} M E q => we_of h (ht σ H Q (q S H ρ v (Ext.refl _ _) M (r S)))⟩
theorem je_int {i j pos} : JE X W (.Constant (.int i) j pos) (dC (.int i)) := je_c pe_int (fun _ _ _ h => h) fun _ => .int i
theorem je_bl {b j pos} : JE X W (.Constant (.bool b) j pos) (dC (.bl b)) := je_c pe_bl (fun _ _ _ h => h) fun _ => .bl b
theorem je_non {j pos} : JE X W (.Constant .none j pos) (dC .non) := je_c pe_non (fun _ _ _ h => h) fun _ => .non
theorem je_str {x j pos} : JE X W (.Constant (.str x) j pos) (dC (.str x)) := je_c pe_str (fun _ _ _ h => h) fun _ => .str x
/-- a module's int -/
theorem je_gint {x : Str} {i : Int} {pos : Pos} (hg : Gl X x) (hm : ∃ t, X.mg x = some (.int i t)) (hd : (x == ("__debug__" : Str)) = false := by decide) : JE X W (.Name x pos) (dC (.int i)) := by
  obtain ⟨t, hm⟩ := hm
  exact je_c (pe_glob (v := .int i) hg hm ⟨t, rfl⟩ hd) (fun _ _ _ h => h) fun _ => .int i
/-- a built-in type as a value -/
theorem je_ty {x : Str} {n : String} {pos : Pos} (hg : Gl X x) (hm : X.mg x = none) (hv : bootBuiltins x = some (.type n)) (hn : x ≠ "__name__" := by decide) (hd : (x == ("__debug__" : Str)) = false := by decide) : JE X W (.Name x pos) (dC (.ty n)) :=
  je_c (pe_bltn (v := .ty n) hg hm hv rfl hn hd) (fun _ _ _ h => h) fun _ => .ty n

/-! ### two-place operations -/
def d2 (g : SV → SV → P SV) (fa fb : En → P SV) : En → P SV := fun env => (fa env).bnd fun x => (fb env).bnd fun y => g x y
variable {fa fb fc : En → P SV}
theorem je_bin {op : Operator} {g : SV → SV → P SV} (jo : JO X W (binaryOp op) g) (ja : JE X W a fa) (jb : JE X W b fb) : JE X W (.BinOp a op b pos) (d2 g fa fb) := ⟨fun {G S H ρ m env σ Q} M E h => by
  refine we_bin (ja.run M E (wpr_monoQ (wpr_bnd h) fun x m1 hx => ?_))
  intro S1 H1 ρ1 xv e1 M1 rx
  refine jb.run M1 (E.mono e1) (wpr_mono (wpr_bnd hx) (fun y m2 hy => ?_) fun _ _ z => qx_ext e1 z)
  intro S2 H2 ρ2 yv e2 M2 ry
  exact jo.run M2 (rx.mono e2) ry (wpr_mono hy (fun _ _ z => qv_ext (e1.trans e2) z) fun _ _ z => qx_ext (e1.trans e2) z)⟩
theorem je_cmp {op : CmpOp} {g : SV → SV → P SV} (jo : JO X W (compareOp op) g) (ja : JE X W a fa) (jb : JE X W b fb) (hm : behindInMarks op b = false := by first | exact nomark _ | rfl) : JE X W (.Compare a [op] [b] pos) (d2 g fa fb) := ⟨fun {G S H ρ m env σ Q} M E h => by
  refine we_cmp hm (ja.run M E (wpr_monoQ (wpr_bnd h) fun x m1 hx => ?_))
  intro S1 H1 ρ1 xv e1 M1 rx
  refine jb.run M1 (E.mono e1) (wpr_mono (wpr_bnd hx) (fun y m2 hy => ?_) fun _ _ z => qx_ext e1 z)
  intro S2 H2 ρ2 yv e2 M2 ry
  exact jo.run M2 (rx.mono e2) ry (wpr_mono hy (fun _ _ z => qv_ext (e1.trans e2) z) fun _ _ z => qx_ext (e1.trans e2) z)⟩
/-- a value that is to be a truth -/
def asB (v : SV) : P Bool := match v with
  | .dat (.bl b) => P.ret b
  | _ => P.stk
def dB (f : En → P SV) : En → P Bool := fun env => (f env).bnd asB
theorem asB_ok {G S S' H' : Hp} {ρ ρ' : List Addr} {v : SV} {vv : V} {m' : Mem} {Q : Bool → Hp → Prop} {E : Exc → Mem → Prop} (e : Ext S ρ S' ρ') (M : MR (gd X) G S' H' ρ' m') (r : RSV (gd X) S' ρ' vv v)
    (h : wpr (asB v m') (QB X G S ρ Q) E) : ∃ k, vv = .bl k ∧ Q k H' := by
  cases v with
  | ref n => exact h.elim
  | dat d =>
    cases d with
    | bl b => cases r; exact ⟨b, rfl, h S' H' ρ' e M⟩
    | _ => exact h.elim
theorem jt_cmp {op : CmpOp} {g : SV → SV → P SV} (jo : JO X W (compareOp op) g) (ja : JE X W a fa) (jb : JE X W b fb) (hm : behindInMarks op b = false := by first | exact nomark _ | rfl) : JT X W (.Compare a [op] [b] pos) (dB (d2 g fa fb)) := ⟨fun {G S H ρ m env σ Q} M E h => by
  have h := wpr_bnd h
  refine wt_cmp hm (ja.run M E (wpr_monoQ (wpr_bnd h) fun x m1 hx => ?_))
  intro S1 H1 ρ1 xv e1 M1 rx
  refine jb.run M1 (E.mono e1) (wpr_mono (wpr_bnd hx) (fun y m2 hy => ?_) fun _ _ z => qx_ext e1 z)
  intro S2 H2 ρ2 yv e2 M2 ry
  refine jo.run M2 (rx.mono e2) ry (wpr_mono hy (fun z m3 hz => ?_) fun _ _ z => qx_ext (e1.trans e2) z)
  intro S3 H3 ρ3 zv e3 M3 rz
  exact asB_ok ((e1.trans e2).trans e3) M3 rz hz⟩
/-- a op b op' c -/
def dCh (g g' : SV → SV → P SV) (fa fb fc : En → P SV) : En → P SV := fun env => (fa env).bnd fun x => (fb env).bnd fun y => (g x y).bnd fun z => match z with
  | .dat (.bl true) => (fc env).bnd fun w => g' y w
  | .dat (.bl false) => P.ret (.dat (.bl false))
  | _ => P.stk
theorem je_chain {op op' : CmpOp} {g g' : SV → SV → P SV} (jo : JO X W (compareOp op) g) (jo' : JO X W (compareOp op') g') (ja : JE X W a fa) (jb : JE X W b fb) (jc : JE X W c fc)
    (hm : lastMarks [op, op'] [b, c] = false := by with_unfolding_all rfl) : JE X W (.Compare a [op, op'] [b, c] pos) (dCh g g' fa fb fc) := ⟨fun {G S H ρ m env σ Q} M E h => by
  refine we_chain hm (ja.run M E (wpr_monoQ (wpr_bnd h) fun x m1 hx => ?_))
  intro S1 H1 ρ1 xv e1 M1 rx
  refine jb.run M1 (E.mono e1) (wpr_mono (wpr_bnd hx) (fun y m2 hy => ?_) fun _ _ z => qx_ext e1 z)
  intro S2 H2 ρ2 yv e2 M2 ry
  refine jo.run M2 (rx.mono e2) ry (wpr_mono (wpr_bnd hy) (fun z m3 hz => ?_) fun _ _ z => qx_ext (e1.trans e2) z)
  intro S3 H3 ρ3 zv e3 M3 rz
  have e13 := (e1.trans e2).trans e3
  cases z with
  | ref n => exact hz.elim
  | dat d =>
    cases d with
    | bl k =>
      cases rz
      refine ⟨k, rfl, ?_⟩
      cases k with
      | true =>
        rw [if_pos rfl]
        refine jc.run M3 (E.mono e13) (wpr_mono (wpr_bnd hz) (fun w m4 hw => ?_) fun _ _ z => qx_ext e13 z)
        intro S4 H4 ρ4 wv e4 M4 rw'
        exact jo'.run M4 (ry.mono (e3.trans e4)) rw' (wpr_mono hw (fun _ _ z => qv_ext (e13.trans e4) z) fun _ _ z => qx_ext (e13.trans e4) z)
      | false =>
        rw [if_neg Bool.false_ne_true]
        exact hz S3 H3 ρ3 _ e13 M3 (.bl false)
    | _ => exact hz.elim⟩
theorem jt_chain {op op' : CmpOp} {g g' : SV → SV → P SV} (jo : JO X W (compareOp op) g) (jo' : JO X W (compareOp op') g') (ja : JE X W a fa) (jb : JE X W b fb) (jc : JE X W c fc)
    (hm : lastMarks [op, op'] [b, c] = false := by with_unfolding_all rfl) : JT X W (.Compare a [op, op'] [b, c] pos) (dB (dCh g g' fa fb fc)) := ⟨fun {G S H ρ m env σ Q} M E h => by
  have h := wpr_bnd h
  refine wt_chain hm (ja.run M E (wpr_monoQ (wpr_bnd h) fun x m1 hx => ?_))
  intro S1 H1 ρ1 xv e1 M1 rx
  refine jb.run M1 (E.mono e1) (wpr_mono (wpr_bnd hx) (fun y m2 hy => ?_) fun _ _ z => qx_ext e1 z)
  intro S2 H2 ρ2 yv e2 M2 ry
  refine jo.run M2 (rx.mono e2) ry (wpr_mono (wpr_bnd hy) (fun z m3 hz => ?_) fun _ _ z => qx_ext (e1.trans e2) z)
  intro S3 H3 ρ3 zv e3 M3 rz
  have e13 := (e1.trans e2).trans e3
  cases z with
  | ref n => exact hz.elim
  | dat d =>
    cases d with
    | bl k =>
      cases rz
      refine ⟨k, rfl, ?_⟩
      cases k with
      | true =>
        rw [if_pos rfl]
        refine jc.run M3 (E.mono e13) (wpr_mono (wpr_bnd hz) (fun w m4 hw => ?_) fun _ _ z => qx_ext e13 z)
        intro S4 H4 ρ4 wv e4 M4 rw'
        refine jo'.run M4 (ry.mono (e3.trans e4)) rw' (wpr_mono hw (fun z m5 hz5 => ?_) fun _ _ z => qx_ext (e13.trans e4) z)
        intro S5 H5 ρ5 zv5 e5 M5 rz5
        exact asB_ok ((e13.trans e4).trans e5) M5 rz5 hz5
      | false =>
        rw [if_neg Bool.false_ne_true]
        exact hz S3 H3 ρ3 e13 M3
    | _ => exact hz.elim⟩

/-! ### and, or, not, if -/
def dAndV (fa fb : En → P SV) : En → P SV := fun env => (fa env).bnd fun x => match x with
  | .dat (.bl true) => fb env
  | .dat (.bl false) => P.ret (.dat (.bl false))
  | _ => P.stk
def dOrV (fa fb : En → P SV) : En → P SV := fun env => (fa env).bnd fun x => match x with
  | .dat (.bl true) => P.ret (.dat (.bl true))
  | .dat (.bl false) => fb env
  | _ => P.stk
def dNotV (fa : En → P SV) : En → P SV := fun env => (fa env).bnd fun x => match x with
  | .dat (.bl k) => P.ret (.dat (.bl (!k)))
  | _ => P.stk
theorem je_one {op} (ja : JE X W a fa) : JE X W (.BoolOp op [a] pos) fa := ⟨fun {G S H ρ m env σ Q} M E h => we_of (pe_one pe_we) (ja.run M E h)⟩
variable {rest : List Expr}
theorem je_and (ja : JE X W a fa) (jb : JE X W (.BoolOp .And (b :: rest) pos) fb) : JE X W (.BoolOp .And (a :: b :: rest) pos) (dAndV fa fb) := ⟨fun {G S H ρ m env σ Q} M E h => by
  refine we_of (pe_and pe_we pe_we) (ja.run M E (wpr_monoQ (wpr_bnd h) fun x m1 hx => ?_))
  intro S1 H1 ρ1 xv e1 M1 rx
  cases x with
  | ref n => exact hx.elim
  | dat d =>
    cases d with
    | bl k =>
      cases rx
      refine ⟨k, rfl, ?_⟩
      cases k with
      | true =>
        rw [if_pos rfl]
        exact jb.run M1 (E.mono e1) (wpr_mono hx (fun _ _ z => qv_ext e1 z) fun _ _ z => qx_ext e1 z)
      | false =>
        rw [if_neg Bool.false_ne_true]
        exact hx S1 H1 ρ1 _ e1 M1 (.bl false)
    | _ => exact hx.elim⟩
theorem je_or (ja : JE X W a fa) (jb : JE X W (.BoolOp .Or (b :: rest) pos) fb) : JE X W (.BoolOp .Or (a :: b :: rest) pos) (dOrV fa fb) := ⟨fun {G S H ρ m env σ Q} M E h => by
  refine we_of (pe_or pe_we pe_we) (ja.run M E (wpr_monoQ (wpr_bnd h) fun x m1 hx => ?_))
  intro S1 H1 ρ1 xv e1 M1 rx
  cases x with
  | ref n => exact hx.elim
  | dat d =>
    cases d with
    | bl k =>
      cases rx
      refine ⟨k, rfl, ?_⟩
      cases k with
      | false =>
        rw [if_neg Bool.false_ne_true]
        exact jb.run M1 (E.mono e1) (wpr_mono hx (fun _ _ z => qv_ext e1 z) fun _ _ z => qx_ext e1 z)
      | true =>
        rw [if_pos rfl]
        exact hx S1 H1 ρ1 _ e1 M1 (.bl true)
    | _ => exact hx.elim⟩
theorem je_not (ja : JE X W a fa) : JE X W (.UnaryOp .Not a pos) (dNotV fa) := ⟨fun {G S H ρ m env σ Q} M E h => by
  refine we_of (pe_not pe_we) (ja.run M E (wpr_monoQ (wpr_bnd h) fun x m1 hx => ?_))
  intro S1 H1 ρ1 xv e1 M1 rx
  cases x with
  | ref n => exact hx.elim
  | dat d =>
    cases d with
    | bl k =>
      cases rx
      exact ⟨k, rfl, hx S1 H1 ρ1 _ e1 M1 (.bl _)⟩
    | _ => exact hx.elim⟩
variable {ta tb : En → P Bool}
def dAndT (ta tb : En → P Bool) : En → P Bool := fun env => (ta env).bnd fun k => match k with
  | true => tb env
  | false => P.ret false
def dOrT (ta tb : En → P Bool) : En → P Bool := fun env => (ta env).bnd fun k => match k with
  | true => P.ret true
  | false => tb env
def dNotT (ta : En → P Bool) : En → P Bool := fun env => (ta env).bnd fun k => P.ret (!k)
def dIf (t : En → P Bool) (fa fb : En → P SV) : En → P SV := fun env => (t env).bnd fun k => match k with
  | true => fa env
  | false => fb env
/-- a test whatever its whole is -/
structure JW (X : Cx) (W : WX) (e : Expr) (f : En → P Bool) : Prop where
  run : ∀ {G S H : Hp} {ρ : List Addr} {m : Mem} {env : En} {σ : St} {Q : Bool → Hp → Prop}, MR (gd X) G S H ρ m → ER (gd X) S ρ env σ → wpr (f env m) (QB X G S ρ Q) (QX X W G S ρ σ) →
    ∀ (whole : Sem Value) (pins : List (Addr × Obj)) (s : Shared), Inv X pins σ H s → wpAny (model X.prog X.w) X.A (isTrue e X.env whole) (TP X pins σ Q) X.xe s
theorem JW.pt (h : JW X W e ta) : JT X W e ta := ⟨fun M E q pins s I => h.run M E q _ pins s I⟩
theorem jw_and1 (ja : JT X W a ta) : JW X W (.BoolOp .And [a] pos) ta := ⟨fun M E h wh pins s I => (pw_and1 pt_wt).run wh pins s _ _ _ I (ja.run M E h)⟩
theorem jw_or1 (ja : JT X W a ta) : JW X W (.BoolOp .Or [a] pos) ta := ⟨fun M E h wh pins s I => (pw_or1 pt_wt).run wh pins s _ _ _ I (ja.run M E h)⟩
theorem jw_and (ja : JT X W a ta) (jb : JW X W (.BoolOp .And (b :: rest) pos) tb) : JW X W (.BoolOp .And (a :: b :: rest) pos) (dAndT ta tb) := ⟨fun {G S H ρ m env σ Q} M E h wh pins s I => by
  refine isTrue_and (thn (ja.run (Q := fun k H1 => if k = true then (∀ (wh : Sem Value) (pins : List (Addr × Obj)) (s : Shared), Inv X pins σ H1 s → wpAny (model X.prog X.w) X.A (isTrue (.BoolOp .And (b :: rest) pos) X.env wh) (TP X pins σ Q) X.xe s) else Q false H1) M E (wpr_monoQ (wpr_bnd h) fun k m1 hk => ?_) pins s I) fun k s1 ⟨H1, I1, q1⟩ => ?_)
  · intro S1 H1 ρ1 e1 M1
    cases k with
    | true =>
      rw [if_pos rfl]
      exact jb.run M1 (E.mono e1) (wpr_mono hk (fun _ _ z => qb_ext e1 z) fun _ _ z => qx_ext e1 z)
    | false =>
      rw [if_neg Bool.false_ne_true]
      exact hk S1 H1 ρ1 e1 M1
  · cases k with
    | true =>
      rw [if_pos rfl] at q1
      exact q1 wh pins s1 I1
    | false =>
      rw [if_neg Bool.false_ne_true] at q1
      exact ⟨H1, I1, q1⟩⟩
theorem jw_or (ja : JT X W a ta) (jb : JW X W (.BoolOp .Or (b :: rest) pos) tb) : JW X W (.BoolOp .Or (a :: b :: rest) pos) (dOrT ta tb) := ⟨fun {G S H ρ m env σ Q} M E h wh pins s I => by
  refine isTrue_or (thn (ja.run (Q := fun k H1 => if k = true then Q true H1 else (∀ (wh : Sem Value) (pins : List (Addr × Obj)) (s : Shared), Inv X pins σ H1 s → wpAny (model X.prog X.w) X.A (isTrue (.BoolOp .Or (b :: rest) pos) X.env wh) (TP X pins σ Q) X.xe s)) M E (wpr_monoQ (wpr_bnd h) fun k m1 hk => ?_) pins s I) fun k s1 ⟨H1, I1, q1⟩ => ?_)
  · intro S1 H1 ρ1 e1 M1
    cases k with
    | false =>
      rw [if_neg Bool.false_ne_true]
      exact jb.run M1 (E.mono e1) (wpr_mono hk (fun _ _ z => qb_ext e1 z) fun _ _ z => qx_ext e1 z)
    | true =>
      rw [if_pos rfl]
      exact hk S1 H1 ρ1 e1 M1
  · cases k with
    | true =>
      rw [if_pos rfl] at q1
      exact ⟨H1, I1, q1⟩
    | false =>
      rw [if_neg Bool.false_ne_true] at q1
      exact q1 wh pins s1 I1⟩
theorem jt_and1 (ja : JT X W a ta) : JT X W (.BoolOp .And [a] pos) ta := (jw_and1 ja).pt
theorem jt_not (ja : JT X W a ta) : JT X W (.UnaryOp .Not a pos) (dNotT ta) := ⟨fun {G S H ρ m env σ Q} M E h => by
  refine wt_of (pt_not pt_wt) (ja.run M E (wpr_monoQ (wpr_bnd h) fun k m1 hk => ?_))
  intro S1 H1 ρ1 e1 M1
  exact hk S1 H1 ρ1 e1 M1⟩
theorem je_if (jc : JT X W c ta) (ja : JE X W a fa) (jb : JE X W b fb) : JE X W (.IfExp c a b pos) (dIf ta fa fb) := ⟨fun {G S H ρ m env σ Q} M E h => by
  refine we_of (pe_ifExp pt_wt pe_we pe_we) (jc.run M E (wpr_monoQ (wpr_bnd h) fun k m1 hk => ?_))
  intro S1 H1 ρ1 e1 M1
  cases k with
  | true =>
    rw [if_pos rfl]
    exact ja.run M1 (E.mono e1) (wpr_mono hk (fun _ _ z => qv_ext e1 z) fun _ _ z => qx_ext e1 z)
  | false =>
    rw [if_neg Bool.false_ne_true]
    exact jb.run M1 (E.mono e1) (wpr_mono hk (fun _ _ z => qv_ext e1 z) fun _ _ z => qx_ext e1 z)⟩
/-- a value's truth -/
def truV (v : SV) : P Bool := fun m => match v with
  | .dat .non => .ok false m
  | .dat (.bl b) => .ok b m
  | .dat (.int i) => .ok (i != 0) m
  | .dat (.str y) => if y.length ≤ 16777216 then .ok ((y.length : Int) != 0) m else .stuck
  | .dat (.tup xs) => .ok (!xs.isEmpty) m
  | .dat (.lst xs) => .ok (!xs.isEmpty) m
  | .ref n => (match m[n]? with | some (.lst xs) => .ok (!xs.isEmpty) m | _ => .stuck)
  | _ => .stuck
def dTr (f : En → P SV) : En → P Bool := fun env => (f env).bnd truV
theorem rpAll_empty {Γ : Gd} {S : Hp} {vs : List V} {ds : List D} (r : RpAll Γ S vs ds) : vs.isEmpty = ds.isEmpty := by cases r <;> rfl
theorem truV_ok {G S S' H' : Hp} {ρ ρ' : List Addr} {v : SV} {vv : V} {m' : Mem} {Q : Bool → Hp → Prop} {E : Exc → Mem → Prop} (e : Ext S ρ S' ρ') (M : MR (gd X) G S' H' ρ' m') (r : RSV (gd X) S' ρ' vv v)
    (h : wpr (truV v m') (QB X G S ρ Q) E) : ∃ k, TruV X.K vv H' k ∧ Q k H' := by
  cases v with
  | ref n =>
    obtain ⟨a, h1, rfl⟩ := r
    unfold truV at h
    simp only at h
    split at h
    · rename_i xs hx
      obtain ⟨a', vs, g1, g2, g3, _⟩ := M.cell n xs hx
      rw [h1] at g1
      cases g1
      exact ⟨_, .inl ⟨vs, .inl (.inl g2), by rw [rpAll_empty g3]⟩, h S' H' ρ' e M⟩
    · exact h.elim
  | dat d =>
    cases d with
    | non => cases r; exact ⟨_, rfl, h S' H' ρ' e M⟩
    | bl b => cases r; exact ⟨_, rfl, h S' H' ρ' e M⟩
    | int i => cases r; exact ⟨_, rfl, h S' H' ρ' e M⟩
    | str y =>
      cases r
      unfold truV at h
      simp only at h
      split at h
      · rename_i hy
        exact ⟨_, ⟨by rw [sizeLine_eq]; exact hy, rfl⟩, h S' H' ρ' e M⟩
      · exact h.elim
    | tup xs =>
      cases r with
      | tup q z => exact ⟨_, .inr (.inl ⟨_, Same.seqT M.sub q, by rw [rpAll_empty z]⟩), h S' H' ρ' e M⟩
    | lst xs =>
      cases r with
      | lst q z => exact ⟨_, .inl ⟨_, .inl (.inl (M.sub _ _ q)), by rw [rpAll_empty z]⟩, h S' H' ρ' e M⟩
    | _ => exact h.elim
theorem jt_val (ja : JE X W a fa) (he : ∀ whole, isTrue a X.env whole = (do let v ← whole; standAt a.pos; holding [v] (truthy v)) := by intro _; rfl) : JT X W a (dTr fa) := ⟨fun {G S H ρ m env σ Q} M E h => by
  refine wt_of (pt_truth pe_we he) (ja.run M E (wpr_monoQ (wpr_bnd h) fun x m1 hx => ?_))
  intro S1 H1 ρ1 xv e1 M1 rx
  exact truV_ok e1 M1 rx hx⟩

/-! ### arguments, displays -/
def dNil : En → P (List SV) := fun _ => P.ret []
def dCons (f : En → P SV) (g : En → P (List SV)) : En → P (List SV) := fun env => (f env).bnd fun x => (g env).bnd fun xs => P.ret (x :: xs)
theorem paired_mono {Γ : Gd} {S S' : Hp} {ρ ρ' : List Addr} (e : Ext S ρ S' ρ') {vs : List V} {xs : List SV} (h : Paired (RSV Γ S ρ) vs xs) : Paired (RSV Γ S' ρ') vs xs := Paired.mapP h fun _ _ r => r.mono e
variable {fs : En → P (List SV)}
theorem ja_nil : JA X W [] dNil := ⟨fun {G S H ρ m env σ Q} M E h => wa_of pa_nil (h S H ρ [] (Ext.refl _ _) M .nil)⟩
theorem ja_cons (ja : JE X W a fa) (js : JA X W es fs) (hs : starEach (a :: es) X.env = (false, eval a X.env) :: starEach es X.env := by rfl) : JA X W (a :: es) (dCons fa fs) := ⟨fun {G S H ρ m env σ Q} M E h => by
  refine wa_of (pa_cons pe_we pa_wa hs) (ja.run M E (wpr_monoQ (wpr_bnd h) fun x m1 hx => ?_))
  intro S1 H1 ρ1 xv e1 M1 rx
  refine js.run M1 (E.mono e1) (wpr_mono (wpr_bnd hx) (fun xs m2 hxs => ?_) fun _ _ z => qx_ext e1 z)
  intro S2 H2 ρ2 xvs e2 M2 rxs
  exact hxs S2 H2 ρ2 _ (e1.trans e2) M2 (.cons (rx.mono e2) rxs)⟩
def allDat : List SV → Option (List D)
  | [] => some []
  | .dat d :: r => (match allDat r with | some ds => some (d :: ds) | none => none)
  | .ref _ :: _ => none
theorem allDat_ok {Γ : Gd} {S : Hp} {ρ : List Addr} : ∀ {vs : List V} {xs : List SV} {ds : List D}, Paired (RSV Γ S ρ) vs xs → allDat xs = some ds → RpAll Γ S vs ds
  | _, [], _, .nil, h => by cases h; exact .nil
  | _, .dat d :: r, ds, .cons q t, h => by
    unfold allDat at h
    split at h
    · rename_i ds' e
      cases h
      exact .cons q (allDat_ok t e)
    · cases h
  | _, .ref _ :: r, _, .cons _ _, h => by cases h
def mkTup (xs : List SV) : P SV := fun m => match allDat xs with
  | some ds => if ds.length ≤ 16777216 then .ok (.dat (.tup ds)) m else .stuck
  | none => .stuck
def mkLst (xs : List SV) : P SV := fun m => match allDat xs with
  | some ds => if ds.length ≤ 16777216 then .ok (.dat (.lst ds)) m else .stuck
  | none => .stuck
/-- an own list -/
def mkOwn (xs : List SV) : P SV := fun m => match allDat xs with
  | some ds => if ds.length ≤ 16777216 then .ok (.ref m.length) (m ++ [.lst ds]) else .stuck
  | none => .stuck
def dA (g : List SV → P SV) (fs : En → P (List SV)) : En → P SV := fun env => (fs env).bnd g
theorem je_tup {k} (js : JA X W es fs) : JE X W (.Tuple es k pos) (dA mkTup fs) := ⟨fun {G S H ρ m env σ Q} M E h => by
  refine we_of (pe_tup pa_wa) (js.run M E (wpr_monoQ (wpr_bnd h) fun xs m1 hx => ?_))
  intro S1 H1 ρ1 xv e1 M1 rx
  unfold mkTup at hx
  split at hx
  · rename_i ds eds
    have r := allDat_ok rx eds
    split at hx
    · rename_i hl
      refine ⟨by rw [r.length, sizeLine_eq]; exact hl, fun p hp => ?_⟩
      obtain ⟨s1, M2⟩ := M1.grow hp (.tup xv)
      exact hx _ _ ρ1 _ (e1.trans ⟨s1, fun _ _ q => q⟩) M2 (.tup (.inl (.inl upd_same)) (r.mono s1))
    · exact hx.elim
  · exact hx.elim⟩
theorem je_lst (js : JA X W es fs) : JE X W (.List es pos) (dA mkLst fs) := ⟨fun {G S H ρ m env σ Q} M E h => by
  refine we_of (pe_lst pa_wa) (js.run M E (wpr_monoQ (wpr_bnd h) fun xs m1 hx => ?_))
  intro S1 H1 ρ1 xv e1 M1 rx
  unfold mkLst at hx
  split at hx
  · rename_i ds eds
    have r := allDat_ok rx eds
    split at hx
    · rename_i hl
      refine ⟨by rw [r.length, sizeLine_eq]; exact hl, fun p hp => ?_⟩
      obtain ⟨s1, M2⟩ := M1.grow hp (.lst xv)
      exact hx _ _ ρ1 _ (e1.trans ⟨s1, fun _ _ q => q⟩) M2 (.lst upd_same (r.mono s1))
    · exact hx.elim
  · exact hx.elim⟩
theorem je_own (js : JA X W es fs) : JE X W (.List es pos) (dA mkOwn fs) := ⟨fun {G S H ρ m env σ Q} M E h => by
  refine we_of (pe_lst pa_wa) (js.run M E (wpr_monoQ (wpr_bnd h) fun xs m1 hx => ?_))
  intro S1 H1 ρ1 xv e1 M1 rx
  unfold mkOwn at hx
  split at hx
  · rename_i ds eds
    have r := allDat_ok rx eds
    split at hx
    · rename_i hl
      refine ⟨by rw [r.length, sizeLine_eq]; exact hl, fun p hp => ?_⟩
      obtain ⟨e2, M2⟩ := M1.alloc hp r
      refine hx _ _ _ _ (e1.trans e2) M2 ⟨p, ?_, rfl⟩
      rw [← M1.len]
      simp
    · exact hx.elim
  · exact hx.elim⟩

/-! ### calls of built-ins -/
theorem je_callB {id : String} {x : Str} {p : Pos} {g : List SV → P SV} (jc : JC X W (.builtin id) g) (hg : Gl X x) (hm : X.mg x = none) (hv : bootBuiltins x = some (.builtin id)) (js : JA X W (e :: es) fs) (hn : x ≠ "__name__" := by decide) (hdb : (x == ("__debug__" : Str)) = false := by decide)
    (he : starEach (e :: es) X.env = (false, eval e X.env) :: starEach es X.env := by rfl) (hpl : (backTo pos (starEach es X.env)).any (·.1) = false := by rfl) : JE X W (.Call (.Name x p) (e :: es) [] pos) (dA g fs) := ⟨fun {G S H ρ m env σ Q} M E h => by
  refine we_callB hg hm hv (js.run M E (wpr_monoQ (wpr_bnd h) fun xs m1 hx => ?_)) hn hdb he hpl
  intro S1 H1 ρ1 xv e1 M1 rx
  exact jc.run M1 rx (wpr_mono hx (fun _ _ z => qv_ext e1 z) fun _ _ z => qx_ext e1 z)⟩
theorem je_callTy {T : String} {x : Str} {p : Pos} {g : List SV → P SV} (jc : JC X W (.type T) g) (hg : Gl X x) (hm : X.mg x = none) (hv : bootBuiltins x = some (.type T)) (js : JA X W (e :: es) fs) (hn : x ≠ "__name__" := by decide) (hdb : (x == ("__debug__" : Str)) = false := by decide)
    (he : starEach (e :: es) X.env = (false, eval e X.env) :: starEach es X.env := by rfl) (hpl : (backTo pos (starEach es X.env)).any (·.1) = false := by rfl) : JE X W (.Call (.Name x p) (e :: es) [] pos) (dA g fs) := ⟨fun {G S H ρ m env σ Q} M E h => by
  refine we_callTy hg hm hv (js.run M E (wpr_monoQ (wpr_bnd h) fun xs m1 hx => ?_)) hn hdb he hpl
  intro S1 H1 ρ1 xv e1 M1 rx
  exact jc.run M1 rx (wpr_mono hx (fun _ _ z => qv_ext e1 z) fun _ _ z => qx_ext e1 z)⟩
end
end PL

/-! PL3: operations on values. -/
namespace PL
open PySem PySem.Spec PyProof.Rows L2

/-! ### reading sequences -/
def rdL (v : SV) (m : Mem) : Option (List D) := match v with
  | .dat (.lst xs) => some xs
  | .ref n => (match m[n]? with | some (.lst xs) => some xs | _ => none)
  | _ => none
/-- a list at its address -/
theorem rdL_ok {Γ : Gd} {G S H : Hp} {ρ : List Addr} {m : Mem} {v : SV} {vv : V} {xs : List D} (M : MR Γ G S H ρ m) (r : RSV Γ S ρ vv v) (h : rdL v m = some xs) :
    ∃ a vs, vv = .ref a ∧ H a = some (.lst vs) ∧ RpAll Γ S vs xs := by
  cases v with
  | ref n =>
    obtain ⟨a, h1, rfl⟩ := r
    unfold rdL at h
    simp only at h
    split at h
    · rename_i ys hy
      cases h
      obtain ⟨a', vs, g1, g2, g3, _⟩ := M.cell n _ hy
      rw [h1] at g1
      cases g1
      exact ⟨a, vs, rfl, g2, g3⟩
    · cases h
  | dat d =>
    cases d with
    | lst ys =>
      cases h
      cases r with
      | lst q z => exact ⟨_, _, rfl, M.sub _ _ q, z⟩
    | _ => cases h
def svD (v : SV) (m : Mem) : Option D := match v with
  | .dat d => some d
  | .ref n => (match m[n]? with | some (.lst xs) => some (.lst xs) | _ => none)
theorem svD_ok {Γ : Gd} {G S H : Hp} {ρ : List Addr} {m : Mem} {v : SV} {vv : V} {d : D} (M : MR Γ G S H ρ m) (r : RSV Γ S ρ vv v) (h : svD v m = some d) : Rp Γ H vv d := by
  cases v with
  | ref n =>
    obtain ⟨a, h1, rfl⟩ := r
    unfold svD at h
    simp only at h
    split at h
    · rename_i ys hy
      cases h
      obtain ⟨a', vs, g1, g2, g3, _⟩ := M.cell n _ hy
      rw [h1] at g1
      cases g1
      exact .lst g2 (g3.mono M.sub)
    · cases h
  | dat d' =>
    cases h
    exact Rp.mono M.sub r

/-! ### == -/
mutual
def toPy : D → PyData
  | .non => .none
  | .bl b => .bool b
  | .int i => .int i
  | .str x => .str x
  | .tup xs => .tuple (toPys xs)
  | .lst xs => .list (toPys xs)
  | .fn _ => .none
  | .ty _ => .none
  | .scr _ => .none
def toPys : List D → List PyData
  | [] => []
  | d :: r => toPy d :: toPys r
end
mutual
def plain : D → Bool
  | .non => true
  | .bl _ => true
  | .int _ => true
  | .str x => PyData.canLay0 (.str x)
  | .tup xs => plains xs
  | .lst xs => plains xs
  | .fn _ => false
  | .ty _ => false
  | .scr _ => false
def plains : List D → Bool
  | [] => true
  | d :: r => plain d && plains r
end
mutual
def dep : D → Nat
  | .tup xs => deps xs + 1
  | .lst xs => deps xs + 1
  | _ => 0
def deps : List D → Nat
  | [] => 0
  | d :: r => max (dep d) (deps r)
end
mutual
theorem toPy_lay : ∀ d, plain d = true → PyData.canLay0 (toPy d) = true
  | .non, _ => by simp [toPy, PyData.canLay0]
  | .bl _, _ => by simp [toPy, PyData.canLay0]
  | .int _, _ => by simp [toPy, PyData.canLay0]
  | .str x, h => by simpa [toPy, plain] using h
  | .tup xs, h => by
    simp only [toPy, PyData.canLay0]
    exact toPys_lay xs (by simpa [plain] using h)
  | .lst xs, h => by
    simp only [toPy, PyData.canLay0]
    exact toPys_lay xs (by simpa [plain] using h)
  | .fn _, h => by simp [plain] at h
  | .ty _, h => by simp [plain] at h
  | .scr _, h => by simp [plain] at h
theorem toPys_lay : ∀ ds, plains ds = true → PyData.canLayAll0 (toPys ds) = true
  | [], _ => by simp [toPys, PyData.canLayAll0]
  | d :: r, h => by
    simp only [plains, Bool.and_eq_true] at h
    simp only [toPys, PyData.canLayAll0, Bool.and_eq_true]
    exact ⟨toPy_lay d h.1, toPys_lay r h.2⟩
end
mutual
theorem toPy_dep : ∀ d, (toPy d).depth = dep d
  | .non => by simp [toPy, PyData.depth, dep]
  | .bl _ => by simp [toPy, PyData.depth, dep]
  | .int _ => by simp [toPy, PyData.depth, dep]
  | .str x => by simp [toPy, PyData.depth, dep]
  | .tup xs => by simp only [toPy, PyData.depth, dep, toPys_dep xs]
  | .lst xs => by simp only [toPy, PyData.depth, dep, toPys_dep xs]
  | .fn _ => by simp [toPy, PyData.depth, dep]
  | .ty _ => by simp [toPy, PyData.depth, dep]
  | .scr _ => by simp [toPy, PyData.depth, dep]
theorem toPys_dep : ∀ ds, PyData.depthAll (toPys ds) = deps ds
  | [] => by simp [toPys, PyData.depthAll, deps]
  | d :: r => by simp only [toPys, PyData.depthAll, deps, toPy_dep d, toPys_dep r]
end
mutual
theorem Rp.dp {Γ : Gd} {H : Hp} : ∀ {v : V} {d : D}, Rp Γ H v d → plain d = true → Dp Γ.K H v (toPy d)
  | _, _, .non, _ => by simp only [toPy]; exact .non
  | _, _, .bl b, _ => by simp only [toPy]; exact .bl b
  | _, _, .int i, _ => by simp only [toPy]; exact .int i
  | _, _, .str x, _ => by simp only [toPy]; exact .str x
  | _, _, .lst h r, p => by simp only [toPy]; exact .lst (.inl (.inl h)) (RpAll.dp r (by simpa [plain] using p))
  | _, _, .tup h r, p => by simp only [toPy]; exact .tup h (RpAll.dp r (by simpa [plain] using p))
  | _, _, .fn _, p => by simp [plain] at p
  | _, _, .ty _, p => by simp [plain] at p
  | _, _, .scr _, p => by simp [plain] at p
theorem RpAll.dp {Γ : Gd} {H : Hp} : ∀ {vs : List V} {ds : List D}, RpAll Γ H vs ds → plains ds = true → DpAll Γ.K H vs (toPys ds)
  | _, _, .nil, _ => by simp only [toPys]; exact .nil
  | _, _, .cons h r, p => by
    simp only [plains, Bool.and_eq_true] at p
    simp only [toPys]
    exact .cons (Rp.dp h p.1) (RpAll.dp r p.2)
end
def okD (d : D) : Bool := plain d && decide (dep d ≤ 64)
theorem okD_shaped {d : D} (h : okD d = true) : SeqAt.shaped (toPy d) = true := by
  simp only [okD, Bool.and_eq_true, decide_eq_true_eq] at h
  simp only [SeqAt.shaped, Bool.and_eq_true, decide_eq_true_eq, toPy_dep]
  exact ⟨toPy_lay d h.1, h.2⟩
theorem okD_plain {d : D} (h : okD d = true) : plain d = true := by
  simp only [okD, Bool.and_eq_true] at h
  exact h.1
def eqd (d e : D) : Bool := PyData.eqv (toPy d) (toPy e)
def eqV (x y : SV) : P SV := fun m => match svD x m, svD y m with
  | some d, some e => if okD d && okD e then .ok (.dat (.bl (eqd d e))) m else .stuck
  | _, _ => .stuck
def neV (x y : SV) : P SV := fun m => match svD x m, svD y m with
  | some d, some e => if okD d && okD e then .ok (.dat (.bl (!eqd d e))) m else .stuck
  | _, _ => .stuck
section
variable {X : Cx} {W : WX}
theorem jo_eq (hu : X.A.units + 64 < cLine) : JO X W (compareOp .Eq) eqV := ⟨fun {G S H ρ m σ x y xv yv Q} M rx ry h => by
  unfold eqV at h
  split at h
  · rename_i d e hd he
    split at h
    · rename_i ok
      rw [Bool.and_eq_true] at ok
      refine wo_of (op_eqD hu) ⟨toPy d, toPy e, (svD_ok M rx hd).dp (okD_plain ok.1), (svD_ok M ry he).dp (okD_plain ok.2), okD_shaped ok.1, okD_shaped ok.2, ?_⟩
      exact h S H ρ _ (Ext.refl _ _) M (.bl _)
    · exact h.elim
  · exact h.elim⟩
theorem jo_ne (hu : X.A.units + 64 < cLine) : JO X W (compareOp .NotEq) neV := ⟨fun {G S H ρ m σ x y xv yv Q} M rx ry h => by
  unfold neV at h
  split at h
  · rename_i d e hd he
    split at h
    · rename_i ok
      rw [Bool.and_eq_true] at ok
      refine wo_of (op_neD hu) ⟨toPy d, toPy e, (svD_ok M rx hd).dp (okD_plain ok.1), (svD_ok M ry he).dp (okD_plain ok.2), okD_shaped ok.1, okD_shaped ok.2, ?_⟩
      exact h S H ρ _ (Ext.refl _ _) M (.bl _)
    · exact h.elim
  · exact h.elim⟩

/-! ### ints -/
@[irreducible] def big : Nat := 2 ^ 4000
def mulOk (i j : Int) : Bool := (decide (i.natAbs < big) && decide (j.natAbs < big)) || decide (i.natAbs < 18446744073709551616) || decide (j.natAbs < 18446744073709551616)
theorem log_big {n : Nat} (h : n < big) : n.log2 < 4000 := by
  unfold big at h
  exact PySem.Flt.log2_lt_of (by decide) h
theorem big_of {n : Nat} (h : n < 2 ^ 1000) : n < big := by
  unfold big
  exact Nat.lt_trans h (by decide +kernel)
def intOp (g : Int → Int → R SV) (x y : SV) : R SV := match x, y with
  | .dat (.int i), .dat (.int j) => g i j
  | _, _ => .stuck
theorem jo_int {f : Value → Value → Sem Value} {g : Int → Int → Mem → R SV} (h : ∀ {G S H : Hp} {ρ : List Addr} {m : Mem} {σ : St} {i j : Int} {Q : VK}, MR (gd X) G S H ρ m → wpr (g i j m) (QV X G S ρ Q) (QX X W G S ρ σ) → WO X f (.int i) (.int j) σ H Q) :
    JO X W f (fun x y m => intOp (fun i j => g i j m) x y) := ⟨fun {G S H ρ m σ x y xv yv Q} M rx ry q => by
  unfold intOp at q
  split at q
  · cases rx
    cases ry
    exact h M q
  · exact q.elim⟩
def subV (x y : SV) : P SV := fun m => intOp (fun i j => .ok (.dat (.int (i - j))) m) x y
def mulV (x y : SV) : P SV := fun m => intOp (fun i j => if mulOk i j = true then .ok (.dat (.int (i * j))) m else .stuck) x y
def fdivV (x y : SV) : P SV := fun m => intOp (fun i j => if j ≠ 0 ∧ j.natAbs < big then .ok (.dat (.int (i.fdiv j))) m else .stuck) x y
def modV (x y : SV) : P SV := fun m => intOp (fun i j => if j ≠ 0 then .ok (.dat (.int (i.fmod j))) m else .stuck) x y
def powV (x y : SV) : P SV := fun m => intOp (fun i j => if 0 ≤ j ∧ j ≤ 1000000 ∧ i.natAbs < 2 ^ 64 then .ok (.dat (.int (i ^ j.toNat))) m else .stuck) x y
def ltV (x y : SV) : P SV := fun m => intOp (fun i j => .ok (.dat (.bl (decide (i < j)))) m) x y
def leV (x y : SV) : P SV := fun m => intOp (fun i j => .ok (.dat (.bl (decide (i ≤ j)))) m) x y
def gtV (x y : SV) : P SV := fun m => intOp (fun i j => .ok (.dat (.bl (decide (j < i)))) m) x y
def geV (x y : SV) : P SV := fun m => intOp (fun i j => .ok (.dat (.bl (decide (j ≤ i)))) m) x y
theorem jo_sub : JO X W (binaryOp .Sub) subV := jo_int fun {G S H ρ m σ i j Q} M q => wo_of op_sub ⟨i, j, rfl, rfl, q S H ρ _ (Ext.refl _ _) M (.int _)⟩
theorem mulOk_ok {i j : Int} (h : mulOk i j = true) : IntMulOk i j := by
  unfold mulOk at h
  rw [Bool.or_eq_true, Bool.or_eq_true, Bool.and_eq_true] at h
  rcases h with (⟨h1, h2⟩ | h) | h
  · have a := log_big (of_decide_eq_true h1)
    have b := log_big (of_decide_eq_true h2)
    exact CMulW.ok (show i.natAbs.log2 + j.natAbs.log2 < 1000000 by omega)
  · have := of_decide_eq_true h
    exact CMul.ok (.inl ⟨by omega, by omega⟩)
  · have := of_decide_eq_true h
    exact CMul.ok (.inr ⟨by omega, by omega⟩)
theorem op_mulX : OpR X (binaryOp .Mult) (rI (fun i j => IntMulOk i j) fun i j => .int (i * j)) := opI fun _ _ _ _ _ _ _ hc q => mul_int q hc
theorem jo_mul : JO X W (binaryOp .Mult) mulV := jo_int fun {G S H ρ m σ i j Q} M q => by
  split at q
  · rename_i hm
    exact wo_of op_mulX ⟨i, j, rfl, rfl, mulOk_ok hm, q S H ρ _ (Ext.refl _ _) M (.int _)⟩
  · exact q.elim
theorem op_fdivX : OpR X (binaryOp .FloorDiv) (rI (fun i j => j ≠ 0 ∧ j.natAbs.log2 < 9000) fun i j => .int (i.fdiv j)) := opI fun _ _ _ _ _ _ _ hc q => floordiv_int hc.1 q (.inl (PyProof.noPylong_of_log2 hc.2))
theorem jo_fdiv : JO X W (binaryOp .FloorDiv) fdivV := jo_int fun {G S H ρ m σ i j Q} M q => by
  split at q
  · rename_i hm
    exact wo_of op_fdivX ⟨i, j, rfl, rfl, ⟨hm.1, Nat.lt_trans (log_big hm.2) (by decide)⟩, q S H ρ _ (Ext.refl _ _) M (.int _)⟩
  · exact q.elim
theorem jo_mod : JO X W (binaryOp .Mod) modV := jo_int fun {G S H ρ m σ i j Q} M q => by
  split at q
  · rename_i hm
    exact wo_of op_modN ⟨i, j, rfl, rfl, hm, q S H ρ _ (Ext.refl _ _) M (.int _)⟩
  · exact q.elim
theorem jo_pow : JO X W (binaryOp .Pow) powV := jo_int fun {G S H ρ m σ i j Q} M q => by
  split at q
  · rename_i hm
    exact wo_of op_pow ⟨i, j, rfl, rfl, hm, q S H ρ _ (Ext.refl _ _) M (.int _)⟩
  · exact q.elim
theorem jo_lt : JO X W (compareOp .Lt) ltV := jo_int fun {G S H ρ m σ i j Q} M q => wo_of op_lt ⟨i, j, rfl, rfl, q S H ρ _ (Ext.refl _ _) M (.bl _)⟩
theorem jo_le : JO X W (compareOp .LtE) leV := jo_int fun {G S H ρ m σ i j Q} M q => wo_of op_le ⟨i, j, rfl, rfl, q S H ρ _ (Ext.refl _ _) M (.bl _)⟩
theorem jo_gt : JO X W (compareOp .Gt) gtV := jo_int fun {G S H ρ m σ i j Q} M q => wo_of op_gt ⟨i, j, rfl, rfl, q S H ρ _ (Ext.refl _ _) M (.bl _)⟩
theorem jo_ge : JO X W (compareOp .GtE) geV := jo_int fun {G S H ρ m σ i j Q} M q => wo_of op_ge ⟨i, j, rfl, rfl, q S H ρ _ (Ext.refl _ _) M (.bl _)⟩
/-- +: ints, tuples, lists, texts -/
def addV (x y : SV) : P SV := fun m => match x, y with
  | .dat (.int i), .dat (.int j) => .ok (.dat (.int (i + j))) m
  | .dat (.tup xs), .dat (.tup ys) => if xs.length + ys.length ≤ 16777216 then .ok (.dat (.tup (xs ++ ys))) m else .stuck
  | .dat (.str a), .dat (.str b) => if a.length + b.length ≤ 16777216 then .ok (.dat (.str (a ++ b))) m else .stuck
  | .dat (.scr ns), .dat (.lst ys) => if ns.length + ys.length ≤ 16777216 then .ok (.dat (.lst (ns.map D.int ++ ys))) m else .stuck
  | _, _ => (match rdL x m, rdL y m with
    | some xs, some ys => if xs.length + ys.length ≤ 16777216 then .ok (.dat (.lst (xs ++ ys))) m else .stuck
    | _, _ => .stuck)
theorem catL_ok {G S H : Hp} {ρ : List Addr} {m : Mem} {σ : St} {x y : SV} {xv yv : V} {Q : VK} {E : Exc → Mem → Prop} (M : MR (gd X) G S H ρ m) (rx : RSV (gd X) S ρ xv x) (ry : RSV (gd X) S ρ yv y)
    (q : wpr (match rdL x m, rdL y m with
    | some xs, some ys => if xs.length + ys.length ≤ 16777216 then R.ok (SV.dat (.lst (xs ++ ys))) m else .stuck
    | _, _ => .stuck) (QV X G S ρ Q) E) : WO X (binaryOp .Add) xv yv σ H Q := by
  split at q
  · rename_i xs ys hx hy
    split at q
    · rename_i hl
      obtain ⟨a, vs, rfl, h1, r1⟩ := rdL_ok M rx hx
      obtain ⟨b, ws, rfl, h2, r2⟩ := rdL_ok M ry hy
      refine wo_of op_cat ⟨a, b, vs, ws, rfl, rfl, h1, h2, by rw [r1.length, r2.length, sizeLine_eq]; exact hl, fun p hp => ?_⟩
      obtain ⟨s1, M2⟩ := M.grow hp (.lst (vs ++ ws))
      exact q _ _ ρ _ ⟨s1, fun _ _ z => z⟩ M2 (.lst upd_same ((r1.append r2).mono s1))
    · exact q.elim
  · exact q.elim
theorem op_catQ : OpR X (binaryOp .Add) (fun x y H Q => ∃ l b xs zs, x = .ref l ∧ y = .ref b ∧ SqL X.K H l xs ∧ SqL X.K H b zs ∧ xs.length + zs.length ≤ sizeLine ∧ ∀ p, H p = none → Q (.ref p) (upd H p (.lst (xs ++ zs)))) := by
  intro pins s σ H x y v u Q I rx ry h
  obtain ⟨l, b, xs, zs, rfl, rfl, hH, hB, hz, q⟩ := h
  cases rx
  cases ry
  obtain ⟨its, r, p, _⟩ := I.list hH
  obtain ⟨its2, r2, p2, _⟩ := I.list hB
  obtain ⟨⟨cls, dd, data, sl⟩, ho, hc, n, hd⟩ := p.isList
  obtain ⟨⟨cls2, dd2, data2, sl2⟩, ho2, hc2, n2, hd2⟩ := p2.isList
  simp only at hc hd hc2 hd2
  subst hc hd hc2 hd2
  have e1 := r.length
  have e2 := r2.length
  refine concat_meets ⟨_, ho, rfl⟩ ⟨_, ho2, rfl⟩ noFill_list_add seq_list_add PySem.F.slot_list_add PySem.F.entry_list_add (PySem.F.args_list_add_2 _ _)
    (list_addW l b its.toArray its2.toArray n n2 dd dd2 sl sl2 (by simp; omega)) ⟨ho, ho2, ?_⟩
  have ea : its.toArray ++ its2.toArray = (its ++ its2).toArray := by simp
  rw [ea]
  exact ⟨.ref _, _, I.lnew (t' := s.toks) (r.append r2) (by rw [List.length_append]; omega), rfl, q _ I.fresh⟩
theorem rpAll_int (Γ : Gd) (S : Hp) : ∀ ns : List Int, RpAll Γ S (ns.map V.int) (ns.map D.int)
  | [] => .nil
  | n :: r => .cons (.int n) (rpAll_int Γ S r)
theorem rpAll_nil {Γ : Gd} {S : Hp} {vs : List V} {ds : List D} (r : RpAll Γ S vs ds) (h : vs = []) : ds = [] := by subst h; cases r; rfl
theorem jo_add : JO X W (binaryOp .Add) addV := ⟨fun {G S H ρ m σ x y xv yv Q} M rx ry q => by
  unfold addV at q
  split at q
  · cases rx
    cases ry
    exact wo_of op_add ⟨_, _, rfl, rfl, q S H ρ _ (Ext.refl _ _) M (.int _)⟩
  · rename_i xs ys
    split at q
    · rename_i hl
      cases rx with
      | tup h1 r1 =>
        cases ry with
        | tup h2 r2 =>
          rename_i a vs b ws
          refine wo_of op_catA ⟨a, b, vs, ws, rfl, rfl, Same.seqT M.sub h1, Same.seqT M.sub h2, by rw [r1.length, r2.length, sizeLine_eq]; exact hl, fun e => ?_, fun e1 e2 => ?_, fun e1 e2 p hp => ?_⟩
          · have z := rpAll_nil r1 e
            subst z
            exact q S H ρ _ (Ext.refl _ _) M (.tup h2 r2)
          · have z := rpAll_nil r2 e2
            subst z
            rw [List.append_nil] at q
            exact q S H ρ _ (Ext.refl _ _) M (.tup h1 r1)
          · obtain ⟨s1, M2⟩ := M.grow hp (.tup (vs ++ ws))
            exact q _ _ ρ _ ⟨s1, fun _ _ z => z⟩ M2 (.tup (.inl (.inl upd_same)) ((r1.append r2).mono s1))
    · exact q.elim
  · split at q
    · rename_i hl
      cases rx
      cases ry
      exact wo_of op_add_str ⟨_, _, rfl, rfl, by rw [sizeLine_eq]; exact hl, q S H ρ _ (Ext.refl _ _) M (.str _)⟩
    · exact q.elim
  · rename_i ns ys
    split at q
    · rename_i hl
      cases rx with
      | scr h1 =>
        cases ry with
        | lst h2 r2 =>
          rename_i a b ws
          refine wo_of op_catQ ⟨a, b, ns.map V.int, ws, rfl, rfl, M.sub.seq h1, .inl (.inl (M.sub _ _ h2)), by rw [List.length_map, r2.length, sizeLine_eq]; exact hl, fun p hp => ?_⟩
          obtain ⟨s1, M2⟩ := M.grow hp (.lst (ns.map V.int ++ ws))
          exact q _ _ ρ _ ⟨s1, fun _ _ z => z⟩ M2 (.lst upd_same (((rpAll_int _ _ ns).append r2).mono s1))
    · exact q.elim
  · exact catL_ok M rx ry q⟩
/-- is None, is not None -/
def isNon : D → Bool
  | .non => true
  | _ => false
def isNV (x y : SV) : P SV := fun m => match x, y with
  | .dat d, .dat .non => .ok (.dat (.bl (isNon d))) m
  | .ref _, .dat .non => .ok (.dat (.bl false)) m
  | _, _ => .stuck
def notNV (x y : SV) : P SV := fun m => match x, y with
  | .dat d, .dat .non => .ok (.dat (.bl (!isNon d))) m
  | .ref _, .dat .non => .ok (.dat (.bl true)) m
  | _, _ => .stuck
theorem rp_non {Γ : Gd} {S : Hp} {v : V} {d : D} (r : Rp Γ S v d) : decide (v = .non) = isNon d := by
  cases r <;> simp [isNon]
theorem jo_isN : JO X W (compareOp .Is) isNV := ⟨fun {G S H ρ m σ x y xv yv Q} M rx ry q => by
  unfold isNV at q
  split at q
  · cases ry
    refine wo_of op_isN ⟨rfl, ?_⟩
    rw [rp_non rx]
    exact q S H ρ _ (Ext.refl _ _) M (.bl _)
  · cases ry
    obtain ⟨a, _, rfl⟩ := rx
    exact wo_of op_isN ⟨rfl, by simpa using q S H ρ _ (Ext.refl _ _) M (.bl _)⟩
  · exact q.elim⟩
theorem jo_notN : JO X W (compareOp .IsNot) notNV := ⟨fun {G S H ρ m σ x y xv yv Q} M rx ry q => by
  unfold notNV at q
  split at q
  · rename_i d
    cases ry
    refine wo_of op_notN ⟨rfl, ?_⟩
    rw [rp_non rx]
    exact q S H ρ _ (Ext.refl _ _) M (.bl _)
  · cases ry
    obtain ⟨a, _, rfl⟩ := rx
    exact wo_of op_notN ⟨rfl, by simpa using q S H ρ _ (Ext.refl _ _) M (.bl _)⟩
  · exact q.elim⟩

/-! ### in, not in: flat items -/
def flatD : D → Bool
  | .non => true
  | .bl _ => true
  | .int _ => true
  | .str _ => true
  | _ => false
def eqF : D → D → Bool
  | .non, .non => true
  | .bl a, .bl b => a == b
  | .bl a, .int b => (if a then 1 else 0) == b
  | .int a, .bl b => a == (if b then 1 else 0)
  | .int a, .int b => a == b
  | .str a, .str b => a == b
  | _, _ => false
theorem rp_flat {Γ : Gd} {S : Hp} {v : V} {d : D} (r : Rp Γ S v d) (f : flatD d = true) : flatV v = true := by
  cases r <;> first | rfl | (simp [flatD] at f)
theorem rp_eqF {Γ : Gd} {S : Hp} {v w : V} {d e : D} (r : Rp Γ S v d) (q : Rp Γ S w e) (f : flatD d = true) (g : flatD e = true) : L2.eqV v w = eqF d e := by
  cases r <;> first | (simp [flatD] at f; done) | (cases q <;> first | rfl | (simp [flatD] at g; done))
theorem rpAll_flat {Γ : Gd} {S : Hp} : ∀ {vs : List V} {ds : List D}, RpAll Γ S vs ds → ds.all flatD = true → vs.all flatV = true
  | _, _, .nil, _ => rfl
  | _, _, .cons h r, f => by
    rw [List.all_cons, Bool.and_eq_true] at f ⊢
    exact ⟨rp_flat h f.1, rpAll_flat r f.2⟩
theorem rpAll_in {Γ : Gd} {S : Hp} {x : V} {d : D} (rx : Rp Γ S x d) (fx : flatD d = true) : ∀ {vs : List V} {ds : List D}, RpAll Γ S vs ds → ds.all flatD = true → inV x vs = ds.any fun e => eqF e d
  | _, _, .nil, _ => rfl
  | _, _, .cons h r, f => by
    rw [List.all_cons, Bool.and_eq_true] at f
    have ih := rpAll_in rx fx r f.2
    unfold inV at ih ⊢
    rw [List.any_cons, List.any_cons, ih, rp_eqF h rx f.1 fx]
def rdSq (v : SV) (m : Mem) : Option (List D) := match v with
  | .dat (.tup xs) => some xs
  | _ => rdL v m
theorem rdSq_ok {Γ : Gd} {G S H : Hp} {ρ : List Addr} {m : Mem} {v : SV} {vv : V} {xs : List D} (M : MR Γ G S H ρ m) (r : RSV Γ S ρ vv v) (h : rdSq v m = some xs) :
    ∃ a vs, vv = .ref a ∧ (SqL Γ.K H a vs ∨ SqT Γ.K H a vs) ∧ RpAll Γ S vs xs := by
  unfold rdSq at h
  split at h
  · cases h
    cases r with
    | tup q z => exact ⟨_, _, rfl, .inr (Same.seqT M.sub q), z⟩
  · obtain ⟨a, vs, h1, h2, h3⟩ := rdL_ok M r h
    exact ⟨a, vs, h1, .inl (.inl (.inl h2)), h3⟩
def hasD (xs : List D) (d : D) : Bool := xs.any fun e => eqF e d
def flats (xs : List D) : Bool := xs.all flatD
def inSV (x y : SV) : P SV := fun m => match x, rdSq y m with
  | .dat d, some xs => if flatD d && flats xs then .ok (.dat (.bl (hasD xs d))) m else .stuck
  | _, _ => .stuck
def notInSV (x y : SV) : P SV := fun m => match x, rdSq y m with
  | .dat d, some xs => if flatD d && flats xs then .ok (.dat (.bl (!hasD xs d))) m else .stuck
  | _, _ => .stuck
theorem jo_in : JO X W (compareOp .In) inSV := ⟨fun {G S H ρ m σ x y xv yv Q} M rx ry q => by
  unfold inSV at q
  split at q
  · rename_i d xs hxs
    split at q
    · rename_i ok
      rw [Bool.and_eq_true] at ok
      obtain ⟨a, vs, rfl, h1, r⟩ := rdSq_ok M ry hxs
      refine wo_of op_in_seq ⟨a, vs, rfl, h1, rp_flat rx ok.1, rpAll_flat r ok.2, ?_⟩
      rw [if_neg Bool.false_ne_true, rpAll_in rx ok.1 r ok.2]
      exact q S H ρ _ (Ext.refl _ _) M (.bl _)
    · exact q.elim
  · exact q.elim⟩
theorem jo_notIn : JO X W (compareOp .NotIn) notInSV := ⟨fun {G S H ρ m σ x y xv yv Q} M rx ry q => by
  unfold notInSV at q
  split at q
  · rename_i d xs hxs
    split at q
    · rename_i ok
      rw [Bool.and_eq_true] at ok
      obtain ⟨a, vs, rfl, h1, r⟩ := rdSq_ok M ry hxs
      refine wo_of op_notIn_seq ⟨a, vs, rfl, h1, rp_flat rx ok.1, rpAll_flat r ok.2, ?_⟩
      rw [if_pos rfl, rpAll_in rx ok.1 r ok.2]
      exact q S H ρ _ (Ext.refl _ _) M (.bl _)
    · exact q.elim
  · exact q.elim⟩

/-! ### unary minus, subscripts -/
variable {a b e : Expr} {es : List Expr} {pos : Pos} {fa fb : En → P SV}
def negV (x : SV) : P SV := fun m => match x with
  | .dat (.int i) => .ok (.dat (.int (-i))) m
  | _ => .stuck
def d1 (g : SV → P SV) (fa : En → P SV) : En → P SV := fun env => (fa env).bnd g
theorem je_neg (ja : JE X W a fa) : JE X W (.UnaryOp .USub a pos) (d1 negV fa) := ⟨fun {G S H ρ m env σ Q} M E h => by
  refine we_of (pe_un un_neg pe_we) (ja.run M E (wpr_monoQ (wpr_bnd h) fun x m1 hx => ?_))
  intro S1 H1 ρ1 xv e1 M1 rx
  unfold negV at hx
  split at hx
  · cases rx
    exact ⟨_, rfl, hx S1 H1 ρ1 _ e1 M1 (.int _)⟩
  · exact hx.elim⟩
def ixV (x y : SV) : P SV := fun m => match y with
  | .dat (.int i) => (match x with
    | .dat (.scr ns) => (match atI ns i with | some n => .ok (.dat (.int n)) m | none => .stuck)
    | .dat (.str z) => if z.length ≤ 16777216 then (match atI z.cps.toList i with | some c => .ok (.dat (.str ⟨#[c]⟩)) m | none => .stuck) else .stuck
    | _ => (match rdSq x m with
      | some xs => (match atI xs i with | some d => .ok (.dat d) m | none => .stuck)
      | none => .stuck))
  | _ => .stuck
theorem atI_map {α β : Type} (f : α → β) (xs : List α) (i : Int) : atI (xs.map f) i = (atI xs i).map f := by
  unfold atI
  rw [List.length_map]
  cases ixN xs.length i with
  | none => rfl
  | some j => simp
theorem rpAll_atI {Γ : Gd} {S : Hp} {vs : List V} {ds : List D} {i : Int} {d : D} (r : RpAll Γ S vs ds) (h : atI ds i = some d) : ∃ v, atI vs i = some v ∧ Rp Γ S v d := by
  unfold atI at h ⊢
  rw [r.length]
  cases e : ixN ds.length i with
  | none => rw [e] at h; cases h
  | some j =>
    rw [e] at h
    exact r.get h
theorem je_ix (ja : JE X W a fa) (jb : JE X W b fb) (hs : PlainIx b := by exact fun _ _ => rfl) : JE X W (.Subscript a b pos) (d2 ixV fa fb) := ⟨fun {G S H ρ m env σ Q} M E h => by
  refine we_of (pe_ix ix_seq pe_we pe_we hs) (ja.run M E (wpr_monoQ (wpr_bnd h) fun x m1 hx => ?_))
  intro S1 H1 ρ1 xv e1 M1 rx
  refine jb.run M1 (E.mono e1) (wpr_mono (wpr_bnd hx) (fun y m2 hy => ?_) fun _ _ z => qx_ext e1 z)
  intro S2 H2 ρ2 yv e2 M2 ry
  have rx2 := rx.mono e2
  unfold ixV at hy
  split at hy
  · rename_i i
    cases ry
    split at hy
    · rename_i ns
      split at hy
      · rename_i n hn
        cases rx2 with
        | scr q =>
          refine .inl ⟨_, _, i, .int n, rfl, rfl, M2.sub.seq q, by rw [atI_map, hn]; rfl, ?_⟩
          exact hy S2 H2 ρ2 _ (e1.trans e2) M2 (.int n)
      · exact hy.elim
    · rename_i z
      split at hy
      · rename_i hl
        split at hy
        · rename_i c hc
          cases rx2
          exact .inr (.inr ⟨z, i, c, rfl, rfl, by rw [sizeLine_eq]; exact hl, hc, hy S2 H2 ρ2 _ (e1.trans e2) M2 (.str _)⟩)
        · exact hy.elim
      · exact hy.elim
    · split at hy
      · rename_i xs hxs
        split at hy
        · rename_i d hd
          obtain ⟨p, vs, rfl, h1, r⟩ := rdSq_ok M2 rx2 hxs
          obtain ⟨v, hv, rv⟩ := rpAll_atI r hd
          rcases h1 with h1 | h1
          · exact .inl ⟨p, vs, i, v, rfl, rfl, h1, hv, hy S2 H2 ρ2 _ (e1.trans e2) M2 rv⟩
          · exact .inr (.inl ⟨p, vs, i, v, rfl, rfl, h1, hv, hy S2 H2 ρ2 _ (e1.trans e2) M2 rv⟩)
        · exact hy.elim
      · exact hy.elim
  · exact hy.elim⟩

/-! ### built-in calls -/
theorem paired1 {α β : Type} {F : α → β → Prop} {vs : List α} {x : β} (h : Paired F vs [x]) : ∃ v, vs = [v] ∧ F v x := by
  cases h with
  | cons r t => cases t; exact ⟨_, rfl, r⟩
theorem paired2 {α β : Type} {F : α → β → Prop} {vs : List α} {x y : β} (h : Paired F vs [x, y]) : ∃ v w, vs = [v, w] ∧ F v x ∧ F w y := by
  cases h with
  | cons r t => cases t with | cons r' t' => cases t'; exact ⟨_, _, rfl, r, r'⟩
def lenV (xs : List SV) : P SV := fun m => match xs with
  | [.dat (.scr ns)] => .ok (.dat (.int ns.length)) m
  | [.dat (.str z)] => if z.length ≤ 16777216 then .ok (.dat (.int z.length)) m else .stuck
  | [x] => (match rdSq x m with | some ys => .ok (.dat (.int ys.length)) m | none => .stuck)
  | _ => .stuck
theorem jc_len : JC X W (.builtin "len") lenV := ⟨fun {G S H ρ m σ xs xvs Q} M rx q => by
  unfold lenV at q
  split at q
  · rename_i ns
    obtain ⟨v, rfl, r⟩ := paired1 rx
    cases r with
    | scr h =>
      refine wc_of call_len ⟨_, ns.length, rfl, .inl ⟨_, M.sub.seq h, by rw [List.length_map]⟩, ?_⟩
      exact q S H ρ _ (Ext.refl _ _) M (.int _)
  · rename_i z
    obtain ⟨v, rfl, r⟩ := paired1 rx
    cases r
    split at q
    · rename_i hl
      exact wc_of call_len ⟨_, z.length, rfl, ⟨by rw [sizeLine_eq]; exact hl, rfl⟩, q S H ρ _ (Ext.refl _ _) M (.int _)⟩
    · exact q.elim
  · rename_i x _ _
    obtain ⟨v, rfl, r⟩ := paired1 rx
    split at q
    · rename_i ys hys
      obtain ⟨a, vs, rfl, h1, r1⟩ := rdSq_ok M r hys
      refine wc_of call_len ⟨_, ys.length, rfl, ?_, q S H ρ _ (Ext.refl _ _) M (.int _)⟩
      rcases h1 with h1 | h1
      · exact .inl ⟨vs, h1, r1.length.symm⟩
      · exact .inr ⟨vs, h1, r1.length.symm⟩
    · exact q.elim
  · exact q.elim⟩
def absV' (xs : List SV) : P SV := fun m => match xs with
  | [.dat (.int i)] => .ok (.dat (.int i.natAbs)) m
  | _ => .stuck
theorem jc_abs : JC X W (.builtin "abs") absV' := ⟨fun {G S H ρ m σ xs xvs Q} M rx q => by
  unfold absV' at q
  split at q
  · rename_i i
    obtain ⟨v, rfl, r⟩ := paired1 rx
    cases r
    refine wc_of call_abs ⟨i, rfl, ?_⟩
    have e : (if i < 0 then -i else i) = (i.natAbs : Int) := by omega
    rw [e]
    exact q S H ρ _ (Ext.refl _ _) M (.int _)
  · exact q.elim⟩
/-- max, min of two ints -/
def max2V (xs : List SV) : P SV := fun m => match xs with
  | [.dat (.int i), .dat (.int j)] => .ok (.dat (.int (max i j))) m
  | _ => .stuck
def min2V (xs : List SV) : P SV := fun m => match xs with
  | [.dat (.int i), .dat (.int j)] => .ok (.dat (.int (min i j))) m
  | _ => .stuck
theorem jc_max2 (hc : X.calm = true) : JC X W (.builtin "max") max2V := ⟨fun {G S H ρ m σ xs xvs Q} M rx q => by
  unfold max2V at q
  split at q
  · rename_i i j
    obtain ⟨v, w', rfl, r1, r2⟩ := paired2 rx
    cases r1
    cases r2
    refine wc_of (call_max2 hc) ⟨i, j, rfl, ?_⟩
    have e : (if j > i then j else i) = max i j := by omega
    rw [e]
    exact q S H ρ _ (Ext.refl _ _) M (.int _)
  · exact q.elim⟩
theorem jc_min2 (hc : X.calm = true) : JC X W (.builtin "min") min2V := ⟨fun {G S H ρ m σ xs xvs Q} M rx q => by
  unfold min2V at q
  split at q
  · rename_i i j
    obtain ⟨v, w', rfl, r1, r2⟩ := paired2 rx
    cases r1
    cases r2
    refine wc_of (call_min2 hc) ⟨i, j, rfl, ?_⟩
    have e : (if j < i then j else i) = min i j := by omega
    rw [e]
    exact q S H ρ _ (Ext.refl _ _) M (.int _)
  · exact q.elim⟩
def intV (xs : List SV) : P SV := fun m => match xs with
  | [.dat (.int i)] => .ok (.dat (.int i)) m
  | [.dat (.bl k)] => .ok (.dat (.int (if k then 1 else 0))) m
  | _ => .stuck
theorem jc_int : JC X W (.type "int") intV := ⟨fun {G S H ρ m σ xs xvs Q} M rx q => by
  unfold intV at q
  split at q
  · obtain ⟨v, rfl, r⟩ := paired1 rx
    cases r
    exact wc_of call_int1 (.inl ⟨_, rfl, q S H ρ _ (Ext.refl _ _) M (.int _)⟩)
  · obtain ⟨v, rfl, r⟩ := paired1 rx
    cases r
    exact wc_of call_int1 (.inr ⟨_, rfl, q S H ρ _ (Ext.refl _ _) M (.int _)⟩)
  · exact q.elim⟩
def asBs : List D → Option (List Bool)
  | [] => some []
  | .bl b :: r => (match asBs r with | some bs => some (b :: bs) | none => none)
  | _ => none
def asIs : List D → Option (List Int)
  | [] => some []
  | .int i :: r => (match asIs r with | some is => some (i :: is) | none => none)
  | _ => none
theorem rpAll_bs {Γ : Gd} {S : Hp} : ∀ {vs : List V} {ds : List D} {bs : List Bool}, RpAll Γ S vs ds → asBs ds = some bs → vs = bs.map V.bl
  | _, _, bs, .nil, h => by cases h; rfl
  | _, _, bs, .cons h0 r, h => by
    cases h0 <;> first | (simp [asBs] at h; done) | skip
    unfold asBs at h
    split at h
    · rename_i bs' e
      cases h
      rw [rpAll_bs r e]
      rfl
    · cases h
theorem rpAll_is {Γ : Gd} {S : Hp} : ∀ {vs : List V} {ds : List D} {is : List Int}, RpAll Γ S vs ds → asIs ds = some is → vs = is.map V.int
  | _, _, bs, .nil, h => by cases h; rfl
  | _, _, bs, .cons h0 r, h => by
    cases h0 <;> first | (simp [asIs] at h; done) | skip
    unfold asIs at h
    split at h
    · rename_i bs' e
      cases h
      rw [rpAll_is r e]
      rfl
    · cases h
def allV (xs : List SV) : P SV := fun m => match xs with
  | [x] => (match rdL x m with | some ds => (match asBs ds with | some bs => .ok (.dat (.bl (bs.all id))) m | none => .stuck) | none => .stuck)
  | _ => .stuck
def anyV (xs : List SV) : P SV := fun m => match xs with
  | [x] => (match rdL x m with | some ds => (match asBs ds with | some bs => .ok (.dat (.bl (bs.any id))) m | none => .stuck) | none => .stuck)
  | _ => .stuck
def sumV (xs : List SV) : P SV := fun m => match xs with
  | [x] => (match rdL x m with | some ds => (match asIs ds with | some is => .ok (.dat (.int is.sum)) m | none => .stuck) | none => .stuck)
  | _ => .stuck
theorem jc_all (hc : X.calm = true) : JC X W (.builtin "all") allV := ⟨fun {G S H ρ m σ xs xvs Q} M rx q => by
  unfold allV at q
  split at q
  · obtain ⟨v, rfl, r⟩ := paired1 rx
    split at q
    · rename_i ds hd
      split at q
      · rename_i bs hb
        obtain ⟨a, vs, rfl, h1, r1⟩ := rdL_ok M r hd
        have e := rpAll_bs r1 hb
        subst e
        exact wc_of (cr_all hc) ⟨a, bs, rfl, .inl (.inl h1), q S H ρ _ (Ext.refl _ _) M (.bl _)⟩
      · exact q.elim
    · exact q.elim
  · exact q.elim⟩
theorem jc_any (hc : X.calm = true) : JC X W (.builtin "any") anyV := ⟨fun {G S H ρ m σ xs xvs Q} M rx q => by
  unfold anyV at q
  split at q
  · obtain ⟨v, rfl, r⟩ := paired1 rx
    split at q
    · rename_i ds hd
      split at q
      · rename_i bs hb
        obtain ⟨a, vs, rfl, h1, r1⟩ := rdL_ok M r hd
        have e := rpAll_bs r1 hb
        subst e
        exact wc_of (cr_any hc) ⟨a, bs, rfl, .inl (.inl h1), q S H ρ _ (Ext.refl _ _) M (.bl _)⟩
      · exact q.elim
    · exact q.elim
  · exact q.elim⟩
theorem jc_sum (hc : X.calm = true) : JC X W (.builtin "sum") sumV := ⟨fun {G S H ρ m σ xs xvs Q} M rx q => by
  unfold sumV at q
  split at q
  · obtain ⟨v, rfl, r⟩ := paired1 rx
    split at q
    · rename_i ds hd
      split at q
      · rename_i bs hb
        obtain ⟨a, vs, rfl, h1, r1⟩ := rdL_ok M r hd
        have e := rpAll_is r1 hb
        subst e
        exact wc_of (cr_sum hc) ⟨a, bs, rfl, .inl (.inl h1), q S H ρ _ (Ext.refl _ _) M (.int _)⟩
      · exact q.elim
    · exact q.elim
  · exact q.elim⟩
/-- tuple(xs), list(xs) -/
def tupleV (xs : List SV) : P SV := fun m => match xs with
  | [x] => (match rdSq x m with | some ds => .ok (.dat (.tup ds)) m | none => .stuck)
  | _ => .stuck
def listV (xs : List SV) : P SV := fun m => match xs with
  | [x] => (match rdSq x m with | some ds => .ok (.dat (.lst ds)) m | none => .stuck)
  | _ => .stuck
/-- list(xs), an own list -/
def listOV (xs : List SV) : P SV := fun m => match xs with
  | [x] => (match rdSq x m with | some ds => .ok (.ref m.length) (m ++ [.lst ds]) | none => .stuck)
  | _ => .stuck
theorem jc_tuple : JC X W (.type "tuple") tupleV := ⟨fun {G S H ρ m σ xs xvs Q} M rx q => by
  unfold tupleV at q
  split at q
  · rename_i x
    obtain ⟨v, rfl, r⟩ := paired1 rx
    split at q
    · rename_i ds hd
      unfold rdSq at hd
      split at hd
      · cases hd
        cases r with
        | tup h1 z => exact wc_of call_tuple_of ⟨_, _, rfl, .inr ⟨Same.seqT M.sub h1, q S H ρ _ (Ext.refl _ _) M (.tup h1 z)⟩⟩
      · obtain ⟨a, vs, rfl, h1, r1⟩ := rdL_ok M r hd
        refine wc_of call_tuple_of ⟨a, vs, rfl, .inl ⟨.inl (.inl h1), fun l hl => ?_⟩⟩
        obtain ⟨s1, M2⟩ := M.grow hl (.tup vs)
        exact q _ _ ρ _ ⟨s1, fun _ _ z => z⟩ M2 (.tup (.inl (.inl upd_same)) (r1.mono s1))
    · exact q.elim
  · exact q.elim⟩
theorem jc_list : JC X W (.type "list") listV := ⟨fun {G S H ρ m σ xs xvs Q} M rx q => by
  unfold listV at q
  split at q
  · obtain ⟨v, rfl, r⟩ := paired1 rx
    split at q
    · rename_i ds hd
      obtain ⟨a, vs, rfl, h1, r1⟩ := rdSq_ok M r hd
      refine wc_of call_list_of ⟨a, vs, rfl, h1, fun l hl => ?_⟩
      obtain ⟨s1, M2⟩ := M.grow hl (.lst vs)
      exact q _ _ ρ _ ⟨s1, fun _ _ z => z⟩ M2 (.lst upd_same (r1.mono s1))
    · exact q.elim
  · exact q.elim⟩
theorem jc_listO : JC X W (.type "list") listOV := ⟨fun {G S H ρ m σ xs xvs Q} M rx q => by
  unfold listOV at q
  split at q
  · obtain ⟨v, rfl, r⟩ := paired1 rx
    split at q
    · rename_i ds hd
      obtain ⟨a, vs, rfl, h1, r1⟩ := rdSq_ok M r hd
      refine wc_of call_list_of ⟨a, vs, rfl, h1, fun l hl => ?_⟩
      obtain ⟨e2, M2⟩ := M.alloc hl r1
      refine q _ _ _ _ e2 M2 ⟨l, ?_, rfl⟩
      rw [← M.len]
      simp
    · exact q.elim
  · exact q.elim⟩

/-! ### isinstance -/
def tyName (v : SV) (m : Mem) : Option String := match v with
  | .dat .non => some "NoneType"
  | .dat (.bl _) => some "bool"
  | .dat (.int _) => some "int"
  | .dat (.str _) => some "str"
  | .dat (.tup _) => some "tuple"
  | .dat (.lst _) => some "list"
  | .dat (.scr _) => some "list"
  | .ref n => (match m[n]? with | some (.lst _) => some "list" | _ => none)
  | _ => none
def tyIs (a b : String) : Bool := a == b || (a == "bool" && b == "int")
def tyNames : List String := ["NoneType", "bool", "int", "str", "tuple", "list"]
theorem tyName_ok {G S H : Hp} {ρ : List Addr} {m : Mem} {v : SV} {vv : V} {n : String} (M : MR (gd X) G S H ρ m) (r : RSV (gd X) S ρ vv v) (h : tyName v m = some n) : TyX X.K H vv (.type n) ∧ n ∈ tyNames := by
  cases v with
  | ref k =>
    unfold tyName at h
    simp only at h
    split at h
    · rename_i ys hy
      cases h
      obtain ⟨a, vs, rfl, g2, g3⟩ := rdL_ok (v := .ref k) (xs := ys) M r (by unfold rdL; simp only [hy])
      exact ⟨.base (.lst g2), by simp [tyNames]⟩
    · cases h
  | dat d =>
    cases d with
    | non => cases h; cases r; exact ⟨.base .non, by simp [tyNames]⟩
    | bl b => cases h; cases r; exact ⟨.base (.bl b), by simp [tyNames]⟩
    | int i => cases h; cases r; exact ⟨.base (.int i), by simp [tyNames]⟩
    | str x => cases h; cases r; exact ⟨.base (.str x), by simp [tyNames]⟩
    | tup xs =>
      cases h
      cases r with
      | tup q z =>
        refine ⟨?_, by simp [tyNames]⟩
        rcases Same.seqT M.sub q with (q | ⟨o, q⟩) | ⟨o, its, n, q, c, _⟩
        · exact .base (.tup q)
        · exact .fTuple q
        · exact .kTuple q c
    | lst xs =>
      cases h
      cases r with
      | lst q z => exact ⟨.base (.lst (M.sub _ _ q)), by simp [tyNames]⟩
    | scr ns =>
      cases h
      cases r with
      | scr q =>
        refine ⟨?_, by simp [tyNames]⟩
        rcases M.sub.seq q with (q | ⟨o, q⟩) | ⟨o, its, n, q, c, _⟩
        · exact .base (.lst q)
        · exact .base (.frz q)
        · exact .kList q c
    | _ => cases h
/-- isinstance(x, T) -/
def isiV (ts : List String) (v : SV) : P SV := fun m => match tyName v m with
  | some n => .ok (.dat (.bl (ts.any fun t => tyIs n t))) m
  | none => .stuck
def TyTab (t : String) : Prop := ∀ n ∈ tyNames, kitB n t = some (tyIs n t)
theorem je_isi {t : String} {x : Str} {p p2 : Pos} (ht : TyTab t) (hg : Gl X "isinstance") (hm : X.mg "isinstance" = none) (hgx : Gl X x) (hmx : X.mg x = none) (hvx : bootBuiltins x = some (.type t)) (ja : JE X W a fa) (hnx : x ≠ "__name__" := by decide) (hdx : (x == ("__debug__" : Str)) = false := by decide)
    (he : starEach (a :: [Expr.Name x p2]) X.env = (false, eval a X.env) :: starEach [Expr.Name x p2] X.env := by rfl) (hpl : (backTo pos (starEach [Expr.Name x p2] X.env)).any (·.1) = false := by rfl) : JE X W (.Call (.Name "isinstance" p) [a, .Name x p2] [] pos) (d1 (isiV [t]) fa) := ⟨fun {G S H ρ m env σ Q} M E h => by
  refine we_of (pe_callB call_isi hg hm (by decide +kernel) (pa_cons pe_we (pa_cons (pe_bltn (v := .ty t) hgx hmx hvx rfl hnx hdx) pa_nil) he) (by decide) (by decide) he hpl) (ja.run M E (wpr_monoQ (wpr_bnd h) fun v m1 hv => ?_))
  intro S1 H1 ρ1 xv e1 M1 rx
  unfold isiV at hv
  split at hv
  · rename_i n hn
    obtain ⟨ty, mem⟩ := tyName_ok M1 rx hn
    refine ⟨xv, .ty t, .type n, .type t, tyIs n t, rfl, .ty t, ty, kit_ty (ht n mem), ?_⟩
    have q := hv S1 H1 ρ1 _ e1 M1 (.bl _)
    simpa using q
  · exact hv.elim⟩
theorem je_isi2 {t u : String} {x y : Str} {k : Nat} {p p2 p3 p4 : Pos} (ht : TyTab t) (hu : TyTab u) (hg : Gl X "isinstance") (hm : X.mg "isinstance" = none) (hgx : Gl X x) (hmx : X.mg x = none) (hvx : bootBuiltins x = some (.type t)) (hgy : Gl X y) (hmy : X.mg y = none) (hvy : bootBuiltins y = some (.type u)) (ja : JE X W a fa)
    (hnx : x ≠ "__name__" := by decide) (hdx : (x == ("__debug__" : Str)) = false := by decide) (hny : y ≠ "__name__" := by decide) (hdy : (y == ("__debug__" : Str)) = false := by decide)
    (he : starEach (a :: [Expr.Tuple [.Name x p2, .Name y p3] k p4]) X.env = (false, eval a X.env) :: starEach [Expr.Tuple [.Name x p2, .Name y p3] k p4] X.env := by rfl) (hpl : (backTo pos (starEach [Expr.Tuple [.Name x p2, .Name y p3] k p4] X.env)).any (·.1) = false := by rfl) :
    JE X W (.Call (.Name "isinstance" p) [a, .Tuple [.Name x p2, .Name y p3] k p4] [] pos) (d1 (isiV [t, u]) fa) := ⟨fun {G S H ρ m env σ Q} M E h => by
  refine we_of (pe_callB call_isiT hg hm (by decide +kernel) (pa_cons pe_we (pa_cons (pe_tup (pa_cons (pe_bltn (v := .ty t) hgx hmx hvx rfl hnx hdx) (pa_cons (pe_bltn (v := .ty u) hgy hmy hvy rfl hny hdy) pa_nil))) pa_nil) he) (by decide) (by decide) he hpl) (ja.run M E (wpr_monoQ (wpr_bnd h) fun v m1 hv => ?_))
  intro S1 H1 ρ1 xv e1 M1 rx
  refine ⟨by show 2 ≤ sizeLine; decide, fun tp htp => ?_⟩
  obtain ⟨s2, M2⟩ := M1.grow htp (.tup [.ty t, .ty u])
  unfold isiV at hv
  split at hv
  · rename_i n hn
    obtain ⟨ty, mem⟩ := tyName_ok M2 (rx.mono ⟨s2, fun _ _ z => z⟩) hn
    refine ⟨xv, tp, [.ty t, .ty u], .type n, [.type t, .type u], tyIs n t || tyIs n u, rfl, upd_same, .cons (.ty t) (.cons (.ty u) .nil), ty, kitAny_cons (kit_ty (ht n mem)) (fun h1 => ?_) (fun h1 => by rw [h1]; rfl), ?_⟩
    · rw [h1, Bool.false_or]
      exact kitAny_cons (kit_ty (hu n mem)) (fun h2 => by rw [h2]; exact kitAny_nil) fun h2 => h2
    · have q := hv (upd S1 tp (.tup [.ty t, .ty u])) _ ρ1 _ (e1.trans ⟨s2, fun _ _ z => z⟩) M2 (.bl _)
      simpa using q
  · exact hv.elim⟩
end
theorem tab_int : TyTab "int" := by unfold TyTab tyNames; decide +kernel
theorem tab_bool : TyTab "bool" := by unfold TyTab tyNames; decide +kernel
theorem tab_tuple : TyTab "tuple" := by unfold TyTab tyNames; decide +kernel
theorem tab_list : TyTab "list" := by unfold TyTab tyNames; decide +kernel
theorem tab_str : TyTab "str" := by unfold TyTab tyNames; decide +kernel
end PL

/-! PL4: targets, walks, statements, comprehensions, defs and their calls. -/
namespace PL
open PySem PySem.Spec PyProof.Rows L2

/-! ### targets -/
structure Sm (ts : List Nat) (σ σ' : St) : Prop where
  len : σ'.length = σ.length
  out : ∀ j, j ∉ ts → σ'[j]? = σ[j]?
theorem Sm.refl (ts : List Nat) (σ : St) : Sm ts σ σ := ⟨rfl, fun _ _ => rfl⟩
theorem Sm.trans {ts us : List Nat} {σ σ1 σ2 : St} (a : Sm ts σ σ1) (b : Sm us σ1 σ2) : Sm (ts ++ us) σ σ2 :=
  ⟨b.len.trans a.len, fun j h => (b.out j fun z => h (List.mem_append_right _ z)).trans (a.out j fun z => h (List.mem_append_left _ z))⟩
theorem wipe_in {σ : St} {i : Nat} : ∀ {vs : List Nat}, i ∈ vs → i < σ.length → (wipe σ vs)[i]? = some none
  | [], h, _ => by cases h
  | v :: vs, h, hl => by
    unfold wipe
    by_cases e : v = i
    · subst e
      exact List.getElem?_set_self (by rw [wipe_length]; exact hl)
    · rw [List.getElem?_set_ne e]
      exact wipe_in ((List.mem_cons.mp h).resolve_left fun z => e z.symm) hl
theorem Sm.wipe {ts vs : List Nat} {σ σ' : St} (h : Sm ts σ σ') (sub : ∀ t ∈ ts, t ∈ vs) : wipe σ' vs = wipe σ vs := by
  apply List.ext_getElem?
  intro i
  by_cases hi : i ∈ vs
  · by_cases hl : i < σ.length
    · rw [wipe_in hi hl, wipe_in hi (by rw [h.len]; exact hl)]
    · rw [List.getElem?_eq_none (by rw [wipe_length, h.len]; omega), List.getElem?_eq_none (by rw [wipe_length]; omega)]
  · rw [wipe_out hi, wipe_out hi]
    exact h.out i fun z => hi (sub i z)
def wipeE (env : En) : List Nat → En
  | [] => env
  | v :: vs => (wipeE env vs).set v none
theorem ER.wipe {Γ : Gd} {S : Hp} {ρ : List Addr} {env : En} {σ : St} (h : ER Γ S ρ env σ) : ∀ vs : List Nat, ER Γ S ρ (wipeE env vs) (wipe σ vs)
  | [] => h
  | v :: vs => (ER.wipe h vs).clear v
structure JG (X : Cx) (tg : Expr) (ts : List Nat) (g : D → En → Option En) : Prop where
  run : ∀ {G S H : Hp} {ρ : List Addr} {m : Mem} {env env' : En} {σ : St} {v : V} {d : D} {Q : St → Hp → Prop}, MR (gd X) G S H ρ m → ER (gd X) S ρ env σ → Rp (gd X) S v d → g d env = some env' →
    (∀ σ', ER (gd X) S ρ env' σ' → Sm ts σ σ' → Q σ' H) → WG X tg v σ H Q
structure JGs (X : Cx) (es : List Expr) (ts : List Nat) (g : List D → En → Option En) : Prop where
  run : ∀ {G S H : Hp} {ρ : List Addr} {m : Mem} {env env' : En} {σ : St} {vs : List V} {ds : List D} {Q : St → Hp → Prop}, MR (gd X) G S H ρ m → ER (gd X) S ρ env σ → RpAll (gd X) S vs ds → g ds env = some env' →
    (∀ σ', ER (gd X) S ρ env' σ' → Sm ts σ σ' → Q σ' H) →
    ∀ (pins : List (Addr × Obj)) (s : Shared) (us : List Value), Inv X pins σ H s → Vals vs us → wpAny (model X.prog X.w) X.A (assignInOrder ((assignEach es X.env).map (·.2)) us) (fun _ s' => ∃ σ' H', Inv X pins σ' H' s' ∧ Q σ' H') X.xe s
def gN (i : Nat) : D → En → Option En := fun d env => some (env.set i (some (.dat d)))
def gsN : List D → En → Option En := fun ds env => match ds with
  | [] => some env
  | _ => none
def gsC (g : D → En → Option En) (gs : List D → En → Option En) : List D → En → Option En := fun ds env => match ds with
  | d :: r => (match g d env with | some env' => gs r env' | none => none)
  | [] => none
def gT (n : Nat) (gs : List D → En → Option En) : D → En → Option En := fun d env => match d with
  | .tup xs => if xs.length = n then gs xs env else none
  | _ => none
section
variable {X : Cx} {W : WX} {pos : Pos}
theorem jg_name {i : Nat} {x : Str} (hN : X.N.Nodup) (hi : X.N[i]? = some x := by rfl) (hx : Loc X.env.scope x := by first | exact Or.inl rfl | exact Or.inr rfl) (hf : X.fn x = true ∨ X.env.scope.names.lookup x = some .local := by first | exact .inl rfl | exact .inr rfl | assumption) : JG X (.Name x pos) [i] (gN i) :=
  ⟨fun {G S H ρ m env env' σ v d Q} M E r hg h => by
    cases hg
    refine wg_of (pg_name hN hi hx hf) (h _ (E.set i (v := .dat d) r) ⟨List.length_set, fun j hj => ?_⟩)
    rw [List.getElem?_set_ne (fun z => hj (by simp [z]))]⟩
theorem jgs_nil : JGs X [] [] gsN := ⟨fun {G S H ρ m env env' σ vs ds Q} M E r hg h pins s us I rv => by
  cases r with
  | nil =>
    cases hg
    cases rv
    exact assignInOrder_nil ⟨σ, H, I, h σ E (Sm.refl _ _)⟩
  | cons _ _ => cases hg⟩
theorem jgs_cons {e : Expr} {es : List Expr} {ts us : List Nat} {g : D → En → Option En} {gs : List D → En → Option En} (j1 : JG X e ts g) (j2 : JGs X es us gs) (hs : (assignEach (e :: es) X.env).map (·.2) = assign e X.env :: (assignEach es X.env).map (·.2) := by rfl) : JGs X (e :: es) (ts ++ us) (gsC g gs) :=
  ⟨fun {G S H ρ m env env' σ vs ds Q} M E r hg h pins s uv I rv => by
    cases r with
    | nil => cases hg
    | cons r1 r2 =>
      unfold gsC at hg
      simp only at hg
      split at hg
      · rename_i env1 h1
        cases rv with
        | cons q1 q2 =>
          rw [hs]
          refine assignInOrder_cons (thn (j1.run (Q := fun σ1 H1 => H1 = H ∧ ER (gd X) S ρ env1 σ1 ∧ Sm ts σ σ1) M E r1 h1 (fun σ' e' s' => ⟨rfl, e', s'⟩) pins s _ I q1) fun _ s1 ⟨σ1, H1, I1, e1, er1, sm1⟩ => ?_)
          subst e1
          exact j2.run M er1 r2 hg (fun σ' e' s' => h σ' e' (sm1.trans s')) pins s1 _ I1 q2
      · cases hg⟩
theorem jg_tup {es : List Expr} {k : Nat} {ts : List Nat} {n : Nat} {gs : List D → En → Option En} (hc : X.calm = true) (j : JGs X es ts gs) (hn : (assignEach es X.env).length = n := by rfl) (hst : (assignEach es X.env).findIdx? (·.1) = none := by rfl) : JG X (.Tuple es k pos) ts (gT n gs) :=
  ⟨fun {G S H ρ m env env' σ v d Q} M E r hg h => by
    unfold gT at hg
    split at hg
    · split at hg
      · rename_i xs hl
        cases r with
        | tup hq hr =>
          refine wg_of (pg_tup (n := n) (t := fun vs σ H Q => ∀ (pins : List (Addr × Obj)) (s : Shared) (us : List Value), Inv X pins σ H s → Vals vs us → wpAny (model X.prog X.w) X.A (assignInOrder ((assignEach es X.env).map (·.2)) us) (fun _ s' => ∃ σ' H', Inv X pins σ' H' s' ∧ Q σ' H') X.xe s) hc ⟨fun pins s σ H vs us Q I rv q => q pins s us I rv⟩ hn hst) ⟨_, _, rfl, Same.seqT M.sub hq, by rw [hr.length]; exact hl, ?_⟩
          exact j.run M E hr hg h
      · cases hg
    · cases hg⟩
end

/-! ### what is walked -/
def ItS (Γ : Gd) (S0 : Hp) (J : It) (items : List D) : Prop := ∀ (i : Nat) {G S H : Hp} {ρ : List Addr} {m : Mem}, Same S0 S → MR Γ G S H ρ m →
  (items.length = i → J.stop i H) ∧ (∀ d, items[i]? = some d → J.go i H ∧ ∀ x H', J.yld i H x H' → ∃ S', Ext S ρ S' ρ ∧ MR Γ G S' H' ρ m ∧ Rp Γ S' x d)
theorem rpAll_ge {Γ : Gd} {S : Hp} {vs : List V} {ds : List D} (r : RpAll Γ S vs ds) {i : Nat} (h : ds.length ≤ i) : vs.length ≤ i := by rw [r.length]; exact h
theorem itS_list {Γ : Gd} {S0 : Hp} {a : Addr} {vs : List V} {ds : List D} (h : SqL Γ.K S0 a vs) (r : RpAll Γ S0 vs ds) : ItS Γ S0 (Itl Γ.K a) ds := fun i {G S H ρ m} s M => by
  have hl : SqL Γ.K H a vs := M.sub.seq (s.seq h)
  refine ⟨fun hi => ⟨vs, hl, rpAll_ge r (Nat.le_of_eq hi)⟩, fun d hd => ?_⟩
  obtain ⟨v, hv, rv⟩ := r.get hd
  refine ⟨⟨vs, v, hl, hv⟩, fun x H' y => ?_⟩
  obtain ⟨e, y⟩ := y
  subst e
  have e2 := y vs hl
  rw [hv] at e2
  cases e2
  exact ⟨S, Ext.refl _ _, M, rv.mono s⟩
theorem itS_tup {Γ : Gd} {S0 : Hp} {a : Addr} {vs : List V} {ds : List D} (h : SqT Γ.K S0 a vs) (r : RpAll Γ S0 vs ds) : ItS Γ S0 (Itt Γ.K a) ds := fun i {G S H ρ m} s M => by
  have hl : SqT Γ.K H a vs := Same.seqT M.sub (Same.seqT s h)
  refine ⟨fun hi => ⟨vs, hl, rpAll_ge r (Nat.le_of_eq hi)⟩, fun d hd => ?_⟩
  obtain ⟨v, hv, rv⟩ := r.get hd
  refine ⟨⟨vs, v, hl, hv⟩, fun x H' y => ?_⟩
  obtain ⟨e, y⟩ := y
  subst e
  have e2 := y vs hl
  rw [hv] at e2
  cases e2
  exact ⟨S, Ext.refl _ _, M, rv.mono s⟩
def rngD (lo : Int) (n : Nat) : List D := (List.range n).map fun (i : Nat) => .int (lo + (i : Int))
theorem itS_rng {Γ : Gd} {S0 : Hp} (lo : Int) (n : Nat) : ItS Γ S0 (Itr lo n) (rngD lo n) := fun i {G S H ρ m} s M => by
  refine ⟨fun hi => (by show n ≤ i; have : n = i := (by simpa [rngD] using hi); omega), fun d hd => ?_⟩
  unfold rngD at hd
  rw [List.getElem?_map] at hd
  by_cases hi : i < n
  · rw [List.getElem?_range hi] at hd
    cases hd
    refine ⟨hi, fun x H' y => ?_⟩
    obtain ⟨e, y⟩ := y
    subst e
    subst y
    exact ⟨S, Ext.refl _ _, M, .int _⟩
  · rw [List.getElem?_eq_none (by simpa using hi)] at hd
    cases hd
section
variable (X : Cx) (W : WX)
def QI (G S : Hp) (ρ : List Addr) (Rr : It → Hp → Prop) : List D → Mem → Prop := fun items m' => ∀ S' H' ρ' J, Ext S ρ S' ρ' → MR (gd X) G S' H' ρ' m' → ItS (gd X) S' J items → Rr J H'
structure JI (tg iter : Expr) (f : En → P (List D)) : Prop where
  run : ∀ {G S H : Hp} {ρ : List Addr} {m : Mem} {env : En} {σ : St} {Rr : It → Hp → Prop}, MR (gd X) G S H ρ m → ER (gd X) S ρ env σ → wpr (f env m) (QI X G S ρ Rr) (QX X W G S ρ σ) → WI X tg iter σ H Rr
end
section
variable {X : Cx} {W : WX} {pos p : Pos} {tg a b : Expr} {fa fb : En → P SV}
theorem iter_list {pins : List (Addr × Obj)} {σ : St} {H : Hp} {s : Shared} {Rr : It → Hp → Prop} {q : Addr} {xs : List V} (I : Inv X pins σ H s) (h : SqL X.K H q xs) (r : Rr (Itl X.K q) H) : wpAny (model X.prog X.w) X.A (pyIter (.ref q)) (PIE X pins σ tg Rr) X.xe s := by
  obtain ⟨its, rv, p, hz⟩ := I.list h
  refine wpAny_pyIter_list p.isList ?_
  refine ⟨s.heap.objs.size, [s.heap.objs.size], _, _, H, rfl, I.kept (t' := s.toks) fun b o e => Heap.get?_push_of_some _ e, turn_list q _, ⟨_, Heap.get?_push_size _ rfl, rfl, rfl⟩, fun b hb => ?_, r⟩
  have e : b = s.heap.objs.size := by simpa using hb
  subst e
  exact I.fpOk (Nat.le_refl _) (I.hok.fresh (Nat.le_refl _))
theorem iter_tup {pins : List (Addr × Obj)} {σ : St} {H : Hp} {s : Shared} {Rr : It → Hp → Prop} {q : Addr} {xs : List V} (I : Inv X pins σ H s) (h : SqT X.K H q xs) (r : Rr (Itt X.K q) H) : wpAny (model X.prog X.w) X.A (pyIter (.ref q)) (PIE X pins σ tg Rr) X.xe s := by
  obtain ⟨its, rv, p, hz⟩ := I.tuple h
  refine wpAny_pyIter_tuple (show s.heap.IsTuple q its.toArray from p) ?_
  refine ⟨s.heap.objs.size, [s.heap.objs.size], _, _, H, rfl, I.kept (t' := s.toks) fun b o e => Heap.get?_push_of_some _ e, turn_tuple q _, ⟨_, Heap.get?_push_size _ rfl, rfl, rfl⟩, fun b hb => ?_, r⟩
  have e : b = s.heap.objs.size := by simpa using hb
  subst e
  exact I.fpOk (Nat.le_refl _) (I.hok.fresh (Nat.le_refl _))
/-- a list or a tuple that stands still -/
def itemsV (v : SV) : P (List D) := fun m => match v with
  | .dat (.lst xs) => .ok xs m
  | .dat (.tup xs) => .ok xs m
  | .dat (.scr ns) => .ok (ns.map D.int) m
  | _ => .stuck
def dIt (f : En → P SV) : En → P (List D) := fun env => (f env).bnd itemsV
theorem rpAll_ints {Γ : Gd} {S : Hp} : ∀ ns : List Int, RpAll Γ S (ns.map V.int) (ns.map D.int)
  | [] => .nil
  | n :: r => .cons (.int n) (rpAll_ints r)
theorem ji_seq (ja : JE X W a fa) : JI X W tg a (dIt fa) := ⟨fun {G S H ρ m env σ Rr} M E h pins s I => by
  refine thn (ja.run (Q := fun x H1 => (∃ q xs, x = .ref q ∧ SqL X.K H1 q xs ∧ Rr (Itl X.K q) H1) ∨ (∃ q xs, x = .ref q ∧ SqT X.K H1 q xs ∧ Rr (Itt X.K q) H1)) M E (wpr_monoQ (wpr_bnd h) fun x m1 hx => ?_) pins s I) fun v s1 ⟨x, H1, I1, r1, q1⟩ => ?_
  · intro S1 H1 ρ1 xv e1 M1 rx
    unfold itemsV at hx
    split at hx
    · cases rx with
      | lst q z => exact .inl ⟨_, _, rfl, .inl (.inl (M1.sub _ _ q)), hx S1 H1 ρ1 _ e1 M1 (itS_list (.inl (.inl q)) z)⟩
    · cases rx with
      | tup q z => exact .inr ⟨_, _, rfl, Same.seqT M1.sub q, hx S1 H1 ρ1 _ e1 M1 (itS_tup q z)⟩
    · cases rx with
      | scr q => exact .inl ⟨_, _, rfl, M1.sub.seq q, hx S1 H1 ρ1 _ e1 M1 (itS_list q (rpAll_ints _))⟩
    · exact hx.elim
  · rcases q1 with ⟨q, xs, rfl, h1, h2⟩ | ⟨q, xs, rfl, h1, h2⟩
    · cases r1
      exact iter_list I1 h1 h2
    · cases r1
      exact iter_tup I1 h1 h2⟩
/-- range(n), range(a, b) -/
def rng1V (xs : List SV) : P (List D) := fun m => match xs with
  | [.dat (.int j)] => if -(2 ^ 62) ≤ j ∧ j < 2 ^ 62 then .ok (rngD 0 j.toNat) m else .stuck
  | _ => .stuck
def rng2V (xs : List SV) : P (List D) := fun m => match xs with
  | [.dat (.int i), .dat (.int j)] => if -(2 ^ 62) ≤ i ∧ i < 2 ^ 62 ∧ -(2 ^ 62) ≤ j ∧ j < 2 ^ 62 then .ok (rngD i (j - i).toNat) m else .stuck
  | _ => .stuck
def dAI (g : List SV → P (List D)) (fs : En → P (List SV)) : En → P (List D) := fun env => (fs env).bnd g
variable {fs : En → P (List SV)}
theorem ji_rng1 (hg : Gl X "range") (hm : X.mg "range" = none) (ja : JA X W [a] fs) (hs : starEach [a] X.env = [(false, eval a X.env)] := by rfl) : JI X W tg (.Call (.Name "range" p) [a] [] pos) (dAI rng1V fs) := ⟨fun {G S H ρ m env σ Rr} M E h => by
  refine wi_of (pi_range1 hg hm pa_wa hs) (ja.run M E (wpr_monoQ (wpr_bnd h) fun xs m1 hx => ?_))
  intro S1 H1 ρ1 xv e1 M1 rx
  unfold rng1V at hx
  split at hx
  · rename_i j
    obtain ⟨v, rfl, r⟩ := paired1 rx
    cases r
    split at hx
    · rename_i hb
      exact ⟨j, rfl, hb.1, hb.2, hx S1 H1 ρ1 _ e1 M1 (itS_rng 0 _)⟩
    · exact hx.elim
  · exact hx.elim⟩
theorem ji_rng2 (hg : Gl X "range") (hm : X.mg "range" = none) (ja : JA X W [a, b] fs) (hs : starEach [a, b] X.env = [(false, eval a X.env), (false, eval b X.env)] := by rfl) (hs2 : starEach [b] X.env = [(false, eval b X.env)] := by rfl) : JI X W tg (.Call (.Name "range" p) [a, b] [] pos) (dAI rng2V fs) := ⟨fun {G S H ρ m env σ Rr} M E h => by
  refine wi_of (pi_range2 hg hm pa_wa hs hs2) (ja.run M E (wpr_monoQ (wpr_bnd h) fun xs m1 hx => ?_))
  intro S1 H1 ρ1 xv e1 M1 rx
  unfold rng2V at hx
  split at hx
  · rename_i i j
    obtain ⟨v, w', rfl, r, r'⟩ := paired2 rx
    cases r
    cases r'
    split at hx
    · rename_i hb
      exact ⟨i, j, rfl, hb, hx S1 H1 ρ1 _ e1 M1 (itS_rng i _)⟩
    · exact hx.elim
  · exact hx.elim⟩

/-! ### statements -/
variable {st : Stmt} {sts : List Stmt} {f g : DS} {t : En → P Bool} {e : Expr} {es : List Expr}
def dNx : DS := fun env => P.ret (.nx env)
def dSeq (f g : DS) : DS := fun env => (f env).bnd fun o => match o with
  | .nx env' => g env'
  | o => P.ret o
theorem jb_nil : JB X W [] dNx := ⟨fun {G S H ρ m env σ D} M E h => wss_of pss_nil (h S H ρ σ (Ext.refl _ _) M E)⟩
theorem jb_one (j : JS X W st f) : JB X W [st] f := ⟨fun {G S H ρ m env σ D} M E h => wss_of (pss_one ps_ws) (j.run M E h)⟩
theorem jb_cons (j1 : JS X W st f) (j2 : JB X W sts g) : JB X W (st :: sts) (dSeq f g) := ⟨fun {G S H ρ m env σ D} M E h => by
  refine wss_of (pss_cons ps_ws pss_wss) (j1.run M E (wpr_monoQ (wpr_bnd h) fun o m1 ho => ?_))
  cases o with
  | nx env' =>
    intro S1 H1 ρ1 σ1 e1 M1 E1
    exact j2.run M1 E1 (wpr_mono ho (fun _ _ z => qs_ext e1 z) fun _ _ z => qxs_ext e1 z)
  | rt v => exact ho
  | bk env' => exact ho
  | ct env' => exact ho⟩
theorem js_pass : JS X W (.Pass pos) dNx := ⟨fun {G S H ρ m env σ D} M E h => ws_of ps_pass (h S H ρ σ (Ext.refl _ _) M E)⟩
def dBk : DS := fun env => P.ret (.bk env)
def dCt : DS := fun env => P.ret (.ct env)
def dNever : DS := fun _ => P.stk
theorem js_break : JS X W (.Break pos) dBk := ⟨fun {G S H ρ m env σ D} M E h => ws_of ps_break (h S H ρ σ (Ext.refl _ _) M E)⟩
theorem js_continue : JS X W (.Continue pos) dCt := ⟨fun {G S H ρ m env σ D} M E h => ws_of ps_continue (h S H ρ σ (Ext.refl _ _) M E)⟩
theorem js_never : JS X W st dNever := ⟨fun {G S H ρ m env σ D} M E h => h.elim⟩
def dRet (fa : En → P SV) : DS := fun env => (fa env).bnd fun v => P.ret (.rt v)
theorem js_ret (ja : JE X W a fa) : JS X W (.Return (some a) pos) (dRet fa) := ⟨fun {G S H ρ m env σ D} M E h => by
  refine ws_of (ps_ret pe_we) (ja.run M E (wpr_mono (wpr_bnd h) (fun v m1 hv => ?_) fun _ _ z => qx_of z))
  intro S1 H1 ρ1 xv e1 M1 rx
  exact hv S1 H1 ρ1 xv e1 M1 rx⟩
theorem js_retN : JS X W (.Return none pos) (fun _ => P.ret (.rt (.dat .non))) := ⟨fun {G S H ρ m env σ D} M E h => ws_of ps_retN (h S H ρ .non (Ext.refl _ _) M .non)⟩
def dIfS (t : En → P Bool) (f g : DS) : DS := fun env => (t env).bnd fun k => match k with
  | true => f env
  | false => g env
theorem js_if {c : Expr} {A B : List Stmt} (jc : JT X W c t) (ja : JB X W A f) (jb : JB X W B g) : JS X W (.If c A B pos) (dIfS t f g) := ⟨fun {G S H ρ m env σ D} M E h => by
  refine ws_of (ps_if pt_wt pss_wss pss_wss) (jc.run M E (wpr_mono (wpr_bnd h) (fun k m1 hk => ?_) fun _ _ z => qx_of z))
  intro S1 H1 ρ1 e1 M1
  cases k with
  | true =>
    rw [if_pos rfl]
    exact ja.run M1 (E.mono e1) (wpr_mono hk (fun _ _ z => qs_ext e1 z) fun _ _ z => qxs_ext e1 z)
  | false =>
    rw [if_neg Bool.false_ne_true]
    exact jb.run M1 (E.mono e1) (wpr_mono hk (fun _ _ z => qs_ext e1 z) fun _ _ z => qxs_ext e1 z)⟩
def dSet (i : Nat) (fa : En → P SV) : DS := fun env => (fa env).bnd fun v => P.ret (.nx (env.set i (some v)))
theorem js_set (i : Nat) {x : Str} {pos' : Pos} (hN : X.N.Nodup) (ja : JE X W a fa) (hi : X.N[i]? = some x := by rfl) (hx : Loc X.env.scope x := by first | exact Or.inl rfl | exact Or.inr rfl) (hs : swapsWith a (some (.Name x pos')) pos.line X.env = pure false := by rfl) (hf : X.fn x = true ∨ X.env.scope.names.lookup x = some .local := by first | exact .inl rfl | exact .inr rfl | assumption) :
    JS X W (.Assign [.Name x pos'] a pos) (dSet i fa) := ⟨fun {G S H ρ m env σ D} M E h => by
  refine ws_of (ps_set hN hi hx pe_we hs hf) (ja.run M E (wpr_mono (wpr_bnd h) (fun v m1 hv => ?_) fun _ _ z => qx_of z))
  intro S1 H1 ρ1 xv e1 M1 rx
  exact hv S1 H1 ρ1 _ e1 M1 ((E.mono e1).set i rx)⟩
/-- target = value -/
def dAsg (fa : En → P SV) (g : D → En → Option En) : DS := fun env => (fa env).bnd fun v m => match v with
  | .dat d => (match g d env with | some env' => .ok (.nx env') m | none => .stuck)
  | .ref _ => .stuck
theorem js_asg {ts : List Nat} {gg : D → En → Option En} (ja : JE X W a fa) (jg : JG X tg ts gg) (hs : swapsWithSole [tg] a pos.line X.env = pure false := by rfl) (hw : swappedStores [tg] a X.env = pure none := by rfl)
    (h1 : (assignEach [tg] X.env).map (·.2) = [assign tg X.env] := by rfl) : JS X W (.Assign [tg] a pos) (dAsg fa gg) := ⟨fun {G S H ρ m env σ D} M E h => by
  refine ws_of (ps_asg pe_we pg_wg hs hw h1) (ja.run M E (wpr_mono (wpr_bnd h) (fun v m1 hv => ?_) fun _ _ z => qx_of z))
  intro S1 H1 ρ1 xv e1 M1 rx
  cases v with
  | ref n => exact hv.elim
  | dat d =>
    simp only at hv
    split at hv
    · rename_i env' he
      exact jg.run M1 (E.mono e1) rx he fun σ' E' _ => hv S1 H1 ρ1 σ' e1 M1 E'
    · exact hv.elim⟩
/-- a, b = x, y -/
def dPar (i j : Nat) (fs : En → P (List SV)) : DS := fun env => (fs env).bnd fun vs m => match vs with
  | [v, w] => .ok (.nx ((env.set i (some v)).set j (some w))) m
  | _ => .stuck
theorem js_par (i j : Nat) {x y : Str} {px py pt : Pos} {kt k2 pt2} (hc : X.calm = true) (hN : X.N.Nodup) (ja : JA X W [a, b] fs)
    (hi : X.N[i]? = some x := by rfl) (hj : X.N[j]? = some y := by rfl) (hij : i ≠ j := by decide)
    (hx : X.env.scope.names.lookup x = some .local := by rfl) (hy : X.env.scope.names.lookup y = some .local := by rfl)
    (hw : swappedStores [.Tuple [.Name x px, .Name y py] kt pt] (.Tuple [a, b] k2 pt2) X.env = pure (some [x, y]) := by rfl)
    (hs : swapsWithSole [.Tuple [.Name x px, .Name y py] kt pt] (.Tuple [a, b] k2 pt2) pos.line X.env = pure false := by rfl) :
    JS X W (.Assign [.Tuple [.Name x px, .Name y py] kt pt] (.Tuple [a, b] k2 pt2) pos) (dPar i j fs) := ⟨fun {G S H ρ m env σ D} M E h => by
  refine ws_of (ps_par hc hN hi hj hij hx hy pa_wa hw hs) (ja.run M E (wpr_mono (wpr_bnd h) (fun vs m1 hv => ?_) fun _ _ z => qx_of z))
  intro S1 H1 ρ1 xv e1 M1 rx
  split at hv
  · rename_i v w'
    obtain ⟨v1, w1, rfl, r1, r2⟩ := paired2 rx
    exact ⟨v1, w1, rfl, hv S1 H1 ρ1 _ e1 M1 (((E.mono e1).set i r1).set j r2)⟩
  · exact hv.elim⟩
def dDrop (fa : En → P SV) : DS := fun env => (fa env).bnd fun _ => P.ret (.nx env)
theorem js_expr (ja : JE X W a fa) (hs : swapsWith a none pos.line X.env = pure false := by rfl) : JS X W (.Expr a pos) (dDrop fa) := ⟨fun {G S H ρ m env σ D} M E h => by
  refine ws_of (ps_expr pe_we hs) (ja.run M E (wpr_mono (wpr_bnd h) (fun v m1 hv => ?_) fun _ _ z => qx_of z))
  intro S1 H1 ρ1 xv e1 M1 rx
  exact hv S1 H1 ρ1 _ e1 M1 (E.mono e1)⟩
/-- x op= e (ints) -/
def dAug (i : Nat) (gg : SV → SV → P SV) (fa : En → P SV) : DS := fun env => (dVar i env).bnd fun v => (fa env).bnd fun y => (gg v y).bnd fun z => P.ret (.nx (env.set i (some z)))
def intAdd (x y : SV) : P SV := fun m => intOp (fun i j => .ok (.dat (.int (i + j))) m) x y
theorem js_augI (i : Nat) {x : Str} {op : Operator} {pos' : Pos} {C : Int → Int → Prop} {gi : Int → Int → Int} {gg : SV → SV → P SV} (hN : X.N.Nodup) (ho : OpR X (inplaceOp op) (rI C fun i j => .int (gi i j)))
    (hgg : ∀ (u y : SV) (m : Mem) (Q : SV → Mem → Prop) (E : Exc → Mem → Prop), wpr (gg u y m) Q E → ∃ i j, u = .dat (.int i) ∧ y = .dat (.int j) ∧ C i j ∧ Q (.dat (.int (gi i j))) m) (ja : JE X W a fa)
    (hi : X.N[i]? = some x := by rfl) (hx : Loc X.env.scope x := by first | exact Or.inl rfl | exact Or.inr rfl) (hf : X.fn x = true ∨ X.env.scope.names.lookup x = some .local := by first | exact .inl rfl | exact .inr rfl | assumption) :
    JS X W (.AugAssign (.Name x pos') op a pos) (dAug i gg fa) := ⟨fun {G S H ρ m env σ D} M E h => by
  have h := wpr_bnd h
  unfold dVar at h
  split at h
  · rename_i v hv
    obtain ⟨vv, h1, h2⟩ := E.at_ i v hv
    refine ws_of (ps_aug hN hi hx pe_we ho hf) ⟨vv, h1, ja.run M E (wpr_mono (wpr_bnd h) (fun y m1 hy => ?_) fun _ _ z => qx_of z)⟩
    intro S1 H1 ρ1 yv e1 M1 ry
    obtain ⟨i1, j1, rfl, rfl, hc, hq⟩ := hgg _ _ _ _ _ (wpr_bnd hy)
    cases h2
    cases ry
    exact ⟨i1, j1, rfl, rfl, hc, hq S1 H1 ρ1 _ e1 M1 ((E.mono e1).set i (v := .dat (.int _)) (.int _))⟩
  · exact h.elim⟩
theorem iop_add' : OpR X (inplaceOp .Add) (rI (fun _ _ => True) fun i j => .int (i + j)) := fun pins s σ H x y v u Q I rx ry ⟨i, j, h1, h2, _, q⟩ => iop_add pins s σ H x y v u Q I rx ry ⟨i, j, h1, h2, q⟩
theorem iop_sub' : OpR X (inplaceOp .Sub) (rI (fun _ _ => True) fun i j => .int (i - j)) := fun pins s σ H x y v u Q I rx ry ⟨i, j, h1, h2, _, q⟩ => iop_sub pins s σ H x y v u Q I rx ry ⟨i, j, h1, h2, q⟩
theorem js_augAdd (i : Nat) {x : Str} {pos' : Pos} (hN : X.N.Nodup) (ja : JE X W a fa) (hi : X.N[i]? = some x := by rfl) (hx : Loc X.env.scope x := by first | exact Or.inl rfl | exact Or.inr rfl) (hf : X.fn x = true ∨ X.env.scope.names.lookup x = some .local := by first | exact .inl rfl | exact .inr rfl | assumption) :
    JS X W (.AugAssign (.Name x pos') .Add a pos) (dAug i intAdd fa) := js_augI i hN iop_add' (fun u y m Q E h => by
  unfold intAdd intOp at h
  split at h
  · exact ⟨_, _, rfl, rfl, trivial, h⟩
  · exact h.elim) ja hi hx hf
theorem js_augSub (i : Nat) {x : Str} {pos' : Pos} (hN : X.N.Nodup) (ja : JE X W a fa) (hi : X.N[i]? = some x := by rfl) (hx : Loc X.env.scope x := by first | exact Or.inl rfl | exact Or.inr rfl) (hf : X.fn x = true ∨ X.env.scope.names.lookup x = some .local := by first | exact .inl rfl | exact .inr rfl | assumption) :
    JS X W (.AugAssign (.Name x pos') .Sub a pos) (dAug i subV fa) := js_augI i hN iop_sub' (fun u y m Q E h => by
  unfold subV intOp at h
  split at h
  · exact ⟨_, _, rfl, rfl, trivial, h⟩
  · exact h.elim) ja hi hx hf
/-- x.append(e) of an own list -/
def dApp (fa fb : En → P SV) : DS := fun env => (fa env).bnd fun x m => match rdL x m with
  | some _ => ((fb env).bnd fun y m1 => match x, y with
    | .ref n, .dat d => (match m1[n]? with
      | some (.lst xs) => if xs.length < 16777216 then .ok (.nx env) (m1.set n (.lst (xs ++ [d]))) else .stuck
      | _ => .stuck)
    | _, _ => .stuck) m
  | none => .stuck
theorem js_append {apos cpos : Pos} (ja : JE X W a fa) (jb : JE X W b fb) (hbase : attributeBase a "append" X.env (eval a X.env) = eval a X.env := by rfl)
    (hfew : ((backTo cpos (starEach [b] X.env)).all (fun x => !x.1) && (backToKw cpos (keywordEach [] X.env)).all (fun x => x.1.isSome)
      && decide ([b].length + ([] : List Keyword).length + (if ([] : List Keyword).isEmpty then 0 else 1) < 30)) = true := by rfl)
    (hline : (apos.endLine == cpos.line) = true := by rfl) (hs1 : starEach [b] X.env = (false, eval b X.env) :: starEach [] X.env := by rfl) (hplain : (backTo cpos (starEach [] X.env)).any (·.1) = false := by rfl)
    (hs : swapsWith (.Call (.Attribute a "append" apos) [b] [] cpos) none pos.line X.env = pure false := by rfl) : JS X W (.Expr (.Call (.Attribute a "append" apos) [b] [] cpos) pos) (dApp fa fb) := ⟨fun {G S H ρ m env σ D} M E h => by
  refine ws_of (ps_expr (pe_bm PySem.F.plainAttrs_list PySem.F.slot_list_append PySem.F.type_list_append mt_append pe_we (pa_cons pe_we pa_nil hs1) hbase hfew hline hs1 hplain) hs) (ja.run M E (wpr_mono (wpr_bnd h) (fun x m1 hx => ?_) fun _ _ z => qx_of z))
  intro S1 H1 ρ1 xv e1 M1 rx
  split at hx
  · rename_i ys hys
    obtain ⟨p, vs, rfl, g1, _⟩ := rdL_ok M1 rx hys
    refine ⟨.inl ⟨rfl, vs, .inl (.inl g1)⟩, jb.run M1 (E.mono e1) (wpr_mono (wpr_bnd hx) (fun y m2 hy => ?_) fun _ _ z => qx_ext e1 (qx_of z))⟩
    intro S2 H2 ρ2 yv e2 M2 ry
    split at hy
    · rename_i n d
      split at hy
      · rename_i xs hxs
        split at hy
        · rename_i hl
          obtain ⟨q, ws, k1, k2, k3, k4, k5⟩ := M2.cell n xs hxs
          obtain ⟨p', z1, z2⟩ := rx
          cases z2
          have e3 := e2.r n _ z1
          rw [k1] at e3
          cases e3
          refine ⟨p, ws, yv, rfl, rfl, k2, by rw [k3.length, sizeLine_eq]; exact hl, ?_⟩
          exact hy S2 _ ρ2 σ (e1.trans e2) (M2.write hxs k1 (k3.append (.cons ry .nil))) ((E.mono e1).mono e2)
        · exact hy.elim
      · exact hy.elim
    · exact hy.elim
  · exact hx.elim⟩
/-- o[i] = e of an own list -/
def dSetIx (fo fi fv : En → P SV) : DS := fun env => (fv env).bnd fun v => (fo env).bnd fun o => (fi env).bnd fun i m => match o, i, v with
  | .ref n, .dat (.int k), .dat d => (match m[n]? with
    | some (.lst xs) => (match ixN xs.length k with
      | some j => .ok (.nx env) (m.set n (.lst (xs.set j d)))
      | none => .stuck)
    | _ => .stuck)
  | _, _, _ => .stuck
theorem js_setIx {o i : Expr} {fo fi fv : En → P SV} {pos' : Pos} (jo : JE X W o fo) (ji : JE X W i fi) (jv : JE X W e fv) (ha : ∀ v, assign (.Subscript o i pos') X.env v = (do
      let ov ← holding [v] (eval o X.env)
      let iv ← holding [v, ov] (eval i X.env)
      standAt pos'
      holding [v, ov, iv] (setItem ov iv v)
      release [v, ov, iv] []) := by intro _; rfl) (hs : swapsWithSole [.Subscript o i pos'] e pos.line X.env = pure false := by rfl) (hw : swappedStores [.Subscript o i pos'] e X.env = pure none := by rfl)
    (h1 : (assignEach [.Subscript o i pos'] X.env).map (·.2) = [assign (.Subscript o i pos') X.env] := by rfl) : JS X W (.Assign [.Subscript o i pos'] e pos) (dSetIx fo fi fv) := ⟨fun {G S H ρ m env σ D} M E h => by
  refine ws_of (ps_asg pe_we (pg_sub pe_we pe_we set_list ha) hs hw h1) (jv.run M E (wpr_mono (wpr_bnd h) (fun v m1 hv => ?_) fun _ _ z => qx_of z))
  intro S1 H1 ρ1 vv e1 M1 rv
  refine jo.run M1 (E.mono e1) (wpr_mono (wpr_bnd hv) (fun ov m2 ho => ?_) fun _ _ z => qx_ext e1 (qx_of z))
  intro S2 H2 ρ2 ovv e2 M2 ro
  refine ji.run M2 ((E.mono e1).mono e2) (wpr_mono (wpr_bnd ho) (fun iv m3 hi => ?_) fun _ _ z => qx_ext (e1.trans e2) (qx_of z))
  intro S3 H3 ρ3 ivv e3 M3 ri
  split at hi
  · rename_i n k d
    split at hi
    · rename_i xs hxs
      split at hi
      · rename_i j hj
        obtain ⟨q, ws, k1, k2, k3, k4, k5⟩ := M3.cell n xs hxs
        obtain ⟨p', z1, rfl⟩ := ro
        have e4 := e3.r n _ z1
        rw [k1] at e4
        cases e4
        cases ri
        refine ⟨q, ws, k, j, rfl, rfl, k2, by rw [k3.length]; exact hj, ?_⟩
        exact hi S3 _ ρ3 σ ((e1.trans e2).trans e3) (M3.write hxs k1 (RpAll.set (rv.mono (e2.trans e3)) j k3)) (((E.mono e1).mono e2).mono e3)
      · exact hi.elim
    · exact hi.elim
  · exact hi.elim⟩

/-! ### for -/
def loopF (g : D → En → Option En) (body : DS) : List D → En → P Out
  | [], env => P.ret (.nx env)
  | d :: r, env => fun m => match g d env with
    | none => .stuck
    | some env1 => ((body env1).bnd fun o => match o with
      | .nx e => loopF g body r e
      | .ct e => loopF g body r e
      | .bk e => P.ret (.nx e)
      | .rt v => P.ret (.rt v)) m
def dFor (fi : En → P (List D)) (g : D → En → Option En) (body : DS) : DS := fun env => (fi env).bnd fun items => loopF g body items env
theorem js_for {iter : Expr} {body : List Stmt} {ts : List Nat} {gg : D → En → Option En} {fi : En → P (List D)} (hp : PassesOwn (model X.prog X.w) X.A X.env X.xe) (hc : X.calm = true) (ji : JI X W tg iter fi) (jg : JG X tg ts gg) (jb : JB X W body f)
    (hs : ∀ x, foldedSetIterable iter X.env x = pure x := by intro _; rfl) : JS X W (.For tg iter body [] pos) (dFor fi gg f) := ⟨fun {G S H ρ m env σ D} M E h => by
  refine ws_of (ps_for hp hc pi_wi pg_wg pss_wss hs) (ji.run M E (wpr_mono (wpr_bnd h) (fun items m1 hi => ?_) fun _ _ z => qx_of z))
  intro S1 H1 ρ1 J e1 M1 its
  refine ⟨fun i k σ' H' => ∃ S' ρ' m' env', Ext S1 ρ1 S' ρ' ∧ MR (gd X) G S' H' ρ' m' ∧ ER (gd X) S' ρ' env' σ' ∧ i + k = items.length ∧ wpr (loopF gg f (items.drop i) env' m') (QS X G S ρ D) (QXs X W G S ρ),
    ⟨items.length, S1, ρ1, m1, env, Ext.refl _ _, M1, E.mono e1, Nat.zero_add _, by rw [List.drop_zero]; exact hi⟩, ?_⟩
  rintro i k σ' H' ⟨S', ρ', m', env', x1, x2, x3, x4, x5⟩
  obtain ⟨t1, t2⟩ := its i x1.s x2
  cases hd : items[i]? with
  | none =>
    have hge : items.length ≤ i := List.getElem?_eq_none_iff.mp hd
    rw [List.drop_of_length_le hge] at x5
    exact .inl ⟨t1 (by omega), x5 S' H' ρ' σ' (e1.trans x1) x2 x3⟩
  | some d =>
    obtain ⟨go, yl⟩ := t2 d hd
    obtain ⟨hlt, hdd⟩ := List.getElem?_eq_some_iff.mp hd
    rw [List.drop_eq_getElem_cons hlt, hdd] at x5
    refine .inr ⟨go, fun σ2 H2 => ∃ S2 ρ2 m2 env2, Ext S1 ρ1 S2 ρ2 ∧ MR (gd X) G S2 H2 ρ2 m2 ∧ ER (gd X) S2 ρ2 env2 σ2 ∧ wpr (loopF gg f (items.drop (i + 1)) env2 m2) (QS X G S ρ D) (QXs X W G S ρ), fun σ2 H2 hN => ?_, fun x H2 hy => ?_⟩
    · obtain ⟨S2, ρ2, m2, env2, y1, y2, y3, y4⟩ := hN
      exact ⟨k - 1, by omega, S2, ρ2, m2, env2, y1, y2, y3, by omega, y4⟩
    · obtain ⟨S2, e2, M2, rx⟩ := yl x H2 hy
      unfold loopF at x5
      split at x5
      · exact x5.elim
      · rename_i env1 hg
        refine jg.run M2 (x3.mono e2) rx hg fun σ3 E3 _ => jb.run M2 E3 ?_
        have e02 : Ext S ρ S2 ρ' := (e1.trans x1).trans e2
        refine wpr_mono (wpr_bnd x5) (fun o m3 ho => ?_) fun _ _ z => qxs_ext e02 z
        cases o with
        | nx env4 => exact fun S4 H4 ρ4 σ4 e4 M4 E4 => ⟨S4, ρ4, m3, env4, (x1.trans e2).trans e4, M4, E4, ho⟩
        | ct env4 => exact fun S4 H4 ρ4 σ4 e4 M4 E4 => ⟨S4, ρ4, m3, env4, (x1.trans e2).trans e4, M4, E4, ho⟩
        | bk env4 => exact fun S4 H4 ρ4 σ4 e4 M4 E4 => ho S4 H4 ρ4 σ4 (e02.trans e4) M4 E4
        | rt v => exact fun S4 H4 ρ4 σ4 e4 M4 E4 => ho S4 H4 ρ4 σ4 (e02.trans e4) M4 E4⟩

/-! ### while -/
def loopW (t : En → P Bool) (body : DS) : Nat → En → P Out
  | 0, _ => P.stk
  | n + 1, env => (t env).bnd fun k => match k with
    | true => (body env).bnd fun o => (match o with
      | .nx e => loopW t body n e
      | .ct e => loopW t body n e
      | .bk e => P.ret (.nx e)
      | .rt v => P.ret (.rt v))
    | false => P.ret (.nx env)
def dWhile (n : Nat) (t : En → P Bool) (body : DS) : DS := fun env => loopW t body n env
theorem js_while {c : Expr} {body : List Stmt} {n : Nat} (hp : PassesOwn (model X.prog X.w) X.A X.env X.xe) (jc : JT X W c t) (jb : JB X W body f) : JS X W (.While c body [] pos) (dWhile n t f) := ⟨fun {G S H ρ m env σ D} M E h => by
  refine ws_of (ps_while hp pt_wt pss_wss) ?_
  refine ⟨fun k σ' H' => ∃ S' ρ' m' env', Ext S ρ S' ρ' ∧ MR (gd X) G S' H' ρ' m' ∧ ER (gd X) S' ρ' env' σ' ∧ wpr (loopW t f k env' m') (QS X G S ρ D) (QXs X W G S ρ), ⟨n, S, ρ, m, env, Ext.refl _ _, M, E, h⟩, ?_⟩
  rintro k σ' H' ⟨S', ρ', m', env', x1, x2, x3, x5⟩
  cases k with
  | zero => exact x5.elim
  | succ k =>
    unfold loopW at x5
    refine jc.run x2 x3 (wpr_mono (wpr_bnd x5) (fun b m1 hb => ?_) fun _ _ z => qx_ext x1 (qx_of z))
    intro S1 H1 ρ1 e1 M1
    cases b with
    | false =>
      rw [if_neg Bool.false_ne_true]
      exact hb S1 H1 ρ1 σ' (x1.trans e1) M1 (x3.mono e1)
    | true =>
      rw [if_pos rfl]
      refine ⟨fun σ2 H2 => ∃ S2 ρ2 m2 env2, Ext S ρ S2 ρ2 ∧ MR (gd X) G S2 H2 ρ2 m2 ∧ ER (gd X) S2 ρ2 env2 σ2 ∧ wpr (loopW t f k env2 m2) (QS X G S ρ D) (QXs X W G S ρ), fun σ2 H2 hN => ⟨k, Nat.lt_succ_self k, hN⟩, ?_⟩
      refine jb.run M1 (x3.mono e1) (wpr_mono (wpr_bnd hb) (fun o m3 ho => ?_) fun _ _ z => qxs_ext (x1.trans e1) z)
      have e02 := x1.trans e1
      cases o with
      | nx env4 => exact fun S4 H4 ρ4 σ4 e4 M4 E4 => ⟨S4, ρ4, m3, env4, e02.trans e4, M4, E4, ho⟩
      | ct env4 => exact fun S4 H4 ρ4 σ4 e4 M4 E4 => ⟨S4, ρ4, m3, env4, e02.trans e4, M4, E4, ho⟩
      | bk env4 => exact fun S4 H4 ρ4 σ4 e4 M4 E4 => ho S4 H4 ρ4 σ4 (e02.trans e4) M4 E4
      | rt v => exact fun S4 H4 ρ4 σ4 e4 M4 E4 => ho S4 H4 ρ4 σ4 (e02.trans e4) M4 E4⟩
end
end PL

/-! PL5: comprehensions, list.index, defs and their calls. -/
namespace PL
open PySem PySem.Spec PyProof.Rows L2

/-! ### comprehensions -/
abbrev W0 : WX := fun _ _ _ _ => False
def dYes : En → P Bool := fun _ => P.ret true
/-- the fold of a comprehension -/
def loopC (g : D → En → Option En) (t : En → P Bool) (f : En → P SV) (env : En) : List D → List D → P (List D)
  | [], acc => P.ret acc
  | d :: r, acc => fun m => match g d env with
    | none => .stuck
    | some env1 => ((t env1).bnd fun k => match k with
      | true => (f env1).bnd fun v m1 => (match v with
        | .dat y => if acc.length < 16777216 then loopC g t f env r (acc ++ [y]) m1 else .stuck
        | .ref _ => .stuck)
      | false => loopC g t f env r acc) m
def noX {α : Type} (x : P α) : P α := fun m => match x m with
  | .ok a m' => .ok a m'
  | _ => .stuck
theorem wpr_noX {α : Type} {x : P α} {m : Mem} {Q : α → Mem → Prop} {E E' : Exc → Mem → Prop} (h : wpr (noX x m) Q E) : wpr (x m) Q E' := by
  unfold noX at h
  cases e : x m with
  | ok a m' => rw [e] at h; exact h
  | exc y m' => rw [e] at h; exact h.elim
  | stuck => rw [e] at h; exact h
def dLc (vs : List Nat) (fi : En → P (List D)) (g : D → En → Option En) (t : En → P Bool) (f : En → P SV) : En → P SV :=
  fun env => (fi env).bnd fun items => (noX (loopC g t f (wipeE env vs) items [])).bnd fun acc => P.ret (.dat (.lst acc))
/-- .. as an own list -/
def dLcO (vs : List Nat) (fi : En → P (List D)) (g : D → En → Option En) (t : En → P Bool) (f : En → P SV) : En → P SV :=
  fun env => (fi env).bnd fun items => (noX (loopC g t f (wipeE env vs) items [])).bnd fun acc m => .ok (.ref m.length) (m ++ [.lst acc])
section
variable {X : Cx} {W : WX} {pos : Pos} {tg iter elt : Expr} {ifs : List Expr} {scope : Scope} {own : List (Str × Nat)}
abbrev Bk (X : Cx) (scope : Scope) (s : Shared) (H : Hp) (C : Addr) (cl : List (Str × Addr)) (fp : List Addr) : Cx := X.blk s H scope (compEnvC scope cl C X.env) fp
def gAll (X : Cx) (scope : Scope) (tg : Expr) : TG := fun v σ H Q => ∀ (s0 : Shared) (H0 : Hp) (C : Addr) (cl : List (Str × Addr)) (fp : List Addr), WG (Bk X scope s0 H0 C cl fp) tg v σ H Q
def eAll (X : Cx) (scope : Scope) (e : Expr) : TE := fun σ H Q => ∀ (s0 : Shared) (H0 : Hp) (C : Addr) (cl : List (Str × Addr)) (fp : List Addr), WE (Bk X scope s0 H0 C cl fp) e σ H Q
def tAll (X : Cx) (scope : Scope) (e : Expr) : TT := fun σ H Q => ∀ (s0 : Shared) (H0 : Hp) (C : Addr) (cl : List (Str × Addr)) (fp : List Addr), WT (Bk X scope s0 H0 C cl fp) e σ H Q
/-- one turn's test, of a comprehension without or with one if -/
structure TestOk (X : Cx) (scope : Scope) (ifs : List Expr) (tt : TT) (t : En → P Bool) : Prop where
  pts : ∀ (s : Shared) (H : Hp) (C : Addr) (cl : List (Str × Addr)) (fp : List Addr), PTs (Bk X scope s H C cl fp) ifs tt
  run : ∀ {G S H : Hp} {ρ : List Addr} {m : Mem} {env : En} {σ : St} {Q : Bool → Hp → Prop}, MR (gd X) G S H ρ m → ER (gd X) S ρ env σ → wpr (t env m) (QB X G S ρ Q) (fun _ _ => False) → tt σ H Q
theorem test_no : TestOk X scope [] tYes dYes := ⟨fun _ _ _ _ _ => pts_nil, fun M E h => h _ _ _ (Ext.refl _ _) M⟩
theorem test_one {c : Expr} {t : En → P Bool} (j : ∀ (s : Shared) (H : Hp) (C : Addr) (cl : List (Str × Addr)) (fp : List Addr), JT (Bk X scope s H C cl fp) W0 c t) : TestOk X scope [c] (tAll X scope c) t :=
  ⟨fun s H C cl fp => pts_one ⟨fun pins s σ H Q I h => h _ _ _ _ _ pins s I⟩, fun M E h s H C cl fp => (j s H C cl fp).run M E (wpr_mono h (fun _ _ z => z) fun _ _ z => z.elim)⟩
/-- the reading of a comprehension -/
theorem lc_ok {fi : En → P (List D)} {ts : List Nat} {g : D → En → Option En} {tt : TT} {t : En → P Bool} {f : En → P SV} (ji : JI X W tg iter fi)
    (jg : ∀ (s : Shared) (H : Hp) (C : Addr) (cl : List (Str × Addr)) (fp : List Addr), JG (Bk X scope s H C cl fp) tg ts g) (hts : ∀ t ∈ ts, t ∈ own.map (·.2)) (jt : TestOk X scope ifs tt t)
    (je : ∀ (s : Shared) (H : Hp) (C : Addr) (cl : List (Str × Addr)) (fp : List Addr), JE (Bk X scope s H C cl fp) W0 elt f)
    {G S H : Hp} {ρ : List Addr} {m : Mem} {env : En} {σ : St} {Q : VK} (M : MR (gd X) G S H ρ m) (E : ER (gd X) S ρ env σ)
    (h : wpr (((fi env).bnd fun items => noX (loopC g t f (wipeE env (own.map (·.2))) items [])) m) (fun acc m' => ∀ S' H' ρ' D ws, Ext S ρ S' ρ' → MR (gd X) G S' H' ρ' m' → H' D = some (.lst ws) → RpAll (gd X) S' ws acc → S' D = none → G D = none → (∀ (i : Nat) (xs : List PL.D), m'[i]? = some (.lst xs) → ρ'[i]? ≠ some D) → Q (.ref D) H') (QX X W G S ρ σ)) :
    tLc (WI X tg iter) (gAll X scope tg) tt (eAll X scope elt) (own.map (·.2)) σ H Q := by
  refine ji.run M E (wpr_mono (wpr_bnd h) (fun items m1 hi => ?_) fun _ _ z => z)
  intro S1 H1 ρ1 J e1 M1 its D hD
  have hi := wpr_noX (E' := fun _ _ => False) hi
  have sD : S1 D = none := M1.sub.free hD
  have gD : G D = none := M1.gsub.free hD
  generalize hvs : own.map (·.2) = vs at *
  have E1 := (E.mono e1).wipe vs
  -- the state between two turns
  refine ⟨fun i k H' => ∃ S' ρ' m' acc ws, Ext S1 ρ1 S' ρ' ∧ MR (gd X) (upd G D (.lst ws)) S' H' ρ' m' ∧ RpAll (gd X) S' ws acc ∧ i + k = items.length ∧
      wpr (loopC g t f (wipeE env vs) (items.drop i) acc m') (fun acc m' => ∀ S' H' ρ' D ws, Ext S ρ S' ρ' → MR (gd X) G S' H' ρ' m' → H' D = some (.lst ws) → RpAll (gd X) S' ws acc → S' D = none → G D = none → (∀ (i : Nat) (xs : List PL.D), m'[i]? = some (.lst xs) → ρ'[i]? ≠ some D) → Q (.ref D) H') (fun _ _ => False), ⟨items.length, ?_⟩, ?_⟩
  · have M2 : MR (gd X) (upd G D (.lst [])) S1 (upd H1 D (.lst [])) ρ1 m1 := by
      have Mw : MR (gd X) G S1 (upd H1 D (.lst [])) ρ1 m1 := by
        refine ⟨fun b x q => ?_, fun b x q => ?_, M1.dis, M1.len, fun i xs q => ?_, M1.inj⟩
        · rw [upd_ne (ne_of_none q sD)]; exact M1.sub b x q
        · rw [upd_ne (ne_of_none q gD)]; exact M1.gsub b x q
        · obtain ⟨a, us, h1, h2, h3, h4, h5⟩ := M1.cell i xs q
          exact ⟨a, us, h1, by rw [upd_ne (ne_of_none h2 hD)]; exact h2, h3, h4, h5⟩
      refine Mw.guard upd_same sD fun i xs q z => ?_
      obtain ⟨a, us, h1, h2, _⟩ := M1.cell i xs q
      rw [z] at h1
      cases h1
      rw [hD] at h2
      cases h2
    exact ⟨S1, ρ1, m1, [], [], Ext.refl _ _, M2, .nil, Nat.zero_add _, by rw [List.drop_zero]; exact hi⟩
  · rintro i k H' ⟨S', ρ', m', acc, ws, x1, x2, x3, x4, x5⟩
    obtain ⟨t1, t2⟩ := its i x1.s x2
    have hDD : H' D = some (.lst ws) := x2.gsub D _ upd_same
    cases hd : items[i]? with
    | none =>
      have hge : items.length ≤ i := List.getElem?_eq_none_iff.mp hd
      rw [List.drop_of_length_le hge] at x5
      obtain ⟨u1, u2, u3⟩ := x2.unguard (G' := G) gD (.lst ws)
      have eH : upd H' D (.lst ws) = H' := by
        funext b
        by_cases e : b = D
        · subst e; rw [upd_same, hDD]
        · rw [upd_ne e]
      rw [eH] at u1
      exact .inl ⟨t1 (by omega), x5 S' H' ρ' D ws (e1.trans x1) u1 hDD x3 u2 gD u3⟩
    | some d =>
      obtain ⟨go, yl⟩ := t2 d hd
      obtain ⟨hlt, hdd⟩ := List.getElem?_eq_some_iff.mp hd
      rw [List.drop_eq_getElem_cons hlt, hdd] at x5
      refine .inr ⟨go, fun H2 => ∃ S2 ρ2 m2 acc2 ws2, Ext S1 ρ1 S2 ρ2 ∧ MR (gd X) (upd G D (.lst ws2)) S2 H2 ρ2 m2 ∧ RpAll (gd X) S2 ws2 acc2 ∧
        wpr (loopC g t f (wipeE env vs) (items.drop (i + 1)) acc2 m2) (fun acc m' => ∀ S' H' ρ' D ws, Ext S ρ S' ρ' → MR (gd X) G S' H' ρ' m' → H' D = some (.lst ws) → RpAll (gd X) S' ws acc → S' D = none → G D = none → (∀ (i : Nat) (xs : List PL.D), m'[i]? = some (.lst xs) → ρ'[i]? ≠ some D) → Q (.ref D) H') (fun _ _ => False), fun H2 hN => ?_, fun x H2 hy => ?_⟩
      · obtain ⟨S2, ρ2, m2, acc2, ws2, y1, y2, y3, y4⟩ := hN
        exact ⟨k - 1, by omega, S2, ρ2, m2, acc2, ws2, y1, y2, y3, by omega, y4⟩
      · obtain ⟨S2, e2, M2, rx⟩ := yl x H2 hy
        unfold loopC at x5
        split at x5
        · exact x5.elim
        · rename_i env1 hg
          have E2 : ER (gd X) S2 ρ' (wipeE env vs) (wipe σ vs) := (E1.mono x1).mono e2
          intro s0 H0 C cl fp
          refine (jg s0 H0 C cl fp).run M2 E2 rx hg fun σ3 E3 sm => ⟨?_, ?_⟩
          · have z := sm.wipe (vs := vs) hts
            rw [z]
            -- wiping twice is wiping once
            apply List.ext_getElem?
            intro j
            by_cases hj : j ∈ vs
            · by_cases hl : j < σ.length
              · rw [wipe_in hj (by rw [wipe_length]; exact hl), wipe_in hj hl]
              · rw [List.getElem?_eq_none (by rw [wipe_length, wipe_length]; omega), List.getElem?_eq_none (by rw [wipe_length]; omega)]
            · rw [wipe_out hj]
          · refine jt.run M2 E3 (wpr_mono (wpr_bnd x5) (fun b m3 hb => ?_) fun _ _ z => z)
            intro S3 H3 ρ3 e3 M3
            cases b with
            | false =>
              rw [if_neg Bool.false_ne_true]
              exact ⟨S3, ρ3, m3, acc, ws, (x1.trans e2).trans e3, M3, x3.mono (e2.trans e3).s, hb⟩
            | true =>
              rw [if_pos rfl]
              intro s1 H01 C1 cl1 fp1
              refine (je s1 H01 C1 cl1 fp1).run M3 (E3.mono e3) (wpr_mono (wpr_bnd hb) (fun v m4 hv => ?_) fun _ _ z => z.elim)
              intro S4 H4 ρ4 vv e4 M4 rv
              cases v with
              | ref n => exact hv.elim
              | dat y =>
                simp only at hv
                split at hv
                · rename_i hl
                  have e24 := (e2.trans e3).trans e4
                  have h4 : H4 D = some (.lst ws) := M4.gsub D _ upd_same
                  refine ⟨ws, h4, by rw [x3.length, sizeLine_eq]; exact hl, S4, ρ4, m4, acc ++ [y], ws ++ [vv], x1.trans e24, ?_, (x3.mono e24.s).append (.cons rv .nil), hv⟩
                  obtain ⟨u1, u2, u3⟩ := M4.unguard (G' := G) gD (.lst (ws ++ [vv]))
                  exact u1.guard upd_same u2 u3
                · exact hv.elim
theorem MR.adopt {Γ : Gd} {G S H : Hp} {ρ : List Addr} {m : Mem} {p : Addr} {o : HO} (M : MR Γ G S H ρ m) (hp : H p = some o) (hs : S p = none) (hg : G p = none) (hc : ∀ (i : Nat) (xs : List PL.D), m[i]? = some (.lst xs) → ρ[i]? ≠ some p) :
    Same S (upd S p o) ∧ MR Γ G (upd S p o) H ρ m := by
  have s1 : Same S (upd S p o) := fun b x q => by rw [upd_ne (ne_of_none q hs)]; exact q
  refine ⟨s1, ⟨fun b x q => ?_, M.gsub, fun b x q => ?_, M.len, fun i xs q => ?_, M.inj⟩⟩
  · by_cases e : b = p
    · subst e; rw [upd_same] at q; cases q; exact hp
    · rw [upd_ne e] at q; exact M.sub b x q
  · rw [upd_ne (ne_of_none q hg)]; exact M.dis b x q
  · obtain ⟨a, vs, h1, h2, h3, h4, h5⟩ := M.cell i xs q
    exact ⟨a, vs, h1, h2, h3.mono s1, by rw [upd_ne (fun z => hc i xs q (by rw [← z]; exact h1))]; exact h4, h5⟩
theorem MR.take_own {Γ : Gd} {G S H : Hp} {ρ : List Addr} {m : Mem} {p : Addr} {vs : List V} {xs : List PL.D} (M : MR Γ G S H ρ m) (hp : H p = some (.lst vs)) (hs : S p = none) (hg : G p = none) (hc : ∀ (i : Nat) (xs : List PL.D), m[i]? = some (.lst xs) → ρ[i]? ≠ some p) (r : RpAll Γ S vs xs) :
    Ext S ρ S (ρ ++ [p]) ∧ MR Γ G S H (ρ ++ [p]) (m ++ [.lst xs]) := by
  have pre : ∀ (i : Nat) (a : Addr), ρ[i]? = some a → (ρ ++ [p])[i]? = some a := fun i a q => by
    rw [List.getElem?_append_left (List.getElem?_eq_some_iff.mp q).1]; exact q
  have at_ : ∀ (i : Nat) (xs' : List PL.D), (m ++ [Cell.lst xs])[i]? = some (.lst xs') → (m[i]? = some (.lst xs') ∧ i < m.length) ∨ (i = m.length ∧ xs' = xs) := fun i xs' q => by
    by_cases hi : i < m.length
    · rw [List.getElem?_append_left hi] at q; exact .inl ⟨q, hi⟩
    · rw [List.getElem?_append_right (by omega)] at q
      have h0 : i - m.length = 0 := by
        have := (List.getElem?_eq_some_iff.mp q).1
        simp at this
        omega
      rw [h0] at q
      simp at q
      exact .inr ⟨by omega, q.symm⟩
  refine ⟨⟨Same.refl S, pre⟩, ⟨M.sub, M.gsub, M.dis, by rw [List.length_append, List.length_append, M.len]; rfl, fun i xs' q => ?_, fun i j xs' ys' a q1 q2 q3 q4 => ?_⟩⟩
  · rcases at_ i xs' q with ⟨q1, _⟩ | ⟨q1, q2⟩
    · obtain ⟨a, vs', h1, h2⟩ := M.cell i xs' q1
      exact ⟨a, vs', pre i a h1, h2⟩
    · subst q1 q2
      exact ⟨p, vs, by rw [← M.len]; simp, hp, r, hs, hg⟩
  · have key : ∀ (i : Nat) (xs' : List PL.D) (a : Addr), (m ++ [Cell.lst xs])[i]? = some (.lst xs') → (ρ ++ [p])[i]? = some a → (m[i]? = some (.lst xs') ∧ ρ[i]? = some a ∧ a ≠ p) ∨ (i = m.length ∧ a = p) := fun i xs' a q r => by
      rcases at_ i xs' q with ⟨q1, q2⟩ | ⟨q1, q2⟩
      · obtain ⟨a', vs', h1, h2, _⟩ := M.cell i xs' q1
        have e := pre i a' h1
        rw [r] at e
        cases e
        exact .inl ⟨q1, h1, fun z => hc i xs' q1 (by rw [← z]; exact h1)⟩
      · subst q1
        rw [← M.len] at r
        simp at r
        exact .inr ⟨rfl, r.symm⟩
    rcases key i xs' a q1 q3 with ⟨b1, b2, b3⟩ | ⟨b1, b2⟩
    · rcases key j ys' a q2 q4 with ⟨c1, c2, c3⟩ | ⟨c1, c2⟩
      · exact M.inj i j xs' ys' a b1 c1 b2 c2
      · exact absurd c2 b3
    · rcases key j ys' a q2 q4 with ⟨c1, c2, c3⟩ | ⟨c1, c2⟩
      · exact absurd b2 c3
      · rw [b1, c1]
theorem bnd_assoc {α β γ : Type} (x : P α) (f : α → P β) (g : β → P γ) : (x.bnd f).bnd g = x.bnd fun a => (f a).bnd g := by
  funext m
  unfold P.bnd R.bnd
  cases x m <;> rfl
section
variable {fi : En → P (List PL.D)} {ts : List Nat} {g : PL.D → En → Option En} {tt : TT} {t : En → P Bool} {f : En → P SV}
theorem lc_frozen {G S : Hp} {ρ : List Addr} {Q : VK} {vs : List Nat} {env : En} {m : Mem} {E : Exc → Mem → Prop} (h : wpr (dLc vs fi g t f env m) (QV X G S ρ Q) E) :
    wpr (((fi env).bnd fun items => noX (loopC g t f (wipeE env vs) items [])) m) (fun acc m' => ∀ S' H' ρ' D ws, Ext S ρ S' ρ' → MR (gd X) G S' H' ρ' m' → H' D = some (.lst ws) → RpAll (gd X) S' ws acc → S' D = none → G D = none → (∀ (i : Nat) (xs : List PL.D), m'[i]? = some (.lst xs) → ρ'[i]? ≠ some D) → Q (.ref D) H') E := by
  unfold dLc at h
  rw [← bnd_assoc] at h
  refine wpr_monoQ (wpr_bnd h) fun acc m1 ha S' H' ρ' D ws e M hD r sD gD nD => ?_
  obtain ⟨s1, M1⟩ := M.adopt hD sD gD nD
  exact ha _ H' ρ' _ (e.trans ⟨s1, fun _ _ z => z⟩) M1 (.lst upd_same (r.mono s1))
theorem lc_owned {G S : Hp} {ρ : List Addr} {Q : VK} {vs : List Nat} {env : En} {m : Mem} {E : Exc → Mem → Prop} (h : wpr (dLcO vs fi g t f env m) (QV X G S ρ Q) E) :
    wpr (((fi env).bnd fun items => noX (loopC g t f (wipeE env vs) items [])) m) (fun acc m' => ∀ S' H' ρ' D ws, Ext S ρ S' ρ' → MR (gd X) G S' H' ρ' m' → H' D = some (.lst ws) → RpAll (gd X) S' ws acc → S' D = none → G D = none → (∀ (i : Nat) (xs : List PL.D), m'[i]? = some (.lst xs) → ρ'[i]? ≠ some D) → Q (.ref D) H') E := by
  unfold dLcO at h
  rw [← bnd_assoc] at h
  refine wpr_monoQ (wpr_bnd h) fun acc m1 ha S' H' ρ' D ws e M hD r sD gD nD => ?_
  obtain ⟨e1, M1⟩ := M.take_own hD sD gD nD r
  refine ha _ H' _ _ (e.trans e1) M1 ⟨D, ?_, rfl⟩
  rw [← M.len]
  simp
theorem pg_gAll (s : Shared) (H : Hp) (C : Addr) (cl : List (Str × Addr)) (fp : List Addr) : PG (Bk X scope s H C cl fp) tg (gAll X scope tg) := ⟨fun pins s σ H v u Q I r h => h _ _ _ _ _ pins s u I r⟩
theorem pe_eAll (s : Shared) (H : Hp) (C : Addr) (cl : List (Str × Addr)) (fp : List Addr) : PE (Bk X scope s H C cl fp) elt (eAll X scope elt) := ⟨fun pins s σ H Q I h => h _ _ _ _ _ pins s I⟩
theorem je_lc {vs : List Nat} (own : List (Str × Nat)) (hc : X.calm = true) (hN : X.N.Nodup) (ji : JI X W tg iter fi) (ok : BlkOk X.N X.env.scope scope own)
    (jg : ∀ (s : Shared) (H : Hp) (C : Addr) (cl : List (Str × Addr)) (fp : List Addr), JG (Bk X scope s H C cl fp) tg ts g) (hts : ∀ t ∈ ts, t ∈ vs) (jt : TestOk X scope ifs tt t)
    (je : ∀ (s : Shared) (H : Hp) (C : Addr) (cl : List (Str × Addr)) (fp : List Addr), JE (Bk X scope s H C cl fp) W0 elt f) (hs : ∀ x, foldedSetIterable iter X.env x = pure x := by intro _; rfl) (hvs : own.map (·.2) = vs := by rfl) :
    JE X W (.ListComp elt [⟨tg, iter, ifs, 0⟩] scope pos) (dLc vs fi g t f) := by
  subst hvs
  exact ⟨fun {G S H ρ m env σ Q} M E h =>
  we_of (pe_lc hc hN pi_wi ok pg_gAll jt.pts pe_eAll hs) (lc_ok ji jg hts jt je M E (lc_frozen h))⟩
theorem je_lcO {vs : List Nat} (own : List (Str × Nat)) (hc : X.calm = true) (hN : X.N.Nodup) (ji : JI X W tg iter fi) (ok : BlkOk X.N X.env.scope scope own)
    (jg : ∀ (s : Shared) (H : Hp) (C : Addr) (cl : List (Str × Addr)) (fp : List Addr), JG (Bk X scope s H C cl fp) tg ts g) (hts : ∀ t ∈ ts, t ∈ vs) (jt : TestOk X scope ifs tt t)
    (je : ∀ (s : Shared) (H : Hp) (C : Addr) (cl : List (Str × Addr)) (fp : List Addr), JE (Bk X scope s H C cl fp) W0 elt f) (hs : ∀ x, foldedSetIterable iter X.env x = pure x := by intro _; rfl) (hvs : own.map (·.2) = vs := by rfl) :
    JE X W (.ListComp elt [⟨tg, iter, ifs, 0⟩] scope pos) (dLcO vs fi g t f) := by
  subst hvs
  exact ⟨fun {G S H ρ m env σ Q} M E h =>
  we_of (pe_lc hc hN pi_wi ok pg_gAll jt.pts pe_eAll hs) (lc_ok ji jg hts jt je M E (lc_owned h))⟩
/-- y = [..] -/
theorem js_setLc {vs : List Nat} (i : Nat) {y : Str} {py spos : Pos} (own : List (Str × Nat)) (hc : X.calm = true) (hN : X.N.Nodup) (ji : JI X W tg iter fi) (ok : BlkOk X.N X.env.scope scope own)
    (jg : ∀ (s : Shared) (H : Hp) (C : Addr) (cl : List (Str × Addr)) (fp : List Addr), JG (Bk X scope s H C cl fp) tg ts g) (hts : ∀ t ∈ ts, t ∈ vs) (jt : TestOk X scope ifs tt t)
    (je : ∀ (s : Shared) (H : Hp) (C : Addr) (cl : List (Str × Addr)) (fp : List Addr), JE (Bk X scope s H C cl fp) W0 elt f) 
    (hsw : swapsWith (.ListComp elt [⟨tg, iter, ifs, 0⟩] scope pos) (some (.Name y py)) spos.line X.env = pure true) (hy : X.N[i]? = some y := by rfl) (hyl : X.env.scope.names.lookup y = some .local := by rfl) (hs : ∀ x, foldedSetIterable iter X.env x = pure x := by intro _; rfl) (hvs : own.map (·.2) = vs := by rfl) :
    JS X W (.Assign [.Name y py] (.ListComp elt [⟨tg, iter, ifs, 0⟩] scope pos) spos) (dSet i (dLc vs fi g t f)) := by
  subst hvs
  refine ⟨fun {G S H ρ m env σ D} M E h => ?_⟩
  have h2 : wpr (dLc (own.map (·.2)) fi g t f env m) (QV X G S ρ fun v H1 => gName i v σ H1 D.nx) (QX X W G S ρ σ) := by
    refine wpr_mono (wpr_bnd h) (fun v m1 hv => ?_) fun _ _ z => qx_of z
    intro S1 H1 ρ1 xv e1 M1 rx
    exact hv S1 H1 ρ1 _ e1 M1 ((E.mono e1).set i rx)
  exact ws_of (ps_setLc hc hN hy hyl hsw pi_wi ok pg_gAll jt.pts pe_eAll hs) (lc_ok ji jg hts jt je M E (lc_frozen h2))
theorem js_setLcO {vs : List Nat} (i : Nat) {y : Str} {py spos : Pos} (own : List (Str × Nat)) (hc : X.calm = true) (hN : X.N.Nodup) (ji : JI X W tg iter fi) (ok : BlkOk X.N X.env.scope scope own)
    (jg : ∀ (s : Shared) (H : Hp) (C : Addr) (cl : List (Str × Addr)) (fp : List Addr), JG (Bk X scope s H C cl fp) tg ts g) (hts : ∀ t ∈ ts, t ∈ vs) (jt : TestOk X scope ifs tt t)
    (je : ∀ (s : Shared) (H : Hp) (C : Addr) (cl : List (Str × Addr)) (fp : List Addr), JE (Bk X scope s H C cl fp) W0 elt f) 
    (hsw : swapsWith (.ListComp elt [⟨tg, iter, ifs, 0⟩] scope pos) (some (.Name y py)) spos.line X.env = pure true) (hy : X.N[i]? = some y := by rfl) (hyl : X.env.scope.names.lookup y = some .local := by rfl) (hs : ∀ x, foldedSetIterable iter X.env x = pure x := by intro _; rfl) (hvs : own.map (·.2) = vs := by rfl) :
    JS X W (.Assign [.Name y py] (.ListComp elt [⟨tg, iter, ifs, 0⟩] scope pos) spos) (dSet i (dLcO vs fi g t f)) := by
  subst hvs
  refine ⟨fun {G S H ρ m env σ D} M E h => ?_⟩
  have h2 : wpr (dLcO (own.map (·.2)) fi g t f env m) (QV X G S ρ fun v H1 => gName i v σ H1 D.nx) (QX X W G S ρ σ) := by
    refine wpr_mono (wpr_bnd h) (fun v m1 hv => ?_) fun _ _ z => qx_of z
    intro S1 H1 ρ1 xv e1 M1 rx
    exact hv S1 H1 ρ1 _ e1 M1 ((E.mono e1).set i rx)
  exact ws_of (ps_setLc hc hN hy hyl hsw pi_wi ok pg_gAll jt.pts pe_eAll hs) (lc_ok ji jg hts jt je M E (lc_owned h2))
end

/-! ### list.index -/
def idxOf (d : PL.D) : List PL.D → Option Nat
  | [] => none
  | e :: r => if eqF e d = true then some 0 else (match idxOf d r with | some k => some (k + 1) | none => none)
theorem idxOf_ok {d : PL.D} : ∀ {xs : List PL.D} {j : Nat}, idxOf d xs = some j → (∃ z, xs[j]? = some z ∧ eqF z d = true) ∧ ∀ (m : Nat) (z : PL.D), m < j → xs[m]? = some z → eqF z d = false
  | [], _, h => by cases h
  | e :: r, j, h => by
    unfold idxOf at h
    split at h
    · rename_i he
      cases h
      exact ⟨⟨e, rfl, he⟩, fun m z hm => by omega⟩
    · rename_i he
      split at h
      · rename_i k hk
        cases h
        obtain ⟨⟨z, h1, h2⟩, h3⟩ := idxOf_ok hk
        refine ⟨⟨z, by simpa using h1, h2⟩, fun m z' hm hz => ?_⟩
        cases m with
        | zero =>
          simp at hz
          subst hz
          exact Bool.not_eq_true _ ▸ he
        | succ m => exact h3 m z' (by omega) (by simpa using hz)
      · cases h
def indexV (x y : SV) : P SV := fun m => match rdL x m, y with
  | some xs, .dat d => if flatD d && flats xs then (match idxOf d xs with | some j => .ok (.dat (.int (j : Nat))) m | none => .stuck) else .stuck
  | _, _ => .stuck
/-- x.index(y): the list is looked at ahead of the argument, too -/
def dIndex (fa fb : En → P SV) : En → P SV := fun env => (fa env).bnd fun x m => match rdL x m with
  | some _ => ((fb env).bnd fun y => indexV x y) m
  | none => .stuck
theorem je_index {a b : Expr} {fa fb : En → P SV} {apos cpos : Pos} (ja : JE X W a fa) (jb : JE X W b fb) (hbase : attributeBase a "index" X.env (eval a X.env) = eval a X.env := by rfl)
    (hfew : ((backTo cpos (starEach [b] X.env)).all (fun x => !x.1) && (backToKw cpos (keywordEach [] X.env)).all (fun x => x.1.isSome)
      && decide ([b].length + ([] : List Keyword).length + (if ([] : List Keyword).isEmpty then 0 else 1) < 30)) = true := by rfl)
    (hline : (apos.endLine == cpos.line) = true := by rfl) (hs1 : starEach [b] X.env = (false, eval b X.env) :: starEach [] X.env := by rfl) (hplain : (backTo cpos (starEach [] X.env)).any (·.1) = false := by rfl) :
    JE X W (.Call (.Attribute a "index" apos) [b] [] cpos) (dIndex fa fb) := ⟨fun {G S H ρ m env σ Q} M E h => by
  refine we_of (pe_bm PySem.F.plainAttrs_list PySem.F.slot_list_index PySem.F.type_list_index mt_index pe_we (pa_cons pe_we pa_nil hs1) hbase hfew hline hs1 hplain) (ja.run M E (wpr_monoQ (wpr_bnd h) fun x m1 hx => ?_))
  intro S1 H1 ρ1 xv e1 M1 rx
  split at hx
  · rename_i ys hys
    obtain ⟨p, vs, rfl, g1, _⟩ := rdL_ok M1 rx hys
    refine ⟨.inl ⟨rfl, vs, .inl (.inl g1)⟩, jb.run M1 (E.mono e1) (wpr_mono (wpr_bnd hx) (fun y m2 hy => ?_) fun _ _ z => qx_ext e1 z)⟩
    intro S2 H2 ρ2 yv e2 M2 ry
    unfold indexV at hy
    split at hy
    · rename_i xs d hxs
      split at hy
      · rename_i ok
        rw [Bool.and_eq_true] at ok
        split at hy
        · rename_i j hj
          obtain ⟨p', ws, z1, z2, z3⟩ := rdL_ok M2 (rx.mono e2) hxs
          cases z1
          obtain ⟨⟨z, i1, i2⟩, i3⟩ := idxOf_ok hj
          obtain ⟨zv, j1, j2⟩ := z3.get i1
          have fz : flatD z = true := List.all_eq_true.mp ok.2 z (List.mem_of_getElem? i1)
          refine ⟨p, ws, yv, j, zv, rfl, rfl, .inl (.inl z2), rp_flat ry ok.1, rpAll_flat z3 ok.2, j1, by rw [rp_eqF j2 ry fz ok.1]; exact i2, fun k zv' hk hz => ?_, hy S2 H2 ρ2 _ (e1.trans e2) M2 (.int _)⟩
          obtain ⟨z', k1, k2⟩ := z3.get' hz
          have fz' : flatD z' = true := List.all_eq_true.mp ok.2 z' (List.mem_of_getElem? k1)
          rw [rp_eqF k2 ry fz' ok.1]
          exact i3 k z' hk k1
        · exact hy.elim
      · exact hy.elim
    · exact hy.elim
  · exact hx.elim⟩
end

/-! ### defs and their calls -/
/-- leaving a def: what was its own alone is frozen or forgotten -/
def exitV (k : Nat) (v : SV) (m : Mem) : R SV := match v with
  | .dat d => .ok (.dat d) (m.take k)
  | .ref i => if i < k then .ok (.ref i) (m.take k) else (match m[i]? with | some (.lst xs) => .ok (.dat (.lst xs)) (m.take k) | _ => .stuck)
/-- .. an own list handed out -/
def exitO (k : Nat) (v : SV) (m : Mem) : R SV := match v with
  | .dat _ => .stuck
  | .ref i => if i < k then .stuck else (match m[i]? with | some (.lst xs) => .ok (.ref k) (m.take k ++ [.lst xs]) | _ => .stuck)
def enter (n : Nat) (xs : List SV) : En := xs.map some ++ List.replicate (n - xs.length) none
def fnRun (n : Nat) (ex : Nat → SV → Mem → R SV) (fb : DS) : List SV → P SV := fun xs m => match fb (enter n xs) m with
  | .ok (.nx _) m' => .ok (.dat .non) (m'.take m.length)
  | .ok (.rt v) m' => ex m.length v m'
  | .ok _ _ => .stuck
  | .exc x m' => .exc x (m'.take m.length)
  | .stuck => .stuck
def spF (Γ : Gd) (n : Nat) (F : List SV → P SV) : Sp := fun vs H Q E => vs.length = n ∧ ∃ G S ρ m xs, MR Γ G S H ρ m ∧ Paired (RSV Γ S ρ) vs xs ∧
  wpr (F xs m) (fun v m' => ∀ S' H' ρ' vv, Ext S ρ S' ρ' → MR Γ G S' H' ρ' m' → RSV Γ S' ρ' vv v → Q vv H') (fun x m' => ∀ S' H' ρ' cls d, Ext S ρ S' ρ' → MR Γ G S' H' ρ' m' → XR Γ S' H' cls d x → E cls d H')
/-- how a value leaves -/
def ExitOk (ex : Nat → SV → Mem → R SV) : Prop := ∀ {Γ : Gd} {G S H : Hp} {ρ : List Addr} {m : Mem} {k : Nat} {v : SV} {vv : V} {Q : SV → Mem → Prop} {E : Exc → Mem → Prop}, MR Γ G S H ρ m → RSV Γ S ρ vv v → k ≤ m.length → wpr (ex k v m) Q E →
  ∃ S' ρ' w m', Q w m' ∧ Same S S' ∧ (∀ (i : Nat) (a : Addr), i < k → ρ[i]? = some a → ρ'[i]? = some a) ∧ MR Γ G S' H ρ' m' ∧ RSV Γ S' ρ' vv w
theorem take_get {ρ : List Addr} {k i : Nat} {a : Addr} (h : i < k) (q : ρ[i]? = some a) : (ρ.take k)[i]? = some a := by rw [List.getElem?_take_of_lt h]; exact q
theorem exitV_ok : ExitOk exitV := by
  intro Γ G S H ρ m k v vv Q E M r hk h
  unfold exitV at h
  split at h
  · exact ⟨S, ρ.take k, _, _, h, Same.refl _, fun i a hi q => take_get hi q, M.take k, r⟩
  · rename_i i
    split at h
    · rename_i hi
      obtain ⟨a, h1, h2⟩ := r
      exact ⟨S, ρ.take k, _, _, h, Same.refl _, fun i a hi q => take_get hi q, M.take k, a, take_get hi h1, h2⟩
    · rename_i hi
      split at h
      · rename_i xs hx
        obtain ⟨a, vs, h1, h2, h3, h4⟩ := M.freeze hx
        obtain ⟨a', z1, z2⟩ := r
        rw [h1] at z1
        cases z1
        have e : (m.set i Cell.dead).take k = m.take k := by
          rw [List.take_set_of_le (by omega)]
        have M2 := h3.take k
        rw [e] at M2
        exact ⟨_, ρ.take k, _, _, h, h2.s, fun i a hi q => take_get hi q, M2, by subst z2; exact h4⟩
      · exact h.elim
theorem exitO_ok : ExitOk exitO := by
  intro Γ G S H ρ m k v vv Q E M r hk h
  unfold exitO at h
  split at h
  · exact h.elim
  · rename_i i
    split at h
    · exact h.elim
    · rename_i hi
      split at h
      · rename_i xs hx
        obtain ⟨a, z1, rfl⟩ := r
        obtain ⟨a', vs, h1, h2, h3, h4, h5⟩ := M.cell i xs hx
        rw [z1] at h1
        cases h1
        have M2 := M.take k
        have hc : ∀ (j : Nat) (ys : List D), (m.take k)[j]? = some (.lst ys) → (ρ.take k)[j]? ≠ some a := fun j ys q z => by
          have hj : j < k := by
            have := (List.getElem?_eq_some_iff.mp q).1
            rw [List.length_take] at this
            omega
          rw [List.getElem?_take_of_lt hj] at q z
          have := M.inj j i ys xs a q hx z z1
          omega
        obtain ⟨e1, M3⟩ := M2.take_own h2 h4 h5 hc h3
        refine ⟨S, _, _, _, h, Same.refl _, fun i a hi q => e1.r i a (take_get hi q), M3, a, ?_, rfl⟩
        have e : (ρ.take k).length = k := by rw [List.length_take, M.len]; omega
        rw [List.getElem?_append_right (by omega), e]
        simp
      · exact h.elim
theorem er_enter {Γ : Gd} {S : Hp} {ρ : List Addr} {N : List Str} {vs : List V} {xs : List SV} (r : Paired (RSV Γ S ρ) vs xs) : ER Γ S ρ (enter N.length xs) (L2.start N vs) := by
  have hl : vs.length = xs.length := Paired.length r
  have get : ∀ {vs : List V} {xs : List SV} (i : Nat) (v : SV), Paired (RSV Γ S ρ) vs xs → xs[i]? = some v → ∃ vv, vs[i]? = some vv ∧ RSV Γ S ρ vv v := by
    intro vs xs i v r
    induction r generalizing i with
    | nil => intro h; simp at h
    | cons h t ih =>
      intro q
      cases i with
      | zero => simp at q; subst q; exact ⟨_, rfl, h⟩
      | succ i =>
        obtain ⟨vv, a, b⟩ := ih i (by simpa using q)
        exact ⟨vv, by simpa using a, b⟩
  refine ⟨?_, fun i v q => ?_⟩
  · unfold enter L2.start
    rw [List.length_append, List.length_append, List.length_map, List.length_map, List.length_replicate, List.length_replicate, hl]
  · unfold enter at q
    unfold L2.start
    by_cases hi : i < xs.length
    · rw [List.getElem?_append_left (by simpa using hi), List.getElem?_map] at q
      cases e : xs[i]? with
      | none => rw [e] at q; cases q
      | some x =>
        rw [e] at q
        cases q
        obtain ⟨vv, h1, h2⟩ := get i v r e
        refine ⟨vv, ?_, h2⟩
        rw [List.getElem?_append_left (by rw [List.length_map, hl]; exact hi), List.getElem?_map, h1]
        rfl
    · rw [List.getElem?_append_right (by simpa using hi), List.getElem?_replicate] at q
      split at q <;> cases q
/-! ### rooms with no repr under way -/
structure RoomG (k : Nat) (A : Around) : Prop where
  rm : Room k A
  gd : A.guards = some []
theorem RoomG.mono {j k : Nat} {A : Around} (r : RoomG k A) (h : j ≤ k) : RoomG j A := ⟨r.rm.mono h, r.gd⟩
theorem RoomG.units {k : Nat} {A : Around} (r : RoomG k A) : A.units + 64 < cLine := r.rm.units
structure FnG (P : Program) (w : World) (K : PySem.W.Frag) (mg : Str → Option Value) (base : Heap) (k : Nat) (f : Addr) (fd : FuncData) (ps : List Str) (sp : Sp) : Prop where
  ln : ∀ vs H Q E, sp vs H Q E → vs.length = ps.length
  go : ∀ (A : Around) (outer : List Env) (s : Shared) (H : Hp) (args : Args) (us : List Value) (vs : List V) (Q : VK) (E : XK), RoomG k A → Env0 P w K mg base A outer s H → BindsTo s fd args (ps.zip us) → Vals vs us → sp vs H Q E →
    codeAny (model P w) A (.call (.ref f) args) (CR (L2.CX P w) outer P w H s Q E) s
theorem FnG.mono {P : Program} {w : World} {K : PySem.W.Frag} {mg : Str → Option Value} {base : Heap} {j k : Nat} {f : Addr} {fd : FuncData} {ps : List Str} {sp : Sp} (F : FnG P w K mg base j f fd ps sp) (h : j ≤ k) : FnG P w K mg base k f fd ps sp :=
  ⟨F.ln, fun A o s H args us vs Q E r => F.go A o s H args us vs Q E (r.mono h)⟩
theorem FnG.imp {P : Program} {w : World} {K : PySem.W.Frag} {mg : Str → Option Value} {base : Heap} {k : Nat} {f : Addr} {fd : FuncData} {ps : List Str} {sp sp' : Sp} (F : FnG P w K mg base k f fd ps sp) (h : ∀ vs H Q E, sp' vs H Q E → sp vs H Q E) : FnG P w K mg base k f fd ps sp' :=
  ⟨fun vs H Q E q => F.ln vs H Q E (h _ _ _ _ q), fun A o s H args us vs Q E r e b v q => F.go A o s H args us vs Q E r e b v (h _ _ _ _ q)⟩
/-- a def by its body -/
theorem fng_of {P : Program} {w : World} {K : PySem.W.Frag} {mg : Str → Option Value} {base : Heap} {k : Nat} {x qual : Str} {N ps : List Str} {params : Arguments} {body : List Stmt} {scope : Scope} {f : Addr} {fd : FuncData} {dvs : List V} {kws : List (Str × V)} {sp : Sp}
    (F : FunD K x qual params body scope dvs kws f fd) (S : FnScope N ps scope) (ln : ∀ vs H Q E, sp vs H Q E → vs.length = ps.length)
    (hbody : ∀ (cdv : Value) (A : Around) (outer : List Env) (s : Shared) (H : Hp) (vs : List V) (Q : VK) (E : XK), RoomG k (A.deeper (envOfC qual scope s.heap.objs.size f cdv)) → sp vs H Q E →
      ∃ t, PSs (cxOf (L2.CX P w) P w K mg base N qual scope f cdv A outer s H E) body t ∧ t { nx := fun _ H' => Q .non H', rt := Q } (start N vs) H) : FnG P w K mg base (k + 1) f fd ps sp := by
  obtain ⟨oc, od, dV, kV, doc, pm, an, cdv, ct, osl, rfl, lk, hcd, _, _⟩ := F.ex
  refine ⟨ln, fun A outer s H args us vs Q E R e0 hb rv hsp => ?_⟩
  have stays : ∀ b o, base.get? b = some o → s.heap.get? b = some o := fun b o q => (e0.bs b o q).1
  have kin : K.In s.heap := e0.mod.kin.keeps stays
  have par : ∀ y ∈ ps.zip us, scope.names.lookup y.1 = some .local ∨ (scope.names.lookup y.1 = some .cell ∧
      ((cellsFrom (s.heap.objs.size + 1) scope.names []).lookup y.1).isSome = true) := by
    rintro ⟨n, v⟩ hy
    exact (S.par n (List.of_mem_zip hy).1).elim .inl fun q => .inr ⟨q, PySem.W.cellsFrom_some _ _ _ (.inl q)⟩
  refine codeAny_call_function R.rm.depth (kin _ _ lk) rfl S.co S.gen rfl (PySem.W.codeRec_of kin hcd) (hb _ _ _ _ ?_)
  refine wpAny_newFunctionEnv_cells S.kind par fun env he s1 x1 => ?_
  subst he
  refine ⟨(e0.mod.nolimit.keeps stays).keeps x1.toInCall.keep, codeAny_func ?_⟩
  obtain ⟨t, ht, hq⟩ := hbody cdv A outer s H vs Q E ⟨R.rm.deeper _, R.gd⟩ hsp
  have I := inv_start (CX := L2.CX P w) (E := E) S R.rm.hd e0 (ln _ _ _ _ hsp) rv x1
  refine wpAny_mono (ht.run [] s1 (start N vs) H _ I hq) (fun fl s' hs => ?_) (fun _ _ z => z)
  cases fl with
  | ret u => obtain ⟨v, _, H', J, r1, q⟩ := hs; exact ⟨v, H', J.os, J.bare, J.base, J.hok, r1, q⟩
  | next => obtain ⟨_, H', J, q⟩ := hs; exact ⟨.non, H', J.os, J.bare, J.base, J.hok, rfl, q⟩
  | brk => obtain ⟨_, _, _, q⟩ := hs; exact q.elim
  | cont => obtain ⟨_, _, _, q⟩ := hs; exact q.elim
def AfterR (X : Cx) (pins : List (Addr × Obj)) (σ : St) (Q : VK) (rr : Result) (s' : Shared) : Prop := match rr with
  | .ok (.ret u) => EP X pins σ Q u s'
  | .ok _ => False
  | .error e => X.xe e s'
/-- a call's end, seen by the caller -/
theorem after_go {X : Cx} {W : WX} {pins : List (Addr × Obj)} {σ : St} {H : Hp} {s s' : Shared} {Q : VK} {rr : Result} (tk : Takes X W) (I : Inv X pins σ H s) (hq : CR (L2.CX X.prog X.w) X.stack X.prog X.w H s Q (fun cls d H => W cls d σ H) rr s') :
    AfterR X pins σ Q rr s' := by
  cases rr with
  | error e => exact passAt tk σ pins H s e s' I hq
  | ok fl =>
    cases fl with
    | ret u => exact I.after hq
    | next => exact hq
    | brk => exact hq
    | cont => exact hq
/-- the law's call -/
theorem law_callG {P : Program} {w : World} {K : PySem.W.Frag} {mg mb : Str → Option Value} {k : Nat} {fa a : Addr} {fd : FuncData} {x : Str} {sp : Sp} {s₁ : Shared} {vs : List Value} {ns : List Int}
    (KX : K.In s₁.heap) (hns : s₁.heap.Ns mainGlobals mg) (hb : s₁.heap.Ns builtinsNs mb) (hbb : ∀ x : Str, x ≠ "__name__" → mb x = bootBuiltins x) (hlim : s₁.heap.NoLimit) (hg : s₁.gens = #[])
    (ha : s₁.heap.get? a = some { cls := .type "list", data := .seq vs.toArray }) (hi : IntsAre vs ns) (hl : ns.length ≤ sizeLine) (hr : Room k callerA)
    (F : ∀ base : Heap, FnG P w K mg base k fa fd [x] sp) (hbind : ∀ (s : Shared) (u : Value), BindsTo s fd ⟨[u], []⟩ [(x, u)])
    (hsp : ∀ H : Hp, SqL K H a (ns.map V.int) → sp [.ref a] H (fun v _ => v = .bl true) fun _ _ _ => False)
    (hCX : ∀ H e s', L2.CX P w [] H s₁ (fun _ _ _ => False) e s' → False) :
    codeAny (model P w) callerA (.call (.ref fa) ⟨[.ref a], []⟩) (fun r s' => r = .ok (.ret (.bool true)) ∧ OldK s₁.heap s'.heap ∧ s'.os = s₁.os ∧ AllBare s'.gens) s₁ := by
  have go : ∀ H : Hp, L2.Only H → SqL K H a (ns.map V.int) → HOk P w H s₁.heap → (∀ b u, H b = some u → b = a ∧ K.lookup a = none) →
      codeAny (model P w) callerA (.call (.ref fa) ⟨[.ref a], []⟩) (fun r s' => r = .ok (.ret (.bool true)) ∧ OldK s₁.heap s'.heap ∧ s'.os = s₁.os ∧ AllBare s'.gens) s₁ := by
    intro H hO hS hok hA
    have none_at : ∀ {b : Addr}, b ≠ a → H b = none := fun {b} ne => by
      cases q : H b with
      | none => rfl
      | some u => exact absurd (hA b u q).1 ne
    have dict_ne : ∀ {b : Addr} {o : Obj} {es : Array DictEntry} {ep : Nat}, s₁.heap.get? b = some o → o.data = .dict es ep → b ≠ a := by
      rintro b o es ep e d rfl
      rw [ha] at e
      cases e
      exact nomatch d
    have nsK : ∀ {b : Addr} {m : Str → Option Value}, s₁.heap.Ns b m → (hidT s₁.heap H).Ns b m := by
      rintro b m ⟨o, es, ep, e, d, r⟩
      exact ⟨o, es, ep, hidT_get e (none_at (dict_ne e d)), d, r⟩
    have kb : K.In (hidT s₁.heap H) := fun b o e => by
      refine hidT_get (KX b o e) ?_
      cases q : H b with
      | none => rfl
      | some u =>
        obtain ⟨z1, z2⟩ := hA b u q
        subst z1
        rw [z2] at e
        cases e
    obtain ⟨mc, l1, l2⟩ := hlim
    have md : Mod K mg (hidT s₁.heap H) := ⟨kb, nsK hns, ⟨mb, nsK hb, hbb⟩, mc, nsK l1, l2⟩
    have e0 : Env0 P w K mg (hidT s₁.heap H) callerA [] s₁ H := ⟨rfl, md, fun b o e => of_hidT e, Nat.le_of_eq (hidT_size _ _), trivial, (by intro b z; cases z), hok, .of_eq hg⟩
    refine codeAny_mono ((F _).go callerA [] s₁ H _ [.ref a] [.ref a] _ _ ⟨hr, rfl⟩ e0 (hbind s₁ (.ref a)) (.cons rfl .nil) (hsp H hS)) fun r s' h => ?_
    cases r with
    | error e => exact (hCX H e s' h).elim
    | ok fl =>
      cases fl with
      | next => exact h.elim
      | brk => exact h.elim
      | cont => exact h.elim
      | ret u =>
        obtain ⟨v, H', os, bare, un, hok', r', q⟩ := h
        obtain rfl : v = .bl true := q
        obtain rfl : u = Value.bool true := r'
        refine ⟨rfl, OldK.of_keep fun b o e => ?_, os, bare⟩
        rcases hO b with z | ⟨ob, xs, z⟩
        · exact un.keep b o e z (by intro z; cases z) (by simp)
        · obtain ⟨e1, _⟩ := hok b _ z
          obtain ⟨e2, _⟩ := hok' b _ (un.frzs b ob _ z)
          rw [e] at e1
          cases e1
          exact e2
  have rv := vals_ints hi
  cases hk : K.lookup a with
  | some o =>
    have e := KX a o hk
    rw [ha] at e
    cases e
    exact go (fun _ => none) (fun _ => .inl rfl) (.inr ⟨_, vs.toArray, _, hk, rfl, rfl, rfl, by rw [List.size_toArray, hi.length]; exact hl, by simpa using rv⟩) (fun b u z => nomatch z) (fun b u z => nomatch z)
  | none =>
    have at_ : ∀ {b : Addr} {u : HO}, (if b = a then some (HO.frz { cls := .type "list", data := .seq vs.toArray } (.lst (ns.map V.int))) else none) = some u → b = a ∧ u = HO.frz { cls := .type "list", data := .seq vs.toArray } (.lst (ns.map V.int)) := fun {b u} z => by
      by_cases h : b = a
      · rw [if_pos h] at z
        exact ⟨h, (Option.some.inj z).symm⟩
      · rw [if_neg h] at z
        cases z
    refine go (fun b => if b = a then some (.frz { cls := .type "list", data := .seq vs.toArray } (.lst (ns.map V.int))) else none) (fun b => ?_) (.inl (.inr ⟨_, if_pos rfl⟩)) (fun b u z => ?_) fun b u z => ⟨(at_ z).1, hk⟩
    · by_cases h : b = a
      · exact .inr ⟨_, _, if_pos h⟩
      · exact .inl (if_neg h)
    · obtain ⟨z1, z2⟩ := at_ z
      subst z1 z2
      exact ⟨ha, by rw [List.length_map]; exact hl, vs, _, rv, ha⟩
/-- a def that stands in the module, by its name -/
structure Cal (P : Program) (w : World) (K : PySem.W.Frag) (mg : Str → Option Value) (base : Heap) (k : Nat) (x : Str) (ps : List Str) (F : List SV → PL.P SV) : Prop where
  ex : ∃ f fd, mg x = some (.ref f) ∧ PySem.W.keepIn K (.ref f) = true ∧ Binds K fd ps [] ∧ FnG P w K mg base k f fd ps (spF ⟨K, mg⟩ ps.length F)
def chk (n : Nat) (F : List SV → P SV) : List SV → P SV := fun xs => if xs.length = n then F xs else P.stk
section
variable {X : Cx} {W : WX} {e : Expr} {es : List Expr} {pos p : Pos} {fs : En → P (List SV)}
theorem je_call {k n : Nat} {x : Str} {ps : List Str} {F : List SV → PL.P SV} (C : Cal X.prog X.w X.K X.mg X.base k x ps F) (hr : RoomG k X.A) (tk : Takes X W) (hg : Gl X x) (js : JA X W (e :: es) fs)
    (hdb : (x == ("__debug__" : Str)) = false := by decide) (he : starEach (e :: es) X.env = (false, eval e X.env) :: starEach es X.env := by rfl) (hpl : (backTo pos (starEach es X.env)).any (·.1) = false := by rfl) (hn : ps.length = n := by rfl) :
    JE X W (.Call (.Name x p) (e :: es) [] pos) (dA (chk n F) fs) := by
  subst hn
  obtain ⟨f, fd, hm, hk, hb, hF⟩ := C.ex
  refine ⟨fun {G S H ρ m env σ Q} M E h pins s I => ?_⟩
  refine wpAny_Call_Name_kw (ld_glob I hg hm ?_ hdb)
  refine PySem.W.callWith_K (h₀ := X.base) I.ok.mod.kin hk (thn (js.run (Q := fun vs H1 => spF ⟨X.K, X.mg⟩ ps.length F vs H1 Q fun cls d H => W cls d σ H) M E (wpr_monoQ (wpr_bnd h) fun xs m1 hx => ?_) pos pins s I) fun us s1 ⟨vs, H1, I1, r, q⟩ => ⟨I1.kIn, ?_⟩) he hpl
  · intro S1 H1 ρ1 xv e1 M1 rx
    unfold chk at hx
    split at hx
    · rename_i hl
      exact ⟨by rw [Paired.length rx]; exact hl, G, S1, ρ1, m1, xs, M1, rx, wpr_mono hx (fun v m2 hv => qv_ext e1 hv) fun x m2 hv => qx_ext e1 hv⟩
    · exact hx.elim
  · have hl : us.length = ps.length := by rw [← r.length]; exact hF.ln _ _ _ _ q
    have b := hb s1 us I1.kIn (by rw [List.append_nil]; exact hl)
    rw [List.append_nil] at b
    exact wpAny_call (codeAny_mono (hF.go X.A X.stack s1 H1 _ us vs Q _ hr I1.env0 b r q) fun rr s' hq => after_go tk I1 hq)
end
/-- THE RULE for a def -/
theorem fok_of {P : Program} {w : World} {K : PySem.W.Frag} {mg : Str → Option Value} {base : Heap} {k : Nat} {x : Str} {N ps : List Str} {st : Stmt} {f : Addr} {fd : FuncData} {ex : Nat → SV → Mem → R SV} {fb : DS} {dvs : List V} {kws : List (Str × V)}
    (F : FunD K x x (defArgs st) (defBody st) (defScope st) dvs kws f fd) (S : FnScope N ps (defScope st)) (hex : ExitOk ex)
    (j : ∀ (cdv : Value) (A : Around) (outer : List Env) (s : Shared) (H : Hp) (E : XK), RoomG k (A.deeper (envOfC x (defScope st) s.heap.objs.size f cdv)) →
      JB (cxOf (L2.CX P w) P w K mg base N x (defScope st) f cdv A outer s H E) (fun cls d _ H => E cls d H) (defBody st) fb) :
    FnG P w K mg base (k + 1) f fd ps (spF ⟨K, mg⟩ ps.length (fnRun N.length ex fb)) := by
  refine fng_of F S (fun vs H Q E h => h.1) fun cdv A outer s H vs Q E hr h => ?_
  obtain ⟨hl, G, S0, ρ, m, xs, M, r, h⟩ := h
  refine ⟨_, pss_wss, (j cdv A outer s H E hr).run (env := enter N.length xs) (σ := L2.start N vs) M (er_enter r) ?_⟩
  have kept : ∀ {S' : Hp} {ρ' : List Addr}, Ext S0 ρ S' ρ' → Ext S0 ρ S' (ρ'.take m.length) := fun {S' ρ'} e => ⟨e.s, fun i a q => take_get (by rw [← M.len]; exact (List.getElem?_eq_some_iff.mp q).1) (e.r i a q)⟩
  have more : ∀ {S' : Hp} {ρ' : List Addr} {H' : Hp} {m' : Mem}, Ext S0 ρ S' ρ' → MR ⟨K, mg⟩ G S' H' ρ' m' → m.length ≤ m'.length := fun {S' ρ' H' m'} e M' => by
    rw [← M.len, ← M'.len]
    by_cases h0 : ρ.length ≤ ρ'.length
    · exact h0
    · have hlt : ρ'.length < ρ.length := by omega
      have q := e.r ρ'.length ρ[ρ'.length] (List.getElem?_eq_getElem hlt)
      rw [List.getElem?_eq_none (Nat.le_refl _)] at q
      cases q
  unfold fnRun at h
  cases e : fb (enter N.length xs) m with
  | stuck => rw [e] at h; exact h.elim
  | exc y m' =>
    rw [e] at h
    exact fun S' H' ρ' σ' cls d e' M' x' => h S' H' (ρ'.take m.length) cls d (kept e') (M'.take _) x'
  | ok o m' =>
    rw [e] at h
    cases o with
    | nx env' => exact fun S' H' ρ' σ' e' M' E' => h S' H' (ρ'.take m.length) .non (kept e') (M'.take _) .non
    | rt v =>
      intro S' H' ρ' vv e' M' rv
      obtain ⟨S2, ρ2, w2, m2, q, s2, r2, M2, rv2⟩ := hex M' rv (more e' M') h
      exact q S2 H' ρ2 vv ⟨e'.s.trans s2, fun i a z => r2 i a (by rw [← M.len]; exact (List.getElem?_eq_some_iff.mp z).1) (e'.r i a z)⟩ M2 rv2
    | bk _ => exact h.elim
    | ct _ => exact h.elim
theorem cal_of {P : Program} {w : World} {K : PySem.W.Frag} {mg : Str → Option Value} {base : Heap} {k : Nat} {x : Str} {ps : List Str} {f : Addr} {fd : FuncData} {params : Arguments} {body : List Stmt} {scope : Scope} {dvs : List V} {kws : List (Str × V)} {F0 : List SV → PL.P SV}
    (F : FunD K x x params body scope dvs kws f fd) (hm : mg x = some (.ref f)) (hb : Binds K fd ps []) (h : FnG P w K mg base k f fd ps (spF ⟨K, mg⟩ ps.length F0)) : Cal P w K mg base k x ps F0 := ⟨f, fd, hm, F.kp, hb, h⟩
/-- a plainer function in its place -/
theorem Cal.by {P : Program} {w : World} {K : PySem.W.Frag} {mg : Str → Option Value} {base : Heap} {k : Nat} {x : Str} {ps : List Str} {F F' : List SV → PL.P SV} (C : Cal P w K mg base k x ps F) (h : ∀ xs m, F' xs m ≠ .stuck → F xs m = F' xs m) : Cal P w K mg base k x ps F' := by
  obtain ⟨f, fd, hm, hk, hb, hF⟩ := C.ex
  refine ⟨f, fd, hm, hk, hb, hF.imp fun vs H Q E q => ?_⟩
  obtain ⟨hl, G, S, ρ, m, xs, M, r, q⟩ := q
  refine ⟨hl, G, S, ρ, m, xs, M, r, ?_⟩
  rw [h xs m fun z => by rw [z] at q; exact q]
  exact q
/-- the law itself -/
theorem walk_law {l : PySem.W.OpenLaw} {n k : Nat} {q : Program} {loose : List Str} {XP : (Str → Option Value) → Heap → Prop} {YP : World → Heap → Prop} {d : DefRec} {x : Str} {F : List SV → PL.P SV}
    (hn : l.most = some n) (hn2 : n ≤ sizeLine) (hdf : d.params.defaults = []) (hr : Room k callerA)
    (hF : ∀ (w : World) (mg : Str → Option Value) (h : Heap), YP w h → h.Ns mainGlobals mg → ∃ (K : PySem.W.Frag) (f : Addr) (fd : FuncData), K.In h ∧ mg d.name = some (.ref f) ∧ (∀ (s : Shared) (u : Value), BindsTo s fd ⟨[u], []⟩ [(x, u)]) ∧
      ∀ base : Heap, FnG l.prog w K mg base k f fd [x] (spF ⟨K, mg⟩ 1 F))
    (hl : ∀ ns : List Int, ns.length ≤ n → ∃ m', F [.dat (.scr ns)] [] = .ok (.dat (.bl true)) m') :
    PySem.W.WalkO q loose XP YP l.row.toRowW d [] (fun f vs => PySem.call f vs) := by
  refine Att.attach_call hn hdf fun w s₀ s₁ mg mb fa o pm cd doc a vs ns G Y ho hd hcd hmg hobj hints hlen hg => ?_
  obtain ⟨K, f, fd, KX, hm, hb, hok⟩ := hF w mg _ Y G.T.g
  rw [hmg] at hm
  cases hm
  refine law_callG (sp := spF ⟨K, mg⟩ 1 F) KX G.T.g G.T.b G.T.builtins G.T.nolimit hg hobj hints (Nat.le_trans hlen hn2) hr hok hb (fun H hS => ?_) fun H e s' hx => ?_
  · obtain ⟨m', e⟩ := hl ns hlen
    refine ⟨rfl, fun _ => none, H, [], [], [.dat (.scr ns)], ⟨Same.refl H, (fun b o e => by cases e), (fun b o e => by cases e), rfl, (fun i xs e => by simp at e), (fun i j xs ys a e => by simp at e)⟩, .cons (.scr hS) .nil, ?_⟩
    rw [e]
    intro S' H' ρ' vv _ _ r
    cases r
    rfl
  · obtain ⟨_, _, _, _, _, _, _, _, _, _, _, _, z⟩ := hx
    exact z
theorem Cal.mono {P : Program} {w : World} {K : PySem.W.Frag} {mg : Str → Option Value} {base : Heap} {j k : Nat} {x : Str} {ps : List Str} {F : List SV → PL.P SV} (C : Cal P w K mg base j x ps F) (h : j ≤ k) : Cal P w K mg base k x ps F := by
  obtain ⟨f, fd, hm, hk, hb, hF⟩ := C.ex
  exact ⟨f, fd, hm, hk, hb, hF.mono h⟩
end PL

/-! PL6: evaluating denotations: simp lemmas. -/
namespace PL
open PySem PySem.Spec PyProof.Rows L2
section
variable {α β : Type}
@[simp] theorem ret_ap (a : α) (m : Mem) : P.ret a m = .ok a m := (rfl)
@[simp] theorem stk_ap (m : Mem) : (P.stk m : R α) = .stuck := (rfl)
@[simp] theorem bnd_ap (x : P α) (f : α → P β) (m : Mem) : P.bnd x f m = R.bnd (x m) f := (rfl)
@[simp] theorem bnd_ok (a : α) (m : Mem) (f : α → Mem → R β) : R.bnd (.ok a m) f = f a m := (rfl)
@[simp] theorem bnd_exc (x : Exc) (m : Mem) (f : α → Mem → R β) : R.bnd (.exc x m) f = .exc x m := (rfl)
@[simp] theorem bnd_stuck (f : α → Mem → R β) : R.bnd (.stuck : R α) f = .stuck := (rfl)
end
/-! continuations by names, so that simp does not go into them -/
def look (o : Option (Option SV)) (m : Mem) : R SV := match o with
  | some (some v) => .ok v m
  | _ => .stuck
@[simp] theorem look_some (v : SV) (m : Mem) : look (some (some v)) m = .ok v m := (rfl)
@[simp] theorem look_none (m : Mem) : look (some none) m = .stuck := (rfl)
@[simp] theorem dVar_ap (i : Nat) (env : En) (m : Mem) : dVar i env m = look env[i]? m := by
  unfold dVar look
  split <;> simp_all
@[simp] theorem dC_ap (d : D) (env : En) (m : Mem) : dC d env m = .ok (.dat d) m := (rfl)
def k2 (g : SV → SV → P SV) (fb : En → P SV) (env : En) (x : SV) (m : Mem) : R SV := (fb env m).bnd (g x)
@[simp] theorem k2_ap (g : SV → SV → P SV) (fb : En → P SV) (env : En) (x : SV) (m : Mem) : k2 g fb env x m = (fb env m).bnd (g x) := (rfl)
@[simp] theorem d2_ap (g : SV → SV → P SV) (fa fb : En → P SV) (env : En) (m : Mem) : d2 g fa fb env m = (fa env m).bnd (k2 g fb env) := (rfl)
@[simp] theorem d1_ap (g : SV → P SV) (fa : En → P SV) (env : En) (m : Mem) : d1 g fa env m = (fa env m).bnd g := (rfl)
@[simp] theorem dA_ap (g : List SV → P SV) (fs : En → P (List SV)) (env : En) (m : Mem) : dA g fs env m = (fs env m).bnd g := (rfl)
@[simp] theorem dNil_ap (env : En) (m : Mem) : dNil env m = .ok [] m := (rfl)
def kCons2 (x : SV) (xs : List SV) (m : Mem) : R (List SV) := .ok (x :: xs) m
@[simp] theorem kCons2_ap (x : SV) (xs : List SV) (m : Mem) : kCons2 x xs m = .ok (x :: xs) m := (rfl)
def kCons (g : En → P (List SV)) (env : En) (x : SV) (m : Mem) : R (List SV) := (g env m).bnd (kCons2 x)
@[simp] theorem kCons_ap (g : En → P (List SV)) (env : En) (x : SV) (m : Mem) : kCons g env x m = (g env m).bnd (kCons2 x) := (rfl)
@[simp] theorem dCons_ap (f : En → P SV) (g : En → P (List SV)) (env : En) (m : Mem) : dCons f g env m = (f env m).bnd (kCons g env) := (rfl)
@[simp] theorem chk_ap (n : Nat) (F : List SV → P SV) (xs : List SV) (m : Mem) : chk n F xs m = if xs.length = n then F xs m else .stuck := by
  unfold chk
  split <;> rfl
@[simp] theorem dB_ap (f : En → P SV) (env : En) (m : Mem) : dB f env m = (f env m).bnd asB := (rfl)
@[simp] theorem asB_bl (b : Bool) (m : Mem) : asB (.dat (.bl b)) m = .ok b m := (rfl)
def onB (v : SV) (a b : R SV) : R SV := match v with
  | .dat (.bl true) => a
  | .dat (.bl false) => b
  | _ => .stuck
@[simp] theorem onB_bl (k : Bool) (a b : R SV) : onB (.dat (.bl k)) a b = if k = true then a else b := by cases k <;> rfl
def kCh2 (g' : SV → SV → P SV) (fc : En → P SV) (env : En) (y z : SV) (m : Mem) : R SV := onB z ((fc env m).bnd (g' y)) (.ok (.dat (.bl false)) m)
@[simp] theorem kCh2_ap (g' : SV → SV → P SV) (fc : En → P SV) (env : En) (y z : SV) (m : Mem) : kCh2 g' fc env y z m = onB z ((fc env m).bnd (g' y)) (.ok (.dat (.bl false)) m) := (rfl)
def kCh1 (g g' : SV → SV → P SV) (fc : En → P SV) (env : En) (x y : SV) (m : Mem) : R SV := (g x y m).bnd (kCh2 g' fc env y)
@[simp] theorem kCh1_ap (g g' : SV → SV → P SV) (fc : En → P SV) (env : En) (x y : SV) (m : Mem) : kCh1 g g' fc env x y m = (g x y m).bnd (kCh2 g' fc env y) := (rfl)
def kCh0 (g g' : SV → SV → P SV) (fb fc : En → P SV) (env : En) (x : SV) (m : Mem) : R SV := (fb env m).bnd (kCh1 g g' fc env x)
@[simp] theorem kCh0_ap (g g' : SV → SV → P SV) (fb fc : En → P SV) (env : En) (x : SV) (m : Mem) : kCh0 g g' fb fc env x m = (fb env m).bnd (kCh1 g g' fc env x) := (rfl)
theorem onB_ap (z : SV) (a b : P SV) (m : Mem) : (match z with
  | .dat (.bl true) => a
  | .dat (.bl false) => b
  | _ => P.stk) m = onB z (a m) (b m) := by
  unfold onB
  split <;> simp_all
@[simp] theorem dCh_ap (g g' : SV → SV → P SV) (fa fb fc : En → P SV) (env : En) (m : Mem) : dCh g g' fa fb fc env m = (fa env m).bnd (kCh0 g g' fb fc env) := by
  unfold dCh P.bnd
  congr 1
  funext x m1
  show R.bnd _ _ = R.bnd _ _
  congr 1
  funext y m2
  show R.bnd _ _ = R.bnd _ _
  congr 1
  funext z m3
  exact onB_ap z _ _ m3
def kAnd (fb : En → P SV) (env : En) (x : SV) (m : Mem) : R SV := onB x (fb env m) (.ok (.dat (.bl false)) m)
def kOr (fb : En → P SV) (env : En) (x : SV) (m : Mem) : R SV := onB x (.ok (.dat (.bl true)) m) (fb env m)
@[simp] theorem kAnd_ap (fb : En → P SV) (env : En) (x : SV) (m : Mem) : kAnd fb env x m = onB x (fb env m) (.ok (.dat (.bl false)) m) := (rfl)
@[simp] theorem kOr_ap (fb : En → P SV) (env : En) (x : SV) (m : Mem) : kOr fb env x m = onB x (.ok (.dat (.bl true)) m) (fb env m) := (rfl)
@[simp] theorem dAndV_ap (fa fb : En → P SV) (env : En) (m : Mem) : dAndV fa fb env m = (fa env m).bnd (kAnd fb env) := by
  unfold dAndV P.bnd
  congr 1
  funext x m1
  exact onB_ap x _ _ m1
@[simp] theorem dOrV_ap (fa fb : En → P SV) (env : En) (m : Mem) : dOrV fa fb env m = (fa env m).bnd (kOr fb env) := by
  unfold dOrV P.bnd
  congr 1
  funext x m1
  exact onB_ap x _ _ m1
def kNot (x : SV) (m : Mem) : R SV := match x with
  | .dat (.bl k) => .ok (.dat (.bl (!k))) m
  | _ => .stuck
@[simp] theorem kNot_bl (k : Bool) (m : Mem) : kNot (.dat (.bl k)) m = .ok (.dat (.bl (!k))) m := (rfl)
@[simp] theorem dNotV_ap (fa : En → P SV) (env : En) (m : Mem) : dNotV fa env m = (fa env m).bnd kNot := by
  unfold dNotV P.bnd
  congr 1
  funext x m1
  unfold kNot
  split <;> simp_all
def kAndT (tb : En → P Bool) (env : En) (k : Bool) (m : Mem) : R Bool := if k = true then tb env m else .ok false m
def kOrT (tb : En → P Bool) (env : En) (k : Bool) (m : Mem) : R Bool := if k = true then .ok true m else tb env m
@[simp] theorem kAndT_ap (tb : En → P Bool) (env : En) (k : Bool) (m : Mem) : kAndT tb env k m = if k = true then tb env m else .ok false m := (rfl)
@[simp] theorem kOrT_ap (tb : En → P Bool) (env : En) (k : Bool) (m : Mem) : kOrT tb env k m = if k = true then .ok true m else tb env m := (rfl)
@[simp] theorem dAndT_ap (ta tb : En → P Bool) (env : En) (m : Mem) : dAndT ta tb env m = (ta env m).bnd (kAndT tb env) := by
  unfold dAndT P.bnd
  congr 1
  funext k m1
  cases k <;> rfl
@[simp] theorem dOrT_ap (ta tb : En → P Bool) (env : En) (m : Mem) : dOrT ta tb env m = (ta env m).bnd (kOrT tb env) := by
  unfold dOrT P.bnd
  congr 1
  funext k m1
  cases k <;> rfl
def kNotT (k : Bool) (m : Mem) : R Bool := .ok (!k) m
@[simp] theorem kNotT_ap (k : Bool) (m : Mem) : kNotT k m = .ok (!k) m := (rfl)
@[simp] theorem dNotT_ap (ta : En → P Bool) (env : En) (m : Mem) : dNotT ta env m = (ta env m).bnd kNotT := (rfl)
def kIf (fa fb : En → P SV) (env : En) (k : Bool) (m : Mem) : R SV := if k = true then fa env m else fb env m
@[simp] theorem kIf_ap (fa fb : En → P SV) (env : En) (k : Bool) (m : Mem) : kIf fa fb env k m = if k = true then fa env m else fb env m := (rfl)
@[simp] theorem dIf_ap (t : En → P Bool) (fa fb : En → P SV) (env : En) (m : Mem) : dIf t fa fb env m = (t env m).bnd (kIf fa fb env) := by
  unfold dIf P.bnd
  congr 1
  funext k m1
  cases k <;> rfl
@[simp] theorem dTr_ap (f : En → P SV) (env : En) (m : Mem) : dTr f env m = (f env m).bnd truV := (rfl)
@[simp] theorem truV_bl (b : Bool) (m : Mem) : truV (.dat (.bl b)) m = .ok b m := (rfl)
/-! ### statements -/
@[simp] theorem dNx_ap (env : En) (m : Mem) : dNx env m = .ok (.nx env) m := (rfl)
@[simp] theorem dBk_ap (env : En) (m : Mem) : dBk env m = .ok (.bk env) m := (rfl)
@[simp] theorem dCt_ap (env : En) (m : Mem) : dCt env m = .ok (.ct env) m := (rfl)
@[simp] theorem dNever_ap (env : En) (m : Mem) : dNever env m = .stuck := (rfl)
def kSeq (g : DS) (o : Out) (m : Mem) : R Out := match o with
  | .nx env' => g env' m
  | o => .ok o m
@[simp] theorem kSeq_nx (g : DS) (env : En) (m : Mem) : kSeq g (.nx env) m = g env m := (rfl)
@[simp] theorem kSeq_rt (g : DS) (v : SV) (m : Mem) : kSeq g (.rt v) m = .ok (.rt v) m := (rfl)
@[simp] theorem kSeq_bk (g : DS) (env : En) (m : Mem) : kSeq g (.bk env) m = .ok (.bk env) m := (rfl)
@[simp] theorem kSeq_ct (g : DS) (env : En) (m : Mem) : kSeq g (.ct env) m = .ok (.ct env) m := (rfl)
@[simp] theorem dSeq_ap (f g : DS) (env : En) (m : Mem) : dSeq f g env m = (f env m).bnd (kSeq g) := by
  unfold dSeq P.bnd
  congr 1
  funext o m1
  cases o <;> rfl
def kRt (v : SV) (m : Mem) : R Out := .ok (.rt v) m
@[simp] theorem kRt_ap (v : SV) (m : Mem) : kRt v m = .ok (.rt v) m := (rfl)
@[simp] theorem dRet_ap (fa : En → P SV) (env : En) (m : Mem) : dRet fa env m = (fa env m).bnd kRt := (rfl)
def kIfS (f g : DS) (env : En) (k : Bool) (m : Mem) : R Out := if k = true then f env m else g env m
@[simp] theorem kIfS_ap (f g : DS) (env : En) (k : Bool) (m : Mem) : kIfS f g env k m = if k = true then f env m else g env m := (rfl)
@[simp] theorem dIfS_ap (t : En → P Bool) (f g : DS) (env : En) (m : Mem) : dIfS t f g env m = (t env m).bnd (kIfS f g env) := by
  unfold dIfS P.bnd
  congr 1
  funext k m1
  cases k <;> rfl
def kSet (i : Nat) (env : En) (v : SV) (m : Mem) : R Out := .ok (.nx (env.set i (some v))) m
@[simp] theorem kSet_ap (i : Nat) (env : En) (v : SV) (m : Mem) : kSet i env v m = .ok (.nx (env.set i (some v))) m := (rfl)
@[simp] theorem dSet_ap (i : Nat) (fa : En → P SV) (env : En) (m : Mem) : dSet i fa env m = (fa env m).bnd (kSet i env) := (rfl)
def kDrop (env : En) (v : SV) (m : Mem) : R Out := .ok (.nx env) m
@[simp] theorem kDrop_ap (env : En) (v : SV) (m : Mem) : kDrop env v m = .ok (.nx env) m := (rfl)
@[simp] theorem dDrop_ap (fa : En → P SV) (env : En) (m : Mem) : dDrop fa env m = (fa env m).bnd (kDrop env) := (rfl)
def kPar (i j : Nat) (env : En) (vs : List SV) (m : Mem) : R Out := match vs with
  | [v, w] => .ok (.nx ((env.set i (some v)).set j (some w))) m
  | _ => .stuck
@[simp] theorem kPar_ap (i j : Nat) (env : En) (v w : SV) (m : Mem) : kPar i j env [v, w] m = .ok (.nx ((env.set i (some v)).set j (some w))) m := (rfl)
@[simp] theorem dPar_ap (i j : Nat) (fs : En → P (List SV)) (env : En) (m : Mem) : dPar i j fs env m = (fs env m).bnd (kPar i j env) := (rfl)
def kFor (g : D → En → Option En) (body : DS) (env : En) (items : List D) (m : Mem) : R Out := loopF g body items env m
@[simp] theorem kFor_ap (g : D → En → Option En) (body : DS) (env : En) (items : List D) (m : Mem) : kFor g body env items m = loopF g body items env m := (rfl)
@[simp] theorem dFor_ap (fi : En → P (List D)) (g : D → En → Option En) (body : DS) (env : En) (m : Mem) : dFor fi g body env m = (fi env m).bnd (kFor g body env) := (rfl)
@[simp] theorem dWhile_ap (n : Nat) (t : En → P Bool) (body : DS) (env : En) (m : Mem) : dWhile n t body env m = loopW t body n env m := (rfl)
@[simp] theorem dIt_ap (f : En → P SV) (env : En) (m : Mem) : dIt f env m = (f env m).bnd itemsV := (rfl)
@[simp] theorem dAI_ap (g : List SV → P (List D)) (fs : En → P (List SV)) (env : En) (m : Mem) : dAI g fs env m = (fs env m).bnd g := (rfl)
def ofEn (o : Option En) (m : Mem) : R Out := match o with
  | some env => .ok (.nx env) m
  | none => .stuck
@[simp] theorem ofEn_some (env : En) (m : Mem) : ofEn (some env) m = .ok (.nx env) m := (rfl)
def kAsg (g : D → En → Option En) (env : En) (v : SV) (m : Mem) : R Out := match v with
  | .dat d => ofEn (g d env) m
  | .ref _ => .stuck
@[simp] theorem kAsg_dat (g : D → En → Option En) (env : En) (d : D) (m : Mem) : kAsg g env (.dat d) m = ofEn (g d env) m := (rfl)
@[simp] theorem dAsg_ap (fa : En → P SV) (g : D → En → Option En) (env : En) (m : Mem) : dAsg fa g env m = (fa env m).bnd (kAsg g env) := by
  unfold dAsg P.bnd
  congr 1
def nox {α : Type} (r : R α) : R α := match r with
  | .ok a m => .ok a m
  | _ => .stuck
@[simp] theorem nox_ok {α : Type} (a : α) (m : Mem) : nox (.ok a m) = .ok a m := (rfl)
theorem noX_ap {α : Type} (x : P α) (m : Mem) : noX x m = nox (x m) := (rfl)
def kLc2 (acc : List D) (m : Mem) : R SV := .ok (.dat (.lst acc)) m
@[simp] theorem kLc2_ap (acc : List D) (m : Mem) : kLc2 acc m = .ok (.dat (.lst acc)) m := (rfl)
def kLc (g : D → En → Option En) (t : En → P Bool) (f : En → P SV) (env : En) (items : List D) (m : Mem) : R SV := (noX (loopC g t f env items []) m).bnd kLc2
@[simp] theorem kLc_ap (g : D → En → Option En) (t : En → P Bool) (f : En → P SV) (env : En) (items : List D) (m : Mem) : kLc g t f env items m = (noX (loopC g t f env items []) m).bnd kLc2 := (rfl)
@[simp] theorem dLc_ap (vs : List Nat) (fi : En → P (List D)) (g : D → En → Option En) (t : En → P Bool) (f : En → P SV) (env : En) (m : Mem) : dLc vs fi g t f env m = (fi env m).bnd (kLc g t f (wipeE env vs)) := (rfl)
def kLcO2 (acc : List D) (m : Mem) : R SV := .ok (.ref m.length) (m ++ [.lst acc])
@[simp] theorem kLcO2_ap (acc : List D) (m : Mem) : kLcO2 acc m = .ok (.ref m.length) (m ++ [.lst acc]) := (rfl)
def kLcO (g : D → En → Option En) (t : En → P Bool) (f : En → P SV) (env : En) (items : List D) (m : Mem) : R SV := (noX (loopC g t f env items []) m).bnd kLcO2
@[simp] theorem kLcO_ap (g : D → En → Option En) (t : En → P Bool) (f : En → P SV) (env : En) (items : List D) (m : Mem) : kLcO g t f env items m = (noX (loopC g t f env items []) m).bnd kLcO2 := (rfl)
@[simp] theorem dLcO_ap (vs : List Nat) (fi : En → P (List D)) (g : D → En → Option En) (t : En → P Bool) (f : En → P SV) (env : En) (m : Mem) : dLcO vs fi g t f env m = (fi env m).bnd (kLcO g t f (wipeE env vs)) := (rfl)
def kAug2 (i : Nat) (env : En) (z : SV) (m : Mem) : R Out := .ok (.nx (env.set i (some z))) m
@[simp] theorem kAug2_ap (i : Nat) (env : En) (z : SV) (m : Mem) : kAug2 i env z m = .ok (.nx (env.set i (some z))) m := (rfl)
def kAug1 (i : Nat) (gg : SV → SV → P SV) (env : En) (v y : SV) (m : Mem) : R Out := (gg v y m).bnd (kAug2 i env)
@[simp] theorem kAug1_ap (i : Nat) (gg : SV → SV → P SV) (env : En) (v y : SV) (m : Mem) : kAug1 i gg env v y m = (gg v y m).bnd (kAug2 i env) := (rfl)
def kAug (i : Nat) (gg : SV → SV → P SV) (fa : En → P SV) (env : En) (v : SV) (m : Mem) : R Out := (fa env m).bnd (kAug1 i gg env v)
@[simp] theorem kAug_ap (i : Nat) (gg : SV → SV → P SV) (fa : En → P SV) (env : En) (v : SV) (m : Mem) : kAug i gg fa env v m = (fa env m).bnd (kAug1 i gg env v) := (rfl)
@[simp] theorem dAug_ap (i : Nat) (gg : SV → SV → P SV) (fa : En → P SV) (env : En) (m : Mem) : dAug i gg fa env m = (dVar i env m).bnd (kAug i gg fa env) := (rfl)
@[simp] theorem intAdd_int (i j : Int) (m : Mem) : intAdd (.dat (.int i)) (.dat (.int j)) m = .ok (.dat (.int (i + j))) m := (rfl)
/-- xs[k] = d -/
def setC (o : Option Cell) (env : En) (n : Nat) (k : Int) (d : D) (m : Mem) : R Out := match o with
  | some (.lst xs) => (match ixN xs.length k with
    | some j => .ok (.nx env) (m.set n (.lst (xs.set j d)))
    | none => .stuck)
  | _ => .stuck
theorem setC_lst (xs : List D) (env : En) (n : Nat) (k : Int) (d : D) (m : Mem) {j : Nat} (h : ixN xs.length k = some j) : setC (some (.lst xs)) env n k d m = .ok (.nx env) (m.set n (.lst (xs.set j d))) := by
  simp [setC, h]
def kSx2 (env : En) (v o i : SV) (m : Mem) : R Out := match o, i, v with
  | .ref n, .dat (.int k), .dat d => setC m[n]? env n k d m
  | _, _, _ => .stuck
@[simp] theorem kSx2_ap (env : En) (n : Nat) (k : Int) (d : D) (m : Mem) : kSx2 env (.dat d) (.ref n) (.dat (.int k)) m = setC m[n]? env n k d m := (rfl)
def kSx1 (fi : En → P SV) (env : En) (v o : SV) (m : Mem) : R Out := (fi env m).bnd (kSx2 env v o)
@[simp] theorem kSx1_ap (fi : En → P SV) (env : En) (v o : SV) (m : Mem) : kSx1 fi env v o m = (fi env m).bnd (kSx2 env v o) := (rfl)
def kSx (fo fi : En → P SV) (env : En) (v : SV) (m : Mem) : R Out := (fo env m).bnd (kSx1 fi env v)
@[simp] theorem kSx_ap (fo fi : En → P SV) (env : En) (v : SV) (m : Mem) : kSx fo fi env v m = (fo env m).bnd (kSx1 fi env v) := (rfl)
@[simp] theorem dSetIx_ap (fo fi fv : En → P SV) (env : En) (m : Mem) : dSetIx fo fi fv env m = (fv env m).bnd (kSx fo fi env) := (rfl)
/-- xs.append(d) -/
def appC (o : Option Cell) (env : En) (n : Nat) (d : D) (m : Mem) : R Out := match o with
  | some (.lst xs) => if xs.length < 16777216 then .ok (.nx env) (m.set n (.lst (xs ++ [d]))) else .stuck
  | _ => .stuck
@[simp] theorem appC_lst (xs : List D) (env : En) (n : Nat) (d : D) (m : Mem) : appC (some (.lst xs)) env n d m = if xs.length < 16777216 then .ok (.nx env) (m.set n (.lst (xs ++ [d]))) else .stuck := (rfl)
def kApp1 (env : En) (x y : SV) (m : Mem) : R Out := match x, y with
  | .ref n, .dat d => appC m[n]? env n d m
  | _, _ => .stuck
@[simp] theorem kApp1_ap (env : En) (n : Nat) (d : D) (m : Mem) : kApp1 env (.ref n) (.dat d) m = appC m[n]? env n d m := (rfl)
def ifL (o : Option (List D)) (r : R Out) : R Out := match o with
  | some _ => r
  | none => .stuck
@[simp] theorem ifL_some (xs : List D) (r : R Out) : ifL (some xs) r = r := (rfl)
def kApp (fb : En → P SV) (env : En) (x : SV) (m : Mem) : R Out := ifL (rdL x m) ((fb env m).bnd (kApp1 env x))
@[simp] theorem kApp_ap (fb : En → P SV) (env : En) (x : SV) (m : Mem) : kApp fb env x m = ifL (rdL x m) ((fb env m).bnd (kApp1 env x)) := (rfl)
@[simp] theorem dApp_ap (fa fb : En → P SV) (env : En) (m : Mem) : dApp fa fb env m = (fa env m).bnd (kApp fb env) := by
  unfold dApp P.bnd
  congr 1
/-! ### a def -/
@[simp] theorem set_app_len (m : Mem) (c c' : Cell) : (m ++ [c]).set m.length c' = m ++ [c'] := by
  rw [List.set_append_right _ _ (Nat.le_refl _)]
  simp
@[simp] theorem get_app_len (m : Mem) (c : Cell) : (m ++ [c])[m.length]? = some c := by simp
@[simp] theorem take_app_len (m : Mem) (c : Cell) : (m ++ [c]).take m.length = m := by simp
@[simp] theorem take_set_len (m : Mem) (k : Nat) (c : Cell) : (m.set k c).take m.length = m.set k c := List.take_of_length_le (by simp)
@[simp] theorem exitV_dat (k : Nat) (d : D) (m : Mem) : exitV k (.dat d) m = .ok (.dat d) (m.take k) := (rfl)
def fin (ex : Nat → SV → Mem → R SV) (k : Nat) (r : R Out) : R SV := match r with
  | .ok (.nx _) m' => .ok (.dat .non) (m'.take k)
  | .ok (.rt v) m' => ex k v m'
  | .ok _ _ => .stuck
  | .exc x m' => .exc x (m'.take k)
  | .stuck => .stuck
@[simp] theorem fin_nx (ex : Nat → SV → Mem → R SV) (k : Nat) (env : En) (m : Mem) : fin ex k (.ok (.nx env) m) = .ok (.dat .non) (m.take k) := (rfl)
@[simp] theorem fin_rt (ex : Nat → SV → Mem → R SV) (k : Nat) (v : SV) (m : Mem) : fin ex k (.ok (.rt v) m) = ex k v m := (rfl)
@[simp] theorem fin_exc (ex : Nat → SV → Mem → R SV) (k : Nat) (x : Exc) (m : Mem) : fin ex k (.exc x m) = .exc x (m.take k) := (rfl)
theorem fnRun_ap (n : Nat) (ex : Nat → SV → Mem → R SV) (fb : DS) (xs : List SV) (m : Mem) : fnRun n ex fb xs m = fin ex m.length (fb (enter n xs) m) := (rfl)
/-! ### values -/
@[simp] theorem addV_int (i j : Int) (m : Mem) : addV (.dat (.int i)) (.dat (.int j)) m = .ok (.dat (.int (i + j))) m := (rfl)
@[simp] theorem subV_int (i j : Int) (m : Mem) : subV (.dat (.int i)) (.dat (.int j)) m = .ok (.dat (.int (i - j))) m := (rfl)
@[simp] theorem mulV_int (i j : Int) (m : Mem) : mulV (.dat (.int i)) (.dat (.int j)) m = if mulOk i j = true then .ok (.dat (.int (i * j))) m else .stuck := (rfl)
@[simp] theorem fdivV_int (i j : Int) (m : Mem) : fdivV (.dat (.int i)) (.dat (.int j)) m = if j ≠ 0 ∧ j.natAbs < big then .ok (.dat (.int (i.fdiv j))) m else .stuck := (rfl)
@[simp] theorem modV_int (i j : Int) (m : Mem) : modV (.dat (.int i)) (.dat (.int j)) m = if j ≠ 0 then .ok (.dat (.int (i.fmod j))) m else .stuck := (rfl)
@[simp] theorem powV_int (i j : Int) (m : Mem) : powV (.dat (.int i)) (.dat (.int j)) m = if 0 ≤ j ∧ j ≤ 1000000 ∧ i.natAbs < 2 ^ 64 then .ok (.dat (.int (i ^ j.toNat))) m else .stuck := (rfl)
@[simp] theorem ltV_int (i j : Int) (m : Mem) : ltV (.dat (.int i)) (.dat (.int j)) m = .ok (.dat (.bl (decide (i < j)))) m := (rfl)
@[simp] theorem leV_int (i j : Int) (m : Mem) : leV (.dat (.int i)) (.dat (.int j)) m = .ok (.dat (.bl (decide (i ≤ j)))) m := (rfl)
@[simp] theorem gtV_int (i j : Int) (m : Mem) : gtV (.dat (.int i)) (.dat (.int j)) m = .ok (.dat (.bl (decide (j < i)))) m := (rfl)
@[simp] theorem geV_int (i j : Int) (m : Mem) : geV (.dat (.int i)) (.dat (.int j)) m = .ok (.dat (.bl (decide (j ≤ i)))) m := (rfl)
@[simp] theorem negV_int (i : Int) (m : Mem) : negV (.dat (.int i)) m = .ok (.dat (.int (-i))) m := (rfl)
@[simp] theorem max2V_int (i j : Int) (m : Mem) : max2V [.dat (.int i), .dat (.int j)] m = .ok (.dat (.int (max i j))) m := (rfl)
@[simp] theorem min2V_int (i j : Int) (m : Mem) : min2V [.dat (.int i), .dat (.int j)] m = .ok (.dat (.int (min i j))) m := (rfl)
@[simp] theorem absV_int (i : Int) (m : Mem) : absV' [.dat (.int i)] m = .ok (.dat (.int i.natAbs)) m := (rfl)
@[simp] theorem intV_int (i : Int) (m : Mem) : intV [.dat (.int i)] m = .ok (.dat (.int i)) m := (rfl)
@[simp] theorem intV_bl (k : Bool) (m : Mem) : intV [.dat (.bl k)] m = .ok (.dat (.int (if k then 1 else 0))) m := (rfl)
@[simp] theorem isNV_dat (d : D) (m : Mem) : isNV (.dat d) (.dat .non) m = .ok (.dat (.bl (isNon d))) m := (rfl)
@[simp] theorem notNV_dat (d : D) (m : Mem) : notNV (.dat d) (.dat .non) m = .ok (.dat (.bl (!isNon d))) m := (rfl)
@[simp] theorem isNon_non : isNon .non = true := (rfl)
@[simp] theorem isNon_int (i : Int) : isNon (.int i) = false := (rfl)
@[simp] theorem isNon_tup (xs : List D) : isNon (.tup xs) = false := (rfl)
@[simp] theorem isNon_lst (xs : List D) : isNon (.lst xs) = false := (rfl)
@[simp] theorem isNon_bl (b : Bool) : isNon (.bl b) = false := (rfl)
@[simp] theorem isNon_str (x : Str) : isNon (.str x) = false := (rfl)
/-! ### == of ints and None -/
theorem okD_int (i : Int) : okD (.int i) = true := by simp [okD, plain, dep]
theorem okD_non : okD .non = true := by simp [okD, plain, dep]
theorem okD_bl (b : Bool) : okD (.bl b) = true := by simp [okD, plain, dep]
theorem eqd_int (i j : Int) : eqd (.int i) (.int j) = decide (i = j) := by
  simp only [eqd, toPy, PyData.eqv]
  by_cases h : i = j <;> simp [h]
@[simp] theorem eqV_int (i j : Int) (m : Mem) : eqV (.dat (.int i)) (.dat (.int j)) m = .ok (.dat (.bl (decide (i = j)))) m := by
  simp [eqV, svD, okD_int, eqd_int]
@[simp] theorem neV_int (i j : Int) (m : Mem) : neV (.dat (.int i)) (.dat (.int j)) m = .ok (.dat (.bl (!decide (i = j)))) m := by
  simp [neV, svD, okD_int, eqd_int]
@[simp] theorem eqV_int_non (i : Int) (m : Mem) : eqV (.dat (.int i)) (.dat .non) m = .ok (.dat (.bl false)) m := by
  simp [eqV, svD, okD_int, okD_non, eqd, toPy, PyData.eqv]
@[simp] theorem eqV_non_int (i : Int) (m : Mem) : eqV (.dat .non) (.dat (.int i)) m = .ok (.dat (.bl false)) m := by
  simp [eqV, svD, okD_int, okD_non, eqd, toPy, PyData.eqv]
@[simp] theorem eqV_non (m : Mem) : eqV (.dat .non) (.dat .non) m = .ok (.dat (.bl true)) m := by
  simp [eqV, svD, okD_non, eqd, toPy, PyData.eqv]
@[simp] theorem neV_int_non (i : Int) (m : Mem) : neV (.dat (.int i)) (.dat .non) m = .ok (.dat (.bl true)) m := by
  simp [neV, svD, okD_int, okD_non, eqd, toPy, PyData.eqv]
@[simp] theorem neV_non_int (i : Int) (m : Mem) : neV (.dat .non) (.dat (.int i)) m = .ok (.dat (.bl true)) m := by
  simp [neV, svD, okD_int, okD_non, eqd, toPy, PyData.eqv]
@[simp] theorem neV_non (m : Mem) : neV (.dat .non) (.dat .non) m = .ok (.dat (.bl false)) m := by
  simp [neV, svD, okD_non, eqd, toPy, PyData.eqv]
/-! ### lists of ints -/
theorem plains_ints (ns : List Int) : plains (ns.map D.int) = true := by
  induction ns with
  | nil => rfl
  | cons n r ih => simp [plains, plain, ih]
theorem deps_ints (ns : List Int) : deps (ns.map D.int) = 0 := by
  induction ns with
  | nil => rfl
  | cons n r ih => simp [deps, dep, ih]
theorem okD_ints (ns : List Int) : okD (.lst (ns.map D.int)) = true := by simp [okD, plain, dep, plains_ints, deps_ints]
theorem okD_intsT (ns : List Int) : okD (.tup (ns.map D.int)) = true := by simp [okD, plain, dep, plains_ints, deps_ints]
theorem eqvAll_ints : ∀ ns ms : List Int, PyData.eqvAll (toPys (ns.map D.int)) (toPys (ms.map D.int)) = decide (ns = ms)
  | [], [] => by simp [toPys, PyData.eqvAll]
  | [], m :: ms => by simp [toPys, PyData.eqvAll]
  | n :: ns, [] => by simp [toPys, PyData.eqvAll]
  | n :: ns, m :: ms => by
    simp only [List.map_cons, toPys, toPy, PyData.eqvAll, PyData.eqv, eqvAll_ints ns ms]
    by_cases h : n = m <;> by_cases h2 : ns = ms <;> simp [h, h2]
theorem eqd_ints (ns ms : List Int) : eqd (.lst (ns.map D.int)) (.lst (ms.map D.int)) = decide (ns = ms) := by
  simp only [eqd, toPy, PyData.eqv, eqvAll_ints]
theorem eqd_intsT (ns ms : List Int) : eqd (.tup (ns.map D.int)) (.tup (ms.map D.int)) = decide (ns = ms) := by
  simp only [eqd, toPy, PyData.eqv, eqvAll_ints]
@[simp] theorem flatD_int (i : Int) : flatD (.int i) = true := (rfl)
@[simp] theorem flats_ints (xs : List Int) : flats (xs.map D.int) = true := by
  unfold flats
  induction xs with
  | nil => rfl
  | cons y r ih => simp [flatD]
theorem hasD_ints (x : Int) (xs : List Int) : hasD (xs.map D.int) (.int x) = decide (x ∈ xs) := by
  unfold hasD
  induction xs with
  | nil => rfl
  | cons y r ih =>
    rw [List.map_cons, List.any_cons, ih]
    by_cases h : y = x
    · subst h; simp [eqF]
    · have h' : ¬ x = y := fun e => h e.symm
      simp [eqF, h, h']
theorem rngD_get {lo : Int} {n i : Nat} {d : D} (h : (rngD lo n)[i]? = some d) : i < n ∧ d = .int (lo + (i : Int)) := by
  unfold rngD at h
  rw [List.getElem?_map] at h
  by_cases hi : i < n
  · rw [List.getElem?_range hi] at h
    exact ⟨hi, (Option.some.inj h).symm⟩
  · rw [List.getElem?_eq_none (by simpa using hi)] at h
    cases h
theorem rngD_mem {lo : Int} {n : Nat} {d : D} (h : d ∈ rngD lo n) : ∃ i : Nat, i < n ∧ d = .int (lo + (i : Int)) := by
  unfold rngD at h
  rw [List.mem_map] at h
  obtain ⟨i, hi, e⟩ := h
  exact ⟨i, List.mem_range.mp hi, e.symm⟩
@[simp] theorem rngD_length (lo : Int) (n : Nat) : (rngD lo n).length = n := by simp [rngD]
/-! ### loops -/
section
variable {g : D → En → Option En} {body : DS} {d : D} {r : List D} {env env1 env2 : En} {m m2 : Mem}
theorem loopF_nil : loopF g body [] env m = .ok (.nx env) m := (rfl)
theorem loopF_nx (hg : g d env = some env1) (hb : body env1 m = .ok (.nx env2) m2) : loopF g body (d :: r) env m = loopF g body r env2 m2 := by
  simp [loopF, hg, hb]
theorem loopF_ct (hg : g d env = some env1) (hb : body env1 m = .ok (.ct env2) m2) : loopF g body (d :: r) env m = loopF g body r env2 m2 := by
  simp [loopF, hg, hb]
theorem loopF_rt {v : SV} (hg : g d env = some env1) (hb : body env1 m = .ok (.rt v) m2) : loopF g body (d :: r) env m = .ok (.rt v) m2 := by
  simp [loopF, hg, hb]
theorem loopF_bk (hg : g d env = some env1) (hb : body env1 m = .ok (.bk env2) m2) : loopF g body (d :: r) env m = .ok (.nx env2) m2 := by
  simp [loopF, hg, hb]
/-- a loop that comes to its end -/
theorem loopF_inv (I : Nat → En → Mem → Prop) : ∀ (items : List D) (j : Nat) (env : En) (m : Mem), I j env m →
    (∀ i d env m, items[i]? = some d → I (j + i) env m → ∃ env1 env2 m2, g d env = some env1 ∧ (body env1 m = .ok (.nx env2) m2 ∨ body env1 m = .ok (.ct env2) m2) ∧ I (j + i + 1) env2 m2) →
    ∃ env' m', loopF g body items env m = .ok (.nx env') m' ∧ I (j + items.length) env' m'
  | [], j, env, m, h0, _ => ⟨env, m, rfl, h0⟩
  | d :: r, j, env, m, h0, hs => by
    obtain ⟨env1, env2, m2, hg, hb, h1⟩ := hs 0 d env m rfl h0
    obtain ⟨env', m', q, h2⟩ := loopF_inv I r (j + 1) env2 m2 h1 fun i d env m hi hI => by
      have := hs (i + 1) d env m (by simpa using hi) (by rw [show j + (i + 1) = j + 1 + i by omega]; exact hI)
      rw [show j + (i + 1) + 1 = j + 1 + i + 1 by omega] at this
      exact this
    refine ⟨env', m', ?_, by rw [List.length_cons, show j + (r.length + 1) = j + 1 + r.length by omega]; exact h2⟩
    rcases hb with hb | hb
    · rw [loopF_nx hg hb]; exact q
    · rw [loopF_ct hg hb]; exact q
/-- a comprehension whose element is a function of the item -/
theorem loopC_map {t : En → P Bool} {f : En → P SV} {env : En} {m : Mem} (p : D → Bool) (h : D → D) : ∀ (items acc : List D), (∀ d ∈ items, ∃ env1, g d env = some env1 ∧ t env1 m = .ok (p d) m ∧ (p d = true → f env1 m = .ok (.dat (h d)) m)) → acc.length + items.length ≤ 16777216 →
    loopC g t f env items acc m = .ok (acc ++ (items.filter p).map h) m
  | [], acc, _, _ => by simp [loopC]
  | d :: r, acc, hs, hl => by
    obtain ⟨env1, hg, ht, hf⟩ := hs d List.mem_cons_self
    have hr := fun d hd => hs d (List.mem_cons_of_mem _ hd)
    rw [List.length_cons] at hl
    by_cases hp : p d = true
    · have ih := loopC_map (t := t) (f := f) (env := env) (m := m) p h r (acc ++ [h d]) hr (by simp; omega)
      simp [loopC, hg, ht, hp, hf hp, show acc.length < 16777216 by omega, ih]
    · have hp' : p d = false := by simpa using hp
      have ih := loopC_map (t := t) (f := f) (env := env) (m := m) p h r acc hr (by omega)
      simp [loopC, hg, ht, hp', ih]
theorem loopC_all {f : En → P SV} {env : En} {m : Mem} (h : D → D) (items : List D) (hs : ∀ d ∈ items, ∃ env1, g d env = some env1 ∧ f env1 m = .ok (.dat (h d)) m) (hl : items.length ≤ 16777216) :
    noX (loopC g dYes f env items []) m = .ok (items.map h) m := by
  have e := loopC_map (g := g) (t := dYes) (f := f) (env := env) (m := m) (fun _ => true) h items [] (fun d hd => let ⟨e1, a, b⟩ := hs d hd; ⟨e1, a, rfl, fun _ => b⟩) (by simpa using hl)
  rw [List.filter_eq_self.mpr (fun _ _ => rfl)] at e
  simp [noX, e]
end
end PL

/-! PL7: more values: sorted, max, min, slices, repetition, module tuples. -/
namespace PL
open PySem PySem.Spec PyProof.Rows L2
/-- a new list: frozen, or an own one -/
def frs (own : Bool) (xs : List D) : P SV := fun m => if own then .ok (.ref m.length) (m ++ [.lst xs]) else .ok (.dat (.lst xs)) m
@[simp] theorem frs_false (xs : List D) (m : Mem) : frs false xs m = .ok (.dat (.lst xs)) m := (rfl)
@[simp] theorem frs_true (xs : List D) (m : Mem) : frs true xs m = .ok (.ref m.length) (m ++ [.lst xs]) := (rfl)
section
variable {X : Cx} {W : WX}
theorem frs_ok {own : Bool} {G S0 S H : Hp} {ρ0 ρ : List Addr} {m : Mem} {Q : VK} {E : Exc → Mem → Prop} {vs : List V} {xs : List D} (M : MR (gd X) G S H ρ m) (r : RpAll (gd X) S vs xs) (e : Ext S0 ρ0 S ρ)
    (q : wpr (frs own xs m) (QV X G S0 ρ0 Q) E) (p : Addr) (hp : H p = none) : Q (.ref p) (upd H p (.lst vs)) := by
  cases own with
  | false =>
    obtain ⟨s1, M2⟩ := M.grow hp (.lst vs)
    exact q _ _ ρ _ (e.trans ⟨s1, fun _ _ z => z⟩) M2 (.lst upd_same (r.mono s1))
  | true =>
    obtain ⟨e2, M2⟩ := M.alloc hp r
    refine q _ _ _ _ (e.trans e2) M2 ⟨p, ?_, rfl⟩
    rw [← M.len]
    simp
/-! ### sorted, max, min -/
def sortI (ns : List Int) : List Int := ns.mergeSort fun a b => decide (a ≤ b)
theorem sortI_perm (ns : List Int) : (sortI ns).Perm ns := List.mergeSort_perm ..
theorem sortI_up (ns : List Int) : (sortI ns).Pairwise (· ≤ ·) := by
  have h := List.pairwise_mergeSort (le := fun a b : Int => decide (a ≤ b)) (fun a b c h1 h2 => by simp at *; omega) (fun a b => by simp; omega) ns
  exact h.imp fun h => of_decide_eq_true h
theorem up_unique : ∀ {xs ys : List Int}, xs.Perm ys → xs.Pairwise (· ≤ ·) → ys.Pairwise (· ≤ ·) → xs = ys
  | [], ys, p, _, _ => (List.nil_perm.mp p).symm
  | x :: xs, [], p, _, _ => by simpa using p.length_eq
  | x :: xs, y :: ys, p, hx, hy => by
    have h1 : x = y := by
      have a : x ∈ y :: ys := p.subset List.mem_cons_self
      have b : y ∈ x :: xs := p.symm.subset List.mem_cons_self
      rw [List.pairwise_cons] at hx hy
      rcases List.mem_cons.mp a with a | a
      · exact a
      · rcases List.mem_cons.mp b with b | b
        · exact b.symm
        · have := hx.1 y b
          have := hy.1 x a
          omega
    subst h1
    rw [up_unique (List.Perm.cons_inv p) (List.pairwise_cons.mp hx).2 (List.pairwise_cons.mp hy).2]
theorem sortI_eq {xs ys : List Int} (p : xs.Perm ys) (h : xs.Pairwise (· ≤ ·)) : xs = sortI ys := up_unique (p.trans (sortI_perm ys).symm) h (sortI_up ys)
def sortedV (own : Bool) (xs : List SV) : P SV := fun m => match xs with
  | [x] => (match rdL x m with | some ds => (match asIs ds with | some is => frs own ((sortI is).map D.int) m | none => .stuck) | none => .stuck)
  | _ => .stuck
theorem jc_sorted {own : Bool} : JC X W (.builtin "sorted") (sortedV own) := ⟨fun {G S H ρ m σ xs xvs Q} M rx q => by
  unfold sortedV at q
  split at q
  · obtain ⟨v, rfl, r⟩ := paired1 rx
    split at q
    · rename_i ds hd
      split at q
      · rename_i bs hb
        obtain ⟨a, vs, rfl, h1, r1⟩ := rdL_ok M r hd
        have e := rpAll_is r1 hb
        subst e
        refine wc_of cr_sortedI ⟨a, bs, rfl, .inl (.inl h1), fun ns' p hp hu hn => ?_⟩
        rw [sortI_eq hp hu]
        exact frs_ok M (rpAll_ints _) (Ext.refl _ _) q p hn
      · exact q.elim
    · exact q.elim
  · exact q.elim⟩
def maxL : List Int → Option Int
  | [] => none
  | [a] => some a
  | a :: r => (match maxL r with | some b => some (max a b) | none => some a)
def minL : List Int → Option Int
  | [] => none
  | [a] => some a
  | a :: r => (match minL r with | some b => some (min a b) | none => some a)
theorem maxL_ok : ∀ {ns : List Int} {k : Int}, maxL ns = some k → k ∈ ns ∧ ∀ y ∈ ns, y ≤ k
  | [], _, h => by simp [maxL] at h
  | [a], k, h => by simp [maxL] at h; subst h; simp
  | a :: b :: r, k, h => by
    unfold maxL at h
    split at h
    · rename_i c hc
      obtain ⟨i1, i2⟩ := maxL_ok hc
      have e : max a c = k := Option.some.inj h
      refine ⟨?_, fun y hy => ?_⟩
      · by_cases hac : a ≤ c
        · rw [← e, Int.max_eq_right hac]; exact List.mem_cons_of_mem _ i1
        · rw [← e, Int.max_eq_left (by omega)]; exact List.mem_cons_self
      · rcases List.mem_cons.mp hy with rfl | hy
        · omega
        · have := i2 y hy
          omega
    · rename_i hc
      exfalso
      unfold maxL at hc
      split at hc <;> first | contradiction | cases hc | (split at hc <;> cases hc)
theorem minL_ok : ∀ {ns : List Int} {k : Int}, minL ns = some k → k ∈ ns ∧ ∀ y ∈ ns, k ≤ y
  | [], _, h => by simp [minL] at h
  | [a], k, h => by simp [minL] at h; subst h; simp
  | a :: b :: r, k, h => by
    unfold minL at h
    split at h
    · rename_i c hc
      obtain ⟨i1, i2⟩ := minL_ok hc
      have e : min a c = k := Option.some.inj h
      refine ⟨?_, fun y hy => ?_⟩
      · by_cases hac : a ≤ c
        · rw [← e, Int.min_eq_left hac]; exact List.mem_cons_self
        · rw [← e, Int.min_eq_right (by omega)]; exact List.mem_cons_of_mem _ i1
      · rcases List.mem_cons.mp hy with rfl | hy
        · omega
        · have := i2 y hy
          omega
    · rename_i hc
      exfalso
      unfold minL at hc
      split at hc <;> first | contradiction | cases hc | (split at hc <;> cases hc)
def max1V (xs : List SV) : P SV := fun m => match xs with
  | [x] => (match rdL x m with | some ds => (match asIs ds with | some is => (match maxL is with | some k => .ok (.dat (.int k)) m | none => .stuck) | none => .stuck) | none => .stuck)
  | _ => .stuck
def min1V (xs : List SV) : P SV := fun m => match xs with
  | [x] => (match rdL x m with | some ds => (match asIs ds with | some is => (match minL is with | some k => .ok (.dat (.int k)) m | none => .stuck) | none => .stuck) | none => .stuck)
  | _ => .stuck
theorem jc_max1 (hc : X.calm = true) : JC X W (.builtin "max") max1V := ⟨fun {G S H ρ m σ xs xvs Q} M rx q => by
  unfold max1V at q
  split at q
  · obtain ⟨v, rfl, r⟩ := paired1 rx
    split at q
    · rename_i ds hd
      split at q
      · rename_i bs hb
        split at q
        · rename_i k hk
          obtain ⟨a, vs, rfl, h1, r1⟩ := rdL_ok M r hd
          have e := rpAll_is r1 hb
          subst e
          obtain ⟨k1, k2⟩ := maxL_ok hk
          refine wc_of (cr_max hc) ⟨a, bs, rfl, .inl (.inl h1), List.length_pos_of_mem k1, fun m' hm hle => ?_⟩
          have e : m' = k := Int.le_antisymm (k2 m' hm) (hle k k1)
          subst e
          exact q S H ρ _ (Ext.refl _ _) M (.int _)
        · exact q.elim
      · exact q.elim
    · exact q.elim
  · exact q.elim⟩
theorem jc_min1 (hc : X.calm = true) : JC X W (.builtin "min") min1V := ⟨fun {G S H ρ m σ xs xvs Q} M rx q => by
  unfold min1V at q
  split at q
  · obtain ⟨v, rfl, r⟩ := paired1 rx
    split at q
    · rename_i ds hd
      split at q
      · rename_i bs hb
        split at q
        · rename_i k hk
          obtain ⟨a, vs, rfl, h1, r1⟩ := rdL_ok M r hd
          have e := rpAll_is r1 hb
          subst e
          obtain ⟨k1, k2⟩ := minL_ok hk
          refine wc_of (cr_min hc) ⟨a, bs, rfl, .inl (.inl h1), List.length_pos_of_mem k1, fun m' hm hle => ?_⟩
          have e : m' = k := Int.le_antisymm (hle k k1) (k2 m' hm)
          subst e
          exact q S H ρ _ (Ext.refl _ _) M (.int _)
        · exact q.elim
      · exact q.elim
    · exact q.elim
  · exact q.elim⟩
/-! ### xs * n -/
def repV (own : Bool) (x y : SV) : P SV := fun m => match rdL x m, y with
  | some xs, .dat (.int k) => if -(2 ^ 63) ≤ k ∧ k < 2 ^ 63 ∧ xs.length * k.toNat ≤ 16777216 then frs own (List.replicate k.toNat xs).flatten m else .stuck
  | _, _ => .stuck
theorem rpAll_rep {Γ : Gd} {S : Hp} {vs : List V} {ds : List D} (r : RpAll Γ S vs ds) : ∀ n : Nat, RpAll Γ S (List.replicate n vs).flatten (List.replicate n ds).flatten
  | 0 => .nil
  | n + 1 => by
    rw [List.replicate_succ, List.replicate_succ, List.flatten_cons, List.flatten_cons]
    exact r.append (rpAll_rep r n)
theorem jo_rep {own : Bool} : JO X W (binaryOp .Mult) (repV own) := ⟨fun {G S H ρ m σ x y xv yv Q} M rx ry q => by
  unfold repV at q
  split at q
  · rename_i xs k hx
    split at q
    · rename_i hk
      obtain ⟨a, vs, rfl, h1, r1⟩ := rdL_ok M rx hx
      cases ry
      refine wo_of op_rep ⟨a, k, vs, rfl, rfl, h1, hk.1, hk.2.1, by rw [r1.length, sizeLine_eq]; exact hk.2.2, fun p hp => ?_⟩
      exact frs_ok M (rpAll_rep r1 _) (Ext.refl _ _) q p hp
    · exact q.elim
  · exact q.elim⟩
/-- xs + ys as an own list -/
def catO (x y : SV) : P SV := fun m => match rdL x m, rdL y m with
  | some xs, some ys => if xs.length + ys.length ≤ 16777216 then frs true (xs ++ ys) m else .stuck
  | _, _ => .stuck
theorem jo_catO : JO X W (binaryOp .Add) catO := ⟨fun {G S H ρ m σ x y xv yv Q} M rx ry q => by
  unfold catO at q
  split at q
  · rename_i xs ys hx hy
    split at q
    · rename_i hl
      obtain ⟨a, vs, rfl, h1, r1⟩ := rdL_ok M rx hx
      obtain ⟨b, ws, rfl, h2, r2⟩ := rdL_ok M ry hy
      refine wo_of op_cat ⟨a, b, vs, ws, rfl, rfl, h1, h2, by rw [r1.length, r2.length, sizeLine_eq]; exact hl, fun p hp => ?_⟩
      exact frs_ok M (r1.append r2) (Ext.refl _ _) q p hp
    · exact q.elim
  · exact q.elim⟩
/-! ### slices -/
variable {a e : Expr} {lo hi : Option Expr} {pos p2 : Pos} {fa : En → P SV}
def cutD (xs : List D) (lo hi : Option Int) : List D := (xs.drop (HT.sIx xs.length 0 lo)).take (HT.sIx xs.length xs.length hi - HT.sIx xs.length 0 lo)
theorem rpAll_cut {Γ : Gd} {S : Hp} {vs : List V} {ds : List D} (r : RpAll Γ S vs ds) (lo hi : Option Int) : RpAll Γ S (cutV vs lo hi) (cutD ds lo hi) := by
  unfold cutV cutD
  rw [r.length]
  exact (r.drop _).take _
/-- a part of a slice -/
structure JPt (X : Cx) (W : WX) (lo : Option Expr) (f : En → P (Option Int)) : Prop where
  run : ∀ {G S H : Hp} {ρ : List Addr} {m : Mem} {env : En} {σ : St} {Q : Option Int → Hp → Prop}, MR (gd X) G S H ρ m → ER (gd X) S ρ env σ →
    wpr (f env m) (fun o m' => ∀ S' H' ρ', Ext S ρ S' ρ' → MR (gd X) G S' H' ρ' m' → Q o H') (QX X W G S ρ σ) →
    ∀ (pins : List (Addr × Obj)) (s : Shared), Inv X pins σ H s → wpAny (model X.prog X.w) X.A (evalPart lo X.env) (fun u s' => ∃ o H', Inv X pins σ H' s' ∧ IsPart u o ∧ Q o H') X.xe s
def dNoPt : En → P (Option Int) := fun _ => P.ret none
def dPt (f : En → P SV) : En → P (Option Int) := fun env => (f env).bnd fun v => match v with
  | .dat (.int i) => P.ret (some i)
  | _ => P.stk
theorem jp_none : JPt X W none dNoPt := ⟨fun {G S H ρ m env σ Q} M E h pins s I => po_none.run pins s σ H Q I (h S H ρ (Ext.refl _ _) M)⟩
theorem jp_some (ja : JE X W e fa) : JPt X W (some e) (dPt fa) := ⟨fun {G S H ρ m env σ Q} M E h pins s I => by
  refine (po_some (pe_we (X := X) (e := e))).run pins s σ H Q I (ja.run M E (wpr_monoQ (wpr_bnd h) fun v m1 hv => ?_))
  intro S1 H1 ρ1 xv e1 M1 rx
  split at hv
  · rename_i i
    cases rx
    exact ⟨i, rfl, hv S1 H1 ρ1 e1 M1⟩
  · exact hv.elim⟩
def cutVl (own : Bool) (v : SV) (lo hi : Option Int) : P SV := fun m => match v with
  | .dat (.tup xs) => .ok (.dat (.tup (cutD xs lo hi))) m
  | .dat (.scr _) => .stuck
  | v => (match rdL v m with | some xs => frs own (cutD xs lo hi) m | none => .stuck)
def dSl (own : Bool) (fa : En → P SV) (fl fh : En → P (Option Int)) : En → P SV := fun env => (fa env).bnd fun v => (fl env).bnd fun l => (fh env).bnd fun h => cutVl own v l h
theorem cutV_whole (xs : List V) (lo hi : Option Int) (h : HT.sIx xs.length 0 lo = 0 ∧ HT.sIx xs.length xs.length hi = xs.length) : cutV xs lo hi = xs := by
  unfold cutV
  rw [h.1, h.2]
  simp
theorem cutD_whole (xs : List D) (lo hi : Option Int) (h : HT.sIx xs.length 0 lo = 0 ∧ HT.sIx xs.length xs.length hi = xs.length) : cutD xs lo hi = xs := by
  unfold cutD
  rw [h.1, h.2]
  simp
theorem je_slice {own : Bool} {fl fh : En → P (Option Int)} (ja : JE X W a fa) (jl : JPt X W lo fl) (jh : JPt X W hi fh) : JE X W (.Subscript a (.Slice lo hi none p2) pos) (dSl own fa fl fh) := ⟨fun {G S H ρ m env σ Q} M E h => by
  refine we_of (pe_slice (SlR.or sl_tupA sl_list) pe_we
    (tl := fun σ H Q => ∀ (pins : List (Addr × Obj)) (s : Shared), Inv X pins σ H s → wpAny (model X.prog X.w) X.A (evalPart lo X.env) (fun u s' => ∃ o H', Inv X pins σ H' s' ∧ IsPart u o ∧ Q o H') X.xe s) ⟨fun pins s σ H Q I q => q pins s I⟩
    (th := fun σ H Q => ∀ (pins : List (Addr × Obj)) (s : Shared), Inv X pins σ H s → wpAny (model X.prog X.w) X.A (evalPart hi X.env) (fun u s' => ∃ o H', Inv X pins σ H' s' ∧ IsPart u o ∧ Q o H') X.xe s) ⟨fun pins s σ H Q I q => q pins s I⟩) ?_
  refine ja.run M E (wpr_monoQ (wpr_bnd h) fun v m1 hv => ?_)
  intro S1 H1 ρ1 xv e1 M1 rx
  refine jl.run M1 (E.mono e1) (wpr_mono (wpr_bnd hv) (fun l m2 hl => ?_) fun _ _ z => qx_ext e1 z)
  intro S2 H2 ρ2 e2 M2
  refine jh.run M2 ((E.mono e1).mono e2) (wpr_mono (wpr_bnd hl) (fun u m3 hu => ?_) fun _ _ z => qx_ext (e1.trans e2) z)
  intro S3 H3 ρ3 e3 M3
  have e03 := (e1.trans e2).trans e3
  have rx3 := rx.mono (e2.trans e3)
  unfold cutVl at hu
  split at hu
  · cases rx3 with
    | tup hq hr =>
      rename_i ad vs
      refine .inl ⟨ad, vs, rfl, Same.seqT M3.sub hq, fun hw => ?_, fun hw p hp => ?_⟩
      · rw [cutD_whole _ _ _ (by rw [← hr.length]; exact hw)] at hu
        exact hu S3 H3 ρ3 _ e03 M3 (.tup hq hr)
      · obtain ⟨s1, M4⟩ := M3.grow hp (.tup (cutV vs l u))
        exact hu _ _ ρ3 _ (e03.trans ⟨s1, fun _ _ z => z⟩) M4 (.tup (.inl (.inl upd_same)) ((rpAll_cut hr l u).mono s1))
  · exact hu.elim
  · split at hu
    · rename_i xs hx
      obtain ⟨ad, vs, rfl, h1, r1⟩ := rdL_ok M3 rx3 hx
      exact .inr ⟨ad, vs, rfl, .inl (.inl h1), fun p hp => frs_ok M3 (rpAll_cut r1 l u) e03 hu p hp⟩
    · exact hu.elim⟩
/-- xs[::-1], a list -/
def revVl (own : Bool) (v : SV) : P SV := fun m => match rdL v m with
  | some xs => frs own xs.reverse m
  | none => .stuck
theorem rpAll_rev {Γ : Gd} {S : Hp} : ∀ {vs : List V} {ds : List D}, RpAll Γ S vs ds → RpAll Γ S vs.reverse ds.reverse
  | _, _, .nil => .nil
  | _, _, .cons h r => by
    rw [List.reverse_cons, List.reverse_cons]
    exact (rpAll_rev r).append (.cons h .nil)
theorem je_revL {own : Bool} {k : Nat} {p1 p3 : Pos} (ja : JE X W a fa) : JE X W (.Subscript a (.Slice none none (some (.UnaryOp .USub (.Constant (.int 1) k p1) p2)) p3) pos) (d1 (revVl own) fa) := ⟨fun {G S H ρ m env σ Q} M E h => by
  refine we_of (pe_revL pe_we) (ja.run M E (wpr_monoQ (wpr_bnd h) fun v m1 hv => ?_))
  intro S1 H1 ρ1 xv e1 M1 rx
  unfold revVl at hv
  split at hv
  · rename_i xs hx
    obtain ⟨ad, vs, rfl, h1, r1⟩ := rdL_ok M1 rx hx
    exact ⟨ad, vs, rfl, .inl (.inl h1), fun p hp => frs_ok M1 (rpAll_rev r1) e1 hv p hp⟩
  · exact hv.elim⟩
/-! ### a module's tuple -/
/-- what a module's name holds: a tuple of plain things -/
inductive Gk (K : PySem.W.Frag) : V → D → Prop
  | non : Gk K .non .non
  | bl (b : Bool) : Gk K (.bl b) (.bl b)
  | int (i : Int) : Gk K (.int i) (.int i)
  | str (x : Str) : Gk K (.str x) (.str x)
inductive GkAll (K : PySem.W.Frag) : List V → List D → Prop
  | nil : GkAll K [] []
  | cons {v : V} {vs : List V} {d : D} {ds : List D} : Gk K v d → GkAll K vs ds → GkAll K (v :: vs) (d :: ds)
theorem GkAll.rp {Γ : Gd} {S : Hp} {K : PySem.W.Frag} : ∀ {vs : List V} {ds : List D}, GkAll K vs ds → RpAll Γ S vs ds
  | _, _, .nil => .nil
  | _, _, .cons h r => .cons (by cases h <;> constructor) (GkAll.rp r)
def gvD : D → He.Dv
  | .bl b => .bl b
  | .int i => .int i
  | .str x => .str x
  | _ => .non
def gvOk : List D → Bool
  | [] => true
  | .non :: r => gvOk r
  | .bl _ :: r => gvOk r
  | .int _ :: r => gvOk r
  | .str _ :: r => gvOk r
  | _ :: _ => false
theorem gvAll (K : PySem.W.Frag) : ∀ {ds : List D}, gvOk ds = true → GkAll K ((ds.map gvD).map (He.Dv.v K)) ds
  | [], _ => .nil
  | .non :: r, h => .cons .non (gvAll K (by simpa [gvOk] using h))
  | .bl b :: r, h => .cons (.bl b) (gvAll K (by simpa [gvOk] using h))
  | .int i :: r, h => .cons (.int i) (gvAll K (by simpa [gvOk] using h))
  | .str x :: r, h => .cons (.str x) (gvAll K (by simpa [gvOk] using h))
/-- the module's name x is this tuple -/
def GT (K : PySem.W.Frag) (mg : Str → Option Value) (x : Str) (ds : List D) : Prop := mg x = some (.ref (He.ga K x)) ∧ He.tupB K x (ds.map gvD) = true ∧ gvOk ds = true
theorem je_gtup {x : Str} {ds : List D} (hg : Gl X x) (hm : GT X.K X.mg x ds) (hd : (x == ("__debug__" : Str)) = false := by decide) : JE X W (.Name x pos) (dC (.tup ds)) :=
  je_c (pe_glob (v := .ref (He.ga X.K x)) hg hm.1 rfl hd) (fun _ _ _ h => h) fun S => .tup (He.tupB_ok hm.2.1 S) (gvAll X.K hm.2.2).rp
end
/-! ### the head's facts, and more -/
def exG (n : Nat) (fa : List He.Fa) (fn : List He.DefD) (ex : PySem.W.Frag → Bool) (g : Addr → Option Obj) : He.AlD × Bool := (He.obsDG n fa fn g, ex (He.frG g (He.asD g n)))
def hookX (n : Nat) (fa : List He.Fa) (fn : List He.DefD) (ex : PySem.W.Frag → Bool) : PySem.W.Hook where
  α := He.AlD × Bool
  obs := fun s => exG n fa fn ex s.heap.get?
  val := fun _ => (He.valD fn, true)
  says := fun _ h => ∃ K : PySem.W.Frag, K.In h ∧ He.SaysD fa fn K ∧ ex K = true
  of := fun _ _ e => ⟨_, He.frG_in, congrArg Prod.fst e, congrArg Prod.snd e⟩
  keeps := fun _ _ _ ⟨K, hK, c⟩ k => ⟨K, PySem.W.Frag.In.keeps hK k, c⟩
theorem exG_eq {n : Nat} {fa : List He.Fa} {fn : List He.DefD} {ex : PySem.W.Frag → Bool} {g : Addr → Option Obj} {s : Shared} (h : ∀ a, g a = s.heap.get? a) : exG n fa fn ex g = (hookX n fa fn ex).obs s := by
  have e : g = s.heap.get? := funext h
  rw [e] <;> rfl
/-! ### simp lemmas -/
@[simp] theorem asIs_ints : ∀ xs : List Int, asIs (xs.map D.int) = some xs
  | [] => rfl
  | x :: r => by simp [asIs, asIs_ints r]
@[simp] theorem asBs_bls : ∀ xs : List Bool, asBs (xs.map D.bl) = some xs
  | [] => rfl
  | x :: r => by simp [asBs, asBs_bls r]
@[simp] theorem sortedV_ints (own : Bool) (xs : List Int) (m : Mem) : sortedV own [.dat (.lst (xs.map D.int))] m = frs own ((sortI xs).map D.int) m := by simp [sortedV, rdL]
@[simp] theorem revVl_lst (own : Bool) (xs : List D) (m : Mem) : revVl own (.dat (.lst xs)) m = frs own xs.reverse m := (rfl)
@[simp] theorem repV_lst (own : Bool) (xs : List D) (k : Int) (m : Mem) : repV own (.dat (.lst xs)) (.dat (.int k)) m = if -(2 ^ 63) ≤ k ∧ k < 2 ^ 63 ∧ xs.length * k.toNat ≤ 16777216 then frs own (List.replicate k.toNat xs).flatten m else .stuck := (rfl)
@[simp] theorem eqV_lstI (xs ys : List Int) (m : Mem) : PL.eqV (.dat (.lst (xs.map D.int))) (.dat (.lst (ys.map D.int))) m = .ok (.dat (.bl (decide (xs = ys)))) m := by simp [PL.eqV, svD, okD_ints, eqd_ints]
@[simp] theorem neV_lstI (xs ys : List Int) (m : Mem) : PL.neV (.dat (.lst (xs.map D.int))) (.dat (.lst (ys.map D.int))) m = .ok (.dat (.bl (!decide (xs = ys)))) m := by simp [PL.neV, svD, okD_ints, eqd_ints]
theorem eqd_bl (a b : Bool) : eqd (.bl a) (.bl b) = (a == b) := by simp [eqd, toPy, PyData.eqv]
theorem eqv_num (a b : PyData) : True := trivial
theorem eqd_lst_cons (x y : D) (xs ys : List D) : eqd (.lst (x :: xs)) (.lst (y :: ys)) = (eqd x y && eqd (.lst xs) (.lst ys)) := by simp [eqd, toPy, toPys, PyData.eqv, PyData.eqvAll]
theorem eqd_lst_nil : eqd (.lst []) (.lst []) = true := by simp [eqd, toPy, toPys, PyData.eqv, PyData.eqvAll]
theorem eqd_tup_cons (x y : D) (xs ys : List D) : eqd (.tup (x :: xs)) (.tup (y :: ys)) = (eqd x y && eqd (.tup xs) (.tup ys)) := by simp [eqd, toPy, toPys, PyData.eqv, PyData.eqvAll]
theorem eqd_tup_nil : eqd (.tup []) (.tup []) = true := by simp [eqd, toPy, toPys, PyData.eqv, PyData.eqvAll]
theorem plains_cons (x : D) (xs : List D) : plains (x :: xs) = (plain x && plains xs) := by simp [plains]
/-- small things that may be compared -/
def ok1 (d : D) : Bool := plain d && decide (dep d ≤ 63)
theorem okD_lst1 (xs : List D) (h : ∀ x ∈ xs, ok1 x = true) : okD (.lst xs) = true := by
  have a : plains xs = true ∧ deps xs ≤ 63 := by
    induction xs with
    | nil => simp [plains, deps]
    | cons x r ih =>
      obtain ⟨i1, i2⟩ := ih fun y hy => h y (List.mem_cons_of_mem _ hy)
      have h1 := h x List.mem_cons_self
      simp [ok1] at h1
      simp [plains, deps, i1, h1.1]
      omega
  simp [okD, plain, dep, a.1]
  omega
end PL

/-! PL8: zip, enumerate of lists and tuples, ranges with a step, calls by keyword. -/
namespace PL
open PySem PySem.Spec PyProof.Rows L2
/-! ### sources: a tuple (true), a list (false) -/
def SqK (k : Bool) (K : PySem.W.Frag) (H : Hp) (a : Addr) (xs : List V) : Prop := match k with
  | true => SqT K H a xs
  | false => SqL K H a xs
def ItK (k : Bool) (h : Heap) (it l : Addr) (i : Nat) : Prop := match k with
  | true => h.IsTupleIter it l i
  | false => h.IsListIter it l i
def IsK (k : Bool) (h : Heap) (l : Addr) (its : Array Value) : Prop := match k with
  | true => h.IsTuple l its
  | false => h.IsList l its
def itO (k : Bool) (l : Addr) : Obj := match k with
  | true => { cls := .type "tuple_iterator", data := .fields #[.ref l, .int 0 0] }
  | false => { cls := .type "list_iterator", data := .fields #[.ref l, .int 0 0] }
theorem ItK.at {k : Bool} {h h' : Heap} {it l : Addr} {i : Nat} (x : ItK k h it l i) (f : ∀ o, h.get? it = some o → h'.get? it = some o) : ItK k h' it l i := by
  cases k with
  | true => exact Heap.IsTupleIter.at x f
  | false => exact Heap.IsListIter.at x f
theorem ItK.obj {k : Bool} {h : Heap} {it l : Addr} {i : Nat} (x : ItK k h it l i) : ∃ o, h.get? it = some o ∧ ∀ v, o.data ≠ .cell v := by
  cases k with
  | true => obtain ⟨o, e, _, d⟩ := x; exact ⟨o, e, fun v q => by rw [d] at q; cases q⟩
  | false => obtain ⟨o, e, _, d⟩ := x; exact ⟨o, e, fun v q => by rw [d] at q; cases q⟩
theorem ItK.new {k : Bool} {h : Heap} {it l : Addr} (e : h.get? it = some (itO k l)) : ItK k h it l 0 := by
  cases k with
  | true => exact ⟨_, e, rfl, rfl⟩
  | false => exact ⟨_, e, rfl, rfl⟩
theorem drawsK {prog : Program} {w : World} {A : Around} (hh : A.handled = none) (k : Bool) (it l : Addr) (hne : l ≠ it) (items : Array Value) :
    Draws prog w A it [it, l] items.size (fun i v => items[i]? = some v) (fun i h => ItK k h it l i ∧ IsK k h l items) := by
  cases k with
  | true => exact Draws.tuple hh it l hne items
  | false => exact Draws.list hh it l hne items
theorem beginsK (k : Bool) (l : Addr) (items : Array Value) : Begins (.ref l) (itO k l) fun h => IsK k h l items := by
  cases k with
  | true => exact begins_tuple l items
  | false => exact begins_list l items
theorem Inv.seqK {X : Cx} {pins : List (Addr × Obj)} {σ : St} {H : Hp} {s : Shared} {k : Bool} {a : Addr} {xs : List V} (I : Inv X pins σ H s) (h : SqK k X.K H a xs) : ∃ its, Vals xs its ∧ IsK k s.heap a its.toArray ∧ a < s.heap.objs.size := by
  cases k with
  | true => obtain ⟨its, rv, p, _⟩ := I.tuple h; exact ⟨its, rv, p, by obtain ⟨_, e, _⟩ := p; exact Heap.lt_size e⟩
  | false => obtain ⟨its, rv, p, _⟩ := I.list h; exact ⟨its, rv, p.isList, p.lt⟩
theorem Inv.seqK_inj {X : Cx} {pins : List (Addr × Obj)} {σ : St} {H : Hp} {s : Shared} {k : Bool} {a : Addr} {xs ys : List V} (I : Inv X pins σ H s) (h : SqK k X.K H a xs) (h' : SqK k X.K H a ys) : xs = ys := by
  cases k with
  | true => exact I.tuple_inj h h'
  | false => exact I.list_inj h h'
/-- zip of two -/
def ItZ2 (K : PySem.W.Frag) (k1 k2 : Bool) (a b : Addr) : It :=
  ⟨fun i H => ∃ (xs ys : List V) (x y : V), SqK k1 K H a xs ∧ SqK k2 K H b ys ∧ xs[i]? = some x ∧ ys[i]? = some y,
    fun i H v H' => ∃ T x y, v = .ref T ∧ H T = none ∧ H' = upd H T (.tup [x, y]) ∧ (∀ xs, SqK k1 K H a xs → xs[i]? = some x) ∧ ∀ ys, SqK k2 K H b ys → ys[i]? = some y,
    fun i H => ∃ xs ys : List V, SqK k1 K H a xs ∧ SqK k2 K H b ys ∧ i ≤ xs.length ∧ i ≤ ys.length ∧ (i = xs.length ∨ i = ys.length)⟩
theorem turn_Z2 {P : Program} {w : World} {K : PySem.W.Frag} {elts : List Expr} {kk : Nat} {tpos : Pos} {k1 k2 : Bool} {a b z TI TO i1 i2 : Addr} (D : ZipSep2 z TI TO i1 i2 [i1, a] [i2, b]) (n1 : a ≠ i1) (n2 : b ≠ i2) :
    Turn P w K (.Tuple elts kk tpos) (ItZ2 K k1 k2 a b) [z, TI, TO, i1, i2] z (fun i h => IsZip h z TI TO .none ∧ IsTupOf2 h TI (.ref i1) (.ref i2) ∧ (∃ x y, IsTupOf2 h TO x y) ∧ ItK k1 h i1 a i ∧ ItK k2 h i2 b i) where
  mem := by simp
  obj := fun i h st c hc => by
    obtain ⟨hz, hTI, ⟨x, y, hTO⟩, h1, h2⟩ := st
    have e' : c = z ∨ c = TI ∨ c = TO ∨ c = i1 ∨ c = i2 := by simpa using hc
    rcases e' with q | q | q | q | q
    · rw [q]; exact ⟨_, hz, fun v q => nomatch q⟩
    · rw [q]; exact ⟨_, hTI, fun v q => nomatch q⟩
    · rw [q]; exact ⟨_, hTO, fun v q => nomatch q⟩
    · rw [q]; exact h1.obj
    · rw [q]; exact h2.obj
  keep := fun i h h' st k => by
    obtain ⟨hz, hTI, ⟨x, y, hTO⟩, h1, h2⟩ := st
    exact ⟨k z (by simp) _ hz, k TI (by simp) _ hTI, ⟨x, y, k TO (by simp) _ hTO⟩, h1.at fun o q => k i1 (by simp) o q, h2.at fun o q => k i2 (by simp) o q⟩
  item := by
    intro X hP hw hK hc i pins s σ H E I hf st hg
    subst hP hw hK
    obtain ⟨hz, hTI, ⟨x0, y0, hTO⟩, h1, h2⟩ := st
    obtain ⟨xs, ys, x, y, hqx, hqy, hx, hy⟩ := hg
    obtain ⟨its, rv, p, _⟩ := Inv.seqK I hqx
    obtain ⟨its2, rv2, p2, _⟩ := Inv.seqK I hqy
    obtain ⟨u, hu, ru⟩ := rv.get hx
    obtain ⟨u2, hu2, ru2⟩ := rv2.get hy
    have hzl : z < s.heap.objs.size := Heap.lt_size hz
    have hh : X.A.in1.handled = none := I.ok.hd hc
    have lt1 : i < its.toArray.size := by have := (List.getElem?_eq_some_iff.mp hu).1; simpa using this
    have lt2 : i < its2.toArray.size := by have := (List.getElem?_eq_some_iff.mp hu2).1; simpa using this
    refine wpAny_pyNext_zipD2_item D (drawsK hh k1 i1 a n1 its.toArray) (drawsK hh k2 i2 b n2 its2.toArray) hz hTI hTO ⟨h1, p⟩ ⟨h2, p2⟩ lt1 lt2 fun v1 v2 h' tk q1 q2 z' TO' h1' h2' hT hsz hk => ?_
    have e1 : v1 = u := by
      have : its[i]? = some v1 := by simpa using q1
      rw [hu] at this
      exact (Option.some.inj this).symm
    have e2 : v2 = u2 := by
      have : its2[i]? = some v2 := by simpa using q2
      rw [hu2] at this
      exact (Option.some.inj this).symm
    subst e1 e2
    refine ⟨_, rfl, wpAny_letOwnedTupleGo_zip (s := { s with heap := h', toks := tk }) z' fun h'' z'' sb => ?_⟩
    have hT2 : h''.get? s.heap.objs.size = some { cls := .type "tuple", data := .seq #[v1, v2] } := (sb.2 _ (Nat.ne_of_gt hzl)).trans hT
    have new : ObjOk X.prog X.w (upd H s.heap.objs.size (.tup [x, y])) h'' s.heap.objs.size (.tup [x, y]) :=
      ⟨by show 2 ≤ sizeLine; decide, [v1, v2], .cons ru (.cons ru2 .nil), ⟨_, hT2, rfl, _, rfl⟩⟩
    have I1 : Inv X pins σ (upd H s.heap.objs.size (.tup [x, y])) { s with heap := h'', toks := tk } :=
      I.turnedNew (ch := [z, TI, TO, i1, i2]) (fun c o hb q => (sb.2 c (fun q' => hb (by simp [q']))).trans (hk c o (fun q' => hb (by simp [q'])) (fun q' => hb (by simp [q'])) (fun q' => hb (by simp [q'])) (fun q' => hb (by simp [q'])) q)) hf (Nat.le_refl _) new
    refine ⟨.ref s.heap.objs.size, _, I1, rfl, ⟨_, x, y, rfl, I.hok.fresh (Nat.le_refl _), rfl, fun l hl => by rw [Inv.seqK_inj I hl hqx]; exact hx, fun l hl => by rw [Inv.seqK_inj I hl hqy]; exact hy⟩, ⟨z'', ?_, ⟨v1, v2, ?_⟩, ?_, ?_⟩, fun c hcm => ?_⟩
    · exact (sb.2 _ D.TIz).trans (hk _ _ D.TIz D.TITO D.TIi1 D.TIi2 hTI)
    · exact (sb.2 _ D.TOz).trans TO'
    · exact h1'.1.at fun o q => (sb.2 _ (Ne.symm D.zi1)).trans q
    · exact h2'.1.at fun o q => (sb.2 _ (Ne.symm D.zi2)).trans q
    · have hlt : c < s.heap.objs.size := by
        have e' : c = z ∨ c = TI ∨ c = TO ∨ c = i1 ∨ c = i2 := by simpa using hcm
        rcases e' with q | q | q | q | q
        · rw [q]; exact hzl
        · rw [q]; exact Heap.lt_size hTI
        · rw [q]; exact Heap.lt_size hTO
        · rw [q]; obtain ⟨_, e1, _⟩ := h1.obj; exact Heap.lt_size e1
        · rw [q]; obtain ⟨_, e2, _⟩ := h2.obj; exact Heap.lt_size e2
      rw [upd_ne (Nat.ne_of_lt hlt)]
      exact (hf c hcm).1
  done := by
    intro X hP hw hK hc i pins s σ H E I hf st hg
    subst hP hw hK
    obtain ⟨hz, hTI, ⟨x0, y0, hTO⟩, h1, h2⟩ := st
    obtain ⟨xs, ys, hqx, hqy, le1, le2, hend⟩ := hg
    obtain ⟨its, rv, p, _⟩ := Inv.seqK I hqx
    obtain ⟨its2, rv2, p2, _⟩ := Inv.seqK I hqy
    have l1 := rv.length
    have l2 := rv2.length
    have hh : X.A.in1.handled = none := I.ok.hd hc
    exact wpAny_pyNext_zipD2_end D (drawsK hh k1 i1 a n1 its.toArray) (drawsK hh k2 i2 b n2 its2.toArray) hz hTI hTO ⟨h1, p⟩ ⟨h2, p2⟩ (by simp; omega) (by simp; omega) (by simp; omega) fun h' tk hk => ⟨rfl, I.turnedL (ch := [z, TI, TO, i1, i2]) (fun c o hb q =>
      hk c o (fun q' => hb (by simp [q'])) (fun q' => hb (by simp [q'])) (fun q' => hb (by simp [q'])) (fun q' => hb (by simp [q'])) q) hf⟩
  self := fun A i s Q E st h => wpAny_pyIter_zip st.1 h
/-- zip of three -/
def ItZ3 (K : PySem.W.Frag) (k1 k2 k3 : Bool) (a b c3 : Addr) : It :=
  ⟨fun i H => ∃ (xs ys zs : List V) (x y t : V), SqK k1 K H a xs ∧ SqK k2 K H b ys ∧ SqK k3 K H c3 zs ∧ xs[i]? = some x ∧ ys[i]? = some y ∧ zs[i]? = some t,
    fun i H v H' => ∃ T x y t, v = .ref T ∧ H T = none ∧ H' = upd H T (.tup [x, y, t]) ∧ (∀ xs, SqK k1 K H a xs → xs[i]? = some x) ∧ (∀ ys, SqK k2 K H b ys → ys[i]? = some y) ∧ ∀ zs, SqK k3 K H c3 zs → zs[i]? = some t,
    fun i H => ∃ xs ys zs : List V, SqK k1 K H a xs ∧ SqK k2 K H b ys ∧ SqK k3 K H c3 zs ∧ i ≤ xs.length ∧ i ≤ ys.length ∧ i ≤ zs.length ∧ (i = xs.length ∨ i = ys.length ∨ i = zs.length)⟩
theorem turn_Z3 {P : Program} {w : World} {K : PySem.W.Frag} {elts : List Expr} {kk : Nat} {tpos : Pos} {k1 k2 k3 : Bool} {a b c3 z TI TO i1 i2 i3 : Addr} (D : ZipSep3 z TI TO i1 i2 i3 [i1, a] [i2, b] [i3, c3]) (n1 : a ≠ i1) (n2 : b ≠ i2) (n3 : c3 ≠ i3) :
    Turn P w K (.Tuple elts kk tpos) (ItZ3 K k1 k2 k3 a b c3) [z, TI, TO, i1, i2, i3] z (fun i h => IsZip h z TI TO .none ∧ IsTupOf3 h TI (.ref i1) (.ref i2) (.ref i3) ∧ (∃ x y t, IsTupOf3 h TO x y t) ∧ ItK k1 h i1 a i ∧ ItK k2 h i2 b i ∧ ItK k3 h i3 c3 i) where
  mem := by simp
  obj := fun i h st c hc => by
    obtain ⟨hz, hTI, ⟨x, y, t, hTO⟩, h1, h2, h3⟩ := st
    have e' : c = z ∨ c = TI ∨ c = TO ∨ c = i1 ∨ c = i2 ∨ c = i3 := by simpa using hc
    rcases e' with q | q | q | q | q | q
    · rw [q]; exact ⟨_, hz, fun v q => nomatch q⟩
    · rw [q]; exact ⟨_, hTI, fun v q => nomatch q⟩
    · rw [q]; exact ⟨_, hTO, fun v q => nomatch q⟩
    · rw [q]; exact h1.obj
    · rw [q]; exact h2.obj
    · rw [q]; exact h3.obj
  keep := fun i h h' st k => by
    obtain ⟨hz, hTI, ⟨x, y, t, hTO⟩, h1, h2, h3⟩ := st
    exact ⟨k z (by simp) _ hz, k TI (by simp) _ hTI, ⟨x, y, t, k TO (by simp) _ hTO⟩, h1.at fun o q => k i1 (by simp) o q, h2.at fun o q => k i2 (by simp) o q, h3.at fun o q => k i3 (by simp) o q⟩
  item := by
    intro X hP hw hK hc i pins s σ H E I hf st hg
    subst hP hw hK
    obtain ⟨hz, hTI, ⟨x0, y0, t0, hTO⟩, h1, h2, h3⟩ := st
    obtain ⟨xs, ys, zs, x, y, t, hqx, hqy, hqt, hx, hy, ht⟩ := hg
    obtain ⟨its, rv, p, _⟩ := Inv.seqK I hqx
    obtain ⟨its2, rv2, p2, _⟩ := Inv.seqK I hqy
    obtain ⟨its3, rv3, p3, _⟩ := Inv.seqK I hqt
    obtain ⟨u, hu, ru⟩ := rv.get hx
    obtain ⟨u2, hu2, ru2⟩ := rv2.get hy
    obtain ⟨u3, hu3, ru3⟩ := rv3.get ht
    have hzl : z < s.heap.objs.size := Heap.lt_size hz
    have hh : X.A.in1.handled = none := I.ok.hd hc
    have lt1 : i < its.toArray.size := by have := (List.getElem?_eq_some_iff.mp hu).1; simpa using this
    have lt2 : i < its2.toArray.size := by have := (List.getElem?_eq_some_iff.mp hu2).1; simpa using this
    have lt3 : i < its3.toArray.size := by have := (List.getElem?_eq_some_iff.mp hu3).1; simpa using this
    refine wpAny_pyNext_zipD3_item D (drawsK hh k1 i1 a n1 its.toArray) (drawsK hh k2 i2 b n2 its2.toArray) (drawsK hh k3 i3 c3 n3 its3.toArray) hz hTI hTO ⟨h1, p⟩ ⟨h2, p2⟩ ⟨h3, p3⟩ lt1 lt2 lt3 fun v1 v2 v3 h' tk q1 q2 q3 z' TO' h1' h2' h3' hT hsz hk => ?_
    have e1 : v1 = u := by
      have : its[i]? = some v1 := by simpa using q1
      rw [hu] at this
      exact (Option.some.inj this).symm
    have e2 : v2 = u2 := by
      have : its2[i]? = some v2 := by simpa using q2
      rw [hu2] at this
      exact (Option.some.inj this).symm
    have e3 : v3 = u3 := by
      have : its3[i]? = some v3 := by simpa using q3
      rw [hu3] at this
      exact (Option.some.inj this).symm
    subst e1 e2 e3
    refine ⟨_, rfl, wpAny_letOwnedTupleGo_zip (s := { s with heap := h', toks := tk }) z' fun h'' z'' sb => ?_⟩
    have hT2 : h''.get? s.heap.objs.size = some { cls := .type "tuple", data := .seq #[v1, v2, v3] } := (sb.2 _ (Nat.ne_of_gt hzl)).trans hT
    have new : ObjOk X.prog X.w (upd H s.heap.objs.size (.tup [x, y, t])) h'' s.heap.objs.size (.tup [x, y, t]) :=
      ⟨by show 3 ≤ sizeLine; decide, [v1, v2, v3], .cons ru (.cons ru2 (.cons ru3 .nil)), ⟨_, hT2, rfl, _, rfl⟩⟩
    have I1 : Inv X pins σ (upd H s.heap.objs.size (.tup [x, y, t])) { s with heap := h'', toks := tk } :=
      I.turnedNew (ch := [z, TI, TO, i1, i2, i3]) (fun c o hb q => (sb.2 c (fun q' => hb (by simp [q']))).trans (hk c o (fun q' => hb (by simp [q'])) (fun q' => hb (by simp [q'])) (fun q' => hb (by simp [q'])) (fun q' => hb (by simp [q'])) (fun q' => hb (by simp [q'])) q)) hf (Nat.le_refl _) new
    refine ⟨.ref s.heap.objs.size, _, I1, rfl, ⟨_, x, y, t, rfl, I.hok.fresh (Nat.le_refl _), rfl, fun l hl => by rw [Inv.seqK_inj I hl hqx]; exact hx, fun l hl => by rw [Inv.seqK_inj I hl hqy]; exact hy, fun l hl => by rw [Inv.seqK_inj I hl hqt]; exact ht⟩, ⟨z'', ?_, ⟨v1, v2, v3, ?_⟩, ?_, ?_, ?_⟩, fun c hcm => ?_⟩
    · exact (sb.2 _ D.TIz).trans (hk _ _ D.TIz D.TITO D.TIi1 D.TIi2 D.TIi3 hTI)
    · exact (sb.2 _ D.TOz).trans TO'
    · exact h1'.1.at fun o q => (sb.2 _ (Ne.symm D.zi1)).trans q
    · exact h2'.1.at fun o q => (sb.2 _ (Ne.symm D.zi2)).trans q
    · exact h3'.1.at fun o q => (sb.2 _ (Ne.symm D.zi3)).trans q
    · have hlt : c < s.heap.objs.size := by
        have e' : c = z ∨ c = TI ∨ c = TO ∨ c = i1 ∨ c = i2 ∨ c = i3 := by simpa using hcm
        rcases e' with q | q | q | q | q | q
        · rw [q]; exact hzl
        · rw [q]; exact Heap.lt_size hTI
        · rw [q]; exact Heap.lt_size hTO
        · rw [q]; obtain ⟨_, e1, _⟩ := h1.obj; exact Heap.lt_size e1
        · rw [q]; obtain ⟨_, e2, _⟩ := h2.obj; exact Heap.lt_size e2
        · rw [q]; obtain ⟨_, e3, _⟩ := h3.obj; exact Heap.lt_size e3
      rw [upd_ne (Nat.ne_of_lt hlt)]
      exact (hf c hcm).1
  done := by
    intro X hP hw hK hc i pins s σ H E I hf st hg
    subst hP hw hK
    obtain ⟨hz, hTI, ⟨x0, y0, t0, hTO⟩, h1, h2, h3⟩ := st
    obtain ⟨xs, ys, zs, hqx, hqy, hqt, le1, le2, le3, hend⟩ := hg
    obtain ⟨its, rv, p, _⟩ := Inv.seqK I hqx
    obtain ⟨its2, rv2, p2, _⟩ := Inv.seqK I hqy
    obtain ⟨its3, rv3, p3, _⟩ := Inv.seqK I hqt
    have l1 := rv.length
    have l2 := rv2.length
    have l3 := rv3.length
    have hh : X.A.in1.handled = none := I.ok.hd hc
    exact wpAny_pyNext_zipD3_end D (drawsK hh k1 i1 a n1 its.toArray) (drawsK hh k2 i2 b n2 its2.toArray) (drawsK hh k3 i3 c3 n3 its3.toArray) hz hTI hTO ⟨h1, p⟩ ⟨h2, p2⟩ ⟨h3, p3⟩ (by simp; omega) (by simp; omega) (by simp; omega) (by simp; omega) fun h' tk hk => ⟨rfl, I.turnedL (ch := [z, TI, TO, i1, i2, i3]) (fun c o hb q =>
      hk c o (fun q' => hb (by simp [q'])) (fun q' => hb (by simp [q'])) (fun q' => hb (by simp [q'])) (fun q' => hb (by simp [q'])) (fun q' => hb (by simp [q'])) q) hf⟩
  self := fun A i s Q E st h => wpAny_pyIter_zip st.1 h
/-! ### enumerate -/
def ItE (K : PySem.W.Frag) (k : Bool) (a : Addr) : It :=
  ⟨fun i H => ∃ (xs : List V) (x : V), SqK k K H a xs ∧ xs[i]? = some x,
    fun i H v H' => ∃ T x, v = .ref T ∧ H T = none ∧ H' = upd H T (.tup [.int (i : Nat), x]) ∧ ∀ xs, SqK k K H a xs → xs[i]? = some x,
    fun i H => ∃ xs : List V, SqK k K H a xs ∧ i = xs.length⟩
theorem turn_E {P : Program} {w : World} {K : PySem.W.Frag} {elts : List Expr} {kk : Nat} {tpos : Pos} {k : Bool} {a e it : Addr} (hne : e ≠ it) (hea : e ≠ a) (n1 : a ≠ it) :
    Turn P w K (.Tuple elts kk tpos) (ItE K k a) [e, it] e (fun i h => (∃ old, IsEnum h e it ((i : Nat) : Int) old) ∧ ItK k h it a i) where
  mem := by simp
  obj := fun i h st b hb => by
    obtain ⟨⟨old, he⟩, hi⟩ := st
    have e' : b = e ∨ b = it := by simpa using hb
    rcases e' with z | z
    · rw [z]; exact ⟨_, he, fun v q => nomatch q⟩
    · rw [z]; exact hi.obj
  keep := fun i h h' st k => let ⟨⟨old, he⟩, hi⟩ := st; ⟨⟨old, k e (by simp) _ he⟩, hi.at fun o q => k it (by simp) o q⟩
  item := by
    intro X hP hw hK hc i pins s σ H E I hf st hg
    subst hP hw hK
    obtain ⟨⟨old, he⟩, hit⟩ := st
    obtain ⟨xs, x, hq, hx⟩ := hg
    obtain ⟨its, rv, p, _⟩ := Inv.seqK I hq
    obtain ⟨u, hu, ru⟩ := rv.get hx
    have hel : e < s.heap.objs.size := Heap.lt_size he
    have hil : it < s.heap.objs.size := by obtain ⟨_, q, _⟩ := hit.obj; exact Heap.lt_size q
    have hh : X.A.in1.handled = none := I.ok.hd hc
    have lt1 : i < its.toArray.size := by have := (List.getElem?_eq_some_iff.mp hu).1; simpa using this
    refine wpAny_pyNext_enum_itemD (drawsK hh k it a n1 its.toArray) he ⟨hit, p⟩ lt1 hne (by simp [hne, hea]) fun v h' tk q1 ho hit' hT hsz hk => ?_
    have e1 : v = u := by
      have : its[i]? = some v := by simpa using q1
      rw [hu] at this
      exact (Option.some.inj this).symm
    subst e1
    refine ⟨_, rfl, wpAny_letOwnedTupleGo_enum (s := { s with heap := h', toks := tk + 1 }) ho fun h'' he' sb => ?_⟩
    have hT2 : h''.get? s.heap.objs.size = some { cls := .type "tuple", data := .seq #[.int i tk, v] } := (sb.2 _ (Nat.ne_of_gt hel)).trans hT
    have new : ObjOk X.prog X.w (upd H s.heap.objs.size (.tup [.int (i : Nat), x])) h'' s.heap.objs.size (.tup [.int (i : Nat), x]) :=
      ⟨by show 2 ≤ sizeLine; decide, [.int i tk, v], .cons ⟨_, rfl⟩ (.cons ru .nil), ⟨_, hT2, rfl, _, rfl⟩⟩
    have I1 : Inv X pins σ (upd H s.heap.objs.size (.tup [.int (i : Nat), x])) { s with heap := h'', toks := tk + 1 } :=
      I.turnedNew (ch := [e, it]) (fun b ob hb q => (sb.2 b (fun z => hb (by simp [z]))).trans (hk b ob (fun z => hb (by simp [z])) (fun z => hb (by simp [z])) q)) hf (Nat.le_refl _) new
    refine ⟨.ref s.heap.objs.size, _, I1, rfl, ⟨_, x, rfl, I.hok.fresh (Nat.le_refl _), rfl, fun ys hy => by rw [Inv.seqK_inj I hy hq]; exact hx⟩, ⟨⟨v, ?_⟩, hit'.1.at fun o q => (sb.2 it (Ne.symm hne)).trans q⟩, fun b hb => ?_⟩
    · have e1 : ((i + 1 : Nat) : Int) = (i : Int) + 1 := by omega
      rw [e1]; exact he'
    · have hb' : b < s.heap.objs.size := by
        have e' : b = e ∨ b = it := by simpa using hb
        rcases e' with z | z
        · rw [z]; exact hel
        · rw [z]; exact hil
      rw [upd_ne (Nat.ne_of_lt hb')]
      exact (hf b hb).1
  done := by
    intro X hP hw hK hc i pins s σ H E I hf st hg
    subst hP hw hK
    obtain ⟨⟨old, he⟩, hit⟩ := st
    obtain ⟨xs, hq, hx⟩ := hg
    obtain ⟨its, rv, p, hz⟩ := Inv.seqK I hq
    have hl := rv.length
    have hh : X.A.in1.handled = none := I.ok.hd hc
    obtain ⟨f0, f1, f2, f3, f4, f5⟩ := hf it (by simp)
    have ei : i = its.toArray.size := by simp; omega
    refine wpAny_pyNext_enum_endD (drawsK hh k it a n1 its.toArray) he ⟨by rw [← ei]; exact hit, p⟩ fun h' eb => ⟨rfl, I.turned (t' := s.toks) (fun b o hb q => eb b o hb q) f0 f1 f3 f4 f5⟩
  self := fun A i s Q E st h => let ⟨⟨_, he⟩, _⟩ := st; wpAny_pyIter_enum he h
end PL

/-! PL9: walks over zip, enumerate, ranges with a step; calls by keyword; parallel stores; reversed tuples. -/
namespace PL
open PySem PySem.Spec PyProof.Rows L2
/-- a sequence that stands still: is it a tuple, and its items -/
def seqD (v : SV) : Option (Bool × List D) := match v with
  | .dat (.tup xs) => some (true, xs)
  | .dat (.lst xs) => some (false, xs)
  | .dat (.scr ns) => some (false, ns.map D.int)
  | _ => none
@[simp] theorem seqD_tup (xs : List D) : seqD (.dat (.tup xs)) = some (true, xs) := (rfl)
@[simp] theorem seqD_lst (xs : List D) : seqD (.dat (.lst xs)) = some (false, xs) := (rfl)
theorem seqD_ok {Γ : Gd} {S : Hp} {ρ : List Addr} {v : V} {x : SV} {k : Bool} {ds : List D} (r : RSV Γ S ρ v x) (h : seqD x = some (k, ds)) : ∃ a vs, v = .ref a ∧ SqK k Γ.K S a vs ∧ RpAll Γ S vs ds := by
  unfold seqD at h
  split at h
  · cases h
    cases r with
    | tup q z => exact ⟨_, _, rfl, q, z⟩
  · cases h
    cases r with
    | lst q z => exact ⟨_, _, rfl, .inl (.inl q), z⟩
  · cases h
    cases r with
    | scr q => exact ⟨_, _, rfl, q, rpAll_ints _⟩
  · cases h
theorem SqK.mono {K : PySem.W.Frag} {k : Bool} {S S' : Hp} {a : Addr} {vs : List V} (s : Same S S') (h : SqK k K S a vs) : SqK k K S' a vs := by
  cases k with
  | true => exact Same.seqT s h
  | false => exact s.seq h
def zipD2 (xs ys : List D) : List D := List.zipWith (fun x y => D.tup [x, y]) xs ys
def zipD3 : List D → List D → List D → List D
  | x :: xs, y :: ys, z :: zs => D.tup [x, y, z] :: zipD3 xs ys zs
  | _, _, _ => []
def opt3 (a b c : Option D) : Option D := match a, b, c with
  | some x, some y, some z => some (D.tup [x, y, z])
  | _, _, _ => none
theorem zipD3_get : ∀ (xs ys zs : List D) (i : Nat), (zipD3 xs ys zs)[i]? = opt3 xs[i]? ys[i]? zs[i]?
  | [], _, _, i => by simp [zipD3, opt3]
  | _ :: _, [], _, i => by simp [zipD3, opt3]
  | _ :: _, _ :: _, [], i => by simp [zipD3, opt3]
  | x :: xs, y :: ys, z :: zs, 0 => by simp [zipD3, opt3]
  | x :: xs, y :: ys, z :: zs, i + 1 => by simp [zipD3, zipD3_get xs ys zs i]
theorem zipD3_length : ∀ (xs ys zs : List D), (zipD3 xs ys zs).length = min (min xs.length ys.length) zs.length
  | [], _, _ => by simp [zipD3]
  | _ :: _, [], _ => by simp [zipD3]
  | _ :: _, _ :: _, [] => by simp [zipD3]
  | x :: xs, y :: ys, z :: zs => by simp [zipD3, zipD3_length xs ys zs] <;> omega
theorem itS_zip2 {Γ : Gd} {S0 : Hp} {k1 k2 : Bool} {a b : Addr} {vs ws : List V} {xs ys : List D} (h1 : SqK k1 Γ.K S0 a vs) (r1 : RpAll Γ S0 vs xs) (h2 : SqK k2 Γ.K S0 b ws) (r2 : RpAll Γ S0 ws ys) : ItS Γ S0 (ItZ2 Γ.K k1 k2 a b) (zipD2 xs ys) := fun i {G S H ρ m} s M => by
  have q1 : SqK k1 Γ.K H a vs := (h1.mono s).mono M.sub
  have q2 : SqK k2 Γ.K H b ws := (h2.mono s).mono M.sub
  have l1 := r1.length
  have l2 := r2.length
  refine ⟨fun hi => ⟨vs, ws, q1, q2, ?_⟩, fun d hd => ?_⟩
  · simp [zipD2] at hi
    omega
  · unfold zipD2 at hd
    rw [List.getElem?_zipWith] at hd
    cases hx : xs[i]? with
    | none => rw [hx] at hd; simp at hd
    | some x =>
      cases hy : ys[i]? with
      | none => rw [hx, hy] at hd; simp at hd
      | some y =>
        rw [hx, hy] at hd
        simp at hd
        subst hd
        obtain ⟨v, hv, rv⟩ := r1.get hx
        obtain ⟨w, hw, rw'⟩ := r2.get hy
        refine ⟨⟨vs, ws, v, w, q1, q2, hv, hw⟩, fun z H' yl => ?_⟩
        obtain ⟨T, v', w', rfl, hT, rfl, f1, f2⟩ := yl
        have e1 := f1 vs q1
        have e2 := f2 ws q2
        rw [hv] at e1
        rw [hw] at e2
        cases e1
        cases e2
        obtain ⟨s1, M1⟩ := M.grow hT (.tup [v, w])
        exact ⟨_, ⟨s1, fun _ _ z => z⟩, M1, .tup (.inl (.inl upd_same)) (.cons (rv.mono (s.trans s1)) (.cons (rw'.mono (s.trans s1)) .nil))⟩
theorem itS_zip3 {Γ : Gd} {S0 : Hp} {k1 k2 k3 : Bool} {a b c : Addr} {vs ws us : List V} {xs ys zs : List D} (h1 : SqK k1 Γ.K S0 a vs) (r1 : RpAll Γ S0 vs xs) (h2 : SqK k2 Γ.K S0 b ws) (r2 : RpAll Γ S0 ws ys) (h3 : SqK k3 Γ.K S0 c us) (r3 : RpAll Γ S0 us zs) : ItS Γ S0 (ItZ3 Γ.K k1 k2 k3 a b c) (zipD3 xs ys zs) := fun i {G S H ρ m} s M => by
  have q1 : SqK k1 Γ.K H a vs := (h1.mono s).mono M.sub
  have q2 : SqK k2 Γ.K H b ws := (h2.mono s).mono M.sub
  have q3 : SqK k3 Γ.K H c us := (h3.mono s).mono M.sub
  have l1 := r1.length
  have l2 := r2.length
  have l3 := r3.length
  refine ⟨fun hi => ⟨vs, ws, us, q1, q2, q3, ?_⟩, fun d hd => ?_⟩
  · rw [zipD3_length] at hi
    omega
  · rw [zipD3_get] at hd
    unfold opt3 at hd
    cases hx : xs[i]? with
    | none => rw [hx] at hd; simp at hd
    | some x =>
      cases hy : ys[i]? with
      | none => rw [hx, hy] at hd; simp at hd
      | some y =>
        cases hz : zs[i]? with
        | none => rw [hx, hy, hz] at hd; simp at hd
        | some z =>
          rw [hx, hy, hz] at hd
          simp at hd
          subst hd
          obtain ⟨v, hv, rv⟩ := r1.get hx
          obtain ⟨w, hw, rw'⟩ := r2.get hy
          obtain ⟨u, hu, ru⟩ := r3.get hz
          refine ⟨⟨vs, ws, us, v, w, u, q1, q2, q3, hv, hw, hu⟩, fun z H' yl => ?_⟩
          obtain ⟨T, v', w', u', rfl, hT, rfl, f1, f2, f3⟩ := yl
          have e1 := f1 vs q1
          have e2 := f2 ws q2
          have e3 := f3 us q3
          rw [hv] at e1
          rw [hw] at e2
          rw [hu] at e3
          cases e1
          cases e2
          cases e3
          obtain ⟨s1, M1⟩ := M.grow hT (.tup [v, w, u])
          exact ⟨_, ⟨s1, fun _ _ z => z⟩, M1, .tup (.inl (.inl upd_same)) (.cons (rv.mono (s.trans s1)) (.cons (rw'.mono (s.trans s1)) (.cons (ru.mono (s.trans s1)) .nil)))⟩
def enumD (xs : List D) : List D := xs.zipIdx.map fun p => D.tup [.int (p.2 : Int), p.1]
theorem itS_enum {Γ : Gd} {S0 : Hp} {k : Bool} {a : Addr} {vs : List V} {xs : List D} (h1 : SqK k Γ.K S0 a vs) (r1 : RpAll Γ S0 vs xs) : ItS Γ S0 (ItE Γ.K k a) (enumD xs) := fun i {G S H ρ m} s M => by
  have q1 : SqK k Γ.K H a vs := (h1.mono s).mono M.sub
  have l1 := r1.length
  refine ⟨fun hi => ⟨vs, q1, by simp [enumD] at hi; omega⟩, fun d hd => ?_⟩
  unfold enumD at hd
  rw [List.getElem?_map, List.getElem?_zipIdx] at hd
  cases hx : xs[i]? with
  | none => rw [hx] at hd; simp at hd
  | some x =>
    rw [hx] at hd
    simp at hd
    subst hd
    obtain ⟨v, hv, rv⟩ := r1.get hx
    refine ⟨⟨vs, v, q1, hv⟩, fun z H' yl => ?_⟩
    obtain ⟨T, v', rfl, hT, rfl, f1⟩ := yl
    have e1 := f1 vs q1
    rw [hv] at e1
    cases e1
    obtain ⟨s1, M1⟩ := M.grow hT (.tup [.int (i : Nat), v])
    exact ⟨_, ⟨s1, fun _ _ z => z⟩, M1, .tup (.inl (.inl upd_same)) (.cons (.int _) (.cons (rv.mono (s.trans s1)) .nil))⟩
def zip2V (xs : List SV) : P (List D) := fun m => match xs with
  | [x, y] => (match seqD x, seqD y with
    | some a, some b => .ok (zipD2 a.2 b.2) m
    | _, _ => .stuck)
  | _ => .stuck
def zip3V (xs : List SV) : P (List D) := fun m => match xs with
  | [x, y, z] => (match seqD x, seqD y, seqD z with
    | some a, some b, some c => .ok (zipD3 a.2 b.2 c.2) m
    | _, _, _ => .stuck)
  | _ => .stuck
def enumV (xs : List SV) : P (List D) := fun m => match xs with
  | [x] => (match seqD x with
    | some a => .ok (enumD a.2) m
    | _ => .stuck)
  | _ => .stuck
section
variable {X : Cx} {W : WX} {p pos tpos : Pos} {a b c : Expr} {elts : List Expr} {kk : Nat} {fs : En → P (List SV)}
theorem paired3 {α β : Type} {F : α → β → Prop} {vs : List α} {x y z : β} (h : Paired F vs [x, y, z]) : ∃ v w u, vs = [v, w, u] ∧ F v x ∧ F w y ∧ F u z := by
  cases h with
  | cons r t => cases t with | cons r' t' => cases t' with | cons r'' t'' => cases t''; exact ⟨_, _, _, rfl, r, r', r''⟩
theorem ji_zip2 (hg : Gl X "zip") (hm : X.mg "zip" = none) (ja : JA X W [a, b] fs) (hs : starEach [a, b] X.env = (false, eval a X.env) :: starEach [b] X.env := by rfl) (hpl : (backTo pos (starEach [b] X.env)).any (·.1) = false := by rfl) :
    JI X W (.Tuple elts kk tpos) (.Call (.Name "zip" p) [a, b] [] pos) (dAI zip2V fs) := ⟨fun {G S H ρ m env σ Rr} M E h pins s I => by
  refine Call_ (ld_blt I hg hm PyProof.Rows.boot_zip (PyProof.Rows.callWith_type1 (thn (ja.run (Q := fun vs H1 => ∃ a b k1 k2 xs ys, vs = [.ref a, .ref b] ∧ SqK k1 X.K H1 a xs ∧ SqK k2 X.K H1 b ys ∧ Rr (ItZ2 X.K k1 k2 a b) H1) M E (wpr_monoQ (wpr_bnd h) fun xs m1 hx => ?_) pos pins s I) fun us s1 ⟨vs, H1, I1, r1, q1⟩ => ?_) hs hpl))
  · intro S1 H1 ρ1 xv e1 M1 rx
    unfold zip2V at hx
    split at hx
    · rename_i x y
      obtain ⟨v, w', rfl, rv, rw'⟩ := paired2 rx
      split at hx
      · rename_i qa qb ea eb
        obtain ⟨ka, da⟩ := qa
        obtain ⟨kb, db⟩ := qb
        obtain ⟨a1, vs, rfl, h1, z1⟩ := seqD_ok rv ea
        obtain ⟨b1, ws, rfl, h2, z2⟩ := seqD_ok rw' eb
        exact ⟨a1, b1, ka, kb, vs, ws, rfl, h1.mono M1.sub, h2.mono M1.sub, hx S1 H1 ρ1 _ e1 M1 (itS_zip2 (Γ := gd X) h1 z1 h2 z2)⟩
      · exact hx.elim
    · exact hx.elim
  · obtain ⟨a1, b1, k1, k2, xs, ys, rfl, h1, h2, q⟩ := q1
    cases r1 with
    | cons r rr =>
      cases rr with
      | cons r' rr =>
        cases rr
        cases r
        cases r'
        obtain ⟨its, rv, p1, la⟩ := Inv.seqK I1 h1
        obtain ⟨its2, rv2, p2, lb⟩ := Inv.seqK I1 h2
        refine zip_begins2 (beginsK k1 a1 its.toArray) (beginsK k2 b1 its2.toArray) p1 p2 fun h' hz hTI hTO e1 e2 hsz hk => wpAny_pyIter_zip hz ?_
        have I2 : Inv X pins σ H1 { s1 with heap := h' } := I1.kept (t' := s1.toks) hk
        have one : ∀ {q : Addr}, q < s1.heap.objs.size → ∀ x ∈ [q], x < s1.heap.objs.size := fun {q} l x hx => by
          have e : x = q := by simpa using hx
          rw [e]; exact l
        refine ⟨s1.heap.objs.size + 4, [s1.heap.objs.size + 4, s1.heap.objs.size + 2, s1.heap.objs.size + 3, s1.heap.objs.size, s1.heap.objs.size + 1], _, _, H1, rfl, I2,
          turn_Z2 (zip_sep2 (N := s1.heap.objs.size) (fp1 := [a1]) (fp2 := [b1]) (one la) (one lb)) (Nat.ne_of_lt la) (Nat.ne_of_lt (Nat.lt_succ_of_lt lb)), ⟨hz, hTI, ⟨_, _, hTO⟩, ItK.new e1, ItK.new e2⟩, fun c hcm => ?_, q⟩
        have hle : s1.heap.objs.size ≤ c := by
          have e' : c = s1.heap.objs.size + 4 ∨ c = s1.heap.objs.size + 2 ∨ c = s1.heap.objs.size + 3 ∨ c = s1.heap.objs.size ∨ c = s1.heap.objs.size + 1 := by simpa using hcm
          rcases e' with z | z | z | z | z
          · rw [z]; exact Nat.le_add_right _ _
          · rw [z]; exact Nat.le_add_right _ _
          · rw [z]; exact Nat.le_add_right _ _
          · rw [z]; exact Nat.le_refl _
          · rw [z]; exact Nat.le_add_right _ _
        exact I1.fpOk hle (I1.hok.fresh hle)⟩
theorem ji_zip3 (hg : Gl X "zip") (hm : X.mg "zip" = none) (ja : JA X W [a, b, c] fs) (hs : starEach [a, b, c] X.env = (false, eval a X.env) :: starEach [b, c] X.env := by rfl) (hpl : (backTo pos (starEach [b, c] X.env)).any (·.1) = false := by rfl) :
    JI X W (.Tuple elts kk tpos) (.Call (.Name "zip" p) [a, b, c] [] pos) (dAI zip3V fs) := ⟨fun {G S H ρ m env σ Rr} M E h pins s I => by
  refine Call_ (ld_blt I hg hm PyProof.Rows.boot_zip (PyProof.Rows.callWith_type1 (thn (ja.run (Q := fun vs H1 => ∃ a b c k1 k2 k3 xs ys zs, vs = [.ref a, .ref b, .ref c] ∧ SqK k1 X.K H1 a xs ∧ SqK k2 X.K H1 b ys ∧ SqK k3 X.K H1 c zs ∧ Rr (ItZ3 X.K k1 k2 k3 a b c) H1) M E (wpr_monoQ (wpr_bnd h) fun xs m1 hx => ?_) pos pins s I) fun us s1 ⟨vs, H1, I1, r1, q1⟩ => ?_) hs hpl))
  · intro S1 H1 ρ1 xv e1 M1 rx
    unfold zip3V at hx
    split at hx
    · rename_i x y z
      obtain ⟨v, w', u, rfl, rv, rw', ru⟩ := paired3 rx
      split at hx
      · rename_i qa qb qc ea eb ec
        obtain ⟨ka, da⟩ := qa
        obtain ⟨kb, db⟩ := qb
        obtain ⟨kc, dc⟩ := qc
        obtain ⟨a1, vs, rfl, h1, z1⟩ := seqD_ok rv ea
        obtain ⟨b1, ws, rfl, h2, z2⟩ := seqD_ok rw' eb
        obtain ⟨c1, us, rfl, h3, z3⟩ := seqD_ok ru ec
        exact ⟨a1, b1, c1, ka, kb, kc, vs, ws, us, rfl, h1.mono M1.sub, h2.mono M1.sub, h3.mono M1.sub, hx S1 H1 ρ1 _ e1 M1 (itS_zip3 (Γ := gd X) h1 z1 h2 z2 h3 z3)⟩
      · exact hx.elim
    · exact hx.elim
  · obtain ⟨a1, b1, c1, k1, k2, k3, xs, ys, zs, rfl, h1, h2, h3, q⟩ := q1
    cases r1 with
    | cons r rr =>
      cases rr with
      | cons r' rr =>
        cases rr with
        | cons r'' rr =>
          cases rr
          cases r
          cases r'
          cases r''
          obtain ⟨its, rv, p1, la⟩ := Inv.seqK I1 h1
          obtain ⟨its2, rv2, p2, lb⟩ := Inv.seqK I1 h2
          obtain ⟨its3, rv3, p3, lc⟩ := Inv.seqK I1 h3
          refine zip_begins3 (beginsK k1 a1 its.toArray) (beginsK k2 b1 its2.toArray) (beginsK k3 c1 its3.toArray) p1 p2 p3 fun h' hz hTI hTO e1 e2 e3 hsz hk => wpAny_pyIter_zip hz ?_
          have I2 : Inv X pins σ H1 { s1 with heap := h' } := I1.kept (t' := s1.toks) hk
          have one : ∀ {q : Addr}, q < s1.heap.objs.size → ∀ x ∈ [q], x < s1.heap.objs.size := fun {q} l x hx => by
            have e : x = q := by simpa using hx
            rw [e]; exact l
          refine ⟨s1.heap.objs.size + 5, [s1.heap.objs.size + 5, s1.heap.objs.size + 3, s1.heap.objs.size + 4, s1.heap.objs.size, s1.heap.objs.size + 1, s1.heap.objs.size + 2], _, _, H1, rfl, I2,
            turn_Z3 (zip_sep3 (N := s1.heap.objs.size) (fp1 := [a1]) (fp2 := [b1]) (fp3 := [c1]) (one la) (one lb) (one lc)) (Nat.ne_of_lt la) (Nat.ne_of_lt (Nat.lt_succ_of_lt lb)) (Nat.ne_of_lt (Nat.lt_succ_of_lt (Nat.lt_succ_of_lt lc))), ⟨hz, hTI, ⟨_, _, _, hTO⟩, ItK.new e1, ItK.new e2, ItK.new e3⟩, fun c hcm => ?_, q⟩
          have hle : s1.heap.objs.size ≤ c := by
            have e' : c = s1.heap.objs.size + 5 ∨ c = s1.heap.objs.size + 3 ∨ c = s1.heap.objs.size + 4 ∨ c = s1.heap.objs.size ∨ c = s1.heap.objs.size + 1 ∨ c = s1.heap.objs.size + 2 := by simpa using hcm
            rcases e' with z | z | z | z | z | z
            · rw [z]; exact Nat.le_add_right _ _
            · rw [z]; exact Nat.le_add_right _ _
            · rw [z]; exact Nat.le_add_right _ _
            · rw [z]; exact Nat.le_refl _
            · rw [z]; exact Nat.le_add_right _ _
            · rw [z]; exact Nat.le_add_right _ _
          exact I1.fpOk hle (I1.hok.fresh hle)⟩
/-! enumerate -/
theorem meets_enumK {v : Value} {o : Obj} {H : Heap → Prop} (B : Begins v o H) :
    Meets (Builtin.«enumerate.__new__» ⟨[.type "enumerate", v], []⟩) (fun _ R s => H s.heap ∧
      R (.ok (.ret (.ref (s.heap.push o).objs.size))) { s with heap := (s.heap.push o).push { cls := .type "enumerate", data := .fields #[.none, .bool false, .ref s.heap.objs.size, rawInt 0, .none, .none] } }) :=
  .of_wp fun prog w A R s h => by
    obtain ⟨hp, g, d, tk, os⟩ := s; obtain ⟨h1, h⟩ := h
    have hsub := sub_enumerate
    have q1 : ∀ {A' : Around} {E : Value → Shared → Prop} {Q : Value → Shared → Prop}, Q (.ref hp.objs.size) ⟨hp.push o, g, d, tk, os⟩ → wpAny (model prog w) A' (pyIter v) Q E ⟨hp, g, d, tk, os⟩ :=
      fun q => B.iter prog w _ _ ⟨hp, g, d, tk, os⟩ _ h1 q
    wp_walk using q1
    refine wpAny_stack_any fun st => wpAny_pure ?_
    split
    · rename_i c _ _ _ _ _
      cases (c == Value.type "enumerate")
      · wp_walk using q1
        exact ⟨_, rfl, h⟩
      · wp_walk using q1
        exact ⟨_, rfl, h⟩
    · wp_walk using q1
      exact ⟨_, rfl, h⟩
theorem enum_begins1 {prog : Program} {w : World} {A : Around} {E : Value → Shared → Prop} {s : Shared} {v : Value} {o : Obj} {H : Heap → Prop} {Q : Value → Shared → Prop} (B : Begins v o H) (h1 : H s.heap)
    (h : ∀ h', IsEnum h' (s.heap.objs.size + 1) s.heap.objs.size 0 .none → h'.get? s.heap.objs.size = some o → h'.objs.size = s.heap.objs.size + 2 →
      (∀ b o, s.heap.get? b = some o → h'.get? b = some o) → Q (.ref (s.heap.objs.size + 1)) { s with heap := h' }) :
    wpAny (model prog w) A (call (.type "enumerate") [v]) Q E s := by
  refine callType_new F.called_enumerate (by decide) (F.typeCall_enumerate_1 _) (F.newCall_enumerate_1 _) (fun obj => F.args_object_init_2 obj _) F.entry_enumerate_new (meets_enumK B) ⟨h1, ?_⟩
  have hz : (s.heap.push o).objs.size = s.heap.objs.size + 1 := Heap.size_push ..
  show _ ∧ _
  rw [hz]
  have he : IsEnum ((s.heap.push o).push { cls := .type "enumerate", data := .fields #[.none, .bool false, .ref s.heap.objs.size, rawInt 0, .none, .none] }) (s.heap.objs.size + 1) s.heap.objs.size 0 .none := by
    have := Heap.get?_push_size (s.heap.push o) (o := { cls := .type "enumerate", data := .fields #[.none, .bool false, .ref s.heap.objs.size, rawInt 0, .none, .none] }) rfl
    rw [hz] at this; exact this
  refine ⟨⟨_, he, rfl⟩, h _ he (Heap.get?_push_of_some _ (Heap.get?_push_size _ B.free)) (by rw [Heap.size_push, hz]) fun b o x => Heap.get?_push_of_some _ (Heap.get?_push_of_some _ x)⟩
theorem ji_enum (hg : Gl X "enumerate") (hm : X.mg "enumerate" = none) (ja : JA X W [a] fs) (hs : starEach [a] X.env = [(false, eval a X.env)] := by rfl) :
    JI X W (.Tuple elts kk tpos) (.Call (.Name "enumerate" p) [a] [] pos) (dAI enumV fs) := ⟨fun {G S H ρ m env σ Rr} M E h pins s I => by
  refine Call_ (ld_blt I hg hm boot_enumerate (PyProof.Rows.callWith_type1 (thn (ja.run (Q := fun vs H1 => ∃ a k xs, vs = [.ref a] ∧ SqK k X.K H1 a xs ∧ Rr (ItE X.K k a) H1) M E (wpr_monoQ (wpr_bnd h) fun xs m1 hx => ?_) pos pins s I) fun us s1 ⟨vs, H1, I1, r1, q1⟩ => ?_) hs rfl))
  · intro S1 H1 ρ1 xv e1 M1 rx
    unfold enumV at hx
    split at hx
    · rename_i x
      obtain ⟨v, rfl, rv⟩ := paired1 rx
      split at hx
      · rename_i qa ea
        obtain ⟨ka, da⟩ := qa
        obtain ⟨a1, vs, rfl, h1, z1⟩ := seqD_ok rv ea
        exact ⟨a1, ka, vs, rfl, h1.mono M1.sub, hx S1 H1 ρ1 _ e1 M1 (itS_enum (Γ := gd X) h1 z1)⟩
      · exact hx.elim
    · exact hx.elim
  · obtain ⟨a1, k1, xs, rfl, h1, q⟩ := q1
    cases r1 with
    | cons r rr =>
      cases rr
      cases r
      obtain ⟨its, rv, p1, la⟩ := Inv.seqK I1 h1
      refine enum_begins1 (beginsK k1 a1 its.toArray) p1 fun h' he e1 hsz hk => wpAny_pyIter_enum he ?_
      have I2 : Inv X pins σ H1 { s1 with heap := h' } := I1.kept (t' := s1.toks) hk
      refine ⟨s1.heap.objs.size + 1, [s1.heap.objs.size + 1, s1.heap.objs.size], _, _, H1, rfl, I2, turn_E (k := k1) (a := a1) (Nat.succ_ne_self _) (Ne.symm (Nat.ne_of_lt (Nat.lt_succ_of_lt la))) (Nat.ne_of_lt la), ⟨⟨.none, he⟩, ItK.new e1⟩, fun b hb => ?_, q⟩
      have e' : b = s1.heap.objs.size + 1 ∨ b = s1.heap.objs.size := by simpa using hb
      have hle : s1.heap.objs.size ≤ b := by
        rcases e' with z | z
        · rw [z]; exact Nat.le_add_right _ _
        · rw [z]; exact Nat.le_refl _
      exact I1.fpOk hle (I1.hok.fresh hle)⟩
/-! range(a, b, c), small -/
def rngD3 (lo c : Int) (n : Nat) : List D := (List.range n).map fun (i : Nat) => .int (lo + (i : Int) * c)
theorem itS_rng3 {Γ : Gd} {S0 : Hp} (lo c : Int) (n : Nat) : ItS Γ S0 (Itc lo c n) (rngD3 lo c n) := fun i {G S H ρ m} s M => by
  refine ⟨fun hi => (by show n ≤ i; have : n = i := (by simpa [rngD3] using hi); omega), fun d hd => ?_⟩
  unfold rngD3 at hd
  rw [List.getElem?_map] at hd
  by_cases hi : i < n
  · rw [List.getElem?_range hi] at hd
    cases hd
    refine ⟨hi, fun x H' y => ?_⟩
    obtain ⟨e, y⟩ := y
    subst e
    subst y
    exact ⟨S, Ext.refl _ _, M, .int _⟩
  · rw [List.getElem?_eq_none (by simpa using hi)] at hd
    cases hd
/-- how many -/
def rsz (i j c : Int) : Nat := (Builtin.Range.rangeSize i j c).toNat
def rng3V (xs : List SV) : P (List D) := fun m => match xs with
  | [.dat (.int i), .dat (.int j), .dat (.int c)] => if c ≠ 0 ∧ c.natAbs < 1073741824 ∧ Builtin.Range.small i j c = true ∧ 0 ≤ Builtin.Range.rangeSize i j c then .ok (rngD3 i c (rsz i j c)) m else .stuck
  | _ => .stuck
theorem ji_rng3 {tg : Expr} (hg : Gl X "range") (hm : X.mg "range" = none) (ja : JA X W [a, b, c] fs) (hs : starEach [a, b, c] X.env = (false, eval a X.env) :: starEach [b, c] X.env := by rfl) (hpl : (backTo pos (starEach [b, c] X.env)).any (·.1) = false := by rfl) :
    JI X W tg (.Call (.Name "range" p) [a, b, c] [] pos) (dAI rng3V fs) := ⟨fun {G S H ρ m env σ Rr} M E h => by
  refine wi_of (pi_range3 hg hm pa_wa hs hpl) (ja.run M E (wpr_monoQ (wpr_bnd h) fun xs m1 hx => ?_))
  intro S1 H1 ρ1 xv e1 M1 rx
  unfold rng3V at hx
  split at hx
  · rename_i i j c
    obtain ⟨v, w', u, rfl, r, r', r''⟩ := paired3 rx
    cases r
    cases r'
    cases r''
    split at hx
    · rename_i hb
      exact ⟨i, j, c, rsz i j c, rfl, ⟨hb.1, hb.2.1, hb.2.2.1, by unfold rsz; omega⟩, hx S1 H1 ρ1 _ e1 M1 (itS_rng3 i c _)⟩
    · exact hx.elim
  · exact hx.elim⟩
end
end PL

/-! PL10: reversed tuples; parallel stores; calls by keyword. -/
namespace PL
open PySem PySem.Spec PyProof.Rows L2
section
variable {prog : Program} {w : World} {A : Around} {E : Value → Shared → Prop} {s : Shared}
theorem adjust_rev (n : Nat) : Builtin.Slice.sliceAdjust none none (-1) (n : Int) = ((n : Int) - 1, -1) := by
  unfold Builtin.Slice.sliceAdjust
  simp
theorem places_rev (n : Nat) : Builtin.Slice.slicePlaces ((n : Int) - 1) (-1) (-1) = n := by
  unfold Builtin.Slice.slicePlaces
  simp
  split <;> omega
theorem sliceApplied_rev {sl : Addr} {tk : Tok} {n : Nat} {Q : Int × Int × Nat → Shared → Prop} (hs : s.heap.IsSliceOf sl .none .none (.int (-1) tk))
    (h : Q ((n : Int) - 1, -1, n) s) : wpAny (model prog w) A (Builtin.Slice.sliceApplied (.ref sl) (pure (n : Int))) Q E s := by
  obtain ⟨os, hos, hcs, hds⟩ := id hs
  unfold Builtin.Slice.sliceApplied Builtin.Slice.sliceFields
  refine wpAny_bind (wpAny_bind (wpAny_field hos hds (x := .none) rfl (wpAny_bind (wpAny_field hos hds (x := .none) rfl (wpAny_bind (wpAny_field hos hds (x := .int (-1) tk) rfl (wpAny_pure ?_)))))))
  refine wpAny_bind (slicePart_int ?_)
  show wpAny _ _ (if ((-1 : Int) == 0) = true then _ else _) _ _ s
  rw [if_neg (by decide)]
  refine wpAny_bind (slicePart_none (wpAny_bind (slicePart_none (wpAny_bind (wpAny_pure ?_)))))
  show wpAny _ _ (match Builtin.Slice.sliceAdjust none none (-1) (n : Int) with | (lo, hi) => pure (lo, (-1 : Int), Builtin.Slice.slicePlaces lo hi (-1))) _ _ s
  rw [adjust_rev n]
  show wpAny _ _ (pure ((n : Int) - 1, (-1 : Int), Builtin.Slice.slicePlaces ((n : Int) - 1) (-1) (-1))) _ _ s
  rw [places_rev]
  exact wpAny_pure h
theorem pick_rev (xs : Array Value) : ((List.range xs.size).filterMap fun (m : Nat) => xs[(((xs.size : Int) - 1) + (m : Int) * (-1)).toNat]?).toArray = xs.toList.reverse.toArray := by
  congr 1
  have key : ∀ l : List Nat, (∀ m ∈ l, m < xs.size) → l.filterMap (fun (m : Nat) => xs[(((xs.size : Int) - 1) + (m : Int) * (-1)).toNat]?) = l.map fun m => xs.toList.reverse.getD m .none := by
    intro l
    induction l with
    | nil => intro _; rfl
    | cons m r ih =>
      intro h
      have hm := h m List.mem_cons_self
      have e : (((xs.size : Int) - 1) + (m : Int) * (-1)).toNat = xs.size - 1 - m := by omega
      have hlt : xs.size - 1 - m < xs.size := by omega
      have e2 : xs[xs.size - 1 - m]? = some (xs.toList.reverse.getD m .none) := by
        rw [List.getD_eq_getElem?_getD, List.getElem?_reverse (by simpa using hm)]
        rw [Array.getElem?_eq_getElem hlt]
        simp [hlt]
      rw [List.filterMap_cons, e, e2, List.map_cons, ih fun q hq => h q (List.mem_cons_of_mem _ hq)]
  rw [key _ fun m hm => List.mem_range.mp hm]
  apply List.ext_getElem?
  intro i
  by_cases hi : i < xs.size
  · rw [List.getElem?_map, List.getElem?_range hi]
    simp [List.getD_eq_getElem?_getD, hi]
  · rw [List.getElem?_eq_none (by simpa using hi), List.getElem?_eq_none (by simpa using hi)]
theorem getItem_tuple_rev {t sl : Addr} {tk : Tok} {items : Array Value} {Q : Value → Shared → Prop} (ht : IsTup s.heap t items) (hs : s.heap.IsSliceOf sl .none .none (.int (-1) tk))
    (h : Q (.ref s.heap.objs.size) { s with heap := s.heap.push { cls := .type "tuple", data := .seq items.toList.reverse.toArray } }) (hsz : items.size ≤ sizeLine) : wpAny (model prog w) A (getItem (.ref t) (.ref sl)) Q E s := by
  have htake : sizeOk (.seq items.toList.reverse.toArray) := by
    show items.toList.reverse.toArray.size ≤ sizeLine
    simpa using hsz
  obtain ⟨os, hos, hcs, hds⟩ := id hs
  have hTs : s.TypeIs (.ref sl) "slice" := ⟨os, hos, hcs⟩
  unfold getItem
  try with_reducible refine wpAny_holding ?_
  first | refine wpAny_bind (wpAny_pure ?_) | skip
  refine wpAny_bind (wpAny_sequenceKey ht.typeIs (by decide) ?_)
  refine wpAny_bind (wpAny_callSpecial?_slot (name := Str.ofString "__getitem__") ht.typeIs PyProof.Rows.slot_tuple_getitem
    (wpAny_call_entry PyProof.Rows.slot_tuple_getitem ht.typeIs entry_tuple_getitem ?_ (args_tuple_getitem _ _)))
  show wpAny _ _ (Builtin.Tuple.tupleItemsOf (.ref t) >>= _) _ _ s
  refine wpAny_bind (tupleItemsOf_ ht ?_)
  refine wpAny_bind (wpAny_typeOf hTs ?_)
  rw [if_pos (by decide)]
  refine wpAny_bind (sliceApplied_rev hs ?_)
  have hno : ¬ ((((items.size : Int) - 1) == 0 && (-1 : Int) == 1 && items.size == items.size) = true) := by simp
  show wpAny _ _ (if (((items.size : Int) - 1) == 0 && (-1 : Int) == 1 && items.size == items.size) = true then _ else _) _ _ s
  rw [if_neg hno, pick_rev]
  first
    | exact wpAny_bind (m := Builtin.Tuple.tupleExact _) (wpAny_newObj_type (wpAny_pure ⟨_, rfl, wpAny_pure h⟩) htake)
    | exact wpAny_bind (m := Builtin.Tuple.tupleExact _) (wpAny_newObj_type (wpAny_bind (wpAny_pure (wpAny_pure ⟨_, rfl, wpAny_pure h⟩))) htake)
    | exact wpAny_bind (wpAny_bind (m := Builtin.Tuple.tupleExact _) (wpAny_newObj_type (wpAny_pure (wpAny_pure ⟨_, rfl, wpAny_pure h⟩)) htake))
    | exact wpAny_bind (wpAny_bind (m := Builtin.Tuple.tupleExact _) (wpAny_newObj_type (wpAny_pure ⟨_, rfl, wpAny_pure h⟩) htake))
end
section
variable {X : Cx} {W : WX} {pos : Pos} {a e : Expr} {es : List Expr} {fa : En → P SV} {fs : En → P (List SV)}
/-! ### x[::-1] of a list or a tuple -/
def revA (own : Bool) (v : SV) : P SV := fun m => match v with
  | .dat (.tup xs) => .ok (.dat (.tup xs.reverse)) m
  | v => (match rdL v m with
    | some xs => frs own xs.reverse m
    | none => .stuck)
@[simp] theorem revA_tup (own : Bool) (xs : List D) (m : Mem) : revA own (.dat (.tup xs)) m = .ok (.dat (.tup xs.reverse)) m := (rfl)
@[simp] theorem revA_lst (own : Bool) (xs : List D) (m : Mem) : revA own (.dat (.lst xs)) m = frs own xs.reverse m := (rfl)
theorem pe_revX {te : TE} {k : Nat} {p1 p2 p3 : Pos} (he : PE X e te) : PE X (.Subscript e (.Slice none none (some (.UnaryOp .USub (.Constant (.int 1) k p1) p2)) p3) pos)
    (fun σ H Q => te σ H fun x H1 => ∃ a xs, x = .ref a ∧ ((SqL X.K H1 a xs ∧ ∀ p, H1 p = none → Q (.ref p) (upd H1 p (.lst xs.reverse))) ∨ (SqT X.K H1 a xs ∧ ∀ p, H1 p = none → Q (.ref p) (upd H1 p (.tup xs.reverse))))) := by
  refine ⟨fun pins s σ H Q I h => ?_⟩
  refine Subscript_ (thn (he.run pins s σ H _ I h) fun v s1 ⟨x, H1, I1, r1, q1⟩ => ?_)
  obtain ⟨a, xs, ex, hx⟩ := q1
  subst ex
  cases r1
  have hst : PO X (some (.UnaryOp .USub (.Constant (.int 1) k p1) p2)) (tPart (tUn (rU fun i => .int (-i)) (tC (.int 1)))) := po_some (pe_un un_neg pe_int)
  refine wpAny_Slice (thn (po_none.run pins s1 σ H1 (fun o H2 => o = none ∧ H2 = H1) I1 ⟨rfl, rfl⟩) fun vl s2 ⟨l, H2, I2, pl, el, e2⟩ => ?_)
  subst el e2
  refine thn (po_none.run pins s2 σ H2 (fun o H3 => o = none ∧ H3 = H2) I2 ⟨rfl, rfl⟩) fun vu s3 ⟨u, H3, I3, pu, eu, e3⟩ => ?_
  subst eu e3
  refine thn (hst.run pins s3 σ H3 (fun o H4 => o = some (-1) ∧ H4 = H3) I3 ⟨1, rfl, -1, rfl, rfl, rfl⟩) fun vs s4 ⟨o, H4, I4, ps, eo, e4⟩ => ?_
  subst eo e4
  have I5 : Inv X pins σ H4 { s4 with heap := s4.heap.push { cls := .type "slice", data := .fields #[vl, vu, vs] } } := I4.kept (t' := s4.toks) fun b ob q => Heap.get?_push_of_some _ q
  rcases hx with ⟨hx, q⟩ | ⟨hx, q⟩
  · obtain ⟨its, r, ht, hz⟩ := I5.list hx
    have hlen := r.length
    refine tail_any (ops := [.ref a, .ref s4.heap.objs.size]) ht.isList.typeIs (PySem.slot_list_getitem.lookup) ?_ (by with_unfolding_all rfl)
    refine wpAny_getItem_list_slice ht.isList (Heap.IsSliceOf.new _ vl vu vs) pl pu ps (by decide) ?_ (by rw [List.size_toArray]; omega)
    rw [PySem.W.krv_pick]
    refine ⟨.ref _, _, I5.laid (t' := s4.toks) (o := .lst xs.reverse) (fun b ob q => Heap.get?_push_of_some _ q) (Nat.le_refl _) ?_, rfl, q _ (I5.hok.fresh (Nat.le_refl _))⟩
    exact ⟨by rw [List.length_reverse]; exact hz, _, 0, r.reverse, Heap.get?_push_size _ rfl⟩
  · obtain ⟨its, r, ht, hz⟩ := I5.tuple hx
    have hlen := r.length
    refine tail_any (ops := [.ref a, .ref s4.heap.objs.size]) ht.typeIs (PyProof.Rows.slot_tuple_getitem.lookup) ?_ (by with_unfolding_all rfl)
    cases pl
    cases pu
    cases ps with
    | int i tk =>
      refine getItem_tuple_rev (tk := tk) ht (Heap.IsSliceOf.new _ .none .none _) ?_ (by rw [List.size_toArray]; omega)
      refine ⟨.ref _, _, I5.laid (t' := s4.toks) (o := .tup xs.reverse) (fun b ob q => Heap.get?_push_of_some _ q) (Nat.le_refl _) ?_, rfl, q _ (I5.hok.fresh (Nat.le_refl _))⟩
      exact ⟨by rw [List.length_reverse]; exact hz, its.reverse, r.reverse, IsTup.new _ _⟩
theorem je_rev {own : Bool} {k : Nat} {p1 p2 p3 : Pos} (ja : JE X W a fa) : JE X W (.Subscript a (.Slice none none (some (.UnaryOp .USub (.Constant (.int 1) k p1) p2)) p3) pos) (d1 (revA own) fa) := ⟨fun {G S H ρ m env σ Q} M E h => by
  refine we_of (pe_revX pe_we) (ja.run M E (wpr_monoQ (wpr_bnd h) fun v m1 hv => ?_))
  intro S1 H1 ρ1 xv e1 M1 rx
  unfold revA at hv
  split at hv
  · cases rx with
    | tup hq hr =>
      refine ⟨_, _, rfl, .inr ⟨Same.seqT M1.sub hq, fun p hp => ?_⟩⟩
      rename_i ad vs
      obtain ⟨s1, M2⟩ := M1.grow hp (.tup vs.reverse)
      exact hv _ _ ρ1 _ (e1.trans ⟨s1, fun _ _ z => z⟩) M2 (.tup (.inl (.inl upd_same)) ((rpAll_rev hr).mono s1))
  · split at hv
    · rename_i xs hx
      obtain ⟨ad, vs, rfl, h1, r1⟩ := rdL_ok M1 rx hx
      exact ⟨ad, vs, rfl, .inl ⟨.inl (.inl h1), fun p hp => frs_ok M1 (rpAll_rev r1) e1 hv p hp⟩⟩
    · exact hv.elim⟩
/-! ### a, b, c, d = v, w, x, y (a tuple is made) -/
def setAll (env : En) : List Nat → List SV → En
  | i :: is, v :: vs => setAll (env.set i (some v)) is vs
  | _, _ => env
structure JN (X : Cx) (es : List Expr) (is : List Nat) : Prop where
  run : ∀ {S : Hp} {ρ : List Addr} {env : En} {σ : St} {H : Hp} {vs : List V} {xs : List SV} {Q : St → Hp → Prop}, ER (gd X) S ρ env σ → Paired (RSV (gd X) S ρ) vs xs → xs.length = is.length →
    (∀ σ', ER (gd X) S ρ (setAll env is xs) σ' → Q σ' H) →
    ∀ (pins : List (Addr × Obj)) (s : Shared) (us : List Value), Inv X pins σ H s → Vals vs us → wpAny (model X.prog X.w) X.A (assignInOrder ((assignEach es X.env).map (·.2)) us) (fun _ s' => ∃ σ' H', Inv X pins σ' H' s' ∧ Q σ' H') X.xe s
theorem jn_nil : JN X [] [] := ⟨fun {S ρ env σ H vs xs Q} E r hl h pins s us I rv => by
  cases r with
  | nil =>
    cases rv
    exact assignInOrder_nil ⟨σ, H, I, h σ E⟩
  | cons _ _ => cases hl⟩
theorem jn_cons {i : Nat} {x : Str} {is : List Nat} {px : Pos} (hN : X.N.Nodup) (j : JN X es is) (hi : X.N[i]? = some x := by rfl) (hx : Loc X.env.scope x := by first | exact Or.inl rfl | exact Or.inr rfl) (hf : X.fn x = true ∨ X.env.scope.names.lookup x = some .local := by first | exact .inl rfl | exact .inr rfl | assumption)
    (hs : (assignEach (.Name x px :: es) X.env).map (·.2) = assign (.Name x px) X.env :: (assignEach es X.env).map (·.2) := by rfl) : JN X (.Name x px :: es) (i :: is) := ⟨fun {S ρ env σ H vs xs Q} E r hl h pins s us I rv => by
  cases r with
  | nil => cases hl
  | cons r1 r2 =>
    cases rv with
    | cons q1 q2 =>
      rw [hs]
      refine assignInOrder_cons (thn (wg_of (pg_name (pos := px) hN hi hx hf) (Q := fun σ1 H1 => H1 = H ∧ σ1 = σ.set i (some _)) ⟨rfl, rfl⟩ pins s _ I q1) fun _ s1 ⟨σ1, H1, I1, e1, e2⟩ => ?_)
      subst e1 e2
      exact j.run (E.set i r1) r2 (Nat.succ.inj hl) h pins s1 _ I1 q2⟩
def dParT (is : List Nat) (fs : En → P (List SV)) : DS := fun env => (fs env).bnd fun vs m => if vs.length = is.length ∧ vs.length ≤ 1000 then .ok (.nx (setAll env is vs)) m else .stuck
theorem js_parT {tgs : List Expr} {kt k2 : Nat} {pt pt2 : Pos} {is : List Nat} (hc : X.calm = true) (ja : JA X W es fs) (jn : JN X tgs is) (hn : (assignEach tgs X.env).length = is.length := by rfl) (hst : (assignEach tgs X.env).findIdx? (·.1) = none := by rfl)
    (hs : swapsWithSole [.Tuple tgs kt pt] (.Tuple es k2 pt2) pos.line X.env = pure false := by rfl) (hw : swappedStores [.Tuple tgs kt pt] (.Tuple es k2 pt2) X.env = pure none := by rfl)
    (h1 : (assignEach [.Tuple tgs kt pt] X.env).map (·.2) = [assign (.Tuple tgs kt pt) X.env] := by rfl) : JS X W (.Assign [.Tuple tgs kt pt] (.Tuple es k2 pt2) pos) (dParT is fs) := ⟨fun {G S H ρ m env σ D} M E h => by
  refine ws_of (ps_asg (pe_tup pa_wa) (pg_tup (n := is.length) (t := fun vs σ H Q => ∀ (pins : List (Addr × Obj)) (s : Shared) (us : List Value), Inv X pins σ H s → Vals vs us → wpAny (model X.prog X.w) X.A (assignInOrder ((assignEach tgs X.env).map (·.2)) us) (fun _ s' => ∃ σ' H', Inv X pins σ' H' s' ∧ Q σ' H') X.xe s) hc ⟨fun pins s σ H vs us Q I rv q => q pins s us I rv⟩ hn hst) hs hw h1)
    (ja.run M E (wpr_mono (wpr_bnd h) (fun xs m1 hx => ?_) fun _ _ z => qx_of z))
  intro S1 H1 ρ1 xv e1 M1 rx
  split at hx
  · rename_i hl
    have hlen := Paired.length rx
    refine ⟨by rw [hlen, sizeLine_eq]; omega, fun p hp => ?_⟩
    obtain ⟨s1, M2⟩ := M1.grow hp (.tup xv)
    have e2 : Ext S1 ρ1 (upd S1 p (.tup xv)) ρ1 := ⟨s1, fun _ _ z => z⟩
    refine ⟨p, xv, rfl, .inl (.inl upd_same), by rw [hlen]; exact hl.1, ?_⟩
    exact jn.run ((E.mono e1).mono e2) (paired_mono e2 rx) hl.1 fun σ' E' => hx _ _ ρ1 σ' (e1.trans e2) M2 E'
  · exact hx.elim⟩
end
end PL

/-! PL11: calls by keyword, with defaults. -/
namespace PL
open PySem PySem.Spec PyProof.Rows L2
/-- where an argument comes from: by position, by keyword, a default of a keyword-only parameter -/
inductive Ax where
  | p (j : Nat) | k (j : Nat) | d (j : Nat)
def Ax.get {α : Type} (us ws ds : List α) : Ax → Option α
  | .p j => us[j]?
  | .k j => ws[j]?
  | .d j => ds[j]?
def gath {α : Type} (l : List Ax) (us ws ds : List α) : List α := l.filterMap (Ax.get us ws ds)
theorem paired_get {α β : Type} {F : α → β → Prop} : ∀ {vs : List α} {us : List β} (_ : Paired F vs us) (i : Nat), (vs[i]? = none ∧ us[i]? = none) ∨ ∃ v u, vs[i]? = some v ∧ us[i]? = some u ∧ F v u
  | _, _, .nil, i => .inl ⟨by simp, by simp⟩
  | _, _, .cons h r, 0 => .inr ⟨_, _, rfl, rfl, h⟩
  | _, _, .cons h r, i + 1 => by
    rcases paired_get r i with ⟨a, b⟩ | ⟨v, u, a, b, c⟩
    · exact .inl ⟨by simpa using a, by simpa using b⟩
    · exact .inr ⟨v, u, by simpa using a, by simpa using b, c⟩
theorem gath_rel {α β : Type} {F : α → β → Prop} {vs zs es : List α} {us ws ds : List β} (h1 : Paired F vs us) (h2 : Paired F zs ws) (h3 : Paired F es ds) : ∀ l : List Ax, Paired F (gath l vs zs es) (gath l us ws ds)
  | [] => .nil
  | q :: l => by
    have ih := gath_rel h1 h2 h3 l
    unfold gath at ih ⊢
    have key : (Ax.get vs zs es q = none ∧ Ax.get us ws ds q = none) ∨ ∃ v u, Ax.get vs zs es q = some v ∧ Ax.get us ws ds q = some u ∧ F v u := by
      cases q with
      | p j => exact paired_get h1 j
      | k j => exact paired_get h2 j
      | d j => exact paired_get h3 j
    rcases key with ⟨a, b⟩ | ⟨v, u, a, b, c⟩
    · rw [List.filterMap_cons, List.filterMap_cons, a, b]; exact ih
    · rw [List.filterMap_cons, List.filterMap_cons, a, b]; exact .cons c ih
section
variable {K : PySem.W.Frag} {x qual : Str} {params : Arguments} {body : List Stmt} {scope : Scope} {kws : List (Str × V)} {f : Addr} {fd : FuncData} {ps : List Str}
/-- no default is used -/
theorem kbN (F : FunD K x qual params body scope [] kws f fd) (n : Nat) (ks : List Str) (l : List Ax)
    (h : ∀ (kV doc pm : Value) (an : Option Addr) (cdv ct : Value) (us ws : List Value), us.length = n → ws.length = ks.length → bindArgs (PySem.W.fnOf x qual params body scope .none kV doc pm an cdv ct) ⟨us, ks.zip ws⟩ = pure (ps.zip (gath l us ws []))) :
    KBn K fd ps n ks (fun us ws => gath l us ws []) (fun vs zs => gath l vs zs []) := by
  obtain ⟨oc, od, dV, kV, doc, pm, an, cdv, ct, osl, rfl, lk, hcd, hD, hK⟩ := F.ex
  rcases hD with ⟨_, rfl⟩ | ⟨e, _⟩
  · exact ⟨fun s us ws X l1 l2 => .of_eq (h kV doc pm an cdv ct us ws l1 l2), fun r1 r2 => gath_rel r1 r2 .nil l⟩
  · exact absurd rfl e
/-- defaults of keyword-only parameters ms -/
theorem kbK (F : FunD K x qual params body scope [] kws f fd) (n : Nat) (ks : List Str) (ms : List (Str × V)) (l : List Ax) (hk : kws ≠ []) (hms : ∀ q ∈ ms, q ∈ kws)
    (h : ∀ (D : Addr) (doc pm : Value) (an : Option Addr) (cdv ct : Value) (us ws mv : List Value), us.length = n → ws.length = ks.length → mv.length = ms.length →
      KwChain D ((ms.map (·.1)).zip mv) (bindArgs (PySem.W.fnOf x qual params body scope .none (.ref D) doc pm an cdv ct) ⟨us, ks.zip ws⟩) (ps.zip (gath l us ws mv))) :
    ∃ mv : List Value, KBn K fd ps n ks (fun us ws => gath l us ws mv) (fun vs zs => gath l vs zs (ms.map (·.2))) := by
  obtain ⟨oc, od, dV, kV, doc, pm, an, cdv, ct, osl, rfl, lk, hcd, hD, hK⟩ := F.ex
  rcases hD with ⟨_, rfl⟩ | ⟨e, _⟩
  · rcases hK with e | ⟨D, rfl, hq⟩
    · exact absurd e hk
    · obtain ⟨mv, hl, rk, hks⟩ := kwd_vals (ms := ms) fun q hm => hq q (hms q hm)
      exact ⟨mv, ⟨fun s us ws X l1 l2 => BindsTo.of_looks fun M => KwChain.looks X hks (h D doc pm an cdv ct us ws mv l1 l2 hl), fun r1 r2 => gath_rel r1 r2 rk l⟩⟩
  · exact absurd rfl e
end
/-- a def, called with n values by position and the keywords ks -/
structure KCal (P : Program) (w : World) (K : PySem.W.Frag) (mg : Str → Option Value) (base : Heap) (k : Nat) (x : Str) (n : Nat) (ks : List Str) (l : List Ax) (ds : List D) (F : List SV → PL.P SV) : Prop where
  ex : ∃ f fd ps g dV, mg x = some (.ref f) ∧ PySem.W.keepIn K (.ref f) = true ∧ KBn K fd ps n ks g (fun vs zs => gath l vs zs dV) ∧ (∀ S, RpAll ⟨K, mg⟩ S dV ds) ∧ FnG P w K mg base k f fd ps (spF ⟨K, mg⟩ ps.length F) ∧ ps.length = l.length
/-! ### keywords -/
def WK (X : Cx) (kws : List Keyword) (σ : St) (H : Hp) (Q : List V → Hp → Prop) : Prop :=
  ∀ (pos : Pos) (pins : List (Addr × Obj)) (s : Shared), Inv X pins σ H s → wpAny (model X.prog X.w) X.A (evalAll ((backToKw pos (keywordEach kws X.env)).map (·.2))) (AP X pins σ Q) X.xe s
theorem pk_wk {X : Cx} {kws : List Keyword} : PK X kws (WK X kws) := ⟨fun pos pins s _ _ _ I h => h pos pins s I⟩
theorem wk_of {X : Cx} {kws : List Keyword} {t : TA} {σ : St} {H : Hp} {Q : List V → Hp → Prop} (h : PK X kws t) (q : t σ H Q) : WK X kws σ H Q := fun pos pins s I => h.run pos pins s σ H Q I q
structure JK (X : Cx) (W : WX) (kws : List Keyword) (f : En → P (List SV)) : Prop where
  run : ∀ {G S H : Hp} {ρ : List Addr} {m : Mem} {env : En} {σ : St} {Q : List V → Hp → Prop}, MR (gd X) G S H ρ m → ER (gd X) S ρ env σ → wpr (f env m) (QA X G S ρ Q) (QX X W G S ρ σ) → WK X kws σ H Q
section
variable {X : Cx} {W : WX} {e a : Expr} {es : List Expr} {kws : List Keyword} {pos p kpos : Pos} {nm : Option Str} {fa : En → P SV} {fs gs : En → P (List SV)}
theorem jk_nil : JK X W [] dNil := ⟨fun {G S H ρ m env σ Q} M E h => wk_of pk_nil (h S H ρ [] (Ext.refl _ _) M .nil)⟩
theorem jk_cons (ja : JE X W a fa) (js : JK X W kws fs) : JK X W (⟨nm, a, kpos⟩ :: kws) (dCons fa fs) := ⟨fun {G S H ρ m env σ Q} M E h => by
  refine wk_of (pk_cons pe_we pk_wk) (ja.run M E (wpr_monoQ (wpr_bnd h) fun x m1 hx => ?_))
  intro S1 H1 ρ1 xv e1 M1 rx
  refine js.run M1 (E.mono e1) (wpr_mono (wpr_bnd hx) (fun xs m2 hxs => ?_) fun _ _ z => qx_ext e1 z)
  intro S2 H2 ρ2 xvs e2 M2 rxs
  exact hxs S2 H2 ρ2 _ (e1.trans e2) M2 (.cons (rx.mono e2) rxs)⟩
def dAK (n nk : Nat) (l : List Ax) (ds : List D) (F : List SV → P SV) (fs gs : En → P (List SV)) : En → P SV := fun env => (fs env).bnd fun xs => (gs env).bnd fun ys => if xs.length = n ∧ ys.length = nk then F (gath l xs ys (ds.map SV.dat)) else P.stk
theorem rp_dats {Γ : Gd} {S : Hp} {ρ : List Addr} : ∀ {vs : List V} {ds : List D}, RpAll Γ S vs ds → Paired (RSV Γ S ρ) vs (ds.map SV.dat)
  | _, _, .nil => .nil
  | _, _, .cons h r => .cons h (rp_dats r)
theorem gath_len {α : Type} {l : List Ax} {us ws ds : List α} (h : (gath l us ws ds).length = l.length) : True := trivial
theorem je_callK {k n nk : Nat} {x : Str} {ks : List Str} {l : List Ax} {ds : List D} {F : List SV → PL.P SV} (C : KCal X.prog X.w X.K X.mg X.base k x n ks l ds F) (hr : RoomG k X.A) (tk : Takes X W) (hg : Gl X x) (js : JA X W (e :: es) fs) (jk : JK X W kws gs) (hl : ∀ (us ws : List Unit), us.length = n → ws.length = nk → (gath l us ws (List.replicate ds.length ())).length = l.length := by intro us ws h1 h2; simp_all [gath, Ax.get])
    (hall : (backToKw pos (keywordEach kws X.env)).all (·.1.isSome) = true := by rfl) (hks : (backToKw pos (keywordEach kws X.env)).filterMap (·.1) = ks := by rfl) (hnk : ks.length = nk := by rfl)
    (hdb : (x == ("__debug__" : Str)) = false := by decide) (he : starEach (e :: es) X.env = (false, eval e X.env) :: starEach es X.env := by rfl)
    (hpl : ((backTo pos (starEach (e :: es) X.env)).any (·.1) || (backToKw pos (keywordEach kws X.env)).any (·.1.isNone)) = false := by rfl) :
    JE X W (.Call (.Name x p) (e :: es) kws pos) (dAK n nk l ds F fs gs) := by
  subst hnk
  obtain ⟨f, fd, ps, g, dV, hm, hk, hb, hdd, hF, hpl2⟩ := C.ex
  refine ⟨fun {G S H ρ m env σ Q} M E h pins s I => ?_⟩
  refine wpAny_Call_Name_kw (ld_glob I hg hm ?_ hdb)
  refine PySem.W.callWith_KW (h₀ := X.base) I.ok.mod.kin hk hall (thn (js.run (Q := fun vs H1 => WK X kws σ H1 fun zs H2 => vs.length = n ∧ zs.length = ks.length ∧ spF ⟨X.K, X.mg⟩ ps.length F (gath l vs zs dV) H2 Q fun cls d H => W cls d σ H) M E (wpr_monoQ (wpr_bnd h) fun xs m1 hx => ?_) pos pins s I) fun us s1 ⟨vs, H1, I1, r, q⟩ => ?_) hpl he
  · intro S1 H1 ρ1 xv e1 M1 rx
    refine jk.run M1 (E.mono e1) (wpr_mono (wpr_bnd hx) (fun ys m2 hy => ?_) fun _ _ z => qx_ext e1 z)
    intro S2 H2 ρ2 yv e2 M2 ry
    split at hy
    · rename_i hc
      have pr : Paired (RSV (gd X) S2 ρ2) (gath l xv yv dV) (gath l xs ys (ds.map SV.dat)) := gath_rel (paired_mono e2 rx) ry (rp_dats (hdd S2)) l
      refine ⟨by rw [Paired.length rx]; exact hc.1, by rw [Paired.length ry]; exact hc.2, ?_, G, S2, ρ2, m2, _, M2, pr, wpr_mono hy (fun v m3 hv => qv_ext (e1.trans e2) hv) fun x m3 hv => qx_ext (e1.trans e2) hv⟩
      rw [hpl2, Paired.length pr]
      have key : ∀ {α : Type} (us ws dd : List α), us.length = n → ws.length = ks.length → dd.length = ds.length → (gath l us ws dd).length = l.length := fun {α} us ws dd h1 h2 h3 => by
        have q := hl (us.map fun _ => ()) (ws.map fun _ => ()) (by simpa using h1) (by simpa using h2)
        have pq : Paired (fun (_ : Unit) (_ : α) => True) (gath l (us.map fun _ => ()) (ws.map fun _ => ()) (List.replicate ds.length ())) (gath l us ws dd) := by
          have mp : ∀ zs : List α, Paired (fun (_ : Unit) (_ : α) => True) (zs.map fun _ => ()) zs := fun zs => by
            induction zs with
            | nil => exact .nil
            | cons z r ih => exact .cons trivial ih
          have er : ∀ zs : List α, List.replicate zs.length () = zs.map fun _ => () := fun zs => by
            induction zs with
            | nil => rfl
            | cons z r ih => rw [List.length_cons, List.replicate_succ, List.map_cons, ih]
          rw [← h3, er]
          exact gath_rel (mp us) (mp ws) (mp dd) l
        rw [← Paired.length pq]
        exact q
      exact key xs ys _ hc.1 hc.2 (by simp)
    · exact hy.elim
  · refine thn (q pos pins s1 I1) fun ws s2 ⟨zs, H2, I2, rz, l1, l2, q2⟩ => ⟨I2.kIn, ?_⟩
    rw [hks]
    have r2 := hb.rel r rz
    exact wpAny_call (codeAny_mono (hF.go X.A X.stack s2 H2 ⟨us, ks.zip ws⟩ (g us ws) (gath l vs zs dV) Q _ hr I2.env0 (hb.to s2 us ws I2.kIn (r.length.symm.trans l1) (rz.length.symm.trans l2)) r2 q2) fun rr s' hq => after_go tk I2 hq)
theorem je_callK0 {k nk : Nat} {x : Str} {ks : List Str} {l : List Ax} {ds : List D} {F : List SV → PL.P SV} (C : KCal X.prog X.w X.K X.mg X.base k x 0 ks l ds F) (hr : RoomG k X.A) (tk : Takes X W) (hg : Gl X x) (jk : JK X W kws gs) (hl : ∀ (us ws : List Unit), us.length = 0 → ws.length = nk → (gath l us ws (List.replicate ds.length ())).length = l.length := by intro us ws h1 h2; simp_all [gath, Ax.get])
    (hall : (backToKw pos (keywordEach kws X.env)).all (·.1.isSome) = true := by rfl) (hks : (backToKw pos (keywordEach kws X.env)).filterMap (·.1) = ks := by rfl) (hnk : ks.length = nk := by rfl)
    (hdb : (x == ("__debug__" : Str)) = false := by decide)
    (hpl : ((backTo pos (starEach [] X.env)).any (·.1) || (backToKw pos (keywordEach kws X.env)).any (·.1.isNone)) = false := by rfl) :
    JE X W (.Call (.Name x p) [] kws pos) (dAK 0 nk l ds F dNil gs) := by
  subst hnk
  obtain ⟨f, fd, ps, g, dV, hm, hk, hb, hdd, hF, hpl2⟩ := C.ex
  refine ⟨fun {G S H ρ m env σ Q} M E h pins s I => ?_⟩
  refine wpAny_Call_Name_kw (ld_glob I hg hm ?_ hdb)
  have h := wpr_bnd h
  refine PySem.W.callWith_KW0 (h₀ := X.base) I.ok.mod.kin hk hall (thn (jk.run (Q := fun zs H2 => zs.length = ks.length ∧ spF ⟨X.K, X.mg⟩ ps.length F (gath l [] zs dV) H2 Q fun cls d H => W cls d σ H) M E (wpr_monoQ (wpr_bnd h) fun ys m2 hy => ?_) pos pins s I) fun ws s2 ⟨zs, H2, I2, rz, l2, q2⟩ => ⟨I2.kIn, ?_⟩) hpl
  · intro S2 H2 ρ2 yv e2 M2 ry
    split at hy
    · rename_i hc
      have pr : Paired (RSV (gd X) S2 ρ2) (gath l [] yv dV) (gath l [] ys (ds.map SV.dat)) := gath_rel .nil ry (rp_dats (hdd S2)) l
      refine ⟨by rw [Paired.length ry]; exact hc.2, ?_, G, S2, ρ2, m2, _, M2, pr, wpr_mono hy (fun v m3 hv => qv_ext e2 hv) fun x m3 hv => qx_ext e2 hv⟩
      rw [hpl2, Paired.length pr]
      have key : ∀ {α : Type} (us ws dd : List α), us.length = 0 → ws.length = ks.length → dd.length = ds.length → (gath l us ws dd).length = l.length := fun {α} us ws dd h1 h2 h3 => by
        have q := hl (us.map fun _ => ()) (ws.map fun _ => ()) (by simpa using h1) (by simpa using h2)
        have pq : Paired (fun (_ : Unit) (_ : α) => True) (gath l (us.map fun _ => ()) (ws.map fun _ => ()) (List.replicate ds.length ())) (gath l us ws dd) := by
          have mp : ∀ zs : List α, Paired (fun (_ : Unit) (_ : α) => True) (zs.map fun _ => ()) zs := fun zs => by
            induction zs with
            | nil => exact .nil
            | cons z r ih => exact .cons trivial ih
          have er : ∀ zs : List α, List.replicate zs.length () = zs.map fun _ => () := fun zs => by
            induction zs with
            | nil => rfl
            | cons z r ih => rw [List.length_cons, List.replicate_succ, List.map_cons, ih]
          rw [← h3, er]
          exact gath_rel (mp us) (mp ws) (mp dd) l
        rw [← Paired.length pq]
        exact q
      exact key [] ys _ rfl hc.2 (by simp)
    · exact hy.elim
  · rw [hks]
    have r2 := hb.rel (vs := []) (us := []) .nil rz
    exact wpAny_call (codeAny_mono (hF.go X.A X.stack s2 H2 ⟨[], ks.zip ws⟩ (g [] ws) (gath l [] zs dV) Q _ hr I2.env0 (hb.to s2 [] ws I2.kIn rfl (rz.length.symm.trans l2)) r2 q2) fun rr s' hq => after_go tk I2 hq)
end
/-! ### simp lemmas -/
def kAK2 (n nk : Nat) (l : List Ax) (ds : List D) (F : List SV → P SV) (xs ys : List SV) (m : Mem) : R SV := if xs.length = n ∧ ys.length = nk then F (gath l xs ys (ds.map SV.dat)) m else .stuck
@[simp] theorem kAK2_ap (n nk : Nat) (l : List Ax) (ds : List D) (F : List SV → P SV) (xs ys : List SV) (m : Mem) : kAK2 n nk l ds F xs ys m = if xs.length = n ∧ ys.length = nk then F (gath l xs ys (ds.map SV.dat)) m else .stuck := (rfl)
def kAK1 (n nk : Nat) (l : List Ax) (ds : List D) (F : List SV → P SV) (gs : En → P (List SV)) (env : En) (xs : List SV) (m : Mem) : R SV := (gs env m).bnd (kAK2 n nk l ds F xs)
@[simp] theorem kAK1_ap (n nk : Nat) (l : List Ax) (ds : List D) (F : List SV → P SV) (gs : En → P (List SV)) (env : En) (xs : List SV) (m : Mem) : kAK1 n nk l ds F gs env xs m = (gs env m).bnd (kAK2 n nk l ds F xs) := (rfl)
@[simp] theorem dAK_ap (n nk : Nat) (l : List Ax) (ds : List D) (F : List SV → P SV) (fs gs : En → P (List SV)) (env : En) (m : Mem) : dAK n nk l ds F fs gs env m = (fs env m).bnd (kAK1 n nk l ds F gs env) := by
  unfold dAK P.bnd
  congr 1
  funext xs m1
  show R.bnd _ _ = R.bnd _ _
  congr 1
  funext ys m2
  unfold kAK2
  split <;> rfl
@[simp] theorem gath_nil {α : Type} (us ws ds : List α) : gath [] us ws ds = [] := (rfl)
@[simp] theorem gath_cons {α : Type} (q : Ax) (l : List Ax) (us ws ds : List α) : gath (q :: l) us ws ds = (Ax.get us ws ds q).toList ++ gath l us ws ds := by
  unfold gath
  rw [List.filterMap_cons]
  cases Ax.get us ws ds q <;> rfl
@[simp] theorem get_p {α : Type} (us ws ds : List α) (j : Nat) : Ax.get us ws ds (.p j) = us[j]? := (rfl)
@[simp] theorem get_k {α : Type} (us ws ds : List α) (j : Nat) : Ax.get us ws ds (.k j) = ws[j]? := (rfl)
@[simp] theorem get_d {α : Type} (us ws ds : List α) (j : Nat) : Ax.get us ws ds (.d j) = ds[j]? := (rfl)
def kParT (is : List Nat) (env : En) (vs : List SV) (m : Mem) : R Out := if vs.length = is.length ∧ vs.length ≤ 1000 then .ok (.nx (setAll env is vs)) m else .stuck
@[simp] theorem kParT_ap (is : List Nat) (env : En) (vs : List SV) (m : Mem) : kParT is env vs m = if vs.length = is.length ∧ vs.length ≤ 1000 then .ok (.nx (setAll env is vs)) m else .stuck := (rfl)
@[simp] theorem dParT_ap (is : List Nat) (fs : En → P (List SV)) (env : En) (m : Mem) : dParT is fs env m = (fs env m).bnd (kParT is env) := (rfl)
@[simp] theorem setAll_nil (env : En) (vs : List SV) : setAll env [] vs = env := (rfl)
@[simp] theorem setAll_cons (env : En) (i : Nat) (is : List Nat) (v : SV) (vs : List SV) : setAll env (i :: is) (v :: vs) = setAll (env.set i (some v)) is vs := (rfl)
@[simp] theorem dNoPt_ap (env : En) (m : Mem) : dNoPt env m = .ok none m := (rfl)
def kPt (v : SV) (m : Mem) : R (Option Int) := match v with
  | .dat (.int i) => .ok (some i) m
  | _ => .stuck
@[simp] theorem kPt_int (i : Int) (m : Mem) : kPt (.dat (.int i)) m = .ok (some i) m := (rfl)
@[simp] theorem dPt_ap (f : En → P SV) (env : En) (m : Mem) : dPt f env m = (f env m).bnd kPt := by
  unfold dPt P.bnd
  congr 1
  funext v m1
  unfold kPt
  split <;> simp_all
def kSl2 (own : Bool) (v : SV) (lo : Option Int) (hi : Option Int) (m : Mem) : R SV := cutVl own v lo hi m
@[simp] theorem kSl2_ap (own : Bool) (v : SV) (lo hi : Option Int) (m : Mem) : kSl2 own v lo hi m = cutVl own v lo hi m := (rfl)
def kSl1 (own : Bool) (fh : En → P (Option Int)) (env : En) (v : SV) (lo : Option Int) (m : Mem) : R SV := (fh env m).bnd (kSl2 own v lo)
@[simp] theorem kSl1_ap (own : Bool) (fh : En → P (Option Int)) (env : En) (v : SV) (lo : Option Int) (m : Mem) : kSl1 own fh env v lo m = (fh env m).bnd (kSl2 own v lo) := (rfl)
def kSl (own : Bool) (fl fh : En → P (Option Int)) (env : En) (v : SV) (m : Mem) : R SV := (fl env m).bnd (kSl1 own fh env v)
@[simp] theorem kSl_ap (own : Bool) (fl fh : En → P (Option Int)) (env : En) (v : SV) (m : Mem) : kSl own fl fh env v m = (fl env m).bnd (kSl1 own fh env v) := (rfl)
@[simp] theorem dSl_ap (own : Bool) (fa : En → P SV) (fl fh : En → P (Option Int)) (env : En) (m : Mem) : dSl own fa fl fh env m = (fa env m).bnd (kSl own fl fh env) := (rfl)
@[simp] theorem cutVl_tup (own : Bool) (xs : List D) (lo hi : Option Int) (m : Mem) : cutVl own (.dat (.tup xs)) lo hi m = .ok (.dat (.tup (cutD xs lo hi))) m := (rfl)
@[simp] theorem cutVl_lst (own : Bool) (xs : List D) (lo hi : Option Int) (m : Mem) : cutVl own (.dat (.lst xs)) lo hi m = frs own (cutD xs lo hi) m := (rfl)
end PL

/-! PL12: what is wanted behind a run of the pure layer (Ok), with rules for loops. -/
namespace PL
open PySem PySem.Spec PyProof.Rows L2
def Ok {α : Type} (r : R α) (Q : α → Mem → Prop) : Prop := ∃ a m, r = .ok a m ∧ Q a m
section
variable {α β : Type} {Q Q' : α → Mem → Prop} {r : R α} {m : Mem}
@[simp] theorem ok_ok (a : α) (m : Mem) (Q : α → Mem → Prop) : Ok (.ok a m) Q ↔ Q a m := by
  constructor
  · rintro ⟨b, n, e, h⟩
    cases e
    exact h
  · intro h
    exact ⟨a, m, rfl, h⟩
@[simp] theorem ok_bnd (r : R α) (f : α → Mem → R β) (Q : β → Mem → Prop) : Ok (R.bnd r f) Q ↔ Ok r fun a m => Ok (f a m) Q := by
  constructor
  · rintro ⟨b, n, e, h⟩
    cases r with
    | ok a m => exact ⟨a, m, rfl, b, n, e, h⟩
    | exc x m => cases e
    | stuck => cases e
  · rintro ⟨a, m, rfl, b, n, e, h⟩
    exact ⟨b, n, e, h⟩
theorem Ok.mono (h : Ok r Q) (i : ∀ a m, Q a m → Q' a m) : Ok r Q' := by
  obtain ⟨a, m, e, q⟩ := h
  exact ⟨a, m, e, i a m q⟩
theorem ok_eq {a : α} {m : Mem} (e : r = .ok a m) (h : Q a m) : Ok r Q := ⟨a, m, e, h⟩
theorem ok_ite {c : Prop} [Decidable c] {r s : R α} (h1 : c → Ok r Q) (h2 : ¬ c → Ok s Q) : Ok (if c then r else s) Q := by
  by_cases h : c
  · rw [if_pos h]; exact h1 h
  · rw [if_neg h]; exact h2 h
def kFin (ex : Nat → SV → Mem → R SV) (k : Nat) (o : Out) (m : Mem) : R SV := fin ex k (.ok o m)
@[simp] theorem kFin_nx (ex : Nat → SV → Mem → R SV) (k : Nat) (env : En) (m : Mem) : kFin ex k (.nx env) m = .ok (.dat .non) (m.take k) := (rfl)
@[simp] theorem kFin_rt (ex : Nat → SV → Mem → R SV) (k : Nat) (v : SV) (m : Mem) : kFin ex k (.rt v) m = ex k v m := (rfl)
@[simp] theorem ok_fin (ex : Nat → SV → Mem → R SV) (k : Nat) (r : R Out) (Q : SV → Mem → Prop) : Ok (fin ex k r) Q ↔ Ok r fun o m => Ok (kFin ex k o m) Q := by
  constructor
  · rintro ⟨b, n, e, h⟩
    cases r with
    | ok a m => exact ⟨a, m, rfl, b, n, e, h⟩
    | exc x m => cases e
    | stuck => cases e
  · rintro ⟨a, m, rfl, b, n, e, h⟩
    exact ⟨b, n, e, h⟩
theorem ok_noX (x : P α) (m : Mem) (Q : α → Mem → Prop) : Ok (noX x m) Q ↔ Ok (x m) Q := by
  constructor
  · rintro ⟨b, n, e, h⟩
    unfold noX at e
    cases hx : x m with
    | ok a m' => rw [hx] at e; exact ⟨b, n, e, h⟩
    | exc x m' => rw [hx] at e; cases e
    | stuck => rw [hx] at e; cases e
  · rintro ⟨a, m', e, h⟩
    exact ⟨a, m', by unfold noX; rw [e], h⟩
/-- what a loop's body leaves -/
def LB (N : En → Mem → Prop) (Q : Out → Mem → Prop) (o : Out) (m : Mem) : Prop := match o with
  | .nx e => N e m
  | .ct e => N e m
  | .bk e => Q (.nx e) m
  | .rt v => Q (.rt v) m
@[simp] theorem LB_nx (N : En → Mem → Prop) (Q : Out → Mem → Prop) (e : En) (m : Mem) : LB N Q (.nx e) m = N e m := (rfl)
@[simp] theorem LB_ct (N : En → Mem → Prop) (Q : Out → Mem → Prop) (e : En) (m : Mem) : LB N Q (.ct e) m = N e m := (rfl)
@[simp] theorem LB_bk (N : En → Mem → Prop) (Q : Out → Mem → Prop) (e : En) (m : Mem) : LB N Q (.bk e) m = Q (.nx e) m := (rfl)
@[simp] theorem LB_rt (N : En → Mem → Prop) (Q : Out → Mem → Prop) (v : SV) (m : Mem) : LB N Q (.rt v) m = Q (.rt v) m := (rfl)
/-- a for loop over the things of a list: I tells what is so behind those done -/
theorem ok_for {β : Type} {g : D → En → Option En} {body : DS} {Q : Out → Mem → Prop} (f : β → D) (I : List β → En → Mem → Prop) :
    ∀ (xs pre : List β) (env : En) (m : Mem), I pre env m →
      (∀ p x q env m, pre ++ xs = p ++ x :: q → I p env m → ∃ env1, g (f x) env = some env1 ∧ Ok (body env1 m) (LB (I (p ++ [x])) Q)) →
      (∀ env m, I (pre ++ xs) env m → Q (.nx env) m) → Ok (loopF g body (xs.map f) env m) Q
  | [], pre, env, m, h0, _, hq => ⟨.nx env, m, rfl, hq env m (by simpa using h0)⟩
  | x :: xs, pre, env, m, h0, hs, hq => by
    obtain ⟨env1, hg, o, m2, hb, hl⟩ := hs pre x xs env m rfl h0
    have go : ∀ (env2 : En) (_ : I (pre ++ [x]) env2 m2), Ok (loopF g body (xs.map f) env2 m2) Q := fun env2 hI =>
      ok_for f I xs (pre ++ [x]) env2 m2 hI (fun p y q env m e => hs p y q env m (by rw [← e]; simp)) (fun env m h => hq env m (by simpa using h))
    rw [List.map_cons]
    cases o with
    | nx e => rw [loopF_nx hg hb]; exact go e hl
    | ct e => rw [loopF_ct hg hb]; exact go e hl
    | bk e => rw [loopF_bk hg hb]; exact ⟨_, _, rfl, hl⟩
    | rt v => rw [loopF_rt hg hb]; exact ⟨_, _, rfl, hl⟩
/-- a for loop by the number of the turn -/
theorem ok_forN {g : D → En → Option En} {body : DS} {Q : Out → Mem → Prop} (I : Nat → En → Mem → Prop) :
    ∀ (items : List D) (j : Nat) (env : En) (m : Mem), I j env m →
      (∀ i d env m, items[i]? = some d → I (j + i) env m → ∃ env1, g d env = some env1 ∧ Ok (body env1 m) (LB (I (j + i + 1)) Q)) →
      (∀ env m, I (j + items.length) env m → Q (.nx env) m) → Ok (loopF g body items env m) Q
  | [], j, env, m, h0, _, hq => ⟨.nx env, m, rfl, hq env m (by simpa using h0)⟩
  | x :: xs, j, env, m, h0, hs, hq => by
    obtain ⟨env1, hg, o, m2, hb, hl⟩ := hs 0 x env m rfl h0
    have go : ∀ (env2 : En) (_ : I (j + 1) env2 m2), Ok (loopF g body xs env2 m2) Q := fun env2 hI =>
      ok_forN I xs (j + 1) env2 m2 hI (fun i d env m hi hI => by
        have := hs (i + 1) d env m (by simpa using hi) (by rw [show j + (i + 1) = j + 1 + i by omega]; exact hI)
        rw [show j + (i + 1) + 1 = j + 1 + i + 1 by omega] at this
        exact this) (fun env m h => hq env m (by rw [List.length_cons, show j + (xs.length + 1) = j + 1 + xs.length by omega]; exact h))
    cases o with
    | nx e => rw [loopF_nx hg hb]; exact go e hl
    | ct e => rw [loopF_ct hg hb]; exact go e hl
    | bk e => rw [loopF_bk hg hb]; exact ⟨_, _, rfl, hl⟩
    | rt v => rw [loopF_rt hg hb]; exact ⟨_, _, rfl, hl⟩
/-- a for loop over range: turns 0 .. n - 1 -/
theorem ok_rng {g : D → En → Option En} {body : DS} {Q : Out → Mem → Prop} {lo : Int} {n : Nat} {env : En} {m : Mem} (I : Nat → En → Mem → Prop) (h0 : I 0 env m)
    (hs : ∀ i env m, i < n → I i env m → ∃ env1, g (.int (lo + (i : Int))) env = some env1 ∧ Ok (body env1 m) (LB (I (i + 1)) Q))
    (hq : ∀ env m, I n env m → Q (.nx env) m) : Ok (loopF g body (rngD lo n) env m) Q :=
  ok_forN I (rngD lo n) 0 env m h0 (fun i d env m hi hI => by
    obtain ⟨h1, rfl⟩ := rngD_get hi
    rw [Nat.zero_add] at hI ⊢
    exact hs i env m h1 hI) (fun env m h => hq env m (by simpa using h))
/-- a comprehension: I tells what was gathered from those done -/
theorem ok_lc {β : Type} {g : D → En → Option En} {t : En → P Bool} {f : En → P SV} {env : En} {Q : List D → Mem → Prop} (fd : β → D) (I : List β → List D → Mem → Prop) :
    ∀ (xs pre : List β) (acc : List D) (m : Mem), I pre acc m → acc.length + xs.length ≤ 16777216 →
      (∀ p x q acc m, pre ++ xs = p ++ x :: q → I p acc m → ∃ env1, g (fd x) env = some env1 ∧ Ok (t env1 m) (fun b m1 => if b = true then Ok (f env1 m1) (fun v m2 => ∃ d, v = .dat d ∧ I (p ++ [x]) (acc ++ [d]) m2) else I (p ++ [x]) acc m1)) →
      (∀ acc m, I (pre ++ xs) acc m → Q acc m) → Ok (loopC g t f env (xs.map fd) acc m) Q
  | [], pre, acc, m, h0, _, _, hq => ⟨acc, m, rfl, hq acc m (by simpa using h0)⟩
  | x :: xs, pre, acc, m, h0, hl, hs, hq => by
    obtain ⟨env1, hg, b, m1, ht, hb⟩ := hs pre x xs acc m rfl h0
    rw [List.map_cons]
    rw [List.length_cons] at hl
    cases b with
    | false =>
      have := ok_lc fd I xs (pre ++ [x]) acc m1 (by simpa using hb) (by omega) (fun p y q acc m e => hs p y q acc m (by rw [← e]; simp)) (fun acc m h => hq acc m (by simpa using h))
      simp only [loopC, hg, bnd_ap, ht, bnd_ok]
      exact this
    | true =>
      obtain ⟨v, m2, hf, d, rfl, hI⟩ := (by simpa using hb : Ok (f env1 m1) (fun v m2 => ∃ d, v = .dat d ∧ I (pre ++ [x]) (acc ++ [d]) m2))
      have := ok_lc fd I xs (pre ++ [x]) (acc ++ [d]) m2 hI (by simp; omega) (fun p y q acc m e => hs p y q acc m (by rw [← e]; simp)) (fun acc m h => hq acc m (by simpa using h))
      simp only [loopC, hg, bnd_ap, ht, bnd_ok, hf]
      rw [if_pos (by omega)]
      exact this
/-- a comprehension without a test -/
theorem ok_lcA {β : Type} {g : D → En → Option En} {f : En → P SV} {env : En} {m : Mem} {Q : List D → Mem → Prop} (fd : β → D) (I : List β → List D → Mem → Prop) (xs : List β) (h0 : I [] [] m) (hl : xs.length ≤ 16777216)
    (hs : ∀ p x q acc m, xs = p ++ x :: q → I p acc m → ∃ env1, g (fd x) env = some env1 ∧ Ok (f env1 m) (fun v m2 => ∃ d, v = .dat d ∧ I (p ++ [x]) (acc ++ [d]) m2))
    (hq : ∀ acc m, I xs acc m → Q acc m) : Ok (loopC g dYes f env (xs.map fd) [] m) Q :=
  ok_lc fd I xs [] [] m h0 (by simpa using hl) (fun p x q acc m e hI => by
    obtain ⟨e1, hg, hf⟩ := hs p x q acc m (by simpa using e) hI
    exact ⟨e1, hg, true, m, rfl, by simpa using hf⟩) (fun acc m h => hq acc m (by simpa using h))
end
/-! ### memory -/
@[simp] theorem get_app_set (m : Mem) (k : Nat) (c x : Cell) : (m.set k c ++ [x])[m.length]? = some x := by
  have := get_app_len (m.set k c) x
  rwa [List.length_set] at this
@[simp] theorem set_app_set (m : Mem) (k : Nat) (c x y : Cell) : (m.set k c ++ [x]).set m.length y = m.set k c ++ [y] := by
  have := set_app_len (m.set k c) x y
  rwa [List.length_set] at this
@[simp] theorem take_app_set (m : Mem) (k : Nat) (c x : Cell) : (m.set k c ++ [x]).take m.length = m.set k c := by
  have := take_app_len (m.set k c) x
  rwa [List.length_set] at this
end PL

/-! PL13: repr of lists and tuples. -/
namespace PL
open PySem PySem.Spec PyProof.Rows L2
theorem RoomG.un66 {k : Nat} {A : Around} (r : RoomG k A) : A.units + 66 < cLine := by have := r.rm.un; omega
section
variable {X : Cx} {W : WX}
def shOk (d : D) : Bool := okD d && (toPy d).showable && !(toPy d).hasDict && decide ((toPy d).shown.length ≤ 16777216)
def shD (d : D) (m : Mem) : R SV := match d with
  | .lst xs => if shOk (.lst xs) = true then .ok (.dat (.str (toPy (.lst xs)).shown)) m else .stuck
  | .tup xs => if shOk (.tup xs) = true then .ok (.dat (.str (toPy (.tup xs)).shown)) m else .stuck
  | _ => .stuck
def reprV (xs : List SV) : P SV := fun m => match xs with
  | [x] => (match svD x m with | some d => shD d m | none => .stuck)
  | _ => .stuck
theorem repr_go {G S H : Hp} {ρ : List Addr} {m : Mem} {σ : St} {Q : VK} {d : D} {a : Addr} (hgd : X.A.guards = some []) (hu : X.A.units + 66 < cLine) (M : MR (gd X) G S H ρ m) (r : Rp (gd X) H (.ref a) d) (hs : shOk d = true) (q : QV X G S ρ Q (.dat (.str (toPy d).shown)) m) :
    WC X (.builtin "repr") [.ref a] σ H Q := by
  intro pins s us I rx
  simp only [shOk, Bool.and_eq_true, decide_eq_true_eq, Bool.not_eq_true'] at hs
  obtain ⟨⟨⟨h1, h2⟩, h3⟩, h4⟩ := hs
  obtain ⟨u, rfl, ru⟩ : ∃ u, us = [u] ∧ RelV (.ref a) u := by
    cases rx with
    | cons r1 r2 => cases r2; exact ⟨_, rfl, r1⟩
  obtain rfl : u = Value.ref a := ru
  obtain ⟨as, rd⟩ := Dp.reads I _ _ _ (r.dp (okD_plain h1)) (show RelV (.ref a) (.ref a) from rfl)
  have hdp : (toPy d).depth ≤ 64 := by
    rw [toPy_dep]
    unfold okD at h1
    simp only [Bool.and_eq_true, decide_eq_true_eq] at h1
    exact h1.2
  refine repr_of_reads' (h₀ := s.heap) rd h2 (by rw [h3]; intro z; cases z) hgd (by omega) (fun _ _ z => z) (fun h' u' tk hk => ?_) (by rw [sizeLine_eq]; exact h4)
  exact ⟨.str _, H, I.kept hk, ⟨u', rfl⟩, q S H ρ _ (Ext.refl _ _) M (.str _)⟩
theorem jc_repr (hgd : X.A.guards = some []) (hu : X.A.units + 66 < cLine) : JC X W (.builtin "repr") reprV := ⟨fun {G S H ρ m σ xs xvs Q} M rx q => by
  unfold reprV at q
  split at q
  · rename_i x
    obtain ⟨v, rfl, r1⟩ := paired1 rx
    split at q
    · rename_i d hd
      have r2 := svD_ok M r1 hd
      unfold shD at q
      split at q
      · split at q
        · rename_i hs
          cases r2 with
          | lst h r => exact repr_go hgd hu M (.lst h r) hs q
        · exact q.elim
      · split at q
        · rename_i hs
          cases r2 with
          | tup h r => exact repr_go hgd hu M (.tup h r) hs q
        · exact q.elim
      · exact q.elim
    · exact q.elim
  · exact q.elim⟩
end
/-! ### a, b, c = x, y, z -/
def dPar3 (i j l : Nat) (fs : En → P (List SV)) : DS := fun env => (fs env).bnd fun vs m => match vs with
  | [u, v, w] => .ok (.nx (((env.set i (some u)).set j (some v)).set l (some w))) m
  | _ => .stuck
section
variable {X : Cx} {W : WX} {a b c : Expr} {fs : En → P (List SV)} {pos : Pos}
theorem js_par3 (i j l : Nat) {x y z : Str} {px py pz pt : Pos} {kt k2 pt2} (hc : X.calm = true) (hN : X.N.Nodup) (ja : JA X W [a, b, c] fs)
    (hi : X.N[i]? = some x := by rfl) (hj : X.N[j]? = some y := by rfl) (hl : X.N[l]? = some z := by rfl) (hij : i ≠ j := by decide) (hil : i ≠ l := by decide) (hjl : j ≠ l := by decide)
    (hx : X.env.scope.names.lookup x = some .local := by rfl) (hy : X.env.scope.names.lookup y = some .local := by rfl) (hz : X.env.scope.names.lookup z = some .local := by rfl)
    (hw : swappedStores [.Tuple [.Name x px, .Name y py, .Name z pz] kt pt] (.Tuple [a, b, c] k2 pt2) X.env = pure (some [x, y, z]) := by rfl)
    (hs : swapsWithSole [.Tuple [.Name x px, .Name y py, .Name z pz] kt pt] (.Tuple [a, b, c] k2 pt2) pos.line X.env = pure false := by rfl) :
    JS X W (.Assign [.Tuple [.Name x px, .Name y py, .Name z pz] kt pt] (.Tuple [a, b, c] k2 pt2) pos) (dPar3 i j l fs) := ⟨fun {G S H ρ m env σ D} M E h => by
  refine ws_of (ps_par3 hc hN hi hj hl hij hil hjl hx hy hz pa_wa hw hs) (ja.run M E (wpr_mono (wpr_bnd h) (fun vs m1 hv => ?_) fun _ _ z => qx_of z))
  intro S1 H1 ρ1 xv e1 M1 rx
  split at hv
  · rename_i u v w'
    obtain ⟨u1, v1, w1, rfl, r1, r2, r3⟩ := paired3 rx
    exact ⟨u1, v1, w1, rfl, hv S1 H1 ρ1 _ e1 M1 ((((E.mono e1).set i r1).set j r2).set l r3)⟩
  · exact hv.elim⟩
/-! ### is, is not of truths -/
def isBV (x y : SV) : P SV := fun m => match x, y with
  | .dat (.bl a), .dat (.bl b) => .ok (.dat (.bl (decide (a = b)))) m
  | _, _ => .stuck
def notBV (x y : SV) : P SV := fun m => match x, y with
  | .dat (.bl a), .dat (.bl b) => .ok (.dat (.bl (!decide (a = b)))) m
  | _, _ => .stuck
theorem jo_isB : JO X W (compareOp .Is) isBV := ⟨fun {G S H ρ m σ x y xv yv Q} M rx ry q => by
  unfold isBV at q
  split at q
  · cases rx
    cases ry
    exact wo_of op_isBl ⟨_, _, rfl, rfl, q S H ρ _ (Ext.refl _ _) M (.bl _)⟩
  · exact q.elim⟩
theorem jo_notB : JO X W (compareOp .IsNot) notBV := ⟨fun {G S H ρ m σ x y xv yv Q} M rx ry q => by
  unfold notBV at q
  split at q
  · cases rx
    cases ry
    exact wo_of op_notBl ⟨_, _, rfl, rfl, q S H ρ _ (Ext.refl _ _) M (.bl _)⟩
  · exact q.elim⟩
end
@[simp] theorem isBV_bl (a b : Bool) (m : Mem) : isBV (.dat (.bl a)) (.dat (.bl b)) m = .ok (.dat (.bl (decide (a = b)))) m := (rfl)
@[simp] theorem notBV_bl (a b : Bool) (m : Mem) : notBV (.dat (.bl a)) (.dat (.bl b)) m = .ok (.dat (.bl (!decide (a = b)))) m := (rfl)
def kPar3 (i j l : Nat) (env : En) (vs : List SV) (m : Mem) : R Out := match vs with
  | [u, v, w] => .ok (.nx (((env.set i (some u)).set j (some v)).set l (some w))) m
  | _ => .stuck
@[simp] theorem kPar3_ap (i j l : Nat) (env : En) (u v w : SV) (m : Mem) : kPar3 i j l env [u, v, w] m = .ok (.nx (((env.set i (some u)).set j (some v)).set l (some w))) m := (rfl)
@[simp] theorem dPar3_ap (i j l : Nat) (fs : En → P (List SV)) (env : En) (m : Mem) : dPar3 i j l fs env m = (fs env m).bnd (kPar3 i j l env) := (rfl)
@[simp] theorem reprV_dat (d : D) (m : Mem) : reprV [.dat d] m = shD d m := (rfl)
theorem eqV_str {x : Str} (h1 : okD (.str x) = true) (m : Mem) : PL.eqV (.dat (.str x)) (.dat (.str x)) m = .ok (.dat (.bl true)) m := by
  simp [PL.eqV, svD, h1, eqd, toPy, PyData.eqv]
theorem sh_bls2 (a b : Bool) : shOk (.lst [.bl a, .bl b]) = true ∧ okD (.str (toPy (.lst [.bl a, .bl b])).shown) = true := by
  cases a <;> cases b <;> decide +kernel
theorem sh_bls4 (a b c d : Bool) : shOk (.lst [.bl a, .bl b, .bl c, .bl d]) = true ∧ okD (.str (toPy (.lst [.bl a, .bl b, .bl c, .bl d])).shown) = true := by
  cases a <;> cases b <;> cases c <;> cases d <;> decide +kernel
/-- a while loop with a measure -/
theorem ok_while {t : En → P Bool} {body : DS} {Q : Out → Mem → Prop} (I : Nat → En → Mem → Prop)
    (hs : ∀ k env m, I k env m → Ok (t env m) fun b m1 => if b = true then Ok (body env m1) (LB (fun e m2 => ∃ k', k' < k ∧ I k' e m2) Q) else Q (.nx env) m1) :
    ∀ (n k : Nat) (env : En) (m : Mem), k < n → I k env m → Ok (loopW t body n env m) Q
  | 0, k, env, m, hk, _ => absurd hk (by omega)
  | n + 1, k, env, m, hk, h => by
    obtain ⟨b, m1, e1, h1⟩ := hs k env m h
    unfold loopW
    rw [bnd_ap, e1, bnd_ok]
    cases b with
    | false => exact ⟨_, _, rfl, by simpa using h1⟩
    | true =>
      obtain ⟨o, m2, e2, h2⟩ := (by simpa using h1 : Ok (body env m1) (LB (fun e m2 => ∃ k', k' < k ∧ I k' e m2) Q))
      show Ok (P.bnd (body env) _ m1) Q
      rw [bnd_ap, e2, bnd_ok]
      cases o with
      | nx e => obtain ⟨k', hk', h3⟩ := h2; exact ok_while I hs n k' e m2 (by omega) h3
      | ct e => obtain ⟨k', hk', h3⟩ := h2; exact ok_while I hs n k' e m2 (by omega) h3
      | bk e => exact ⟨_, _, rfl, h2⟩
      | rt v => exact ⟨_, _, rfl, h2⟩
@[simp] theorem inSV_ints (x : Int) (xs : List Int) (m : Mem) : inSV (.dat (.int x)) (.dat (.lst (xs.map D.int))) m = .ok (.dat (.bl (decide (x ∈ xs)))) m := by
  simp [inSV, rdSq, rdL, hasD_ints]
@[simp] theorem notInSV_ints (x : Int) (xs : List Int) (m : Mem) : notInSV (.dat (.int x)) (.dat (.lst (xs.map D.int))) m = .ok (.dat (.bl (!decide (x ∈ xs)))) m := by
  simp [notInSV, rdSq, rdL, hasD_ints]
/-- a comprehension over the things of a list, without and with a test -/
theorem lc_map {β : Type} {g : D → En → Option En} {f : En → P SV} {env : En} {m : Mem} (fd : β → D) (h : β → D) (xs : List β) (hs : ∀ x ∈ xs, ∃ env1, g (fd x) env = some env1 ∧ f env1 m = .ok (.dat (h x)) m) (hl : xs.length ≤ 16777216) :
    noX (loopC g dYes f env (xs.map fd) []) m = .ok (xs.map h) m := by
  have main : ∀ (ys : List β) (acc : List D), (∀ x ∈ ys, ∃ env1, g (fd x) env = some env1 ∧ f env1 m = .ok (.dat (h x)) m) → acc.length + ys.length ≤ 16777216 → loopC g dYes f env (ys.map fd) acc m = .ok (acc ++ ys.map h) m := by
    intro ys
    induction ys with
    | nil => intro acc _ _; simp [loopC]
    | cons y r ih =>
      intro acc hy hl
      simp at hl
      obtain ⟨e1, g1, g2⟩ := hy y List.mem_cons_self
      have := ih (acc ++ [h y]) (fun x hx => hy x (List.mem_cons_of_mem _ hx)) (by simp; omega)
      simp [loopC, g1, dYes, g2, show acc.length < 16777216 by omega]
      simpa using this
  have := main xs [] hs (by simpa using hl)
  simp [noX, this]
theorem lc_filter {β : Type} {g : D → En → Option En} {t : En → P Bool} {f : En → P SV} {env : En} {m : Mem} (fd : β → D) (p : β → Bool) (h : β → D) (xs : List β) (hs : ∀ x ∈ xs, ∃ env1, g (fd x) env = some env1 ∧ t env1 m = .ok (p x) m ∧ (p x = true → f env1 m = .ok (.dat (h x)) m)) (hl : xs.length ≤ 16777216) :
    noX (loopC g t f env (xs.map fd) []) m = .ok ((xs.filter p).map h) m := by
  have main : ∀ (ys : List β) (acc : List D), (∀ x ∈ ys, ∃ env1, g (fd x) env = some env1 ∧ t env1 m = .ok (p x) m ∧ (p x = true → f env1 m = .ok (.dat (h x)) m)) → acc.length + ys.length ≤ 16777216 → loopC g t f env (ys.map fd) acc m = .ok (acc ++ (ys.filter p).map h) m := by
    intro ys
    induction ys with
    | nil => intro acc _ _; simp [loopC]
    | cons y r ih =>
      intro acc hy hl
      simp at hl
      obtain ⟨e1, g1, g2, g3⟩ := hy y List.mem_cons_self
      have hr := fun x hx => hy x (List.mem_cons_of_mem y hx)
      cases hp : p y with
      | true =>
        have := ih (acc ++ [h y]) hr (by simp; omega)
        simp [loopC, g1, g2, hp, g3 hp, show acc.length < 16777216 by omega, this]
      | false =>
        have := ih acc hr (by omega)
        simp [loopC, g1, g2, hp, this]
  have := main xs [] hs (by simpa using hl)
  simp [noX, this]
end PL

/-! PL14: exceptions of the program (classes under SectionError), raise, try. -/
namespace PL
open PySem PySem.Spec PyProof.Rows L2
abbrev aeTail : List Value := [.type "ArithmeticError", .type "Exception", .type "BaseException", .type "object"]
/-- what the written part says of such a class, whose exceptions have one field -/
structure XCls (K : PySem.W.Frag) (C : Addr) (f : Str) : Prop where
  ini : PySem.W.excInitIn K C aeTail "ArithmeticError.__new__" = true
  ovr : PySem.W.excOver K C aeTail = true
  sa : PySem.W.findIn K (.ref C) "__setattr__" = some (some (.builtin "object.__setattr__"))
  exC : PySem.W.subIn K (.ref C) (.type "BaseException") = some true
  tyC : PySem.W.typeIn K (.ref C) = some (.type "type")
  kC : PySem.W.keepIn K (.ref C) = true
  hd : PySem.W.hasDictIn K C = true
  nf : PySem.W.findIn K (.ref C) f = some none
  xf : XfC K C
def xclsB (K : PySem.W.Frag) (C : Addr) (f : Str) : Bool :=
  PySem.W.excInitIn K C aeTail "ArithmeticError.__new__" && (PySem.W.excOver K C aeTail && (decide (PySem.W.findIn K (.ref C) "__setattr__" = some (some (.builtin "object.__setattr__"))) && (decide (PySem.W.subIn K (.ref C) (.type "BaseException") = some true) &&
    (decide (PySem.W.typeIn K (.ref C) = some (.type "type")) && (PySem.W.keepIn K (.ref C) && (PySem.W.hasDictIn K C && (decide (PySem.W.findIn K (.ref C) f = some none) && xfB K C)))))))
theorem xclsB_ok {K : PySem.W.Frag} {C : Addr} {f : Str} (h : xclsB K C f = true) : XCls K C f := by
  unfold xclsB at h
  simp only [Bool.and_eq_true, decide_eq_true_eq] at h
  obtain ⟨h1, h2, h3, h4, h5, h6, h7, h8, h9⟩ := h
  exact ⟨h1, h2, h3, h4, h5, h6, h7, h8, xfB_ok h9⟩
section
variable {prog : Program} {w : World} {A : Around} {R : Result → Shared → Prop} {hp : Heap} {g : Array GenState} {d : Drawn} {t : Nat} {os : OsState}
/-- the first field of an exception -/
theorem exc_store {K : PySem.W.Frag} {f : Str} {tk : Tok} {v : Value} {x C t1 : Addr} (X : K.In hp) (T : XCls K C f) (hx : hp.get? x = some (PySem.W.excObj C t1 none .none))
    (hq : ∀ h' tk' dx, (∀ b o, b ≠ x → hp.get? b = some o → h'.get? b = some o) → hp.objs.size ≤ dx → dx ≠ x → h'.get? x = some (PySem.W.excObj C t1 (some dx) .none) →
      h'.Ns1 dx (fun y => if y = f then some v else none) → R (.ok (.ret .none)) ⟨h', g, d, tk', os⟩) :
    codeAny (model prog w) A (.call (.builtin "object.__setattr__") ⟨[.ref x, .str f tk, v], []⟩) R ⟨hp, g, d, t, os⟩ := by
  have hxs : x ≠ hp.objs.size := Nat.ne_of_lt (Heap.lt_size hx)
  refine PySem.W.osa_openX (s := ⟨hp, g, d, t, os⟩) (od := none) PySem.F.store_ArithmeticError X ⟨hx, rfl, rfl, trivial⟩ T.ovr (by unfold PySem.W.takerIn; rw [T.nf]; rfl) fun b => ?_
  obtain ⟨cd, hc, hd'⟩ := PySem.W.any_some T.hd
  refine wpAny_bind (wpAny_pure (wpAny_bind (PySem.W.instanceDict_exc (s := ⟨hp, g, d, t, os⟩) hx (PySem.W.looks_clsIn X hc) hd' ?_)))
  show wpAny _ _ (Builtin.ObjectAttr.storeInDict hp.objs.size (.str f tk) f v) _ _ _
  refine HandSPX.store_in_new ⟨_, #[], _, (Heap.get?_update_ne _ _ _ _ hxs.symm).trans (Heap.get?_push_at rfl rfl), rfl, (fun e he => absurd he (by simp)), fun _ => rfl⟩ fun h' tk' hn' hs => ?_
  have hx2 : (hp.push (PySem.W.dictOf [] 0)).get? x = some (PySem.W.excObj C t1 none .none) := Heap.get?_push_of_some _ hx
  refine hq h' tk' hp.objs.size (fun b o hb ho => ?_) (Nat.le_refl _) hxs.symm ?_ hn'
  · exact (hs.2 b (Nat.ne_of_lt (Heap.lt_size ho))).trans ((Heap.get?_update_ne _ _ _ _ hb).trans (Heap.get?_push_of_some _ ho))
  · exact (hs.2 x hxs).trans (Heap.get?_update_self _ hx2 rfl)
end
section
variable {X : Cx} {pins : List (Addr × Obj)} {σ : St} {H : Hp} {s : Shared} {a C : Addr} {f : Str} {y : V} {u : Value} {E : Value → Shared → Prop} {A : Around}
/-- self.f = y in Inv's words -/
theorem xst_new {Q : Unit → Shared → Prop} (T : XCls X.K C f) (I : Inv X pins σ H s) (e : H a = some (exo a C none)) (ry : RelV y u)
    (h : ∀ dx s', H dx = none → dx ≠ a → Inv X pins σ (upd (upd H dx (exd dx [(f, y)])) a (exo a C (some dx))) s' → Q () s') : wpAny (model X.prog X.w) A (setAttr (.ref a) f u) Q E s := by
  obtain ⟨t1, ho⟩ := exo_at I.hok e
  obtain ⟨hp, g, d, t, os⟩ := s
  refine PySem.W.set_plain I.kIn (ox := PySem.W.excObj C t1 none .none) (od := none) ⟨ho, rfl, rfl, trivial⟩ T.sa ?_
  refine exc_store I.kIn T ho fun h' tk' dx k dn dne hx hn => ?_
  have fresh : H dx = none := I.hok.fresh dn
  have nd : ∀ {b : Addr} {o : Obj}, hp.get? b = some o → b ≠ dx := fun {b o} q z => absurd (Heap.lt_size q) (by rw [z]; exact Nat.not_lt.mpr dn)
  have na : ∀ {b : Addr}, H b = none → b ≠ a := by
    rintro b n rfl
    rw [e] at n
    cases n
  have old : ∀ {b : Addr} {o : HO}, H b = some o → o ≠ exo a C none → upd (upd H dx (exd dx [(f, y)])) a (exo a C (some dx)) b = some o := fun {b o} q ne => by
    have hb : b ≠ a := fun z => by subst z; rw [e] at q; exact ne (Option.some.inj q).symm
    rw [upd_ne hb, upd_ne (ne_of_none q fresh)]
    exact q
  have un : Un X.fs [] H (upd (upd H dx (exd dx [(f, y)])) a (exo a C (some dx))) hp h' :=
    { keep := fun b o q n _ _ => k b o (na n) q
      slot := fun b o q n _ _ => ⟨o.slots, k b o (na n) q⟩
      free := fun b o q n _ => by rw [upd_ne (na n), upd_ne (nd q)]; exact n
      there := fun b o q _ => if z : b = a then ⟨_, z ▸ hx⟩ else ⟨o, k b o z q⟩
      tups := fun b xs q => old q fun z => exo_tup z.symm
      frzs := fun b o v q => old q fun z => exo_frz z.symm
      tbls := fun b ps q => ⟨#[], by rw [old q fun z => exo_tbl z.symm]; simp⟩ }
  refine h dx _ fresh dne (I.un (t' := tk') un fun b o q => ?_)
  by_cases hb : b = a
  · subst hb
    rw [upd_same] at q
    cases q
    exact exo_ok hx
  rw [upd_ne hb] at q
  by_cases hd : b = dx
  · subst hd
    rw [upd_same] at q
    cases q
    exact exd_ok hn (relO_put (fs := []) ry fun g => trivial)
  rw [upd_ne hd] at q
  exact (I.hok b o q).stay (fun c v hc z => k c v (hc.elim (fun w => w ▸ hb) fun w => at_ne e w exo_own) z) (fun c hc => old hc fun z => exo_own z.symm) (fun c xs hc => old hc fun z => exo_tup z.symm)
/-- the base's __init__ -/
theorem xinit_ok {us : List Value} {Q : Value → Shared → Prop} (T : XCls X.K C f) (I : Inv X pins σ H s) (e : H a = some (exo a C none)) (hl : us.length ≤ sizeLine) (h : ∀ s', Inv X pins σ H s' → Q .none s') :
    wpAny (model X.prog X.w) A (call (.builtin "ArithmeticError.__init__") (.ref a :: us)) Q E s := by
  obtain ⟨nm, N, qn, bs, bm, hdct, sn, sub, ab, col, dd, k0, k1, k2, k3, k5, hC, hT⟩ := PySem.W.excInit_of I.kIn T.ini
  obtain ⟨t1, ho⟩ := exo_at I.hok e
  obtain ⟨hp, g, d, t, os⟩ := s
  refine wpAny_call (HandSPX.init_base F.excBase_ArithmeticError hT hC ho hl fun h' t2 k hx => ?_)
  have J := I.write (t' := t) (x := a) (e := a) (o := exo a C none) (by rw [e]; trivial) (.inl rfl) k ⟨_, hx⟩ (exo_ok hx)
  have same : upd H a (exo a C none) = H := funext fun b => if z : b = a then by rw [z, upd_same, e] else upd_ne z
  rw [same] at J
  exact h _ J
/-! ### the defs __init__ -/
/-- what the written part says of SectionError -/
structure XBase (K : PySem.W.Frag) (mg : Str → Option Value) (x : Str) (B : Addr) : Prop where
  gl : mg x = some (.ref B)
  rd : PySem.W.readsIn K B (.type "type") = true
  fc : PySem.W.findCls K (.ref B) (.type "type") "__init__" = some (.val (.builtin "ArithmeticError.__init__"))
  sp : PySem.W.specialIn K (.ref B) "__getattribute__" = some (some (.builtin "type.__getattribute__"))
def fcB (o : Option PySem.W.CFound) : Bool := match o with
  | some (.val (.builtin i)) => i == "ArithmeticError.__init__"
  | _ => false
theorem fcB_ok {o : Option PySem.W.CFound} (h : fcB o = true) : o = some (.val (.builtin "ArithmeticError.__init__")) := by
  unfold fcB at h
  split at h
  · rw [beq_iff_eq.mp h]
  · cases h
def xbaseB (K : PySem.W.Frag) (B : Addr) : Bool := PySem.W.readsIn K B (.type "type") && (fcB (PySem.W.findCls K (.ref B) (.type "type") "__init__") && decide (PySem.W.specialIn K (.ref B) "__getattribute__" = some (some (.builtin "type.__getattribute__"))))
theorem xbaseB_ok {K : PySem.W.Frag} {mg : Str → Option Value} {x : Str} {B : Addr} (g : mg x = some (.ref B)) (h : xbaseB K B = true) : XBase K mg x B := by
  unfold xbaseB at h
  simp only [Bool.and_eq_true, decide_eq_true_eq] at h
  exact ⟨g, h.1, fcB_ok h.2.1, h.2.2⟩
def tXi (K : PySem.W.Frag) (f : Str) (ta : TA) : TE := fun σ H Q => ta σ H fun vs H1 => ∃ (a C : Addr) (ws : List V), vs = .ref a :: ws ∧ ws.length ≤ 1000 ∧ XCls K C f ∧ H1 a = some (exo a C none) ∧ Q .non H1
theorem pe_xinit {e : Expr} {es : List Expr} {ta : TA} {x : Str} {B : Addr} {p1 p2 pos : Pos} {pl : Sem Bool} (b : XBase X.K X.mg x B) (hg : Gl X x) (ha : PA X (e :: es) ta)
    (hc : eval (.Call (.Attribute (.Name x p1) "__init__" p2) (e :: es) [] pos) X.env = (do
      let ov ← eval (.Name x p1) X.env
      standAt p2.atName
      let (f, first) ← holding [ov] (getMethod ov "__init__" pl)
      callWith pos f first (backTo pos (starEach (e :: es) X.env)) (backToKw pos (keywordEach [] X.env))) := by rfl)
    (hdb : (x == ("__debug__" : Str)) = false := by decide) (he : starEach (e :: es) X.env = (false, eval e X.env) :: starEach es X.env := by rfl) (hpl : (backTo pos (starEach es X.env)).any (·.1) = false := by rfl) :
    PE X (.Call (.Attribute (.Name x p1) "__init__" p2) (e :: es) [] pos) (tXi X.K f ta) := by
  refine ⟨fun pins s σ H Q I h => ?_⟩
  refine PySem.W.methodCall_KW (ld_glob I hg b.gl ?_ hdb) hc
  refine PySem.W.method_cls I.kIn b.sp (PySem.W.cls_value I.kIn b.rd b.fc (by decide +kernel) ?_)
  show wpAny _ _ (callWith pos (Value.builtin "ArithmeticError.__init__") [] (backTo pos (starEach (e :: es) X.env)) []) _ _ _
  refine PyProof.Rows.callWith_method1 (thn (ha.run pos pins _ σ H _ (I.tok _) h) fun us s1 ⟨vs, H1, I1, r1, a, C, ws, ev, hl, T, ea, q⟩ => ?_) he hpl
  subst ev
  cases r1 with
  | @cons _ u0 _ ur ra rs =>
    obtain rfl : u0 = Value.ref a := ra
    exact xinit_ok T I1 ea (by rw [← Paired.length rs, sizeLine_eq]; omega) fun s' J => ⟨.non, H1, J, rfl, q⟩
def tXst (K : PySem.W.Frag) (f : Str) (to te : TE) : TS := fun D σ H => te σ H fun y H1 => to σ H1 fun x H2 => ∃ a C : Addr, x = .ref a ∧ XCls K C f ∧ H2 a = some (exo a C none) ∧ ∀ dx, H2 dx = none → dx ≠ a → D.nx σ (upd (upd H2 dx (exd dx [(f, y)])) a (exo a C (some dx)))
theorem ps_xst {o e : Expr} {to te : TE} {p' pos : Pos} (ho : PE X o to) (he : PE X e te) (hs : swapsWith e (some (.Attribute o f p')) pos.line X.env = pure false := by rfl) : PS X (.Assign [.Attribute o f p'] e pos) (tXst X.K f to te) := by
  refine ⟨fun pins s σ H D I h => ?_⟩
  refine plainObj_wpAny_Assign_Attribute (thn (he.run pins s σ H _ I h) fun v s1 ⟨y, H1, I1, r1, q1⟩ => thn (ho.run pins s1 σ H1 _ I1 q1) fun u s2 ⟨x, H2, I2, r2, a, C, ex, T, ea, q⟩ => ?_) hs
  subst ex
  obtain rfl : u = Value.ref a := r2
  exact xst_new T I2 ea r1 fun dx s' n ne J => ⟨σ, _, J, q dx n ne⟩
end
/-- what __init__ promises -/
def spX (K : PySem.W.Frag) (f : Str) : Sp := fun vs H Q _ => ∃ (a C : Addr) (y : V), vs = [.ref a, y] ∧ XCls K C f ∧ H a = some (exo a C none) ∧ ∀ dx, H dx = none → dx ≠ a → Q .non (upd (upd H dx (exd dx [(f, y)])) a (exo a C (some dx)))
section
variable {X : Cx} {W : WX} {e : Expr} {ta : TA} {x f : Str} {C fI : Addr} {fd : FuncData} {k : Nat} {p pos : Pos}
def tMkX (C : Addr) (f : Str) (ta : TA) : St → Hp → XK → Prop := fun σ H Q => ta σ H fun vs H1 => ∃ y, vs = [y] ∧ ∀ d, H1 d = none → Q (.ref C) (some d) (upd H1 d (.xd [(f, y)]))
/-- C(e) in a raise -/
theorem pmk_x (T : XCls X.K C f) (iC : PySem.W.findIn X.K (.ref C) "__init__" = some (some (.ref fI))) (tI : PySem.W.typeIn X.K (.ref fI) = some (.type "function"))
    (F1 : FnOk X.prog X.w X.K X.mg X.base (L2.CX X.prog X.w) k fI fd ["self", f] (spX X.K f)) (hr : Room (k + 1) X.A) (hb : Binds X.K fd ["self", f] []) (tk : Takes X W) (hg : Gl X x) (hm : X.mg x = some (.ref C)) (ha : PA X [e] ta)
    (hdb : (x == ("__debug__" : Str)) = false := by decide) (he : starEach [e] X.env = (false, eval e X.env) :: starEach [] X.env := by rfl) (hpl : (backTo pos (starEach [] X.env)).any (·.1) = false := by rfl) :
    PMk X (.Call (.Name x p) [e] [] pos) (tMkX C f ta) := by
  intro pins s σ H Q I h
  obtain ⟨nm, N, qn, bs, bm, hdct, sn, sub, ab, col, dd, k0, k1, k2, k3, k5, hC, hT⟩ := PySem.W.excInit_of I.kIn T.ini
  refine wpAny_Call_Name_kw (ld_glob I hg hm ?_ hdb)
  refine PySem.W.callWith_K (h₀ := X.base) I.ok.mod.kin T.kC (thn (ha.run pos pins s σ H _ I h) fun us s1 ⟨vs, H1, I1, r1, y, ev, q1⟩ => ⟨I1.kIn, ?_⟩) he hpl
  subst ev
  obtain ⟨u, rfl, ru⟩ : ∃ u, us = [u] ∧ RelV y u := by
    cases r1 with
    | cons a b => cases b; exact ⟨_, rfl, a⟩
  show wpAny _ _ (call (.ref C) [u]) _ _ _
  obtain ⟨nm, N, qn, bs, bm, hdct, sn, sub, ab, col, dd, k0, k1, k2, k3, k5, hC, hT⟩ := PySem.W.excInit_of I1.kIn T.ini
  obtain ⟨hp, g, dr, tk1, os⟩ := s1
  let a := hp.objs.size + 1
  have ale : hp.objs.size ≤ a := Nat.le_succ _
  have an : H1 a = none := I1.hok.fresh ale
  let hp2 := (hp.push (PySem.W.kdv_tup [u])).push (HandSPX.excO C hp.objs.size)
  have stay : ∀ b o, hp.get? b = some o → hp2.get? b = some o := fun b o z => Heap.get?_push_of_some _ (Heap.get?_push_of_some _ z)
  have got : ((hp.push (PySem.W.kdv_tup [u])).push (HandSPX.excO C hp.objs.size)).get? (hp.objs.size + 1) = some (HandSPX.excO C hp.objs.size) := by heap_get
  have I2 : Inv X pins σ (upd H1 a (exo a C none)) ⟨hp2, g, dr, tk1, os⟩ := I1.laid (t' := tk1) (a := a) (o := exo a C none) (h' := hp2) stay ale (exo_ok got)
  have sp1 : spX X.K f [.ref a, y] (upd H1 a (exo a C none)) (fun v H2 => v = .non ∧ ∃ d, H1 d = none ∧ d ≠ a ∧ H2 = upd (upd (upd H1 a (exo a C none)) d (exd d [(f, y)])) a (exo a C (some d))) (fun _ _ _ => False) := by
    refine ⟨a, C, y, rfl, T, upd_same, fun dx hn ne => ⟨rfl, dx, ?_, ne, rfl⟩⟩
    rw [upd_ne ne] at hn
    exact hn
  have b1 := hb ⟨hp2, g, dr, tk1, os⟩ [.ref a, u] I2.kIn rfl
  rw [List.append_nil] at b1
  refine wpAny_call (HandSPX.call_own F.excBase_ArithmeticError hT hC (PySem.W.looks_findIn I1.kIn iC) (fun self => PySem.W.bind_fn I1.kIn self tI) (by rw [sizeLine_eq]; exact (by decide : 1 ≤ 16777216))
    (codeAny_mono (F1.run _ X.stack _ _ _ [.ref a, u] [.ref a, y] _ _ (hr.make C [u] []) (I2.env0.make C [u] []) b1 (.cons rfl (.cons ru .nil)) sp1) fun r s' z => ?_))
  cases r with
  | error er => exact passes_call tk (E := fun _ _ _ => False) (fun _ _ _ _ z => z.elim) pins σ _ _ er s' I2 z
  | ok fl =>
    cases fl with
    | next => exact z.elim
    | brk => exact z.elim
    | cont => exact z.elim
    | ret v0 =>
      obtain ⟨v, H2, os2, bare2, un2, hok2, rv, rfl, d, dn, dne, rfl⟩ := z
      obtain ⟨h2, g2, d2, t2, os'⟩ := s'
      have same : upd (del (upd (upd (upd H1 a (exo a C none)) d (exd d [(f, y)])) a (exo a C (some d))) a) d (.xd [(f, y)]) = upd H1 d (.xd [(f, y)]) := by
        funext b
        by_cases h1 : b = d
        · rw [h1, upd_same, upd_same]
        · rw [upd_ne h1, upd_ne h1]
          by_cases h2 : b = a
          · rw [h2, del_same, an]
          · rw [del_ne h2, upd_ne h2, upd_ne h1, upd_ne h2]
      refine ⟨rv, mk_end (raises_own T.exC T.tyC) I1 ale stay un2 hok2 os2 bare2 upd_same (by rw [upd_ne dne, upd_same]) dn ?_⟩
      rw [same]
      exact q1 d dn
end
/-! ### raise -/
theorem MR.more {Γ : Gd} {G S H : Hp} {ρ : List Addr} {m : Mem} {p : Addr} (M : MR Γ G S H ρ m) (hp : H p = none) (o : HO) : MR Γ G S (upd H p o) ρ m := by
  refine ⟨fun b x q => ?_, fun b x q => ?_, M.dis, M.len, fun i xs q => ?_, M.inj⟩
  · rw [upd_ne (ne_of_none (M.sub b x q) hp)]; exact M.sub b x q
  · rw [upd_ne (ne_of_none (M.gsub b x q) hp)]; exact M.gsub b x q
  · obtain ⟨a, vs, h1, h2, h3⟩ := M.cell i xs q
    exact ⟨a, vs, h1, by rw [upd_ne (ne_of_none h2 hp)]; exact h2, h3⟩
def dRaise (x f : Str) (fs : En → P (List SV)) : DS := fun env => (fs env).bnd fun vs m => match vs with
  | [.dat d] => .exc ⟨x, [(f, d)]⟩ m
  | _ => .stuck
/-- what a raise needs of a class -/
structure Rsr (P : Program) (w : World) (K : PySem.W.Frag) (mg : Str → Option Value) (base : Heap) (x f : Str) : Prop where
  ex : ∃ C fI fd, mg x = some (.ref C) ∧ XCls K C f ∧ PySem.W.findIn K (.ref C) "__init__" = some (some (.ref fI)) ∧ PySem.W.typeIn K (.ref fI) = some (.type "function") ∧ FnOk P w K mg base (L2.CX P w) 1 fI fd ["self", f] (spX K f) ∧ Binds K fd ["self", f] []
theorem js_raise {X : Cx} {W : WX} {e : Expr} {x f : Str} {fs : En → P (List SV)} {k : Nat} {p pos pos' : Pos} (r : Rsr X.prog X.w X.K X.mg X.base x f) (hr : RoomG k X.A) (hc : X.calm = true) (tk : Takes X W) (hg : Gl X x) (ja : JA X W [e] fs) (hk : 2 ≤ k := by decide)
    (hdb : (x == ("__debug__" : Str)) = false := by decide) (he : starEach [e] X.env = (false, eval e X.env) :: starEach [] X.env := by rfl) (hpl : (backTo pos (starEach [] X.env)).any (·.1) = false := by rfl) :
    JS X W (.Raise (some (.Call (.Name x p) [e] [] pos)) none pos') (dRaise x f fs) := ⟨fun {G S H ρ m env σ D} M E h => by
  obtain ⟨C, fI, fd, hm, T, iC, tI, F1, hb⟩ := r.ex
  refine ws_of (ps_raise hc tk (pmk_x (x := x) T iC tI F1 (hr.rm.mono hk) hb tk hg hm pa_wa hdb he hpl)) (ja.run M E (wpr_mono (wpr_bnd h) (fun vs m1 hv => ?_) fun _ _ z => qx_of z))
  intro S1 H1 ρ1 xv e1 M1 rx
  split at hv
  · rename_i d
    obtain ⟨y, rfl, r1⟩ := paired1 rx
    exact ⟨y, rfl, fun dd hd => hv S1 _ ρ1 σ _ _ e1 (M1.more hd _) ⟨C, dd, [(f, y)], hm, rfl, rfl, upd_same, rfl, .cons r1 .nil⟩⟩
  · exact hv.elim⟩
/-! ### try .. except x as n: return e -/
theorem xr_look {Γ : Gd} {S : Hp} : ∀ {fs : List (Str × V)} {gs : List (Str × D)} {f : Str} {r : D}, fs.map (·.1) = gs.map (·.1) → RpAll Γ S (fs.map (·.2)) (gs.map (·.2)) → gs.lookup f = some r → ∃ v, fs.lookup f = some v ∧ Rp Γ S v r
  | [], [], f, r, _, _, h => by simp at h
  | [], _ :: _, _, _, e, _, _ => by simp at e
  | _ :: _, [], _, _, e, _, _ => by simp at e
  | (a, v) :: fs, (b, d) :: gs, f, r, e, h, l => by
    simp only [List.map_cons, List.cons.injEq] at e
    obtain ⟨rfl, e⟩ := e
    cases h with
    | cons h1 h2 =>
      rw [List.lookup_cons] at l ⊢
      cases hq : f == a with
      | true =>
        rw [hq] at l
        cases l
        exact ⟨v, rfl, h1⟩
      | false =>
        rw [hq] at l
        exact xr_look e h2 l
theorem XR.more {Γ : Gd} {S S' H : Hp} {cls : Value} {d : Option Addr} {y : Exc} {p : Addr} {o : HO} (x : XR Γ S H cls d y) (s : Same S S') (hp : H p = none) : XR Γ S' (upd H p o) cls d y := by
  obtain ⟨C, dd, fs, h1, h2, h3, h4, h5, h6⟩ := x
  exact ⟨C, dd, fs, h1, h2, h3, by rw [upd_ne (ne_of_none h4 hp)]; exact h4, h5, h6.mono s⟩
structure JX (X : Cx) (i : Nat) (a : Addr) (cls : Value) (d : Option Addr) (e : Expr) (g : Exc → Option D) : Prop where
  run : ∀ {G S H : Hp} {ρ : List Addr} {m : Mem} {σ : St} {Q : VK} {y : Exc} {r : D}, MR (gd X) G S H ρ m → XR (gd X) S H cls d y → σ[i]? = some (some (.ref a)) → g y = some r →
    (∀ S' H' vv, Same S S' → MR (gd X) G S' H' ρ m → XR (gd X) S' H' cls d y → Rp (gd X) S' vv r → Q vv H') → WE X e σ H Q
section
variable {X : Cx} {i : Nat} {a : Addr} {cls : Value} {d : Option Addr} {oe : Obj} {pn : List (Addr × Obj)} {e e1 e2 : Expr} {g g1 g2 : Exc → Option D} {pos p : Pos}
theorem jx_c {t : TE} {v : V} {r : D} (h : PE X e t) (ht : ∀ σ H Q, Q v H → t σ H Q) (hr : ∀ S, Rp (gd X) S v r) : JX X i a cls d e (fun _ => some r) := ⟨fun {G S H ρ m σ Q y r'} M x _ hg k => by
  cases hg
  exact we_of h (ht σ H Q (k S H v (Same.refl S) M x (hr S)))⟩
theorem jx_str {z j} : JX X i a cls d (.Constant (.str z) j pos) (fun _ => some (.str z)) := jx_c pe_str (fun _ _ _ h => h) fun _ => .str z
theorem jx_int {n j} : JX X i a cls d (.Constant (.int n) j pos) (fun _ => some (.int n)) := jx_c pe_int (fun _ _ _ h => h) fun _ => .int n
/-- what is read of a caught exception of a known class -/
def gF (x f : Str) : Exc → Option D := fun y => if y.cls = x then y.fs.lookup f else none
theorem jx_fld {x f n : Str} {C : Addr} (hm : X.mg x = some (.ref C)) (T : XCls X.K C f) (hz : Zc cls d oe) (hf : ∃ vs, oe.data = .fields vs) (hN : X.N[i]? = some n := by rfl) (hv : Vis X.env.scope n := by first | exact Or.inl rfl | exact Or.inr (Or.inl rfl) | exact Or.inr (Or.inr rfl)) (hd : (n == ("__debug__" : Str)) = false := by decide)
    (hcd : (n == ("__classdict__" : Str)) = false := by decide) (hb : attributeBase (.Name n p) f X.env (eval (.Name n p) X.env) = eval (.Name n p) X.env := by rfl) :
    JX (X.suite a ((a, oe) :: pn)) i a cls d (.Attribute (.Name n p) f pos) (gF x f) := ⟨fun {G S H ρ m σ Q y r} M xr hσ hg k => by
  unfold gF at hg
  split at hg
  · rename_i hx
    have xr' := xr
    obtain ⟨C', dd, fs, h1, h2, h3, h4, h5, h6⟩ := xr
    rw [hx] at h1
    have ec : C' = C := by
      have z : some (Value.ref C') = some (.ref C) := h1.symm.trans hm
      cases z
      rfl
    subst ec
    obtain ⟨v, l1, l2⟩ := xr_look h5 h6 hg
    exact we_of (pe_xf (X := X) (pn := pn) T.xf T.nf hz hf (pe_var hN hv hd hcd) hb) ⟨_, hσ, rfl, h2, dd, fs, v, h3, h4, l1, k S H v (Same.refl S) M xr' l2⟩
  · cases hg⟩
def gEq (g1 g2 : Exc → Option D) : Exc → Option D := fun y => match g1 y, g2 y with
  | some p, some q => if okD p && okD q then some (.bl (eqd p q)) else none
  | _, _ => none
theorem jx_eq (hu : X.A.units + 64 < cLine) (j1 : JX X i a cls d e1 g1) (j2 : JX X i a cls d e2 g2) (hm : behindInMarks .Eq e2 = false := by first | exact nomark _ | rfl) : JX X i a cls d (.Compare e1 [.Eq] [e2] pos) (gEq g1 g2) := ⟨fun {G S H ρ m σ Q y r} M xr hσ hg k => by
  unfold gEq at hg
  split at hg
  · rename_i p q hp hq
    split at hg
    · rename_i ok
      cases hg
      rw [Bool.and_eq_true] at ok
      refine we_cmp hm (j1.run M xr hσ hp fun S1 H1 v1 s1 M1 x1 r1 => j2.run M1 x1 hσ hq fun S2 H2 v2 s2 M2 x2 r2 => ?_)
      refine wo_of (op_eqD hu) ⟨toPy p, toPy q, ((r1.mono s2).mono M2.sub).dp (okD_plain ok.1), (r2.mono M2.sub).dp (okD_plain ok.2), okD_shaped ok.1, okD_shaped ok.2, ?_⟩
      exact k S2 H2 _ (s1.trans s2) M2 x2 (.bl _)
    · cases hg
  · cases hg⟩
def gTup (g1 g2 : Exc → Option D) : Exc → Option D := fun y => match g1 y, g2 y with
  | some p, some q => some (.tup [p, q])
  | _, _ => none
theorem jx_tup {kk : Nat} (j1 : JX X i a cls d e1 g1) (j2 : JX X i a cls d e2 g2) (hs : starEach [e1, e2] X.env = (false, eval e1 X.env) :: starEach [e2] X.env := by rfl) (hs2 : starEach [e2] X.env = (false, eval e2 X.env) :: starEach [] X.env := by rfl) :
    JX X i a cls d (.Tuple [e1, e2] kk pos) (gTup g1 g2) := ⟨fun {G S H ρ m σ Q y r} M xr hσ hg k => by
  unfold gTup at hg
  split at hg
  · rename_i p q hp hq
    cases hg
    refine we_of (pe_tup (pa_cons pe_we (pa_cons pe_we pa_nil hs2) hs)) (j1.run M xr hσ hp fun S1 H1 v1 s1 M1 x1 r1 => j2.run M1 x1 hσ hq fun S2 H2 v2 s2 M2 x2 r2 => ?_)
    refine ⟨by rw [sizeLine_eq]; exact (by decide : 2 ≤ 16777216), fun t ht => ?_⟩
    obtain ⟨s3, M3⟩ := M2.grow ht (.tup [v1, v2])
    exact k _ _ _ ((s1.trans s2).trans s3) M3 (x2.more s3 ht) (.tup (.inl (.inl upd_same)) (.cons ((r1.mono s2).mono s3) (.cons (r2.mono s3) .nil)))
  · cases hg⟩
end
def dTryAs (others : List (Str × Bool)) (g : Exc → Option D) (fb : DS) : DS := fun env m => match fb env m with
  | .exc y m1 => (match others.lookup y.cls with
    | some true => (match g y with | some r => .ok (.rt (.dat r)) m1 | none => .stuck)
    | some false => .exc y m1
    | none => .stuck)
  | r => r
/-- which classes a clause catches -/
def Exm (K : PySem.W.Frag) (mg : Str → Option Value) (C : Addr) (others : List (Str × Bool)) : Prop := ∀ y b, others.lookup y = some b → ∃ C', mg y = some (.ref C') ∧ PySem.W.exmOne K (.ref C') (.ref C) = some b
theorem js_tryAs {X : Cx} {W : WX} {x n : Str} {C : Addr} {i : Nat} {body : List Stmt} {E : Expr} {fb : DS} {g : Exc → Option D} {others : List (Str × Bool)} {np rp pos pos' : Pos}
    (hs : X.stack = X.env :: X.outer) (hf : X.env.frame = some X.env.locals) (hN : X.N.Nodup) (hi : X.N[i]? = some n) (hln : X.env.kindOf n = some .local) (hg : Gl X x) (hm : X.mg x = some (.ref C)) (tk : Takes X W) (hex : Exm X.K X.mg C others)
    (jb : ∀ (W' : WX) (pn : List (Addr × Obj)) (xe : Value → Shared → Prop), Takes (X.tr pn xe) W' → PassesOwn (model X.prog X.w) X.A X.env xe → JB (X.tr pn xe) W' body fb)
    (jx : ∀ (a : Addr) (oe : Obj) (cls : Value) (d : Option Addr) (pn : List (Addr × Obj)), Zc cls d oe → (∃ vs, oe.data = .fields vs) → JX (X.suite a ((a, oe) :: pn)) i a cls d E g)
    (hdb : (x == ("__debug__" : Str)) = false := by decide) :
    JS X W (.Try body [.ExceptHandler (some (.Name x np)) (some n) [.Return (some E) rp] pos'] [] [] pos) (dTryAs others g fb) := ⟨fun {G S H ρ m env σ D} M E0 h => by
  refine ws_of (ps_try_as (i := i) (c := .ref C) (tb := fun W' D σ H => ∀ (pn : List (Addr × Obj)) (xe : Value → Shared → Prop), Takes (X.tr pn xe) W' → PassesOwn (model X.prog X.w) X.A X.env xe → WSs (X.tr pn xe) body D σ H)
    (ts := fun a cls d D σ H => ∀ (oe : Obj) (pn : List (Addr × Obj)), Zc cls d oe → (∃ vs, oe.data = .fields vs) → WE (X.suite a ((a, oe) :: pn)) E σ H D.rt) (Wout := W) hs hf hN hi hln ⟨hg, hdb, .inl hm⟩ tk
    (fun W' pn xe tk' hp => ⟨fun pins s σ H D I q => q pn xe tk' hp pins s I⟩) (fun a oe cls d pn hz hv => ⟨fun pins s σ H D I q => (pss_one (ps_ret pe_we)).run pins s σ H D I (q oe pn hz hv)⟩)) ?_
  intro pn xe tk' hp
  refine (jb _ pn xe tk' hp).run (G := G) (S := S) (ρ := ρ) (m := m) (env := env) M E0 ?_
  unfold dTryAs at h
  cases hr : fb env m with
  | stuck => rw [hr] at h; exact h.elim
  | ok o m1 => rw [hr] at h; exact h
  | exc y m1 =>
    rw [hr] at h
    intro S' H' ρ' σ' cls d e' M' xr
    cases ho : others.lookup y.cls with
    | none => simp only [ho] at h; exact h.elim
    | some b =>
      obtain ⟨C', hm', hx'⟩ := hex y.cls b ho
      have ec : cls = .ref C' := by
        obtain ⟨C2, _, _, h1, h2, _⟩ := xr
        rw [h2]
        have z : some (Value.ref C2) = some (.ref C') := h1.symm.trans hm'
        cases z
        rfl
      simp only [ho] at h
      cases b with
      | false => exact ⟨false, by rw [ec]; exact hx', (fun z => by cases z), fun _ => h S' H' ρ' σ' cls d e' M' xr⟩
      | true =>
        refine ⟨true, by rw [ec]; exact hx', fun _ a ha oe pn2 hz hv pins s I => ?_, (fun z => by cases z)⟩
        cases hgy : g y with
        | none => simp only [hgy] at h; exact h.elim
        | some r =>
          simp only [hgy] at h
          have hlen : i < σ'.length := by
            have l1 := I.len
            have l2 := (List.getElem?_eq_some_iff.mp hi).1
            rw [List.length_set] at l1
            have l3 : X.N.length = σ'.length := l1.symm
            omega
          exact (jx a oe cls d pn2 hz hv).run M' xr (List.getElem?_set_self hlen) hgy (fun S2 H2 vv s2 M2 _ r2 => h S2 H2 ρ' vv ⟨e'.s.trans s2, e'.r⟩ M2 r2) pins s I⟩
def clsDef (s : Stmt) (j : Nat) : Stmt := match s with
  | .ClassDef _ _ _ b _ _ _ _ _ _ _ => b.getD j (.Pass ⟨0, 0, 0, 0⟩)
  | _ => .Pass ⟨0, 0, 0, 0⟩
/-- the checks of a class, of a catch -/
def classB (K : PySem.W.Frag) (x f : Str) : Bool := xclsB K (He.ga K x) f && (decide (PySem.W.findIn K (.ref (He.ga K x)) "__init__" = some (some (.ref (He.fAd K (x, some "__init__"))))) && decide (PySem.W.typeIn K (.ref (He.fAd K (x, some "__init__"))) = some (.type "function")))
def exmB (K : PySem.W.Frag) (x : Str) (others : List (Str × Bool)) : Bool := others.all fun q => decide (PySem.W.exmOne K (.ref (He.ga K q.1)) (.ref (He.ga K x)) = some q.2)
structure ClsF (K : PySem.W.Frag) (mg : Str → Option Value) (x f : Str) (st : Stmt) : Prop where
  ex : ∃ C fI fd, mg x = some (.ref C) ∧ XCls K C f ∧ PySem.W.findIn K (.ref C) "__init__" = some (some (.ref fI)) ∧ PySem.W.typeIn K (.ref fI) = some (.type "function") ∧ FunD K "__init__" (x ++ ".__init__") (defArgs st) (defBody st) (defScope st) [] [] fI fd
theorem clsF_of {K : PySem.W.Frag} {mg : Str → Option Value} {x f : Str} {st : Stmt} (g : mg x = some (.ref (He.ga K x))) (h : classB K x f = true) (F : ∃ fd, FunD K "__init__" (x ++ ".__init__") (defArgs st) (defBody st) (defScope st) [] [] (He.fAd K (x, some "__init__")) fd) : ClsF K mg x f st := by
  unfold classB at h
  simp only [Bool.and_eq_true, decide_eq_true_eq] at h
  obtain ⟨fd, F⟩ := F
  exact ⟨_, _, fd, g, xclsB_ok h.1, h.2.1, h.2.2, F⟩
theorem exm_of {K : PySem.W.Frag} {mg : Str → Option Value} {x : Str} {others : List (Str × Bool)} {C : Addr} (gx : mg x = some (.ref (He.ga K x))) (hC : mg x = some (.ref C)) (g : ∀ q ∈ others, mg q.1 = some (.ref (He.ga K q.1))) (h : exmB K x others = true) : Exm K mg C others := by
  intro y b hy
  have ec : C = He.ga K x := by
    rw [gx] at hC
    cases hC
    rfl
  have hm : (y, b) ∈ others := by
    clear g h
    induction others with
    | nil => cases hy
    | cons q r ih =>
      obtain ⟨a, c⟩ := q
      rw [List.lookup_cons] at hy
      cases hq : y == a with
      | true =>
        rw [hq] at hy
        cases hy
        rw [beq_iff_eq.mp hq]
        exact List.mem_cons_self
      | false =>
        rw [hq] at hy
        exact List.mem_cons_of_mem _ (ih hy)
  refine ⟨_, g _ hm, ?_⟩
  have := List.all_eq_true.mp h _ hm
  rw [ec]
  exact of_decide_eq_true this
/-! ### the head, with the statics -/
def kC (n : Nat) (g : Addr → Option Obj) : PySem.W.Frag := He.frG g (He.asD g n ++ [cStatics])
def exC (n : Nat) (fa : List He.Fa) (fn : List He.DefD) (ex : PySem.W.Frag → Bool) (g : Addr → Option Obj) : He.AlD × Bool := (He.obsD fa fn (kC n g), ex (kC n g))
def hookC (n : Nat) (fa : List He.Fa) (fn : List He.DefD) (ex : PySem.W.Frag → Bool) : PySem.W.Hook where
  α := He.AlD × Bool
  obs := fun s => exC n fa fn ex s.heap.get?
  val := fun _ => (He.valD fn, true)
  says := fun _ h => ∃ K : PySem.W.Frag, K.In h ∧ He.SaysD fa fn K ∧ ex K = true
  of := fun _ _ e => ⟨_, He.frG_in, congrArg Prod.fst e, congrArg Prod.snd e⟩
  keeps := fun _ _ _ ⟨K, hK, c⟩ k => ⟨K, PySem.W.Frag.In.keeps hK k, c⟩
theorem exC_eq {n : Nat} {fa : List He.Fa} {fn : List He.DefD} {ex : PySem.W.Frag → Bool} {g : Addr → Option Obj} {s : Shared} (h : ∀ a, g a = s.heap.get? a) : exC n fa fn ex g = (hookC n fa fn ex).obs s := by
  have e : g = s.heap.get? := funext h
  rw [e] <;> rfl
/-! ### simp lemmas -/
def tryR (others : List (Str × Bool)) (g : Exc → Option D) (r : R Out) : R Out := match r with
  | .exc y m1 => (match others.lookup y.cls with
    | some true => (match g y with | some r => .ok (.rt (.dat r)) m1 | none => .stuck)
    | some false => .exc y m1
    | none => .stuck)
  | r => r
@[simp] theorem dTryAs_ap (others : List (Str × Bool)) (g : Exc → Option D) (fb : DS) (env : En) (m : Mem) : dTryAs others g fb env m = tryR others g (fb env m) := (rfl)
@[simp] theorem tryR_ok (others : List (Str × Bool)) (g : Exc → Option D) (o : Out) (m : Mem) : tryR others g (.ok o m) = .ok o m := (rfl)
theorem tryR_exc {others : List (Str × Bool)} {g : Exc → Option D} {y : Exc} {m : Mem} {r : D} (h1 : others.lookup y.cls = some true) (h2 : g y = some r) : tryR others g (.exc y m) = .ok (.rt (.dat r)) m := by
  simp [tryR, h1, h2]
def kRaise (x f : Str) (vs : List SV) (m : Mem) : R Out := match vs with
  | [.dat d] => .exc ⟨x, [(f, d)]⟩ m
  | _ => .stuck
@[simp] theorem kRaise_ap (x f : Str) (d : D) (m : Mem) : kRaise x f [.dat d] m = .exc ⟨x, [(f, d)]⟩ m := (rfl)
@[simp] theorem dRaise_ap (x f : Str) (fs : En → P (List SV)) (env : En) (m : Mem) : dRaise x f fs env m = (fs env m).bnd (kRaise x f) := (rfl)
end PL

/-! PL15: len(set(xs)), sorted(set(xs)) of a list of ints. -/
namespace PL
open PySem PySem.Spec PyProof.Rows L2
abbrev setN (led : Bool) : Obj := { cls := .type "set", dict := none, data := .set #[] 0 (.fresh 0 0 led) }
section
variable {P : Program} {w : World} {A : Around} {E : Value → Shared → Prop} {s : Shared}
set_option maxHeartbeats 3200000 in
/-- set(xs), xs a list of ints -/
theorem call_setI {l : Addr} {items : Array Value} (ns : List Int) {Q : Value → Shared → Prop} (noH : A.handled = none) (isl : s.heap.IsList l items) (inA : IntsAre items.toList ns) (few : ns.length + 1 < scanBound)
    (k : ∀ (h' : Heap) (tk c : Nat), SetR w h' s.heap.objs.size (fun j => decide (j ∈ ns)) c → c ≤ ns.length → (∀ b o, s.heap.get? b = some o → h'.get? b = some o) → Q (.ref s.heap.objs.size) { s with heap := h', toks := tk }) :
    wpAny (model P w) A (call (.type "set") [.ref l]) Q E s := by
  have len1 : items.size = ns.length := (Array.length_toList (xs := items)).symm.trans (IntsAre.length inA)
  obtain ⟨c0, tl0, mro0⟩ := F.called_set.mro
  have made0 := F.called_set.made
  have sub0 := F.called_set.sub
  refine wpAny_call (codeAny_of_tree ?_)
  show wpAny _ _ (callAny (.type "set") _) _ _ _
  refine wpAny_pure ⟨Code.quiet_builtin _ (by decide +kernel), codeAny_builtin F.entry_type_call ?_⟩
  rw [Around.under_plain (weight_type_call_type "set" [.ref l] []) rfl]
  have nt0 := F.called_set.notType
  have cc0 := F.called_set.canCreate
  have tc0 := F.typeCall_set_1 (.ref l)
  repeat (any_goals (first | assumption | wp_step))
  let led := !w.params.followText "set-order"
  refine codeAny_mono (code_set_led1 (.ref l) (E := E) (Q₁ := fun ob t1 => ob = .ref s.heap.objs.size ∧ t1 = { s with heap := s.heap.push (setN led) }) ⟨rfl, rfl⟩) fun r0 t0 z0 => ?_
  cases r0 with
  | error e => exact z0
  | ok f0 =>
    cases f0 with
    | next => exact z0.elim
    | brk => exact z0.elim
    | cont => exact z0.elim
    | ret ob =>
      obtain ⟨rfl, rfl⟩ := z0
      have new0 : (s.heap.push (setN led)).get? s.heap.objs.size = some (setN led) := Heap.get?_push_size _ rfl
      have ty0 : Shared.TypeIs { s with heap := s.heap.push (setN led) } (.ref s.heap.objs.size) "set" := ⟨_, new0, rfl⟩
      have il0 := F.called_set.init.lookup
      have ib0 := F.called_set.init.bind (.ref s.heap.objs.size)
      repeat (any_goals (first | assumption | wp_step))
      refine codeAny_mono (codeAny_call_builtin (R := wants (fun r t2 => r = .none ∧ ∃ h' tk c, t2 = { s with heap := h', toks := tk } ∧ SetR w h' s.heap.objs.size (fun j => decide (j ∈ ns)) c ∧ c ≤ ns.length ∧ (∀ b o, s.heap.get? b = some o → h'.get? b = some o)) E)
        F.called_set.init.plain F.entry_set_init (check_set_init_1 ty0 ?_)) fun r2 t2 z2 => ?_
      · obtain ⟨⟨ocls, odict, odata, oslots⟩, at0, cl0, nl, dt0⟩ := isl
        simp only at cl0 dt0
        subst cl0 dt0
        have at1 : (s.heap.push (setN led)).get? l = some { cls := .type "list", dict := odict, data := .seq items nl, slots := oslots } := Heap.get?_push_of_some _ at0
        have su1 := F.sub_list_set
        have su2 := F.sub_list_frozenset
        have nd1 : (Value.type "list" == Value.type "dict") = false := by decide
        have il1 : (s.heap.push (setN led)).IsList l items := ⟨_, at1, rfl, nl, rfl⟩
        unfold Builtin.«set.__init__» noKeywords Builtin.Frozenset.updateFrom
        generalize eqPI : pyIter = PI
        wp_walk
        subst eqPI
        refine wpAny_pyIter_list il1 (wpAny_bind (wpAny_runValue ?_))
        have lt0 : l < s.heap.objs.size := Heap.lt_size at0
        have noH3 : A.in1.in1.in1.handled = none := by simp [noH]
        have apart1 : l ≠ (s.heap.push (setN led)).objs.size := by
          rw [Heap.size_push]
          exact Nat.ne_of_lt (Nat.lt_of_lt_of_le lt0 (Nat.le_succ _))
        have apart2 : s.heap.objs.size ∉ [(s.heap.push (setN led)).objs.size, l] := by
          rw [Heap.size_push]
          intro z
          rcases List.mem_cons.mp z with z | z
          · exact Nat.ne_of_lt (Nat.lt_succ_self _) z
          · exact Nat.ne_of_gt lt0 (List.mem_singleton.mp z)
        have vals1 : ∀ (i : Nat) (v : Value), items[i]? = some v → ∃ k t, ns[i]? = some k ∧ v = .int k t := fun i v hv => by
          have lt1 : i < ns.length := by rw [← len1]; exact (Array.getElem?_eq_some_iff.mp hv).1
          obtain ⟨t, e⟩ := IntsAre.int_at inA i v (by rw [Array.getElem?_toList]; exact hv)
          exact ⟨ns[i], t, List.getElem?_eq_getElem lt1, by rw [e, List.getD_eq_getElem?_getD, List.getElem?_eq_getElem lt1] <;> rfl⟩
        refine set_update_ints ((Walks.list noH3 _ l apart1 items).toS) s.heap.objs.size apart2 ns len1 few vals1 (items.size - 0) 0 _ (by omega) (Nat.zero_le _) ⟨⟨_, Heap.get?_push_size _ rfl, rfl, rfl⟩, (il1.push _)⟩ ?goA ?goB
        case goA => exact ⟨0, Nat.le_refl 0, setR_new_at (Heap.get?_push_of_some _ new0)⟩
        case goB =>
          rintro ⟨h', g2, d2, tk2, os2⟩ c2 mv le2 got2
          obtain rfl : g2 = s.gens := mv.gens
          obtain rfl : d2 = s.drawn := mv.drawn
          obtain rfl : os2 = s.os := mv.os
          show wpAny _ _ _ _ _ _
          refine wpAny_pure ?_
          show wpAny _ _ (ret Value.none) _ _ _
          rw [len1] at le2
          refine wpAny_pure ⟨rfl, h', tk2, c2, rfl, got2, le2, fun b o e => ?_⟩
          have lt3 : b < s.heap.objs.size := Heap.lt_size e
          refine mv.heap b o ?_ (Heap.get?_push_of_some _ (Heap.get?_push_of_some _ e))
          have sz : (s.heap.push (setN led)).objs.size = s.heap.objs.size + 1 := Heap.size_push ..
          intro z
          rcases List.mem_cons.mp z with z | z
          · exact Nat.ne_of_lt lt3 z
          · have z2 : b = (s.heap.push (setN led)).objs.size := List.mem_singleton.mp z
            rw [sz] at z2
            exact Nat.ne_of_lt (Nat.lt_succ_of_lt lt3) z2
      · cases r2 with
        | error e => exact z2
        | ok f2 =>
          cases f2 with
          | next => exact z2.elim
          | brk => exact z2.elim
          | cont => exact z2.elim
          | ret r =>
            obtain ⟨rfl, h', tk, c, rfl, got, le, kp⟩ := z2
            repeat (any_goals (first | assumption | wp_step))
            exact k _ _ _ got le kp
end
/-! ### the different ones of a list -/
def dd : List Int → List Int
  | [] => []
  | x :: r => if x ∈ r then dd r else x :: dd r
theorem mem_dd : ∀ {xs : List Int} {y : Int}, y ∈ dd xs ↔ y ∈ xs
  | [], y => by simp [dd]
  | x :: r, y => by
    have ih := mem_dd (xs := r) (y := y)
    unfold dd
    split
    · rename_i h
      rw [ih]
      constructor
      · exact List.mem_cons_of_mem _
      · intro z
        rcases List.mem_cons.mp z with rfl | z
        · exact h
        · exact z
    · simp [ih]
theorem dd_nodup : ∀ xs : List Int, (dd xs).Nodup
  | [] => by simp [dd]
  | x :: r => by
    unfold dd
    split
    · exact dd_nodup r
    · rename_i h
      exact List.nodup_cons.mpr ⟨fun z => h (mem_dd.mp z), dd_nodup r⟩
theorem nodup_len {xs ys : List Int} (h1 : xs.Nodup) (h2 : ys.Nodup) (h : ∀ y, y ∈ xs ↔ y ∈ ys) : xs.length = ys.length :=
  ((List.perm_ext_iff_of_nodup h1 h2).mpr h).length_eq
theorem dd_le : ∀ xs : List Int, (dd xs).length ≤ xs.length
  | [] => by simp [dd]
  | x :: r => by
    have := dd_le r
    unfold dd
    split <;> simp <;> omega
theorem dd_lt : ∀ xs : List Int, (dd xs).length < xs.length ↔ ¬ xs.Nodup
  | [] => by simp [dd]
  | x :: r => by
    have ih := dd_lt r
    have le := dd_le r
    unfold dd
    rw [List.nodup_cons]
    split
    · rename_i h
      simp [h]
      omega
    · rename_i h
      simp [h, ← ih]
theorem dd_id {xs : List Int} (h : xs.Nodup) : dd xs = xs := by
  induction xs with
  | nil => rfl
  | cons x r ih =>
    obtain ⟨h1, h2⟩ := List.nodup_cons.mp h
    unfold dd
    rw [if_neg h1, ih h2]
theorem pw_le {xs : List Int} (h : xs.Pairwise (· < ·)) : xs.Pairwise (· ≤ ·) := h.imp fun h => Int.le_of_lt h
theorem pw_nodup {xs : List Int} (h : xs.Pairwise (· < ·)) : xs.Nodup := h.imp fun h => Int.ne_of_lt h
theorem sorted_dd {ns zs : List Int} (h : zs.Pairwise (· < ·)) (hm : ∀ k, k ∈ zs ↔ k ∈ ns) : zs = sortI (dd ns) :=
  sortI_eq ((List.perm_ext_iff_of_nodup (pw_nodup h) (dd_nodup ns)).mpr fun k => by rw [hm, mem_dd]) (pw_le h)
def lenSetV (v : SV) : P SV := fun m => match rdL v m with
  | some ds => (match asIs ds with
    | some ns => if ns.length ≤ 1000 then .ok (.dat (.int (dd ns).length)) m else .stuck
    | none => .stuck)
  | none => .stuck
def sortSetV (own : Bool) (v : SV) : P SV := fun m => match rdL v m with
  | some ds => (match asIs ds with
    | some ns => if (dd ns).length < 64 ∧ ns.length ≤ 1000 then frs own ((sortI (dd ns)).map D.int) m else .stuck
    | none => .stuck)
  | none => .stuck
section
variable {X : Cx} {W : WX} {a : Expr} {fa : En → P SV} {p p2 q pos : Pos}
theorem setR_len {w : World} {h : Heap} {b : Addr} {ns : List Int} {c : Nat} (R : SetR w h b (fun j => decide (j ∈ ns)) c) : c = (dd ns).length := by
  obtain ⟨o, es, ep, t, ho, hex, hdt, g, nd, hm, hb, hf, hn, hr, hl⟩ := R
  have e : (es.toList.map keyOf).length = c := by rw [List.length_map, Array.length_toList]; exact hn
  rw [← e]
  exact nodup_len nd (dd_nodup ns) fun y => by rw [mem_dd, ← hm y, decide_eq_true_eq]
theorem je_lenSet (hg : Gl X "len") (hm : X.mg "len" = none) (hg2 : Gl X "set") (hm2 : X.mg "set" = none) (hc : X.calm = true) (ja : JE X W a fa)
    (na : starEach [a] X.env = (false, eval a X.env) :: starEach [] X.env := by rfl) : JE X W (.Call (.Name "len" p) [.Call (.Name "set" p2) [a] [] q] [] pos) (d1 lenSetV fa) := ⟨fun {G S H ρ m env σ Q} M E h pins s I => by
  refine Call_ (ld_blt I hg hm boot_len ?_)
  refine callWith_builtin1 (args_cons ?_ rfl) rfl rfl
  refine Call_ (ld_blt I hg2 hm2 boot_set ?_)
  refine callWith_type1 (args_cons (thn (ja.run (Q := fun x H1 => ∃ (l : Addr) (ns : List Int), x = .ref l ∧ SqL X.K H1 l (ns.map V.int) ∧ ns.length ≤ 1000 ∧ Q (.int ((dd ns).length : Nat)) H1) M E (wpr_monoQ (wpr_bnd h) fun x m1 hx => ?_) pins s I) fun v s1 ⟨x, H1, I1, r1, q1⟩ => args_nil ?_) na) na rfl
  · intro S1 H1 ρ1 xv e1 M1 rx
    unfold lenSetV at hx
    split at hx
    · rename_i ds hd
      split at hx
      · rename_i ns hn
        split at hx
        · rename_i hl
          obtain ⟨l, vs, rfl, h1, r1⟩ := rdL_ok M1 rx hd
          have e := rpAll_is r1 hn
          subst e
          exact ⟨l, ns, rfl, .inl (.inl h1), hl, hx S1 H1 ρ1 _ e1 M1 (.int _)⟩
        · exact hx.elim
      · exact hx.elim
    · exact hx.elim
  · obtain ⟨l, ns, rfl, hq, hl, q1⟩ := q1
    obtain rfl : v = Value.ref l := r1
    obtain ⟨its, r, pl, hz⟩ := I1.list hq
    have hlen : its.toArray.size = ns.length := by rw [List.size_toArray, ← r.length, List.length_map]
    refine call_setI ns (I1.ok.hd hc) pl.isList (ints_of_vals r) (by unfold scanBound; omega) fun h' tk c R le kp => args_nil ?_
    have hc2 := setR_len R
    obtain ⟨o, es, ep, t, ho, hex, hd, _, _, _, hf, hn⟩ := R.setOf (P := X.prog)
    have I2 : Inv X pins σ H1 { s1 with heap := h', toks := tk } := I1.kept kp
    exact call_len_set ho hex hd hf (by rw [hn] <;> omega) ⟨.int ((dd ns).length : Nat), H1, I2.tok _, ⟨_, by rw [hn, hc2]⟩, q1⟩⟩
theorem je_sortSet {own : Bool} (hg : Gl X "sorted") (hm : X.mg "sorted" = none) (hg2 : Gl X "set") (hm2 : X.mg "set" = none) (hc : X.calm = true) (ja : JE X W a fa) (hb1 : bootBuiltins "sorted" = some (.builtin "sorted") := by decide +kernel)
    (na : starEach [a] X.env = (false, eval a X.env) :: starEach [] X.env := by rfl) : JE X W (.Call (.Name "sorted" p) [.Call (.Name "set" p2) [a] [] q] [] pos) (d1 (sortSetV own) fa) := ⟨fun {G S H ρ m env σ Q} M E h pins s I => by
  refine Call_ (ld_blt I hg hm hb1 ?_)
  refine callWith_builtin1 (args_cons ?_ rfl) rfl rfl
  refine Call_ (ld_blt I hg2 hm2 boot_set ?_)
  refine callWith_type1 (args_cons (thn (ja.run (Q := fun x H1 => ∃ (l : Addr) (ns : List Int), x = .ref l ∧ SqL X.K H1 l (ns.map V.int) ∧ ns.length ≤ 1000 ∧ (dd ns).length < 64 ∧ ∀ p, H1 p = none → Q (.ref p) (upd H1 p (.lst ((sortI (dd ns)).map V.int)))) M E (wpr_monoQ (wpr_bnd h) fun x m1 hx => ?_) pins s I) fun v s1 ⟨x, H1, I1, r1, q1⟩ => args_nil ?_) na) na rfl
  · intro S1 H1 ρ1 xv e1 M1 rx
    unfold sortSetV at hx
    split at hx
    · rename_i ds hd
      split at hx
      · rename_i ns hn
        split at hx
        · rename_i hl
          obtain ⟨l, vs, rfl, h1, r1⟩ := rdL_ok M1 rx hd
          have e := rpAll_is r1 hn
          subst e
          exact ⟨l, ns, rfl, .inl (.inl h1), hl.2, hl.1, fun p hp => frs_ok M1 (rpAll_ints _) e1 hx p hp⟩
        · exact hx.elim
      · exact hx.elim
    · exact hx.elim
  · obtain ⟨l, ns, rfl, hq, hl, h64, q1⟩ := q1
    obtain rfl : v = Value.ref l := r1
    obtain ⟨its, r, pl, hz⟩ := I1.list hq
    refine call_setI ns (I1.ok.hd hc) pl.isList (ints_of_vals r) (by unfold scanBound; omega) fun h' tk c R le kp => args_nil ?_
    have hc2 := setR_len R
    have I2 : Inv X pins σ H1 { s1 with heap := h', toks := tk } := I1.kept kp
    refine sorted_set (s := { s1 with heap := h', toks := tk }) R (I1.ok.hd hc) (by omega) fun s' b out c2 zs kp2 g2 o2 hb hg2' hi hs hmem hlen => ?_
    have ez : zs = sortI (dd ns) := sorted_dd hs fun k => by rw [hmem k, decide_eq_true_eq]
    have hle : (zs.map V.int).length ≤ sizeLine := by rw [List.length_map, hlen, sizeLine_eq]; omega
    have hn : H1 b = none := I2.hok.fresh hb
    have J : Inv X pins σ (upd H1 b (.lst (zs.map V.int))) s' := I2.call' (ch := []) o2 (Un.laid kp2 hb hn) (I2.hok.laid kp2 hb ⟨hle, out.toList, c2, vals_of_ints hi, hg2'⟩) (by rw [g2]; exact I2.bare) (fun _ z => nomatch z)
    rw [ez] at J
    exact ⟨.ref b, _, J, rfl, q1 b hn⟩⟩
end
/-- x * y: ints, or a list and an int -/
def mulX (own : Bool) (x y : SV) : P SV := fun m => match x, y with
  | .dat (.int i), .dat (.int j) => mulV (.dat (.int i)) (.dat (.int j)) m
  | x, y => repV own x y m
theorem jo_mulX {X : Cx} {W : WX} {own : Bool} : JO X W (binaryOp .Mult) (mulX own) := ⟨fun {G S H ρ m σ x y xv yv Q} M rx ry q => by
  unfold mulX at q
  split at q
  · exact jo_mul.run M rx ry q
  · exact jo_rep.run M rx ry q⟩
@[simp] theorem mulX_int (own : Bool) (i j : Int) (m : Mem) : mulX own (.dat (.int i)) (.dat (.int j)) m = if mulOk i j = true then .ok (.dat (.int (i * j))) m else .stuck := (rfl)
@[simp] theorem mulX_lst (own : Bool) (xs : List D) (k : Int) (m : Mem) : mulX own (.dat (.lst xs)) (.dat (.int k)) m = repV own (.dat (.lst xs)) (.dat (.int k)) m := (rfl)
@[simp] theorem lenSetV_ints (xs : List Int) (m : Mem) : lenSetV (.dat (.lst (xs.map D.int))) m = if xs.length ≤ 1000 then .ok (.dat (.int (dd xs).length)) m else .stuck := by simp [lenSetV, rdL]
@[simp] theorem sortSetV_ints (own : Bool) (xs : List Int) (m : Mem) : sortSetV own (.dat (.lst (xs.map D.int))) m = if (dd xs).length < 64 ∧ xs.length ≤ 1000 then frs own ((sortI (dd xs)).map D.int) m else .stuck := by simp [sortSetV, rdL]
end PL

/-! TR: plain mathematics of triplets. -/
namespace TR
/-- how many elements -/
def sz (f l s : Int) : Int := max 0 ((l - f + s).fdiv s)
theorem sz_nonneg (f l s : Int) : 0 ≤ sz f l s := by unfold sz; omega
theorem fdiv_neg' (a s : Int) : a.fdiv s = (-a).fdiv (-s) := (Int.neg_fdiv_neg a s).symm
theorem lt_sz {f l s k : Int} (hs : s ≠ 0) (hk : 0 ≤ k) : k < sz f l s ↔ (0 < s → f + k * s ≤ l) ∧ (s < 0 → l ≤ f + k * s) := by
  have key : ∀ a t : Int, 0 < t → (k < max 0 ((a + t).fdiv t) ↔ k * t ≤ a) := fun a t ht => by
    rw [Int.fdiv_eq_ediv_of_nonneg _ (by omega)]
    have h1 : k < max 0 ((a + t) / t) ↔ k + 1 ≤ (a + t) / t := by omega
    rw [h1, Int.le_ediv_iff_mul_le ht, Int.add_mul]
    omega
  unfold sz
  by_cases h : 0 < s
  · rw [key (l - f) s h]
    constructor
    · intro q
      exact ⟨fun _ => by omega, fun q => by omega⟩
    · intro q
      have := q.1 h
      omega
  · have h' : s < 0 := by omega
    have e : (l - f + s).fdiv s = (f - l + -s).fdiv (-s) := by
      rw [fdiv_neg']
      congr 1
      omega
    rw [e, key (f - l) (-s) (by omega), Int.mul_neg]
    constructor
    · intro q
      exact ⟨fun _ => by omega, fun _ => by omega⟩
    · intro q
      have := q.2 h'
      omega
/-- the number of an element -/
def spot (f l s x : Int) : Option Int := if (x - f).fmod s ≠ 0 ∨ ¬ (0 ≤ (x - f).fdiv s ∧ (x - f).fdiv s < sz f l s) then none else some ((x - f).fdiv s)
theorem spot_at {f l s k : Int} (hs : s ≠ 0) (h0 : 0 ≤ k) (h1 : k < sz f l s) : spot f l s (f + k * s) = some k := by
  unfold spot
  have e : f + k * s - f = k * s := by omega
  rw [e, Int.mul_fdiv_cancel _ hs, Int.mul_fmod_left]
  rw [if_neg (by omega)]
theorem spot_some {f l s x k : Int} (hs : s ≠ 0) (h : spot f l s x = some k) : x = f + k * s ∧ 0 ≤ k ∧ k < sz f l s := by
  unfold spot at h
  split at h
  · cases h
  · rename_i q
    cases h
    have h1 : (x - f).fmod s = 0 := by omega
    have h2 := Int.mul_fdiv_add_fmod (x - f) s
    rw [h1] at h2
    have h3 : s * (x - f).fdiv s = (x - f).fdiv s * s := Int.mul_comm _ _
    omega
theorem spot_iff {f l s x k : Int} (hs : s ≠ 0) : spot f l s x = some k ↔ x = f + k * s ∧ 0 ≤ k ∧ k < sz f l s := by
  constructor
  · exact spot_some hs
  · rintro ⟨rfl, h0, h1⟩
    exact spot_at hs h0 h1
theorem spot_none {f l s x : Int} (hs : s ≠ 0) (h : ∀ k, 0 ≤ k → k < sz f l s → x ≠ f + k * s) : spot f l s x = none := by
  cases e : spot f l s x with
  | none => rfl
  | some k =>
    obtain ⟨a, b, c⟩ := spot_some hs e
    exact absurd a (h k b c)
theorem mul_inj {a b s : Int} (hs : s ≠ 0) (h : a * s = b * s) : a = b := Int.eq_of_mul_eq_mul_right hs h
/-- an element lies between the ends -/
theorem elt_between {f l s k : Int} (hs : s ≠ 0) (h0 : 0 ≤ k) (h1 : k < sz f l s) : min f l ≤ f + k * s ∧ f + k * s ≤ max f l := by
  obtain ⟨a, b⟩ := (lt_sz hs h0).mp h1
  by_cases h : 0 < s
  · have := a h
    have : 0 ≤ k * s := Int.mul_nonneg h0 (by omega)
    omega
  · have := b (by omega)
    have : k * s ≤ 0 := Int.mul_nonpos_of_nonneg_of_nonpos h0 (by omega)
    omega
theorem sz_le {f l s n : Int} (hs : s ≠ 0) (hn : 0 ≤ n) (h : max f l - min f l < n) : sz f l s ≤ n := by
  have h2 : ¬ n < sz f l s := fun q => by
    obtain ⟨a, b⟩ := (lt_sz hs hn).mp q
    by_cases h' : 0 < s
    · have := a h'
      have : n * 1 ≤ n * s := Int.mul_le_mul_of_nonneg_left (by omega) hn
      omega
    · have := b (by omega)
      have : n * 1 ≤ n * (-s) := Int.mul_le_mul_of_nonneg_left (by omega) hn
      rw [Int.mul_neg] at this
      omega
  omega
theorem sz_count {f l s : Int} (hs : s ≠ 0) : sz f l s = if 0 ≤ (if 0 < s then l - f else f - l) then (if 0 < s then l - f else f - l).fdiv (s.natAbs : Int) + 1 else 0 := by
  have key : ∀ a t : Int, 0 < t → max 0 ((a + t).fdiv t) = if 0 ≤ a then a.fdiv t + 1 else 0 := fun a t ht => by
    rw [Int.fdiv_eq_ediv_of_nonneg _ (by omega), Int.fdiv_eq_ediv_of_nonneg _ (by omega)]
    have e : (a + t) / t = a / t + 1 := by
      have := Int.add_mul_ediv_right a 1 (show t ≠ 0 by omega)
      rw [Int.one_mul] at this
      exact this
    rw [e]
    by_cases h : 0 ≤ a
    · have := Int.ediv_nonneg h (show 0 ≤ t by omega)
      rw [if_pos h]
      omega
    · have := Int.ediv_neg_of_neg_of_pos (show a < 0 by omega) ht
      rw [if_neg h]
      omega
  unfold sz
  by_cases h : 0 < s
  · simp only [if_pos h]
    rw [show (s.natAbs : Int) = s by omega]
    exact key (l - f) s h
  · simp only [if_neg h]
    rw [show (s.natAbs : Int) = -s by omega]
    have e : (l - f + s).fdiv s = (f - l + -s).fdiv (-s) := by
      rw [fdiv_neg']
      congr 1
      omega
    rw [e]
    exact key (f - l) (-s) (by omega)
/-- a number just behind an element is none, if the step is more than 1 -/
theorem spot_next {f l s k : Int} (hs : 1 < s.natAbs) : spot f l s (f + k * s + 1) = none := by
  refine spot_none (by omega) fun j _ _ e => ?_
  have h1 : (j - k) * s = 1 := by rw [Int.sub_mul]; omega
  have h2 : s ∣ 1 := ⟨j - k, by rw [Int.mul_comm]; exact h1.symm⟩
  have h3 := Int.natAbs_dvd_natAbs.mpr h2
  have h4 := Nat.le_of_dvd (by decide) h3
  simp at h4
  omega
theorem spot_behind {f l s : Int} (hs : s ≠ 0) : spot f l s (f + sz f l s * s) = none := by
  refine spot_none hs fun j _ h e => ?_
  have := mul_inj hs (a := sz f l s) (b := j) (by omega)
  omega
end TR

/-! TR2: elements, normal forms. -/
namespace TR
open PL (sortI sortI_eq sortI_perm sortI_up up_unique)
def els (f s : Int) (n : Nat) : List Int := (List.range n).map fun (i : Nat) => f + (i : Int) * s
theorem els_succ (f s : Int) (n : Nat) : els f s (n + 1) = els f s n ++ [f + (n : Int) * s] := by
  unfold els
  rw [List.range_succ, List.map_append]
  rfl
theorem els_length (f s : Int) (n : Nat) : (els f s n).length = n := by simp [els]
theorem els_get {f s : Int} {n j : Nat} (h : j < n) : (els f s n)[j]? = some (f + (j : Int) * s) := by
  unfold els
  rw [List.getElem?_map, List.getElem?_range h]
  rfl
theorem mem_els {f s x : Int} {n : Nat} : x ∈ els f s n ↔ ∃ j : Nat, j < n ∧ x = f + (j : Int) * s := by
  unfold els
  rw [List.mem_map]
  constructor
  · rintro ⟨j, h, e⟩
    exact ⟨j, List.mem_range.mp h, e.symm⟩
  · rintro ⟨j, h, e⟩
    exact ⟨j, List.mem_range.mpr h, e.symm⟩
theorem els_zero (f s : Int) : els f s 0 = [] := rfl
theorem els_one (f s : Int) : els f s 1 = [f] := by simp [els]
/-- turned about -/
theorem els_rev (f s : Int) (n : Nat) : (els f s n).reverse = els (f + ((n : Int) - 1) * s) (-s) n := by
  apply List.ext_getElem?
  intro i
  by_cases h : i < n
  · rw [List.getElem?_reverse (by rw [els_length]; exact h), els_length, els_get (by omega), els_get h]
    congr 1
    have e : ((n - 1 - i : Nat) : Int) = (n : Int) - 1 - (i : Int) := by omega
    rw [e, Int.sub_mul, Int.mul_neg]
    omega
  · rw [List.getElem?_eq_none (by rw [List.length_reverse, els_length]; omega), List.getElem?_eq_none (by rw [els_length]; omega)]
theorem els_up {f s : Int} (h : 0 < s) (n : Nat) : (els f s n).Pairwise (· ≤ ·) := by
  unfold els
  rw [List.pairwise_map]
  have := List.pairwise_lt_range (n := n)
  exact this.imp fun {a b} hab => by
    have : (a : Int) * s ≤ (b : Int) * s := Int.mul_le_mul_of_nonneg_right (by omega) (by omega)
    omega
theorem sort_els_up {f s : Int} (h : 0 < s) (n : Nat) : sortI (els f s n) = els f s n := (sortI_eq (List.Perm.refl _) (els_up h n)).symm
theorem sort_els_down {f s : Int} (h : s < 0) (n : Nat) : sortI (els f s n) = els (f + ((n : Int) - 1) * s) (-s) n := by
  refine (sortI_eq ?_ (els_up (by omega) n)).symm
  rw [← els_rev]
  exact List.reverse_perm _
/-! sizes of the same elements told otherwise -/
theorem sz_eq {f l s n : Int} (hs : s ≠ 0) (hn : 0 ≤ n) (h1 : 0 < n → (0 < s → f + (n - 1) * s ≤ l) ∧ (s < 0 → l ≤ f + (n - 1) * s)) (h2 : (0 < s → l < f + n * s) ∧ (s < 0 → f + n * s < l)) : sz f l s = n := by
  have a : ¬ n < sz f l s := fun q => by
    obtain ⟨u, v⟩ := (lt_sz hs hn).mp q
    by_cases h : 0 < s
    · have := u h; have := h2.1 h; omega
    · have := v (by omega); have := h2.2 (by omega); omega
  have b : ¬ sz f l s < n := fun q => by
    have h0 := sz_nonneg f l s
    have k := h1 (by omega)
    have := (lt_sz (f := f) (l := l) hs (show 0 ≤ n - 1 by omega)).mpr k
    omega
  omega
theorem sz_trim {f s n : Int} (hs : s ≠ 0) (hn : 0 < n) : sz f (f + (n - 1) * s) s = n := by
  refine sz_eq hs (by omega) (fun _ => ⟨fun _ => by omega, fun _ => by omega⟩) ⟨fun h => ?_, fun h => ?_⟩
  · rw [Int.sub_mul]; omega
  · rw [Int.sub_mul]; omega
theorem sz_back {f s n : Int} (hs : s ≠ 0) (hn : 0 < n) : sz (f + (n - 1) * s) f (-s) = n := by
  have e : f = f + (n - 1) * s + (n - 1) * (-s) := by rw [Int.mul_neg]; omega
  have := sz_trim (f := f + (n - 1) * s) (s := -s) (by omega) hn
  rw [← e] at this
  exact this
theorem sz_none : sz 0 (-1) 1 = 0 := by decide
theorem sz_self (f : Int) : sz f f 1 = 1 := by
  unfold sz
  rw [Int.fdiv_eq_ediv_of_nonneg _ (by decide)]
  omega
theorem sz_self' (f : Int) {s : Int} (hs : s ≠ 0) : sz f f s = 1 := by
  have := sz_trim (f := f) (n := 1) hs (by decide)
  rw [show f + ((1 : Int) - 1) * s = f by omega] at this
  exact this
/-- the normal form -/
def nr (f l s : Int) : List Int := if sz f l s = 0 then [0, -1, 1] else if sz f l s = 1 then [f, f, 1] else if 0 < s then [f, f + (sz f l s - 1) * s, s] else [f + (sz f l s - 1) * s, f, -s]
/-- turned about -/
def tn (f l s : Int) : List Int := if sz f l s = 0 then [0, -1, 1] else if sz f l s = 1 then [f, f, 1] else [f + (sz f l s - 1) * s, f, -s]
theorem nr_pos {f l s : Int} (h : 0 < s) : nr f l s = if sz f l s = 0 then [0, -1, 1] else if sz f l s = 1 then [f, f, 1] else [f, f + (sz f l s - 1) * s, s] := by
  unfold nr
  rw [if_pos h]
/-- the triple of a form -/
def A (x : List Int) : Int := x.getD 0 0
def B (x : List Int) : Int := x.getD 1 0
def C (x : List Int) : Int := x.getD 2 0
/-- the elements in rising order, by the normal form -/
theorem sort_nr {f l s : Int} (hs : s ≠ 0) : sortI (els f s (sz f l s).toNat) = els (A (nr f l s)) (C (nr f l s)) (sz (A (nr f l s)) (B (nr f l s)) (C (nr f l s))).toNat := by
  have h0 := sz_nonneg f l s
  unfold nr
  by_cases z0 : sz f l s = 0
  · simp [z0, A, B, C, sz_none, els_zero, sortI]
  · by_cases z1 : sz f l s = 1
    · simp [z1, A, B, C, sz_self, els_one, sortI]
    · by_cases hp : 0 < s
      · simp [z0, z1, hp, A, B, C]
        rw [sz_trim hs (by omega), sort_els_up hp]
      · simp [z0, z1, hp, A, B, C]
        rw [sz_back hs (by omega), sort_els_down (by omega)]
        rw [show (((sz f l s).toNat : Nat) : Int) = sz f l s by omega]
/-- how the law shows a row of elements -/
def shown (xs : List Int) : List Int := match xs with
  | [] => [0, -1, 1]
  | [x] => [x, x, 1]
  | x :: y :: r => [x, (y :: r).getLast (by simp), y - x]
theorem shown_els {f s : Int} {n : Nat} (h : 1 < n) : shown (els f s n) = [f, f + ((n : Int) - 1) * s, s] := by
  have e0 := els_get (f := f) (s := s) (show 0 < n by omega)
  have e1 := els_get (f := f) (s := s) (show 1 < n by omega)
  have el := els_get (f := f) (s := s) (show n - 1 < n by omega)
  have hlen := els_length f s n
  match hx : els f s n with
  | [] => rw [hx] at hlen; simp at hlen; omega
  | [x] => rw [hx] at hlen; simp at hlen; omega
  | x :: y :: r =>
    rw [hx] at e0 e1 el hlen
    simp at e0 e1 hlen
    unfold shown
    have hl : (y :: r).getLast (by simp) = f + ((n : Int) - 1) * s := by
      have := List.getLast?_eq_getElem? (l := y :: r)
      rw [List.getLast?_eq_some_getLast (by simp)] at this
      have h2 : (x :: y :: r)[n - 1]? = (y :: r)[(y :: r).length - 1]? := by
        rw [show n - 1 = ((y :: r).length - 1) + 1 by simp; omega, List.getElem?_cons_succ]
      rw [h2, ← this] at el
      have := Option.some.inj el
      rw [this, show ((n - 1 : Nat) : Int) = (n : Int) - 1 by omega]
    show [x, (y :: r).getLast (by simp), y - x] = _
    rw [hl, e0, e1]
    simp
    omega
theorem nr_shown {f l s : Int} (hs : s ≠ 0) : nr f l s = shown (sortI (els f s (sz f l s).toNat)) := by
  have h0 := sz_nonneg f l s
  rw [sort_nr hs]
  unfold nr
  by_cases z0 : sz f l s = 0
  · simp [z0, A, B, C, sz_none, els_zero, shown]
  · by_cases z1 : sz f l s = 1
    · simp [z1, A, B, C, sz_self, els_one, shown]
    · by_cases hp : 0 < s
      · simp [z0, z1, hp, A, B, C]
        rw [sz_trim hs (by omega), shown_els (by omega), show (((sz f l s).toNat : Nat) : Int) = sz f l s by omega]
      · simp [z0, z1, hp, A, B, C]
        rw [sz_back hs (by omega), shown_els (by omega), show (((sz f l s).toNat : Nat) : Int) = sz f l s by omega, Int.mul_neg]
        congr 2
        omega
theorem nr_sorted {f l s f' l' s' : Int} (hs : s ≠ 0) (hs' : s' ≠ 0) : nr f l s = nr f' l' s' ↔ sortI (els f s (sz f l s).toNat) = sortI (els f' s' (sz f' l' s').toNat) := by
  constructor
  · intro h
    rw [sort_nr hs, sort_nr hs', h]
  · intro h
    rw [nr_shown hs, nr_shown hs', h]
/-- the size by the normal form -/
theorem sz_nr {f l s : Int} (hs : s ≠ 0) : sz (A (nr f l s)) (B (nr f l s)) (C (nr f l s)) = sz f l s := by
  have h0 := sz_nonneg f l s
  unfold nr
  by_cases z0 : sz f l s = 0
  · simp [z0, A, B, C, sz_none]
  · by_cases z1 : sz f l s = 1
    · simp [z1, A, B, C, sz_self]
    · by_cases hp : 0 < s
      · simp [z0, z1, hp, A, B, C]
        exact sz_trim hs (by omega)
      · simp [z0, z1, hp, A, B, C]
        exact sz_back hs (by omega)
theorem nr_nr {f l s : Int} (hs : s ≠ 0) : nr (A (nr f l s)) (B (nr f l s)) (C (nr f l s)) = nr f l s := by
  have h0 := sz_nonneg f l s
  have e := sz_nr (f := f) (l := l) hs
  by_cases z0 : sz f l s = 0
  · rw [nr, e]; simp [nr, z0]
  · by_cases z1 : sz f l s = 1
    · rw [nr, e]; simp [nr, z1, A]
    · by_cases hp : 0 < s
      · rw [nr, e]; simp [nr, z0, z1, hp, A, B, C]
      · rw [nr, e]; simp [nr, z0, z1, hp, A, B, C, show (s < 0) by omega, Int.mul_neg]; omega
theorem sz_tn {f l s : Int} (hs : s ≠ 0) : sz (A (tn f l s)) (B (tn f l s)) (C (tn f l s)) = sz f l s := by
  have h0 := sz_nonneg f l s
  unfold tn
  by_cases z0 : sz f l s = 0
  · simp [z0, A, B, C, sz_none]
  · by_cases z1 : sz f l s = 1
    · simp [z1, A, B, C, sz_self]
    · simp [z0, z1, A, B, C]
      exact sz_back hs (by omega)
theorem nr_tn {f l s : Int} (hs : s ≠ 0) : nr (A (tn f l s)) (B (tn f l s)) (C (tn f l s)) = nr f l s := by
  have h0 := sz_nonneg f l s
  have e := sz_tn (f := f) (l := l) hs
  by_cases z0 : sz f l s = 0
  · rw [nr, e]; simp [nr, tn, z0]
  · by_cases z1 : sz f l s = 1
    · rw [nr, e]; simp [nr, tn, z1, A]
    · by_cases hp : 0 < s
      · rw [nr, e]; simp [nr, tn, z0, z1, hp, A, B, C, show ¬ s < 0 by omega, Int.mul_neg]; omega
      · rw [nr, e]; simp [nr, tn, z0, z1, hp, A, B, C, show s < 0 by omega, Int.mul_neg]; omega
theorem els_tn {f l s : Int} (hs : s ≠ 0) : els (A (tn f l s)) (C (tn f l s)) (sz f l s).toNat = (els f s (sz f l s).toNat).reverse := by
  have h0 := sz_nonneg f l s
  rw [els_rev]
  unfold tn
  by_cases z0 : sz f l s = 0
  · simp [z0, A, B, C, els_zero]
  · by_cases z1 : sz f l s = 1
    · simp [z1, A, B, C, els_one]
    · simp [z0, z1, A, B, C]
      rw [show max (sz f l s) 0 = sz f l s by omega]
theorem els_inj {f s f' s' : Int} {n n' : Nat} (h : els f s n = els f' s' n') : n = n' ∧ (0 < n → f = f') ∧ (1 < n → s = s') := by
  have hn : n = n' := by rw [← els_length f s n, h, els_length]
  subst hn
  refine ⟨rfl, fun h0 => ?_, fun h1 => ?_⟩
  · have a := els_get (f := f) (s := s) h0
    rw [h, els_get h0] at a
    simpa using a.symm
  · have a := els_get (f := f) (s := s) (show 0 < n by omega)
    rw [h, els_get (by omega)] at a
    have b := els_get (f := f) (s := s) h1
    rw [h, els_get h1] at b
    simp at a b
    omega
/-- the same run -/
theorem run_iff {f l s f' l' s' : Int} (hs : s ≠ 0) (hs' : s' ≠ 0) : (nr f l s = nr f' l' s' ∧ (sz f l s = 0 ∨ f = f')) ↔ els f s (sz f l s).toNat = els f' s' (sz f' l' s').toNat := by
  have h0 := sz_nonneg f l s
  have h0' := sz_nonneg f' l' s'
  constructor
  · rintro ⟨h1, h2⟩
    have hz : sz f l s = sz f' l' s' := by rw [← sz_nr hs, h1, sz_nr hs']
    rw [← hz]
    rcases h2 with h2 | h2
    · rw [h2]; rfl
    · subst h2
      by_cases z0 : sz f l s = 0
      · rw [z0]; rfl
      · by_cases z1 : sz f l s = 1
        · rw [z1]; simp [els_one]
        · have hss : s = s' := by
            unfold nr at h1
            rw [← hz] at h1
            simp only [z0, z1, if_false] at h1
            have p1 : 0 < s → 0 < (sz f l s - 1) * s := fun h => Int.mul_pos (by omega) h
            have p2 : s < 0 → (sz f l s - 1) * s < 0 := fun h => Int.mul_neg_of_pos_of_neg (by omega) h
            have p3 : 0 < s' → 0 < (sz f l s - 1) * s' := fun h => Int.mul_pos (by omega) h
            have p4 : s' < 0 → (sz f l s - 1) * s' < 0 := fun h => Int.mul_neg_of_pos_of_neg (by omega) h
            by_cases hp : 0 < s <;> by_cases hp' : 0 < s' <;> simp [hp, hp'] at h1 <;> omega
          rw [hss]
  · intro h
    obtain ⟨h1, h2, _⟩ := els_inj h
    refine ⟨(nr_sorted hs hs').mpr (by rw [h]), ?_⟩
    by_cases z : sz f l s = 0
    · exact .inl z
    · exact .inr (h2 (by omega))
theorem nr_none {f l s : Int} (hs : s ≠ 0) : nr f l s = [0, -1, 1] ↔ sz f l s = 0 := by
  constructor
  · intro h
    have e := sz_nr (f := f) (l := l) hs
    rw [h] at e
    rw [← e]
    decide
  · intro h
    simp [nr, h]
end TR

/-! TR3: shared elements. -/
namespace TR
open PL (sortI sortI_eq sortI_perm sortI_up up_unique)
theorem half_step {b r : Nat} (h0 : 0 < r) (h1 : r < b) : 2 * (b % r) < b := by
  by_cases h : 2 * r ≤ b
  · have := Nat.mod_lt b h0
    omega
  · have e : b % r = b - r := by
      rw [Nat.mod_eq_sub_mod (by omega), Nat.mod_eq_of_lt (by omega)]
    omega
/-- rising lists with the same members -/
theorem lt_ext : ∀ {xs ys : List Int}, xs.Pairwise (· < ·) → ys.Pairwise (· < ·) → (∀ x, x ∈ xs ↔ x ∈ ys) → xs = ys
  | [], [], _, _, _ => rfl
  | [], y :: ys, _, _, h => absurd ((h y).mpr List.mem_cons_self) (by simp)
  | x :: xs, [], _, _, h => absurd ((h x).mp List.mem_cons_self) (by simp)
  | x :: xs, y :: ys, hx, hy, h => by
    rw [List.pairwise_cons] at hx hy
    have e : x = y := by
      rcases List.mem_cons.mp ((h x).mp List.mem_cons_self) with a | a
      · exact a
      · rcases List.mem_cons.mp ((h y).mpr List.mem_cons_self) with b | b
        · exact b.symm
        · have := hx.1 y b
          have := hy.1 x a
          omega
    subst e
    rw [lt_ext hx.2 hy.2 fun z => ?_]
    constructor
    · intro hz
      rcases List.mem_cons.mp ((h z).mp (List.mem_cons_of_mem _ hz)) with a | a
      · have := hx.1 z hz
        omega
      · exact a
    · intro hz
      rcases List.mem_cons.mp ((h z).mpr (List.mem_cons_of_mem _ hz)) with a | a
      · have := hy.1 z hz
        omega
      · exact a
theorem els_lt {f s : Int} (h : 0 < s) (n : Nat) : (els f s n).Pairwise (· < ·) := by
  unfold els
  rw [List.pairwise_map]
  have := List.pairwise_lt_range (n := n)
  exact this.imp fun {a b} hab => by
    have : (a : Int) * s < (b : Int) * s := Int.mul_lt_mul_of_pos_right (by omega) h
    omega
/-- the elements of a rising triplet -/
theorem mem_sz {f l s x : Int} (hs : 0 < s) : x ∈ els f s (sz f l s).toNat ↔ f ≤ x ∧ x ≤ l ∧ s ∣ (x - f) := by
  have h0 := sz_nonneg f l s
  rw [mem_els]
  constructor
  · rintro ⟨j, hj, rfl⟩
    have := ((lt_sz (f := f) (l := l) (k := (j : Int)) (by omega) (by omega)).mp (by omega)).1 hs
    have : 0 ≤ (j : Int) * s := Int.mul_nonneg (by omega) (by omega)
    exact ⟨by omega, by omega, ⟨j, by rw [Int.mul_comm s]; omega⟩⟩
  · rintro ⟨h1, h2, k, hk⟩
    have k0 : 0 ≤ k := by
      by_cases q : 0 ≤ k
      · exact q
      · have : s * k < 0 := Int.mul_neg_of_pos_of_neg hs (by omega)
        omega
    have e : x = f + k * s := by rw [Int.mul_comm k]; omega
    have hk2 : k < sz f l s := (lt_sz (f := f) (l := l) (k := k) (by omega) k0).mpr ⟨fun _ => by omega, fun q => by omega⟩
    exact ⟨k.toNat, by omega, by rw [show ((k.toNat : Nat) : Int) = k by omega]; exact e⟩
/-- the elements, rising -/
def up (f l s : Int) : List Int := sortI (els f s (sz f l s).toNat)
theorem up_lt {f l s : Int} (hs : s ≠ 0) : (up f l s).Pairwise (· < ·) := by
  unfold up
  by_cases h : 0 < s
  · rw [sort_els_up h]; exact els_lt h _
  · rw [sort_els_down (by omega)]; exact els_lt (by omega) _
theorem up_pos {f l s : Int} (hs : 0 < s) : up f l s = els f s (sz f l s).toNat := sort_els_up hs _
theorem up_mem {f l s x : Int} : x ∈ up f l s ↔ x ∈ els f s (sz f l s).toNat := (sortI_perm _).mem_iff
theorem up_length {f l s : Int} : (up f l s).length = (sz f l s).toNat := by rw [up, (sortI_perm _).length_eq, els_length]
theorem nr_up {f l s f' l' s' : Int} (hs : s ≠ 0) (hs' : s' ≠ 0) : nr f l s = nr f' l' s' ↔ up f l s = up f' l' s' := nr_sorted hs hs'
theorem nr_shown' {f l s : Int} (hs : s ≠ 0) : nr f l s = shown (up f l s) := nr_shown hs
/-- the shared elements, rising -/
def cm (f l s f' l' s' : Int) : List Int := (up f l s).filter fun x => decide (x ∈ els f' s' (sz f' l' s').toNat)
theorem cm_lt {f l s f' l' s' : Int} (hs : s ≠ 0) : (cm f l s f' l' s').Pairwise (· < ·) := (up_lt hs).filter _
theorem cm_mem {f l s f' l' s' x : Int} : x ∈ cm f l s f' l' s' ↔ x ∈ els f s (sz f l s).toNat ∧ x ∈ els f' s' (sz f' l' s').toNat := by
  unfold cm
  rw [List.mem_filter, up_mem]
  simp
theorem cm_comm {f l s f' l' s' : Int} (hs : s ≠ 0) (hs' : s' ≠ 0) : cm f l s f' l' s' = cm f' l' s' f l s := lt_ext (cm_lt hs) (cm_lt hs') fun x => by rw [cm_mem, cm_mem]; exact And.comm
theorem cm_all {f l s f' l' s' : Int} : cm f l s f' l' s' = up f l s ↔ (cm f l s f' l' s').length = (up f l s).length := by
  constructor
  · intro h; rw [h]
  · intro h
    exact List.filter_sublist.eq_of_length h
/-- shared elements of two normal forms are those of the triplets -/
theorem els_nr {f l s x : Int} (hs : s ≠ 0) : x ∈ els f s (sz f l s).toNat ↔ x ∈ els (A (nr f l s)) (C (nr f l s)) (sz (A (nr f l s)) (B (nr f l s)) (C (nr f l s))).toNat := by
  rw [← sort_nr hs]
  exact (sortI_perm _).mem_iff.symm
theorem nr_C {f l s : Int} (hs : s ≠ 0) : 0 < C (nr f l s) := by
  have h0 := sz_nonneg f l s
  unfold nr
  by_cases z0 : sz f l s = 0
  · simp [z0, C]
  · by_cases z1 : sz f l s = 1
    · simp [z1, C]
    · by_cases hp : 0 < s
      · simp [z0, z1, hp, C]
      · simp [z0, z1, hp, C]
        omega
theorem cm_nr {f l s f' l' s' : Int} (hs : s ≠ 0) (hs' : s' ≠ 0) : cm (A (nr f l s)) (B (nr f l s)) (C (nr f l s)) (A (nr f' l' s')) (B (nr f' l' s')) (C (nr f' l' s')) = cm f l s f' l' s' :=
  lt_ext (cm_lt (by have := nr_C (f := f) (l := l) hs; omega)) (cm_lt hs) fun x => by rw [cm_mem, cm_mem, ← els_nr hs, ← els_nr hs']
/-! ### congruences -/
theorem dvd_fmod {a b c : Int} (h : c ∣ b) (hb : 0 < b) : c ∣ (a - a.fmod b) := by
  rw [Int.fmod_eq_emod_of_nonneg _ (by omega)]
  have := Int.emod_add_mul_ediv a b
  exact Int.dvd_trans h ⟨a / b, by omega⟩
/-- two rising rows with a meeting x of period L: what they share -/
theorem met_mem {f l s f' l' s' x L : Int} (hs : 0 < s) (hs' : 0 < s') (hL : 0 < L) (x1 : s ∣ (x - f)) (x2 : s' ∣ (x - f')) (d1 : s ∣ L) (d2 : s' ∣ L) (dl : ∀ y, s ∣ y → s' ∣ y → L ∣ y) (y : Int) :
    (y ∈ els f s (sz f l s).toNat ∧ y ∈ els f' s' (sz f' l' s').toNat) ↔ y ∈ els (max f f' + (x - max f f').fmod L) L (sz (max f f' + (x - max f f').fmod L) (min l l') L).toNat := by
  rw [mem_sz hs, mem_sz hs', mem_sz hL]
  have e := dvd_fmod (a := x - max f f') (b := L) (Int.dvd_refl L) hL
  have r1 : 0 ≤ (x - max f f').fmod L ∧ (x - max f f').fmod L < L := by
    rw [Int.fmod_eq_emod_of_nonneg _ (by omega)]
    exact ⟨Int.emod_nonneg _ (by omega), Int.emod_lt_of_pos _ hL⟩
  generalize hst : max f f' + (x - max f f').fmod L = st
  have e2 : L ∣ (x - st) := by
    obtain ⟨k, hk⟩ := e
    exact ⟨k, by omega⟩
  constructor
  · rintro ⟨⟨a1, a2, a3⟩, b1, b2, b3⟩
    have hd : L ∣ (y - st) := by
      have k1 : s ∣ (y - x) := by
        have := Int.dvd_sub a3 x1
        rw [show y - f - (x - f) = y - x by omega] at this
        exact this
      have k2 : s' ∣ (y - x) := by
        have := Int.dvd_sub b3 x2
        rw [show y - f' - (x - f') = y - x by omega] at this
        exact this
      have := Int.dvd_add (dl _ k1 k2) e2
      rw [show y - x + (x - st) = y - st by omega] at this
      exact this
    refine ⟨?_, by omega, hd⟩
    obtain ⟨k, hk⟩ := hd
    by_cases q : 0 ≤ k
    · have : 0 ≤ L * k := Int.mul_nonneg (by omega) q
      omega
    · have : L * k ≤ L * (-1) := Int.mul_le_mul_of_nonneg_left (by omega) (by omega)
      omega
  · rintro ⟨a1, a2, a3⟩
    have k1 : s ∣ (y - f) := by
      have := Int.dvd_add (Int.dvd_sub (Int.dvd_trans d1 a3) (Int.dvd_trans d1 e2)) x1
      rw [show y - st - (x - st) + (x - f) = y - f by omega] at this
      exact this
    have k2 : s' ∣ (y - f') := by
      have := Int.dvd_add (Int.dvd_sub (Int.dvd_trans d2 a3) (Int.dvd_trans d2 e2)) x2
      rw [show y - st - (x - st) + (x - f') = y - f' by omega] at this
      exact this
    exact ⟨⟨by omega, by omega, k1⟩, by omega, by omega, k2⟩
/-- the least common multiple -/
theorem lcm_dvd {s s' y : Int} (h1 : s ∣ y) (h2 : s' ∣ y) : (Int.lcm s s' : Int) ∣ y := by
  have := Nat.lcm_dvd (Int.natAbs_dvd_natAbs.mpr h1) (Int.natAbs_dvd_natAbs.mpr h2)
  exact Int.ofNat_dvd_left.mpr this
theorem gcd_none {s s' f f' : Int} (h : ¬ (Int.gcd s s' : Int) ∣ (f' - f)) (l l' y : Int) (hs : 0 < s) (hs' : 0 < s') : ¬ (y ∈ els f s (sz f l s).toNat ∧ y ∈ els f' s' (sz f' l' s').toNat) := by
  rw [mem_sz hs, mem_sz hs']
  rintro ⟨⟨_, _, a⟩, _, _, b⟩
  apply h
  have g1 : (Int.gcd s s' : Int) ∣ (y - f) := Int.dvd_trans (Int.gcd_dvd_left ..) a
  have g2 : (Int.gcd s s' : Int) ∣ (y - f') := Int.dvd_trans (Int.gcd_dvd_right ..) b
  have := Int.dvd_sub g1 g2
  rw [show y - f - (y - f') = f' - f by omega] at this
  exact this
end TR

/-! TR4: shared elements as a triplet. -/
namespace TR
open PL (sortI sortI_eq sortI_perm sortI_up up_unique)
theorem cm_up_pos {f l s f' l' s' : Int} (hs : 0 < s) (hs' : 0 < s') : ∃ a b c, 0 < c ∧ cm f l s f' l' s' = up a b c := by
  match hx : cm f l s f' l' s' with
  | [] => exact ⟨0, -1, 1, by decide, by rw [up, sz_none]; simp [els_zero, sortI]⟩
  | x :: r =>
    have hm : x ∈ cm f l s f' l' s' := by rw [hx]; exact List.mem_cons_self
    obtain ⟨m1, m2⟩ := cm_mem.mp hm
    have L0 : 0 < Int.lcm s s' := Int.lcm_pos (by omega) (by omega)
    have mm := met_mem (f := f) (l := l) (f' := f') (l' := l') (x := x) (L := (Int.lcm s s' : Int)) hs hs' (by omega) ((mem_sz hs).mp m1).2.2 ((mem_sz hs').mp m2).2.2 (Int.dvd_lcm_left ..) (Int.dvd_lcm_right ..) (fun y a b => lcm_dvd a b)
    refine ⟨max f f' + (x - max f f').fmod (Int.lcm s s' : Int), min l l', (Int.lcm s s' : Int), by omega, ?_⟩
    rw [← hx]
    exact lt_ext (cm_lt (by omega)) (up_lt (by omega)) fun y => by rw [cm_mem, up_mem]; exact mm y
theorem cm_up {f l s f' l' s' : Int} (hs : s ≠ 0) (hs' : s' ≠ 0) : ∃ a b c, 0 < c ∧ cm f l s f' l' s' = up a b c := by
  rw [← cm_nr hs hs']
  exact cm_up_pos (nr_C hs) (nr_C hs')
/-- the one lies within the other -/
theorem lies_iff {f l s f' l' s' : Int} (hs : s ≠ 0) (hs' : s' ≠ 0) : shown (cm f l s f' l' s') = nr f l s ↔ (cm f l s f' l' s').length = (sz f l s).toNat := by
  obtain ⟨a, b, c, hc, e⟩ := cm_up (f := f) (l := l) (f' := f') (l' := l') hs hs'
  rw [← up_length, ← cm_all, e, ← nr_shown' (show c ≠ 0 by omega)]
  exact nr_up (by omega) hs
/-- a row and the same with its elements told otherwise -/
theorem cm_same {f l s f' l' s' a b c : Int} (hs : s ≠ 0) (hc : c ≠ 0) (h : ∀ y, y ∈ els f s (sz f l s).toNat ↔ y ∈ els a c (sz a b c).toNat) : cm f l s f' l' s' = cm a b c f' l' s' :=
  lt_ext (cm_lt hs) (cm_lt hc) fun y => by rw [cm_mem, cm_mem, h y]
/-- shared elements with oneself's part -/
theorem cm_sub {f l s f' l' s' a b c : Int} (hs : s ≠ 0) (hs' : s' ≠ 0) (hc : 0 < c) (h : cm f l s f' l' s' = up a b c) : cm a b c f l s = up a b c ∧ cm a b c f' l' s' = up a b c := by
  constructor
  · refine lt_ext (cm_lt (by omega)) (up_lt (by omega)) fun y => ?_
    rw [cm_mem, ← up_mem (f := a), ← h, cm_mem]
    exact ⟨fun q => q.1, fun q => ⟨q, q.1⟩⟩
  · refine lt_ext (cm_lt (by omega)) (up_lt (by omega)) fun y => ?_
    rw [cm_mem, ← up_mem (f := a), ← h, cm_mem]
    exact ⟨fun q => q.1, fun q => ⟨q, q.2⟩⟩
/-- the least common multiple as the law finds it -/
theorem lcm_least {s s' : Int} (hs : 0 < s) (hs' : 0 < s') {k : Nat} (hk : 0 < k) (h1 : s' ∣ ((k : Int) * s)) (h2 : ∀ i : Nat, 0 < i → i < k → ¬ s' ∣ ((i : Int) * s)) (y : Int) (y1 : s ∣ y) (y2 : s' ∣ y) : ((k : Int) * s) ∣ y := by
  obtain ⟨z, rfl⟩ := y1
  have hk0 : (k : Int) ≠ 0 := by omega
  have e := Int.emod_add_mul_ediv z (k : Int)
  have r0 := Int.emod_nonneg z hk0
  have r1 := Int.emod_lt_of_pos z (show (0 : Int) < k by omega)
  have hd : s' ∣ ((z % (k : Int)) * s) := by
    have a : s' ∣ ((k : Int) * s * (z / (k : Int))) := Int.dvd_trans h1 ⟨_, rfl⟩
    have b := Int.dvd_sub y2 a
    have e2 : s * z - (k : Int) * s * (z / (k : Int)) = (z % (k : Int)) * s := by
      have : z % (k : Int) = z - (k : Int) * (z / (k : Int)) := by omega
      rw [this, Int.sub_mul, Int.mul_comm s z, Int.mul_assoc, Int.mul_assoc, Int.mul_comm s]
    rw [e2] at b
    exact b
  by_cases q : z % (k : Int) = 0
  · exact ⟨z / (k : Int), by
      have : z = (k : Int) * (z / (k : Int)) := by omega
      rw [Int.mul_comm (k : Int) s, Int.mul_assoc, ← this]⟩
  · exfalso
    refine h2 (z % (k : Int)).toNat (by omega) (by omega) ?_
    rw [show (((z % (k : Int)).toNat : Nat) : Int) = z % (k : Int) by omega]
    exact hd
end TR

/-! AR: plain mathematics of arrays: extents, places, elements. -/
namespace AR
abbrev Bd := Int × Int
def ext (b : Bd) : Int := max 0 (b.2 - b.1 + 1)
theorem ext_nonneg (b : Bd) : 0 ≤ ext b := by unfold ext; omega
def prod : List Int → Int
  | [] => 1
  | x :: r => x * prod r
def exts (bs : List Bd) : List Int := bs.map ext
theorem prod_nonneg : ∀ bs : List Bd, 0 ≤ prod (exts bs)
  | [] => by decide
  | b :: bs => Int.mul_nonneg (ext_nonneg b) (prod_nonneg bs)
/-- the place of an element, the first subscript running fastest -/
def place : List Bd → List Int → Int
  | b :: bs, x :: xs => (x - b.1) + ext b * place bs xs
  | _, _ => 0
def elem : List Bd → Int → List Int
  | [], _ => []
  | b :: bs, p => (b.1 + p.fmod (ext b)) :: elem bs (p.fdiv (ext b))
def inB : List Bd → List Int → Prop
  | [], [] => True
  | b :: bs, x :: xs => b.1 ≤ x ∧ x ≤ b.2 ∧ inB bs xs
  | _, _ => False
theorem inB_len : ∀ {bs : List Bd} {xs : List Int}, inB bs xs → xs.length = bs.length
  | [], [], _ => rfl
  | [], _ :: _, h => h.elim
  | _ :: _, [], h => h.elim
  | b :: bs, x :: xs, h => congrArg Nat.succ (inB_len h.2.2)
theorem ext_in {b : Bd} {x : Int} (h1 : b.1 ≤ x) (h2 : x ≤ b.2) : x - b.1 < ext b := by unfold ext; omega
theorem place_lt : ∀ {bs : List Bd} {xs : List Int}, inB bs xs → 0 ≤ place bs xs ∧ place bs xs < prod (exts bs)
  | [], [], _ => by decide
  | [], _ :: _, h => h.elim
  | _ :: _, [], h => h.elim
  | b :: bs, x :: xs, h => by
    obtain ⟨h1, h2, h3⟩ := h
    obtain ⟨i1, i2⟩ := place_lt h3
    have e := ext_in h1 h2
    have e0 := ext_nonneg b
    have a : 0 ≤ ext b * place bs xs := Int.mul_nonneg e0 i1
    have c : ext b * (place bs xs + 1) ≤ ext b * prod (exts bs) := Int.mul_le_mul_of_nonneg_left (by omega) e0
    rw [Int.mul_add, Int.mul_one] at c
    show 0 ≤ (x - b.1) + ext b * place bs xs ∧ (x - b.1) + ext b * place bs xs < ext b * prod (exts bs)
    omega
theorem elem_place : ∀ {bs : List Bd} {xs : List Int}, inB bs xs → elem bs (place bs xs) = xs
  | [], [], _ => rfl
  | [], _ :: _, h => h.elim
  | _ :: _, [], h => h.elim
  | b :: bs, x :: xs, h => by
    obtain ⟨h1, h2, h3⟩ := h
    have e := ext_in h1 h2
    have ep : 0 < ext b := by omega
    have ih := elem_place h3
    show (b.1 + ((x - b.1) + ext b * place bs xs).fmod (ext b)) :: elem bs (((x - b.1) + ext b * place bs xs).fdiv (ext b)) = x :: xs
    have m1 : ((x - b.1) + ext b * place bs xs).fmod (ext b) = x - b.1 := by
      rw [Int.fmod_eq_emod_of_nonneg _ (by omega), Int.add_mul_emod_self_left, Int.emod_eq_of_lt (by omega) e]
    have m2 : ((x - b.1) + ext b * place bs xs).fdiv (ext b) = place bs xs := by
      rw [Int.fdiv_eq_ediv_of_nonneg _ (by omega), Int.add_mul_ediv_left _ _ (by omega), Int.ediv_eq_zero_of_lt (by omega) e]
      omega
    rw [m1, m2, ih, show b.1 + (x - b.1) = x by omega]
/-- all elements in their order -/
def rng (lo : Int) (n : Nat) : List Int := (List.range n).map fun (i : Nat) => lo + (i : Int)
def all : List Bd → List (List Int)
  | [] => [[]]
  | b :: bs => (all bs).flatMap fun row => (rng b.1 (ext b).toNat).map fun one => one :: row
theorem rng_length (lo : Int) (n : Nat) : (rng lo n).length = n := by simp [rng]
theorem flat_get {α β : Type} {n : Nat} {f : α → List β} (hf : ∀ a, (f a).length = n) : ∀ (l : List α) (k : Nat) (y : β), (l.flatMap f)[k]? = some y → ∃ i j a, j < n ∧ k = j + n * i ∧ l[i]? = some a ∧ (f a)[j]? = some y
  | [], k, y, h => by simp at h
  | a :: l, k, y, h => by
    rw [List.flatMap_cons] at h
    by_cases hk : k < n
    · rw [List.getElem?_append_left (by rw [hf]; exact hk)] at h
      exact ⟨0, k, a, hk, by omega, rfl, h⟩
    · rw [List.getElem?_append_right (by rw [hf]; omega), hf] at h
      obtain ⟨i, j, a', h1, h2, h3, h4⟩ := flat_get hf l (k - n) y h
      exact ⟨i + 1, j, a', h1, by rw [Nat.mul_add]; omega, by simpa using h3, h4⟩
theorem all_get : ∀ (bs : List Bd) (k : Nat) (xs : List Int), (all bs)[k]? = some xs → inB bs xs ∧ place bs xs = (k : Int)
  | [], k, xs, h => by
    have hk : k = 0 := by
      have := (List.getElem?_eq_some_iff.mp h).1
      simp [all] at this
      exact this
    subst hk
    simp [all] at h
    subst h
    exact ⟨trivial, rfl⟩
  | b :: bs, k, xs, h => by
    obtain ⟨i, j, row, h1, h2, h3, h4⟩ := flat_get (n := (ext b).toNat) (fun a => by rw [List.length_map, rng_length]) (all bs) k xs h
    obtain ⟨i1, i2⟩ := all_get bs i row h3
    rw [List.getElem?_map] at h4
    unfold rng at h4
    rw [List.getElem?_map, List.getElem?_range h1] at h4
    simp at h4
    subst h4
    have e0 := ext_nonneg b
    refine ⟨⟨by omega, ?_, i1⟩, ?_⟩
    · have : ext b = max 0 (b.2 - b.1 + 1) := rfl
      omega
    · show (b.1 + (j : Int) - b.1) + ext b * place bs row = (k : Int)
      have hk : (k : Int) = (j : Int) + ((ext b).toNat : Int) * (i : Int) := by rw [h2]; simp
      rw [i2, hk, show (((ext b).toNat : Nat) : Int) = ext b by omega]
      omega
/-- the places by strides -/
def strd : Int → List Int → List Int
  | _, [] => []
  | a, e :: r => a :: strd (a * e) r
def ssum : Int → List Bd → List Int → Int
  | a, b :: bs, x :: xs => (x - b.1) * a + ssum (a * ext b) bs xs
  | _, _, _ => 0
theorem ssum_eq : ∀ (a : Int) (bs : List Bd) (xs : List Int), ssum a bs xs = a * place bs xs
  | a, [], xs => by cases xs <;> simp [ssum, place]
  | a, b :: bs, [] => by simp [ssum, place]
  | a, b :: bs, x :: xs => by
    show (x - b.1) * a + ssum (a * ext b) bs xs = a * ((x - b.1) + ext b * place bs xs)
    rw [ssum_eq (a * ext b) bs xs, Int.mul_add, Int.mul_comm (x - b.1) a, Int.mul_assoc]
/-- the last element -/
theorem last_in : ∀ {bs : List Bd}, (∀ b ∈ bs, b.1 ≤ b.2) → inB bs (bs.map (·.2)) ∧ place bs (bs.map (·.2)) = prod (exts bs) - 1
  | [], _ => ⟨trivial, rfl⟩
  | b :: bs, h => by
    obtain ⟨i1, i2⟩ := last_in (bs := bs) fun c hc => h c (List.mem_cons_of_mem _ hc)
    have hb := h b List.mem_cons_self
    refine ⟨⟨hb, Int.le_refl _, i1⟩, ?_⟩
    show (b.2 - b.1) + ext b * place bs (bs.map (·.2)) = ext b * prod (exts bs) - 1
    have e : ext b = b.2 - b.1 + 1 := by unfold ext; omega
    rw [i2, Int.mul_sub, Int.mul_one]
    omega
end AR

/-! SE: plain mathematics of sections: parts, subscripts, elements, stretches. -/
namespace SE
open AR (Bd ext exts prod place inB)
inductive Part where
  | num (x : Int) | tri (f l s : Int) | lst (xs : List Int)
def many : Part → Int
  | .num _ => 1
  | .tri f l s => TR.sz f l s
  | .lst xs => xs.length
def subs : Part → List Int
  | .num x => [x]
  | .tri f l s => TR.els f s (TR.sz f l s).toNat
  | .lst xs => xs
theorem subs_length : ∀ p : Part, ((subs p).length : Int) = many p
  | .num _ => rfl
  | .tri f l s => by
    have := TR.sz_nonneg f l s
    simp only [subs, many, TR.els_length]
    omega
  | .lst _ => rfl
theorem many_nonneg (p : Part) : 0 ≤ many p := by rw [← subs_length]; omega
/-- the subscript with a number -/
def at_ : Part → Int → Int
  | .num x, _ => x
  | .tri f _ s, i => f + i * s
  | .lst xs, i => xs.getD i.toNat 0
theorem subs_at : ∀ {p : Part} {j : Nat}, j < (subs p).length → (subs p)[j]? = some (at_ p (j : Int))
  | .num x, 0, _ => rfl
  | .num x, j + 1, h => by simp [subs] at h
  | .tri f l s, j, h => by
    have h' : j < (TR.sz f l s).toNat := by simpa [subs, TR.els_length] using h
    exact TR.els_get h'
  | .lst xs, j, h => by
    have h' : j < xs.length := h
    simp [subs, at_, List.getD, List.getElem?_eq_getElem h']
theorem at_mem {p : Part} {i : Int} (h0 : 0 ≤ i) (h1 : i < many p) : at_ p i ∈ subs p := by
  have hl := subs_length p
  have := subs_at (p := p) (j := i.toNat) (by omega)
  rw [show ((i.toNat : Nat) : Int) = i by omega] at this
  exact List.mem_of_getElem? this
/-- the elements, the first part running fastest -/
def els : List Part → List (List Int)
  | [] => [[]]
  | p :: ps => (els ps).flatMap fun row => (subs p).map fun x => x :: row
def cnt (ps : List Part) : Int := prod (ps.map many)
theorem sumC (n : Nat) : ∀ k : Nat, (List.replicate k n).sum = k * n
  | 0 => by simp
  | k + 1 => by rw [List.replicate_succ, List.sum_cons, sumC n k, Nat.add_mul, Nat.one_mul]; omega
theorem els_length : ∀ ps : List Part, ((els ps).length : Int) = cnt ps
  | [] => rfl
  | p :: ps => by
    have e : (els (p :: ps)).length = (els ps).length * (subs p).length := by
      simp [els, List.length_flatMap, List.map_const', sumC]
    rw [e]
    show (((els ps).length * (subs p).length : Nat) : Int) = many p * prod (ps.map many)
    rw [Int.natCast_mul, els_length ps, subs_length, Int.mul_comm]
    rfl
theorem els_rows : ∀ {ps : List Part} {r : List Int}, r ∈ els ps → r.length = ps.length
  | [], r, h => by simp [els] at h; subst h; rfl
  | p :: ps, r, h => by
    simp only [els, List.mem_flatMap, List.mem_map] at h
    obtain ⟨row, h1, x, h2, rfl⟩ := h
    simp [els_rows h1]
/-- all subscripts lie within bounds -/
def inS : List Bd → List Part → Prop
  | [], [] => True
  | b :: bs, p :: ps => (∀ x ∈ subs p, b.1 ≤ x ∧ x ≤ b.2) ∧ inS bs ps
  | _, _ => False
theorem inS_len : ∀ {bs : List Bd} {ps : List Part}, inS bs ps → ps.length = bs.length
  | [], [], _ => rfl
  | [], _ :: _, h => h.elim
  | _ :: _, [], h => h.elim
  | _ :: _, _ :: _, h => congrArg Nat.succ (inS_len h.2)
theorem els_in : ∀ {bs : List Bd} {ps : List Part} {r : List Int}, inS bs ps → r ∈ els ps → inB bs r
  | [], [], r, _, h => by simp [els] at h; subst h; trivial
  | [], _ :: _, _, h, _ => h.elim
  | _ :: _, [], _, h, _ => h.elim
  | b :: bs, p :: ps, r, hi, h => by
    simp only [els, List.mem_flatMap, List.mem_map] at h
    obtain ⟨row, h1, x, h2, rfl⟩ := h
    exact ⟨(hi.1 x h2).1, (hi.1 x h2).2, els_in hi.2 h1⟩
theorem cnt_nonneg : ∀ ps : List Part, 0 ≤ cnt ps
  | [] => by decide
  | p :: ps => Int.mul_nonneg (many_nonneg p) (cnt_nonneg ps)
/-! ### stretches -/
/-- how many neighbours of a list are no neighbours, once what is behind is taken off -/
def br (back : Int) : List Int → Int
  | [] => 0
  | [_] => 0
  | x :: y :: r => (if y - x - back ≠ 1 then 1 else 0) + br back (y :: r)
/-- the places of a section by a first stride -/
def pls (a : Int) : List Bd → List Part → List Int
  | b :: bs, p :: ps => (pls (a * ext b) bs ps).flatMap fun r => (subs p).map fun x => (x - b.1) * a + r
  | _, _ => [0]
theorem els_places : ∀ (a : Int) (bs : List Bd) (ps : List Part), ps.length = bs.length → pls a bs ps = (els ps).map (AR.ssum a bs)
  | a, [], [], _ => by simp [pls, els, AR.ssum]
  | _, [], _ :: _, h => by simp at h
  | _, _ :: _, [], h => by simp at h
  | a, b :: bs, p :: ps, h => by
    have ih := els_places (a * ext b) bs ps (by simpa using h)
    show (pls (a * ext b) bs ps).flatMap (fun r => (subs p).map fun x => (x - b.1) * a + r) = ((els ps).flatMap fun row => (subs p).map fun x => x :: row).map (AR.ssum a (b :: bs))
    rw [ih, List.flatMap_map, List.map_flatMap]
    congr 1
    funext row
    rw [List.map_map]
    rfl
/-- breaks within a part: steps of a part, scaled -/
def gaps (a back : Int) (xs : List Int) : Int := br back (xs.map fun x => x * a)
theorem br_shift (back c : Int) : ∀ xs : List Int, br back (xs.map fun x => c + x) = br back xs
  | [] => rfl
  | [_] => rfl
  | x :: y :: r => by
    have ih := br_shift back c (y :: r)
    simp only [List.map_cons] at ih ⊢
    simp only [br, ih, show c + y - (c + x) - back = y - x - back by omega]
theorem br_append (back : Int) : ∀ (xs : List Int) (x y : Int) (ys : List Int), br back (xs ++ [x] ++ (y :: ys)) = br back (xs ++ [x]) + (if y - x - back ≠ 1 then 1 else 0) + br back (y :: ys)
  | [], x, y, ys => by simp [br]
  | [z], x, y, ys => by simp [br]; omega
  | z :: w :: r, x, y, ys => by
    have ih := br_append back (w :: r) x y ys
    simp only [List.cons_append, br] at ih ⊢
    rw [ih]
    omega
/-- rows one behind the other -/
theorem br_rows (back : Int) (xs : List Int) (x0 xl : Int) (h0 : xs.head? = some x0) (hl : xs.getLast? = some xl) : ∀ (rs : List Int), rs ≠ [] →
    br back (rs.flatMap fun r => xs.map fun x => x + r) = br back xs * (rs.length : Int) + br (back + (xl - x0)) rs
  | [], h => absurd rfl h
  | [r], _ => by
    have e := br_shift back r xs
    have e2 : (xs.map fun x => x + r) = xs.map fun x => r + x := List.map_congr_left fun x _ => Int.add_comm x r
    simp [br, e2, e]
  | r :: r' :: rest, _ => by
    have ih := br_rows back xs x0 xl h0 hl (r' :: rest) (by simp)
    have e := br_shift back r xs
    have e2 : (xs.map fun x => x + r) = xs.map fun x => r + x := List.map_congr_left fun x _ => Int.add_comm x r
    rw [List.flatMap_cons]
    -- the last of the first row, the first of the next one
    have hx : xs ≠ [] := by intro z; rw [z] at h0; cases h0
    obtain ⟨ini, last, rfl⟩ : ∃ ini last, xs = ini ++ [last] := ⟨xs.dropLast, xs.getLast hx, (List.dropLast_concat_getLast hx).symm⟩
    obtain rfl : last = xl := by simpa using hl
    have hne : ((r' :: rest).flatMap fun r => (ini ++ [last]).map fun x => x + r) ≠ [] := by simp
    obtain ⟨y, ys, hy⟩ := List.exists_cons_of_ne_nil hne
    have hy0 : y = x0 + r' := by
      have : ((r' :: rest).flatMap fun r => (ini ++ [last]).map fun x => x + r).head? = some (x0 + r') := by
        rw [List.flatMap_cons, List.head?_append, List.head?_map, h0]
        rfl
      rw [hy] at this
      simpa using this
    rw [hy] at ih ⊢
    rw [List.map_append, List.map_singleton, br_append, ih]
    have e3 : br back ((ini.map fun x => x + r) ++ [last + r]) = br back (ini ++ [last]) := by
      rw [← e, ← e2, List.map_append, List.map_singleton]
    rw [e3, hy0]
    show _ = br back (ini ++ [last]) * ((rest.length + 1 + 1 : Nat) : Int) + ((if r' - r - (back + (last - x0)) ≠ 1 then 1 else 0) + br (back + (last - x0)) (r' :: rest))
    rw [show x0 + r' - (last + r) - back = r' - r - (back + (last - x0)) by omega]
    simp only [List.length_cons]
    rw [Int.natCast_add (rest.length + 1) 1, Int.mul_add]
    simp
    omega
/-- what the program adds up -/
def gsum (gp : Part → Int → Int → Int) : Int → Int → List Bd → List Part → Int
  | a, back, b :: bs, p :: ps => gp p a back * cnt ps + gsum gp (a * ext b) (back + (at_ p (many p - 1) - at_ p 0) * a) bs ps
  | _, _, _, _ => 0
theorem subs_head {p : Part} (h : 0 < many p) : (subs p).head? = some (at_ p 0) := by
  have hl := subs_length p
  have := subs_at (p := p) (j := 0) (by omega)
  rw [List.head?_eq_getElem?]
  exact this
theorem subs_last {p : Part} (h : 0 < many p) : (subs p).getLast? = some (at_ p (many p - 1)) := by
  have hl := subs_length p
  have := subs_at (p := p) (j := (subs p).length - 1) (by omega)
  rw [List.getLast?_eq_getElem?, this]
  congr 2
  omega
theorem br_pls : ∀ (a back : Int) (bs : List Bd) (ps : List Part), ps.length = bs.length → (∀ p ∈ ps, 0 < many p) → br back (pls a bs ps) = gsum (fun p a back => gaps a back (subs p)) a back bs ps
  | a, back, [], [], _, _ => rfl
  | _, _, [], _ :: _, h, _ => by simp at h
  | _, _, _ :: _, [], h, _ => by simp at h
  | a, back, b :: bs, p :: ps, h, hp => by
    have hp0 := hp p List.mem_cons_self
    have ih := br_pls (a * ext b) (back + (at_ p (many p - 1) - at_ p 0) * a) bs ps (by simpa using h) fun q hq => hp q (List.mem_cons_of_mem _ hq)
    have hlen : ((pls (a * ext b) bs ps).length : Int) = cnt ps := by rw [els_places _ _ _ (by simpa using h), List.length_map, els_length]
    have hc : 0 < cnt ps := by
      have : ∀ (qs : List Part), (∀ q ∈ qs, 0 < many q) → 0 < cnt qs := by
        intro qs
        induction qs with
        | nil => intro _; decide
        | cons q r ih => intro hq; exact Int.mul_pos (hq q List.mem_cons_self) (ih fun z hz => hq z (List.mem_cons_of_mem _ hz))
      exact this ps fun q hq => hp q (List.mem_cons_of_mem _ hq)
    have hne : pls (a * ext b) bs ps ≠ [] := by
      intro z
      rw [z] at hlen
      simp at hlen
      omega
    have e1 : pls a (b :: bs) (p :: ps) = (pls (a * ext b) bs ps).flatMap fun r => ((subs p).map fun x => (x - b.1) * a).map fun x => x + r := by
      show (pls (a * ext b) bs ps).flatMap _ = _
      congr 1
      funext r
      rw [List.map_map]
      rfl
    rw [e1, br_rows back ((subs p).map fun x => (x - b.1) * a) ((at_ p 0 - b.1) * a) ((at_ p (many p - 1) - b.1) * a) (by rw [List.head?_map, subs_head hp0]; rfl) (by rw [List.getLast?_map, subs_last hp0]; rfl) _ hne, hlen]
    have e2 : (subs p).map (fun x => (x - b.1) * a) = ((subs p).map fun x => x * a).map fun x => -(b.1 * a) + x := by
      rw [List.map_map]
      apply List.map_congr_left
      intro x _
      show (x - b.1) * a = -(b.1 * a) + x * a
      rw [Int.sub_mul]
      omega
    rw [e2, br_shift]
    have e3 : (at_ p (many p - 1) - b.1) * a - (at_ p 0 - b.1) * a = (at_ p (many p - 1) - at_ p 0) * a := by
      rw [← Int.sub_mul]
      congr 1
      omega
    rw [e3, ih]
    rfl
/-- the gaps of a part, as the program tells them -/
def gapP : Part → Int → Int → Int
  | .num _, _, _ => 0
  | .tri f l s, a, back => (TR.sz f l s - 1) * (if 1 < TR.sz f l s ∧ s * a - back ≠ 1 then 1 else 0)
  | .lst xs, a, back => gaps a back xs
theorem br_els (f s a back : Int) : ∀ n : Nat, br back ((TR.els f s (n + 1)).map fun x => x * a) = (n : Int) * (if s * a - back ≠ 1 then 1 else 0)
  | 0 => by simp [TR.els, br]
  | n + 1 => by
    have ih := br_els f s a back n
    rw [TR.els_succ, List.map_append, List.map_singleton]
    have hn : (TR.els f s (n + 1)).map (fun x => x * a) = ((TR.els f s n).map fun x => x * a) ++ [(f + (n : Int) * s) * a] := by rw [TR.els_succ, List.map_append, List.map_singleton]
    rw [hn] at ih ⊢
    have := br_append back ((TR.els f s n).map fun x => x * a) ((f + (n : Int) * s) * a) ((f + ((n + 1 : Nat) : Int) * s) * a) []
    rw [this, ih]
    have e : (f + ((n + 1 : Nat) : Int) * s) * a - (f + (n : Int) * s) * a - back = s * a - back := by
      rw [← Int.sub_mul]
      have : f + ((n + 1 : Nat) : Int) * s - (f + (n : Int) * s) = s := by
        rw [Int.natCast_add, Int.add_mul]
        simp
        omega
      rw [this]
    rw [e]
    simp only [br]
    rw [Int.natCast_add, Int.add_mul]
    simp
theorem gapP_eq : ∀ (p : Part) (a back : Int), gapP p a back = gaps a back (subs p)
  | .num x, a, back => by simp [gapP, gaps, subs, br]
  | .lst xs, a, back => rfl
  | .tri f l s, a, back => by
    have h0 := TR.sz_nonneg f l s
    show (TR.sz f l s - 1) * _ = br back ((TR.els f s (TR.sz f l s).toNat).map fun x => x * a)
    rcases Int.lt_or_le (TR.sz f l s) 1 with h | h
    · have e : TR.sz f l s = 0 := by omega
      rw [e]
      simp [TR.els, br]
    · obtain ⟨n, hn⟩ : ∃ n : Nat, TR.sz f l s = (n : Int) + 1 := ⟨(TR.sz f l s - 1).toNat, by omega⟩
      rw [hn, show ((n : Int) + 1).toNat = n + 1 by omega, br_els]
      by_cases hz : n = 0
      · subst hz; simp
      · rw [show (n : Int) + 1 - 1 = n by omega]
        congr 1
        simp [show 1 < (n : Int) + 1 by omega]
/-- into how many stretches a section falls -/
def strF (bs : List Bd) (ps : List Part) : Int := if 0 ∈ ps.map many then 0 else 1 + gsum gapP 1 0 bs ps
/-- .. counted -/
def strL (xs : List Int) : Int := match xs with
  | [] => 0
  | x :: r => 1 + br 0 (x :: r)
theorem gsum_congr {g g' : Part → Int → Int → Int} (h : ∀ p a b, g p a b = g' p a b) : ∀ (a back : Int) (bs : List Bd) (ps : List Part), gsum g a back bs ps = gsum g' a back bs ps := by
  have : g = g' := by funext p a b; exact h p a b
  intros; rw [this]
theorem strF_eq {bs : List Bd} {ps : List Part} (hl : ps.length = bs.length) (h : 0 ∉ ps.map many) : strF bs ps = strL ((els ps).map (place bs)) := by
  have hp : ∀ p ∈ ps, 0 < many p := fun p hp => by
    have h0 := many_nonneg p
    have : many p ≠ 0 := fun z => h (List.mem_map.mpr ⟨p, hp, z⟩)
    omega
  have e1 : (els ps).map (place bs) = pls 1 bs ps := by
    rw [els_places 1 bs ps hl]
    apply List.map_congr_left
    intro r _
    rw [AR.ssum_eq, Int.one_mul]
  have e2 := br_pls 1 0 bs ps hl hp
  have hne : pls 1 bs ps ≠ [] := by
    intro z
    have hlen : ((pls 1 bs ps).length : Int) = cnt ps := by rw [els_places _ _ _ hl, List.length_map, els_length]
    have : ∀ (qs : List Part), (∀ q ∈ qs, 0 < many q) → 0 < cnt qs := by
      intro qs
      induction qs with
      | nil => intro _; decide
      | cons q r ih => intro hq; exact Int.mul_pos (hq q List.mem_cons_self) (ih fun z hz => hq z (List.mem_cons_of_mem _ hz))
    have := this ps hp
    rw [z] at hlen
    simp at hlen
    omega
  rw [e1]
  unfold strF
  rw [if_neg h, gsum_congr gapP_eq, ← e2]
  cases hq : pls 1 bs ps with
  | nil => exact absurd hq hne
  | cons x r => rfl
end SE

/-! SE2: sections in the same order. -/
namespace SE
open AR (Bd ext exts prod place inB)
theorem flat_at {α β : Type} {n : Nat} {f : α → List β} (hf : ∀ a, (f a).length = n) : ∀ (l : List α) (i j : Nat) (a : α), j < n → l[i]? = some a → (l.flatMap f)[j + n * i]? = (f a)[j]?
  | [], i, j, a, _, h => by simp at h
  | b :: l, 0, j, a, hj, h => by
    simp at h
    subst h
    rw [List.flatMap_cons, Nat.mul_zero, Nat.add_zero, List.getElem?_append_left (by rw [hf]; exact hj)]
  | b :: l, i + 1, j, a, hj, h => by
    rw [List.flatMap_cons, List.getElem?_append_right (by rw [hf, Nat.mul_add]; omega), hf]
    have := flat_at hf l i j a hj (by simpa using h)
    rw [show j + n * (i + 1) - n = j + n * i by rw [Nat.mul_add]; omega]
    exact this
/-- the element with a number -/
def nth : List Part → Int → List Int
  | [], _ => []
  | p :: ps, i => at_ p (i.fmod (many p)) :: nth ps (i.fdiv (many p))
theorem els_nth : ∀ (ps : List Part) (i : Nat), (i : Int) < cnt ps → (els ps)[i]? = some (nth ps (i : Int))
  | [], i, h => by
    have : i = 0 := by simp [cnt, prod] at h; omega
    subst this
    rfl
  | p :: ps, i, h => by
    have hm := many_nonneg p
    have hc : (i : Int) < many p * cnt ps := h
    have hmp : 0 < many p := by
      rcases Int.lt_or_le 0 (many p) with q | q
      · exact q
      · have : many p = 0 := by omega
        rw [this, Int.zero_mul] at hc
        omega
    have sl := subs_length p
    have hn : 0 < (subs p).length := by omega
    have e1 : (i : Int).fmod (many p) = ((i % (subs p).length : Nat) : Int) := by
      rw [Int.fmod_eq_emod_of_nonneg _ hm, ← sl]
      rfl
    have e2 : (i : Int).fdiv (many p) = ((i / (subs p).length : Nat) : Int) := by
      rw [Int.fdiv_eq_ediv_of_nonneg _ hm, ← sl]
      rfl
    have hlt : ((i / (subs p).length : Nat) : Int) < cnt ps := by
      have : i < (subs p).length * (cnt ps).toNat := by
        have c0 := cnt_nonneg ps
        have : ((i : Nat) : Int) < (((subs p).length * (cnt ps).toNat : Nat) : Int) := by
          rw [Int.natCast_mul, sl, show (((cnt ps).toNat : Nat) : Int) = cnt ps by omega]
          exact hc
        omega
      have q := Nat.div_lt_of_lt_mul this
      have c0 := cnt_nonneg ps
      exact Int.lt_of_lt_of_le (Int.ofNat_lt.mpr q) (by omega)
    have ih := els_nth ps (i / (subs p).length) hlt
    have hj : i % (subs p).length < (subs p).length := Nat.mod_lt _ hn
    have fa := flat_at (n := (subs p).length) (f := fun row => (subs p).map fun x => x :: row) (fun a => by simp) (els ps) (i / (subs p).length) (i % (subs p).length) _ hj ih
    have ei : i % (subs p).length + (subs p).length * (i / (subs p).length) = i := Nat.mod_add_div ..
    rw [ei] at fa
    show ((els ps).flatMap fun row => (subs p).map fun x => x :: row)[i]? = some (at_ p ((i : Int).fmod (many p)) :: nth ps ((i : Int).fdiv (many p)))
    rw [fa, List.getElem?_map, subs_at hj, e1, e2]
    rfl
theorem els_range (ps : List Part) : els ps = (List.range (cnt ps).toNat).map fun (i : Nat) => nth ps (i : Int) := by
  have hl := els_length ps
  have c0 := cnt_nonneg ps
  apply List.ext_getElem?
  intro i
  by_cases h : i < (cnt ps).toNat
  · rw [els_nth ps i (by omega), List.getElem?_map, List.getElem?_range h]
    rfl
  · rw [List.getElem?_eq_none (by omega), List.getElem?_eq_none (by simp; omega)]
/-! ### no number twice -/
def once : Part → Prop
  | .lst xs => xs.Nodup
  | _ => True
theorem els_inj' {f s : Int} (hs : s ≠ 0) (n : Nat) : (TR.els f s n).Nodup := by
  unfold TR.els
  rw [List.Nodup, List.pairwise_map]
  refine List.Pairwise.imp ?_ List.nodup_range
  intro a b h z
  have : (a : Int) * s = (b : Int) * s := by omega
  have := Int.eq_of_mul_eq_mul_right hs this
  omega
def stepOk : Part → Prop
  | .tri _ _ s => s ≠ 0
  | _ => True
theorem once_nodup : ∀ {p : Part}, stepOk p → (once p ↔ (subs p).Nodup)
  | .num x, _ => by simp [once, subs]
  | .tri f l s, h => by simp [once, subs]; exact els_inj' h _
  | .lst xs, _ => Iff.rfl
theorem els_nodup : ∀ {ps : List Part}, (∀ p ∈ ps, (subs p).Nodup) → (els ps).Nodup
  | [], _ => by simp [els]
  | p :: ps, h => by
    have ih := els_nodup (ps := ps) fun q hq => h q (List.mem_cons_of_mem _ hq)
    have hp := h p List.mem_cons_self
    show ((els ps).flatMap fun row => (subs p).map fun x => x :: row).Nodup
    rw [List.Nodup, List.pairwise_flatMap]
    refine ⟨fun r _ => ?_, ?_⟩
    · rw [List.pairwise_map]
      refine List.Pairwise.imp ?_ hp
      intro a b hab z
      exact hab (List.cons.inj z).1
    · refine List.Pairwise.imp ?_ ih
      intro r r' hrr x hx y hy z
      obtain ⟨a, _, rfl⟩ := List.mem_map.mp hx
      obtain ⟨b, _, rfl⟩ := List.mem_map.mp hy
      exact hrr (List.cons.inj z).2
theorem els_ne : ∀ {ps : List Part}, (∀ p ∈ ps, 0 < many p) → els ps ≠ []
  | [], _ => by simp [els]
  | p :: ps, h => by
    have ih := els_ne (ps := ps) fun q hq => h q (List.mem_cons_of_mem _ hq)
    have hp := h p List.mem_cons_self
    have sl := subs_length p
    intro z
    have hl := els_length (p :: ps)
    rw [z] at hl
    have hl2 := els_length ps
    have : 0 < (els ps).length := List.length_pos_iff.mpr ih
    have hc : cnt (p :: ps) = many p * cnt ps := rfl
    have : 0 < cnt (p :: ps) := by rw [hc]; exact Int.mul_pos hp (by omega)
    simp at hl
    omega
theorem subs_nodup : ∀ {ps : List Part}, (∀ p ∈ ps, 0 < many p) → (els ps).Nodup → ∀ p ∈ ps, (subs p).Nodup
  | [], _, _, p, hp => by simp at hp
  | q :: ps, h, hn, p, hp => by
    have hn' : ((els ps).flatMap fun row => (subs q).map fun x => x :: row).Nodup := hn
    rw [List.Nodup, List.pairwise_flatMap] at hn'
    obtain ⟨h1, h2⟩ := hn'
    have hne := els_ne (ps := ps) fun r hr => h r (List.mem_cons_of_mem _ hr)
    have hq := h q List.mem_cons_self
    have sl := subs_length q
    rcases List.mem_cons.mp hp with rfl | hp
    · obtain ⟨r, rest, hr⟩ := List.exists_cons_of_ne_nil hne
      have := h1 r (by rw [hr]; exact List.mem_cons_self)
      rw [List.pairwise_map] at this
      exact List.Pairwise.imp (fun hab z => hab (by rw [z])) this
    · refine subs_nodup (fun r hr => h r (List.mem_cons_of_mem _ hr)) ?_ p hp
      refine List.Pairwise.imp ?_ h2
      intro r r' hrr z
      subst z
      obtain ⟨x, hx⟩ : ∃ x, x ∈ subs q := by
        cases hs : subs q with
        | nil => rw [hs] at sl; simp at sl; omega
        | cons a b => exact ⟨a, by simp⟩
      exact hrr (x :: r) (List.mem_map.mpr ⟨x, hx, rfl⟩) (x :: r) (List.mem_map.mpr ⟨x, hx, rfl⟩) rfl
/-! ### the same sequence -/
theorem cntP_none (t : List Int) (a : List Int) : ∀ {R : List (List Int)}, t ∉ R → (R.flatMap fun r => a.map fun x => x :: r).countP (fun e => decide (e.tail = t)) = 0
  | [], _ => by simp
  | r :: R, h => by
    have h1 : ¬ r = t := fun z => h (by rw [z]; exact List.mem_cons_self)
    have ih := cntP_none t a (R := R) fun z => h (List.mem_cons_of_mem _ z)
    rw [List.flatMap_cons, List.countP_append, ih, List.countP_map]
    simp [Function.comp_def, h1]
theorem cntP_one (t : List Int) (a : List Int) {R : List (List Int)} (h : t ∉ R) : ((t :: R).flatMap fun r => a.map fun x => x :: r).countP (fun e => decide (e.tail = t)) = a.length := by
  rw [List.flatMap_cons, List.countP_append, cntP_none t a h, List.countP_map]
  simp [Function.comp_def]
theorem flat_same {a b : List Int} (ha : a ≠ []) (hb : b ≠ []) : ∀ {R T : List (List Int)}, R.Nodup → T.Nodup → R ≠ [] → (R.flatMap fun r => a.map fun x => x :: r) = (T.flatMap fun r => b.map fun x => x :: r) → a = b ∧ R = T
  | [], _, _, _, h, _ => absurd rfl h
  | r :: R, [], _, _, _, h => by
    obtain ⟨x, a', rfl⟩ := List.exists_cons_of_ne_nil ha
    simp at h
  | r :: R, t :: T, hR, hT, _, h => by
    obtain ⟨hr, hR'⟩ := List.nodup_cons.mp hR
    obtain ⟨ht, hT'⟩ := List.nodup_cons.mp hT
    have e0 : r = t := by
      obtain ⟨x, a', rfl⟩ := List.exists_cons_of_ne_nil ha
      obtain ⟨y, b', rfl⟩ := List.exists_cons_of_ne_nil hb
      simp at h
      exact h.1.2
    subst e0
    have hl : a.length = b.length := by
      rw [← cntP_one r a hr, h, cntP_one r b ht]
    rw [List.flatMap_cons, List.flatMap_cons] at h
    obtain ⟨h1, h2⟩ := List.append_inj h (by simp [hl])
    have hab : a = b := by
      have : (a.map fun x => x :: r).map List.head? = (b.map fun x => x :: r).map List.head? := by rw [h1]
      simp [List.map_map, Function.comp_def] at this
      exact (List.map_inj_right fun _ _ z => Option.some.inj z).mp this
    subst hab
    refine ⟨rfl, ?_⟩
    by_cases hR0 : R = []
    · subst hR0
      obtain ⟨x, a', rfl⟩ := List.exists_cons_of_ne_nil ha
      cases T with
      | nil => rfl
      | cons t' T' => simp at h2
    · exact congrArg _ (flat_same ha ha hR' hT' hR0 h2).2
theorem els_same : ∀ {ps qs : List Part}, ps.length = qs.length → (∀ p ∈ ps, 0 < many p ∧ (subs p).Nodup) → (∀ q ∈ qs, 0 < many q ∧ (subs q).Nodup) → (els ps = els qs ↔ ps.map subs = qs.map subs)
  | [], [], _, _, _ => by simp
  | [], _ :: _, h, _, _ => by simp at h
  | _ :: _, [], h, _, _ => by simp at h
  | p :: ps, q :: qs, hl, hp, hq => by
    have ih := els_same (ps := ps) (qs := qs) (by simpa using hl) (fun r hr => hp r (List.mem_cons_of_mem _ hr)) (fun r hr => hq r (List.mem_cons_of_mem _ hr))
    have sp := subs_length p
    have sq := subs_length q
    obtain ⟨p1, _⟩ := hp p List.mem_cons_self
    obtain ⟨q1, _⟩ := hq q List.mem_cons_self
    constructor
    · intro h
      obtain ⟨h1, h2⟩ := flat_same (a := subs p) (b := subs q) (by intro z; rw [z] at sp; simp at sp; omega) (by intro z; rw [z] at sq; simp at sq; omega)
        (els_nodup fun r hr => (hp r (List.mem_cons_of_mem _ hr)).2) (els_nodup fun r hr => (hq r (List.mem_cons_of_mem _ hr)).2) (els_ne fun r hr => (hp r (List.mem_cons_of_mem _ hr)).1) h
      rw [List.map_cons, List.map_cons, h1, ih.mp h2]
    · intro h
      rw [List.map_cons, List.map_cons] at h
      obtain ⟨h1, h2⟩ := List.cons.inj h
      show ((els ps).flatMap fun row => (subs p).map fun x => x :: row) = ((els qs).flatMap fun row => (subs q).map fun x => x :: row)
      rw [h1, ih.mpr h2]
end SE

namespace G
open PySem PySem.Spec PyProof.Rows L2 PL
def den__law_source : DS := (dSeq (dSet 2 (d2 addV (d2 ixV (d2 addV (dVar 0) (dA mkLst (dCons (dC (.int 0)) dNil))) (dC (.int 0))) (d2 mulV (dC (.int 7919)) (dVar 1)))) (dSeq (dIfS (dB (d2 ltV (dVar 1) (dA lenV (dCons (dVar 0) dNil)))) (dSet 2 (d2 ixV (dVar 0) (dVar 1))) dNx) (dRet (dA mkOwn (dCons (d2 mulV (dVar 2) (dA intV (dCons (d2 geV (dVar 2) (d2 powV (dC (.int 10)) (dC (.int 18)))) dNil))) (dCons (dVar 2) (dCons (dC (.int 0)) dNil)))))))
def F__law_source : List SV → PL.P SV := fnRun 3 exitO den__law_source
def den__law_mix : DS := (dSeq (dSet 2 (d2 addV (d2 addV (d2 addV (d2 modV (dA intV (dCons (dVar 0) dNil)) (dC (.int 2147483629))) (d2 mulV (dC (.int 52391)) (dVar 1))) (d2 modV (dA intV (dCons (d2 fdivV (dVar 0) (dC (.int 2147483629))) dNil)) (dC (.int 1000003)))) (dC (.int 1)))) (dSeq (dSet 2 (d2 modV (dA intV (dCons (d2 mulV (dVar 2) (dC (.int 48271))) dNil)) (dC (.int 2147483629)))) (dSeq (dSet 2 (d2 modV (dA intV (dCons (d2 mulV (dVar 2) (d2 addV (d2 addV (d2 fdivV (dVar 2) (dC (.int 1021))) (dC (.int 65539))) (dVar 1))) dNil)) (dC (.int 2147483587)))) (dRet (d2 modV (dA intV (dCons (d2 mulV (dVar 2) (d2 addV (d2 fdivV (dVar 2) (dC (.int 2011))) (dC (.int 40014)))) dNil)) (dC (.int 2147483563)))))))
def F__law_mix : List SV → PL.P SV := fnRun 3 exitV den__law_mix
def den__law_draw : DS := (dSeq (dIfS (dB (d2 gtV (d2 ixV (dVar 0) (dC (.int 0))) (dC (.int 0)))) (dSeq (dSet 2 (d2 modV (dA intV (dCons (d2 ixV (dVar 0) (dC (.int 0))) dNil)) (dVar 1))) (dSeq (dSetIx (dVar 0) (dC (.int 0)) (d2 fdivV (d2 ixV (dVar 0) (dC (.int 0))) (dVar 1))) (dRet (dVar 2)))) dNx) (dSeq (dSetIx (dVar 0) (dC (.int 2)) (d2 addV (d2 ixV (dVar 0) (dC (.int 2))) (dC (.int 1)))) (dRet (d2 modV (dA intV (dCons (dA (chk 2 F__law_mix) (dCons (d2 ixV (dVar 0) (dC (.int 1))) (dCons (d2 ixV (dVar 0) (dC (.int 2))) dNil))) dNil)) (dVar 1)))))
def F__law_draw : List SV → PL.P SV := fnRun 3 exitV den__law_draw
def den__law_pick : DS := (dRet (d2 ixV (dVar 1) (dA (chk 2 F__law_draw) (dCons (dVar 0) (dCons (dA lenV (dCons (dVar 1) dNil)) dNil)))))
def F__law_pick : List SV → PL.P SV := fnRun 2 exitV den__law_pick
def ce1__law_far_part : En → PL.P SV := (d2 addV (dVar 1) (dA (chk 2 F__law_draw) (dCons (dVar 0) (dCons (d2 addV (d2 subV (dVar 2) (dVar 1)) (dC (.int 1))) dNil))))
def ce2__law_far_part : En → PL.P SV := (d2 addV (d2 ixV (dVar 5) (dC (.int 0))) (d2 mulV (dVar 3) (dA (chk 2 F__law_draw) (dCons (dVar 0) (dCons (dC (.int 9)) dNil)))))
def den__law_far_part : DS := (dSeq (dParT [4, 5] (dCons (dA (chk 2 F__law_draw) (dCons (dVar 0) (dCons (dC (.int 7)) dNil))) (dCons (dA (sortedV false) (dCons (dLc [7] (dAI rng1V (dCons (dC (.int 2)) dNil)) (gN 7) dYes ce1__law_far_part) dNil)) dNil))) (dSeq (dIfS (dB (d2 eqV (dVar 4) (dC (.int 0)))) (dRet (d2 ixV (dVar 5) (dC (.int 0)))) dNx) (dSeq (dIfS (dB (d2 eqV (dVar 4) (dC (.int 1)))) (dRet (d2 addV (dLc [7] (dAI rng1V (dCons (dA (chk 2 F__law_draw) (dCons (dVar 0) (dCons (dC (.int 4)) dNil))) dNil)) (gN 7) dYes ce2__law_far_part) (dVar 5))) dNx) (dSeq (dSet 6 (d2 mulV (dVar 3) (d2 addV (dC (.int 1)) (dA (chk 2 F__law_draw) (dCons (dVar 0) (dCons (dC (.int 60)) dNil)))))) (dSeq (dSet 5 (dA mkLst (dCons (d2 subV (d2 ixV (dVar 5) (dC (.int 0))) (d2 modV (dA intV (dCons (d2 subV (d2 ixV (dVar 5) (dC (.int 0))) (dVar 1)) dNil)) (dVar 3))) (dCons (d2 ixV (dVar 5) (dC (.int 1))) dNil)))) (dSeq (dIfS (dB (d2 ltV (dVar 4) (dC (.int 5)))) (dRet (dA mkTup (dCons (d2 ixV (dVar 5) (dC (.int 0))) (dCons (d2 ixV (dVar 5) (dC (.int 1))) (dCons (dVar 6) dNil))))) dNx) (dRet (dA mkTup (dCons (d2 subV (d2 ixV (dVar 5) (dC (.int 1))) (d2 modV (dA intV (dCons (d2 subV (d2 ixV (dVar 5) (dC (.int 1))) (d2 ixV (dVar 5) (dC (.int 0)))) dNil)) (dVar 3))) (dCons (d2 ixV (dVar 5) (dC (.int 0))) (dCons (d2 subV (dC (.int 0)) (dVar 6)) dNil)))))))))))
def F__law_far_part : List SV → PL.P SV := fnRun 8 exitV den__law_far_part
def den__law_bent : DS := (dSeq (dIfS (dNotT (dTr (d1 (isiV ["tuple"]) (dVar 1)))) (dRet (dVar 1)) dNx) (dSeq (dAsg (dVar 1) (gT 3 (gsC (gN 2) (gsC (gN 3) (gsC (gN 4) gsN))))) (dRet (dA (chk 2 F__law_pick) (dCons (dVar 0) (dCons (dA mkLst (dCons (dA mkTup (dCons (d2 addV (dVar 2) (dVar 4)) (dCons (dVar 3) (dCons (dVar 4) dNil)))) (dCons (dA mkTup (dCons (dVar 2) (dCons (d2 subV (dVar 3) (dVar 4)) (dCons (dVar 4) dNil)))) (dCons (dA mkTup (dCons (dVar 2) (dCons (dVar 3) (dCons (d2 mulV (dC (.int 2)) (dVar 4)) dNil)))) dNil)))) dNil))))))
def F__law_bent : List SV → PL.P SV := fnRun 5 exitV den__law_bent
def den_is_row : DS := (dRet (dAndV (d1 (isiV ["list", "tuple"]) (dVar 0)) (dCh leV leV (dVar 1) (dA lenV (dCons (dVar 0) dNil)) (dVar 2))))
def F_is_row : List SV → PL.P SV := fnRun 3 exitV den_is_row
def den_is_whole : DS := (dRet (dAndV (d1 (isiV ["int"]) (dVar 0)) (dNotV (d1 (isiV ["bool"]) (dVar 0)))))
def F_is_whole : List SV → PL.P SV := fnRun 1 exitV den_is_whole
def den_is_between : DS := (dRet (dAndV (dA (chk 1 F_is_whole) (dCons (dVar 0) dNil)) (dCh leV leV (dVar 1) (dVar 0) (dVar 2))))
def F_is_between : List SV → PL.P SV := fnRun 3 exitV den_is_between
def ce1_is_pair : En → PL.P SV := (dA (chk 3 F_is_between) (dCons (dVar 1) (dCons (d2 fdivV (d1 negV (dC (.int 1000000000000000000000000000000))) (dC (.int 2))) (dCons (d2 fdivV (dC (.int 1000000000000000000000000000000)) (dC (.int 2))) dNil))))
def den_is_pair : DS := (dSeq (dIfS (dOrT (dNotT (dTr (d1 (isiV ["tuple"]) (dVar 0)))) (dB (d2 neV (dA lenV (dCons (dVar 0) dNil)) (dC (.int 2))))) (dRet (dC (.bl false))) dNx) (dRet (dA allV (dCons (dLc [1] (dIt (dVar 0)) (gN 1) dYes ce1_is_pair) dNil))))
def F_is_pair : List SV → PL.P SV := fnRun 2 exitV den_is_pair
def ce1_check_bounds : En → PL.P SV := (dA (chk 1 F_is_pair) (dCons (dVar 2) dNil))
def den_check_bounds : DS := (dSeq (dIfS (dOrT (dNotT (dTr (d1 (isiV ["tuple"]) (dVar 0)))) (dNotT (dTr (dA (chk 3 F_is_row) (dCons (dVar 0) (dCons (dC (.int 1)) (dCons (dC (.int 7)) dNil))))))) dNever dNx) (dIfS (dNotT (dTr (dA allV (dCons (dLc [2] (dIt (dVar 0)) (gN 2) dYes ce1_check_bounds) dNil)))) dNever dNx))
def F_check_bounds : List SV → PL.P SV := fnRun 3 exitV den_check_bounds
def den_is_far : DS := (dRet (dA (chk 3 F_is_between) (dCons (dVar 0) (dCons (d1 negV (dC (.int 1000000000000000000000000000000))) (dCons (dC (.int 1000000000000000000000000000000)) dNil)))))
def F_is_far : List SV → PL.P SV := fnRun 1 exitV den_is_far
def ce1_is_part : En → PL.P SV := (dA (chk 1 F_is_far) (dCons (dVar 1) dNil))
def ce2_is_part : En → PL.P SV := (dA (chk 1 F_is_far) (dCons (dVar 1) dNil))
def den_is_part : DS := (dSeq (dIfS (dTr (d1 (isiV ["tuple"]) (dVar 0))) (dRet (dAndV (d2 eqV (dA lenV (dCons (dVar 0) dNil)) (dC (.int 3))) (dAndV (dA allV (dCons (dLc [1] (dIt (dVar 0)) (gN 1) dYes ce1_is_part) dNil)) (d2 neV (d2 ixV (dVar 0) (dC (.int 2))) (dC (.int 0)))))) dNx) (dSeq (dIfS (dTr (d1 (isiV ["list"]) (dVar 0))) (dRet (dAndV (d2 leV (dA lenV (dCons (dVar 0) dNil)) (dC (.int 64))) (dA allV (dCons (dLc [1] (dIt (dVar 0)) (gN 1) dYes ce2_is_part) dNil)))) dNx) (dRet (dA (chk 1 F_is_far) (dCons (dVar 0) dNil)))))
def F_is_part : List SV → PL.P SV := fnRun 2 exitV den_is_part
def den_many_of : DS := (dSeq (dIfS (dTr (d1 (isiV ["tuple"]) (dVar 0))) (dRet (dA max2V (dCons (dC (.int 0)) (dCons (d2 addV (d2 fdivV (d2 subV (d2 ixV (dVar 0) (dC (.int 1))) (d2 ixV (dVar 0) (dC (.int 0)))) (d2 ixV (dVar 0) (dC (.int 2)))) (dC (.int 1))) dNil)))) dNx) (dRet (dIf (dTr (d1 (isiV ["list"]) (dVar 0))) (dA lenV (dCons (dVar 0) dNil)) (dC (.int 1)))))
def F_many_of : List SV → PL.P SV := fnRun 1 exitV den_many_of
def den_at_part : DS := (dSeq (dIfS (dTr (d1 (isiV ["tuple"]) (dVar 0))) (dRet (d2 addV (d2 ixV (dVar 0) (dC (.int 0))) (d2 mulV (dVar 1) (d2 ixV (dVar 0) (dC (.int 2)))))) dNx) (dRet (dIf (dTr (d1 (isiV ["list"]) (dVar 0))) (d2 ixV (dVar 0) (dVar 1)) (dVar 0))))
def F_at_part : List SV → PL.P SV := fnRun 2 exitV den_at_part
def den_ends_of : DS := (dSeq (dSet 1 (dIf (dTr (d1 (isiV ["list"]) (dVar 0))) (dVar 0) (dA mkLst (dCons (dA (chk 2 F_at_part) (dCons (dVar 0) (dCons (dC (.int 0)) dNil))) (dCons (dA (chk 2 F_at_part) (dCons (dVar 0) (dCons (d2 subV (dA (chk 1 F_many_of) (dCons (dVar 0) dNil)) (dC (.int 1))) dNil))) dNil))))) (dRet (dA mkTup (dCons (dA min1V (dCons (dVar 1) dNil)) (dCons (dA max1V (dCons (dVar 1) dNil)) dNil)))))
def F_ends_of : List SV → PL.P SV := fnRun 2 exitV den_ends_of
def ce1_is_empty : En → PL.P SV := (dA (chk 1 F_many_of) (dCons (dVar 1) dNil))
def den_is_empty : DS := (dRet (d2 inSV (dC (.int 0)) (dLc [1] (dIt (dVar 0)) (gN 1) dYes ce1_is_empty)))
def F_is_empty : List SV → PL.P SV := fnRun 2 exitV den_is_empty
def ce1_check_section : En → PL.P SV := (dA (chk 1 F_is_part) (dCons (dVar 3) dNil))
def lp2_check_section : DS := (dSeq (dAsg (dA (chk 1 F_ends_of) (dCons (dVar 3) dNil)) (gT 2 (gsC (gN 6) (gsC (gN 7) gsN)))) (dIfS (dOrT (dB (d2 ltV (dVar 6) (dVar 4))) (dB (d2 gtV (dVar 7) (dVar 5)))) dNever dNx))
def den_check_section : DS := (dSeq (dIfS (dOrT (dNotT (dTr (d1 (isiV ["tuple"]) (dVar 1)))) (dOrT (dB (d2 neV (dA lenV (dCons (dVar 1) dNil)) (dA lenV (dCons (dVar 0) dNil)))) (dNotT (dTr (dA allV (dCons (dLc [3] (dIt (dVar 1)) (gN 3) dYes ce1_check_section) dNil)))))) dNever dNx) (dIfS (dNotT (dTr (dA (chk 1 F_is_empty) (dCons (dVar 1) dNil)))) (dFor (dAI zip2V (dCons (dVar 1) (dCons (dVar 0) dNil))) (gT 2 (gsC (gN 3) (gsC (gT 2 (gsC (gN 4) (gsC (gN 5) gsN))) gsN))) lp2_check_section) dNx))
def F_check_section : List SV → PL.P SV := fnRun 8 exitV den_check_section
def den_check_pair : DS := (dSeq (dDrop (dA (chk 2 F_check_bounds) (dCons (dVar 0) (dCons (dC (.str "bounds")) dNil)))) (dSeq (dDrop (dA (chk 3 F_check_section) (dCons (dVar 0) (dCons (dVar 1) (dCons (dC (.str "one")) dNil))))) (dDrop (dA (chk 3 F_check_section) (dCons (dVar 0) (dCons (dVar 2) (dCons (dC (.str "other")) dNil)))))))
def F_check_pair : List SV → PL.P SV := fnRun 3 exitV den_check_pair
def lp1_product : DS := (dSet 1 (d2 mulV (dVar 1) (dVar 2)))
def den_product : DS := (dSeq (dSet 1 (dC (.int 1))) (dSeq (dFor (dIt (dVar 0)) (gN 2) lp1_product) (dRet (dVar 1))))
def F_product : List SV → PL.P SV := fnRun 3 exitV den_product
def lp1_gcd : DS := (dPar 0 1 (dCons (dVar 1) (dCons (d2 modV (dVar 0) (dVar 1)) dNil)))
def ts2_gcd : En → PL.P Bool := (dB (d2 neV (dVar 1) (dC (.int 0))))
def den_gcd : DS := (dSeq (dWhile 1000 ts2_gcd lp1_gcd) (dRet (dA absV' (dCons (dVar 0) dNil))))
def F_gcd : List SV → PL.P SV := fnRun 2 exitV den_gcd
def den_lcm : DS := (dRet (d2 fdivV (dA absV' (dCons (d2 mulV (dVar 0) (dVar 1)) dNil)) (dA (chk 2 F_gcd) (dCons (dVar 0) (dCons (dVar 1) dNil)))))
def F_lcm : List SV → PL.P SV := fnRun 2 exitV den_lcm
def lp1_inverse : DS := (dSeq (dSet 6 (d2 fdivV (dVar 2) (dVar 3))) (dSeq (dPar 2 3 (dCons (dVar 3) (dCons (d2 subV (dVar 2) (d2 mulV (dVar 6) (dVar 3))) dNil))) (dPar 4 5 (dCons (dVar 5) (dCons (d2 subV (dVar 4) (d2 mulV (dVar 6) (dVar 5))) dNil)))))
def ts2_inverse : En → PL.P Bool := (dB (d2 neV (dVar 3) (dC (.int 0))))
def den_inverse : DS := (dSeq (dParT [2, 3, 4, 5] (dCons (d2 modV (dVar 0) (dVar 1)) (dCons (dVar 1) (dCons (dC (.int 1)) (dCons (dC (.int 0)) dNil))))) (dSeq (dWhile 1000 ts2_inverse lp1_inverse) (dRet (d2 modV (dVar 4) (dVar 1)))))
def F_inverse : List SV → PL.P SV := fnRun 7 exitV den_inverse
def den_meeting : DS := (dSeq (dSet 4 (dA (chk 2 F_gcd) (dCons (dVar 1) (dCons (dVar 3) dNil)))) (dSeq (dIfS (dB (d2 neV (d2 modV (d2 subV (dVar 2) (dVar 0)) (dVar 4)) (dC (.int 0)))) (dRet (dC .non)) dNx) (dSeq (dSet 5 (dA (chk 2 F_lcm) (dCons (dVar 1) (dCons (dVar 3) dNil)))) (dSeq (dSet 6 (d2 fdivV (dVar 3) (dVar 4))) (dSeq (dSet 7 (dIf (dB (d2 gtV (dVar 6) (dC (.int 1)))) (d2 modV (d2 mulV (d2 fdivV (d2 subV (dVar 2) (dVar 0)) (dVar 4)) (dA (chk 2 F_inverse) (dCons (d2 fdivV (dVar 1) (dVar 4)) (dCons (dVar 6) dNil)))) (dVar 6)) (dC (.int 0)))) (dRet (dA mkTup (dCons (d2 modV (d2 addV (dVar 0) (d2 mulV (dVar 7) (dVar 1))) (dVar 5)) (dCons (dVar 5) dNil)))))))))
def F_meeting : List SV → PL.P SV := fnRun 8 exitV den_meeting
def den_few_of : DS := (dSeq (dIfS (dTr (d1 (isiV ["list"]) (dVar 0))) (dRet (d1 (sortSetV false) (dVar 0))) dNx) (dRet (dIf (dB (d2 eqV (dA (chk 1 F_many_of) (dCons (dVar 0) dNil)) (dC (.int 1)))) (dA mkLst (dCons (dA (chk 2 F_at_part) (dCons (dVar 0) (dCons (dC (.int 0)) dNil))) dNil)) (dC .non))))
def F_few_of : List SV → PL.P SV := fnRun 1 exitV den_few_of
def den_has_subscript : DS := (dSeq (dAsg (dA (chk 1 F_ends_of) (dCons (dVar 0) dNil)) (gT 2 (gsC (gN 2) (gsC (gN 3) gsN)))) (dRet (dAndV (dCh leV leV (dVar 2) (dVar 1) (dVar 3)) (d2 eqV (d2 modV (d2 subV (dVar 1) (dVar 2)) (dA absV' (dCons (d2 ixV (dVar 0) (dC (.int 2))) dNil))) (dC (.int 0))))))
def F_has_subscript : List SV → PL.P SV := fnRun 4 exitV den_has_subscript
def ce1_shared_part : En → PL.P SV := (dVar 12)
def ct2_shared_part : En → PL.P Bool := (dB (d2 inSV (dVar 12) (dVar 3)))
def ce3_shared_part : En → PL.P SV := (dVar 12)
def ct4_shared_part : En → PL.P Bool := (dTr (dA (chk 2 F_has_subscript) (dCons (dVar 1) (dCons (dVar 12) dNil))))
def ce5_shared_part : En → PL.P SV := (dVar 12)
def ct6_shared_part : En → PL.P Bool := (dTr (dA (chk 2 F_has_subscript) (dCons (dVar 0) (dCons (dVar 12) dNil))))
def den_shared_part : DS := (dSeq (dParT [2, 3] (dCons (dA (chk 1 F_few_of) (dCons (dVar 0) dNil)) (dCons (dA (chk 1 F_few_of) (dCons (dVar 1) dNil)) dNil))) (dSeq (dIfS (dOrT (dB (d2 notNV (dVar 2) (dC .non))) (dB (d2 notNV (dVar 3) (dC .non)))) (dSeq (dIfS (dAndT (dB (d2 notNV (dVar 2) (dC .non))) (dB (d2 notNV (dVar 3) (dC .non)))) (dSet 4 (dLc [12] (dIt (dVar 2)) (gN 12) ct2_shared_part ce1_shared_part)) (dSeq (dSet 4 (dIf (dB (d2 notNV (dVar 2) (dC .non))) (dLc [12] (dIt (dVar 2)) (gN 12) ct4_shared_part ce3_shared_part) (dC .non))) (dSet 4 (dIf (dB (d2 isNV (dVar 4) (dC .non))) (dLc [12] (dIt (dVar 3)) (gN 12) ct6_shared_part ce5_shared_part) (dVar 4))))) (dRet (dIf (dB (d2 neV (dVar 4) (dA mkLst dNil))) (dA mkTup (dCons (dA lenV (dCons (dVar 4) dNil)) (dCons (d2 ixV (dVar 4) (dC (.int 0))) dNil))) (dA mkTup (dCons (dC (.int 0)) (dCons (dC .non) dNil)))))) dNx) (dSeq (dAsg (dA mkTup (dCons (dA (chk 1 F_ends_of) (dCons (dVar 0) dNil)) (dCons (dA (chk 1 F_ends_of) (dCons (dVar 1) dNil)) dNil))) (gT 2 (gsC (gT 2 (gsC (gN 5) (gsC (gN 6) gsN))) (gsC (gT 2 (gsC (gN 7) (gsC (gN 8) gsN))) gsN)))) (dSeq (dSet 9 (dA (chk 4 F_meeting) (dCons (dVar 5) (dCons (dA absV' (dCons (d2 ixV (dVar 0) (dC (.int 2))) dNil)) (dCons (dVar 7) (dCons (dA absV' (dCons (d2 ixV (dVar 1) (dC (.int 2))) dNil)) dNil)))))) (dSeq (dIfS (dB (d2 isNV (dVar 9) (dC .non))) (dRet (dA mkTup (dCons (dC (.int 0)) (dCons (dC .non) dNil)))) dNx) (dSeq (dSet 10 (dA max2V (dCons (dVar 5) (dCons (dVar 7) dNil)))) (dSeq (dSet 10 (d2 addV (dVar 10) (d2 modV (d2 subV (d2 ixV (dVar 9) (dC (.int 0))) (dVar 10)) (d2 ixV (dVar 9) (dC (.int 1)))))) (dSeq (dSet 11 (dA min2V (dCons (dVar 6) (dCons (dVar 8) dNil)))) (dRet (dIf (dB (d2 leV (dVar 10) (dVar 11))) (dA mkTup (dCons (d2 addV (d2 fdivV (d2 subV (dVar 11) (dVar 10)) (d2 ixV (dVar 9) (dC (.int 1)))) (dC (.int 1))) (dCons (dVar 10) dNil))) (dA mkTup (dCons (dC (.int 0)) (dCons (dC .non) dNil)))))))))))))
def F_shared_part : List SV → PL.P SV := fnRun 13 exitV den_shared_part
def ce1_shared_in : En → PL.P SV := (dA (chk 2 F_shared_part) (dCons (dVar 4) (dCons (dVar 5) dNil)))
def ce2_shared_in : En → PL.P SV := (d2 ixV (dVar 6) (dC (.int 0)))
def ce3_shared_in : En → PL.P SV := (d2 ixV (dVar 6) (dC (.int 1)))
def den_shared_in : DS := (dSeq (dIfS (dOrT (dTr (dA (chk 1 F_is_empty) (dCons (dVar 0) dNil))) (dTr (dA (chk 1 F_is_empty) (dCons (dVar 1) dNil)))) (dRet (dA mkTup (dCons (dC (.int 0)) (dCons (dC .non) dNil)))) dNx) (dSeq (dSet 2 (dLc [4, 5] (dAI zip2V (dCons (dVar 0) (dCons (dVar 1) dNil))) (gT 2 (gsC (gN 4) (gsC (gN 5) gsN))) dYes ce1_shared_in)) (dSeq (dSet 3 (dA (chk 1 F_product) (dCons (dLc [6] (dIt (dVar 2)) (gN 6) dYes ce2_shared_in) dNil))) (dRet (dIf (dB (d2 gtV (dVar 3) (dC (.int 0)))) (dA mkTup (dCons (dVar 3) (dCons (dA tupleV (dCons (dLc [6] (dIt (dVar 2)) (gN 6) dYes ce3_shared_in) dNil)) dNil))) (dA mkTup (dCons (dC (.int 0)) (dCons (dC .non) dNil))))))))
def F_shared_in : List SV → PL.P SV := fnRun 7 exitV den_shared_in
def den_shared : DS := (dSeq (dDrop (dA (chk 3 F_check_pair) (dCons (dVar 0) (dCons (dVar 1) (dCons (dVar 2) dNil))))) (dRet (dA (chk 2 F_shared_in) (dCons (dVar 1) (dCons (dVar 2) dNil)))))
def F_shared : List SV → PL.P SV := fnRun 3 exitV den_shared
def den_includes_in : DS := (dSeq (dIfS (dTr (dA (chk 1 F_is_empty) (dCons (dVar 1) dNil))) (dRet (dC (.bl true))) dNx) (dRet (dAndV (dNotV (dA (chk 1 F_is_empty) (dCons (dVar 0) dNil))) (d2 eqV (d2 ixV (dA (chk 2 F_shared_in) (dCons (dVar 0) (dCons (dVar 1) dNil))) (dC (.int 0))) (d2 ixV (dA (chk 2 F_shared_in) (dCons (dVar 1) (dCons (dVar 1) dNil))) (dC (.int 0)))))))
def F_includes_in : List SV → PL.P SV := fnRun 2 exitV den_includes_in
def den_includes : DS := (dSeq (dDrop (dA (chk 3 F_check_pair) (dCons (dVar 0) (dCons (dVar 1) (dCons (dVar 2) dNil))))) (dRet (dA (chk 2 F_includes_in) (dCons (dVar 1) (dCons (dVar 2) dNil)))))
def F_includes : List SV → PL.P SV := fnRun 3 exitV den_includes
def den_same_set : DS := (dSeq (dDrop (dA (chk 3 F_check_pair) (dCons (dVar 0) (dCons (dVar 1) (dCons (dVar 2) dNil))))) (dRet (dAndV (dA (chk 2 F_includes_in) (dCons (dVar 1) (dCons (dVar 2) dNil))) (dA (chk 2 F_includes_in) (dCons (dVar 2) (dCons (dVar 1) dNil))))))
def F_same_set : List SV → PL.P SV := fnRun 3 exitV den_same_set
def den__law_many : DS := (dSeq (dIfS (dTr (d1 (isiV ["tuple"]) (dVar 0))) (dRet (dA max2V (dCons (dC (.int 0)) (dCons (d2 addV (d2 fdivV (d2 subV (d2 ixV (dVar 0) (dC (.int 1))) (d2 ixV (dVar 0) (dC (.int 0)))) (d2 ixV (dVar 0) (dC (.int 2)))) (dC (.int 1))) dNil)))) dNx) (dRet (dIf (dTr (d1 (isiV ["list"]) (dVar 0))) (dA lenV (dCons (dVar 0) dNil)) (dC (.int 1)))))
def F__law_many : List SV → PL.P SV := fnRun 1 exitV den__law_many
def lp1__law_divisor : DS := (dPar 0 1 (dCons (dVar 1) (dCons (d2 modV (dA intV (dCons (dVar 0) dNil)) (dVar 1)) dNil)))
def ts2__law_divisor : En → PL.P Bool := (dB (d2 neV (dVar 1) (dC (.int 0))))
def den__law_divisor : DS := (dSeq (dWhile 1000 ts2__law_divisor lp1__law_divisor) (dRet (dVar 0)))
def F__law_divisor : List SV → PL.P SV := fnRun 2 exitV den__law_divisor
def den__law_span : DS := (dSeq (dSet 1 (d2 addV (d2 ixV (dVar 0) (dC (.int 0))) (d2 mulV (d2 subV (dA (chk 1 F__law_many) (dCons (dVar 0) dNil)) (dC (.int 1))) (d2 ixV (dVar 0) (dC (.int 2)))))) (dRet (dA mkTup (dCons (dA min2V (dCons (d2 ixV (dVar 0) (dC (.int 0))) (dCons (dVar 1) dNil))) (dCons (dA max2V (dCons (d2 ixV (dVar 0) (dC (.int 0))) (dCons (dVar 1) dNil))) (dCons (dA absV' (dCons (d2 ixV (dVar 0) (dC (.int 2))) dNil)) dNil))))))
def F__law_span : List SV → PL.P SV := fnRun 2 exitV den__law_span
def den__law_has : DS := (dSeq (dIfS (dNotT (dTr (d1 (isiV ["tuple"]) (dVar 0)))) (dRet (dIf (dTr (d1 (isiV ["list"]) (dVar 0))) (d2 inSV (dVar 1) (dVar 0)) (d2 eqV (dVar 1) (dVar 0)))) dNx) (dSeq (dAsg (dA (chk 1 F__law_span) (dCons (dVar 0) dNil)) (gT 3 (gsC (gN 2) (gsC (gN 3) (gsC (gN 4) gsN))))) (dRet (dAndV (dCh leV leV (dVar 2) (dVar 1) (dVar 3)) (d2 eqV (d2 modV (dA intV (dCons (d2 subV (dVar 1) (dVar 2)) dNil)) (dVar 4)) (dC (.int 0)))))))
def F__law_has : List SV → PL.P SV := fnRun 5 exitV den__law_has
def ce1__law_few : En → PL.P SV := (d2 addV (d2 ixV (dVar 0) (dC (.int 0))) (d2 mulV (dVar 1) (d2 ixV (dVar 0) (dC (.int 2)))))
def den__law_few : DS := (dSeq (dIfS (dNotT (dTr (d1 (isiV ["tuple"]) (dVar 0)))) (dRet (dIf (dTr (d1 (isiV ["list"]) (dVar 0))) (d1 (sortSetV false) (dVar 0)) (dA mkLst (dCons (dVar 0) dNil)))) dNx) (dSeq (dIfS (dB (d2 gtV (dA (chk 1 F__law_many) (dCons (dVar 0) dNil)) (dC (.int 60)))) (dRet (dC .non)) dNx) (dRet (dA (sortedV false) (dCons (dLc [1] (dAI rng1V (dCons (dA (chk 1 F__law_many) (dCons (dVar 0) dNil)) dNil)) (gN 1) dYes ce1__law_few) dNil)))))
def F__law_few : List SV → PL.P SV := fnRun 2 exitV den__law_few
def ce1__law_met : En → PL.P SV := (dVar 13)
def ct2__law_met : En → PL.P Bool := (dAndT (dTr (dA (chk 2 F__law_has) (dCons (dVar 0) (dCons (dVar 13) dNil)))) (dTr (dA (chk 2 F__law_has) (dCons (dVar 1) (dCons (dVar 13) dNil)))))
def lp3__law_met : DS := (dSeq (dIfS (dB (d2 gtV (dVar 10) (dA min2V (dCons (dVar 5) (dCons (dVar 8) dNil))))) (dRet (dA mkTup (dCons (dC (.int 0)) (dCons (dC .non) dNil)))) dNx) (dSeq (dIfS (dB (d2 eqV (d2 modV (dA intV (dCons (d2 subV (dVar 10) (dVar 7)) dNil)) (dVar 9)) (dC (.int 0)))) (dSeq (dSet 12 (d2 fdivV (d2 mulV (dVar 6) (dVar 9)) (dA (chk 2 F__law_divisor) (dCons (dVar 6) (dCons (dVar 9) dNil))))) (dRet (dA mkTup (dCons (d2 addV (d2 fdivV (d2 subV (dA min2V (dCons (dVar 5) (dCons (dVar 8) dNil))) (dVar 10)) (dVar 12)) (dC (.int 1))) (dCons (dVar 10) dNil))))) dNx) (dSet 10 (d2 addV (dVar 10) (dVar 6)))))
def den__law_met : DS := (dSeq (dIfS (dOrT (dB (d2 notNV (dA (chk 1 F__law_few) (dCons (dVar 0) dNil)) (dC .non))) (dB (d2 notNV (dA (chk 1 F__law_few) (dCons (dVar 1) dNil)) (dC .non)))) (dSeq (dSet 2 (dA (chk 1 F__law_few) (dCons (dVar 0) dNil))) (dSeq (dSet 2 (dIf (dB (d2 isNV (dVar 2) (dC .non))) (dA (chk 1 F__law_few) (dCons (dVar 1) dNil)) (dVar 2))) (dSeq (dSet 3 (dLc [13] (dIt (dVar 2)) (gN 13) ct2__law_met ce1__law_met)) (dRet (dA mkTup (dCons (dA lenV (dCons (dVar 3) dNil)) (dCons (dIf (dB (d2 neV (dVar 3) (dA mkLst dNil))) (d2 ixV (dVar 3) (dC (.int 0))) (dC .non)) dNil))))))) dNx) (dSeq (dAsg (dA (chk 1 F__law_span) (dCons (dVar 0) dNil)) (gT 3 (gsC (gN 4) (gsC (gN 5) (gsC (gN 6) gsN))))) (dSeq (dAsg (dA (chk 1 F__law_span) (dCons (dVar 1) dNil)) (gT 3 (gsC (gN 7) (gsC (gN 8) (gsC (gN 9) gsN))))) (dSeq (dSet 10 (d2 addV (dVar 4) (d2 mulV (dVar 6) (dA max2V (dCons (dC (.int 0)) (dCons (d2 fdivV (d2 subV (d2 addV (d2 subV (dVar 7) (dVar 4)) (dVar 6)) (dC (.int 1))) (dVar 6)) dNil)))))) (dSeq (dFor (dAI rng1V (dCons (dC (.int 130)) dNil)) (gN 11) lp3__law_met) (dRet (dA mkTup (dCons (dC (.int 0)) (dCons (dC .non) dNil)))))))))
def F__law_met : List SV → PL.P SV := fnRun 14 exitV den__law_met
def lp1__law_due : DS := (dSeq (dIfS (dB (d2 inSV (dC (.int 0)) (dA mkLst (dCons (dA (chk 1 F__law_many) (dCons (dVar 4) dNil)) (dCons (dA (chk 1 F__law_many) (dCons (dVar 5) dNil)) dNil))))) (dRet (dA mkTup (dCons (dC (.int 0)) (dCons (dC .non) dNil)))) dNx) (dSeq (dAsg (dA (chk 2 F__law_met) (dCons (dVar 4) (dCons (dVar 5) dNil))) (gT 2 (gsC (gN 6) (gsC (gN 7) gsN)))) (dSeq (dSet 2 (d2 mulV (dVar 2) (dVar 6))) (dApp (dVar 3) (dVar 7)))))
def den__law_due : DS := (dSeq (dPar 2 3 (dCons (dC (.int 1)) (dCons (dA mkOwn dNil) dNil))) (dSeq (dFor (dAI zip2V (dCons (dVar 0) (dCons (dVar 1) dNil))) (gT 2 (gsC (gN 4) (gsC (gN 5) gsN))) lp1__law_due) (dRet (dIf (dB (d2 gtV (dVar 2) (dC (.int 0)))) (dA mkTup (dCons (dVar 2) (dCons (dA tupleV (dCons (dVar 3) dNil)) dNil))) (dA mkTup (dCons (dC (.int 0)) (dCons (dC .non) dNil)))))))
def F__law_due : List SV → PL.P SV := fnRun 8 exitV den__law_due
def den__law_alone : DS := (dRet (d2 ixV (dA (chk 2 F__law_due) (dCons (dVar 0) (dCons (dVar 0) dNil))) (dC (.int 0))))
def F__law_alone : List SV → PL.P SV := fnRun 1 exitV den__law_alone
def ce1__law_within : En → PL.P SV := (dA min2V (dCons (dVar 6) (dCons (dVar 5) dNil)))
def lp2__law_within : DS := (dApp (dVar 2) (dIf (dTr (d1 (isiV ["list"]) (dVar 3))) (dLc [6] (dIt (dVar 3)) (gN 6) dYes ce1__law_within) (dVar 3)))
def den__law_within : DS := (dSeq (dSet 2 (dA mkOwn dNil)) (dSeq (dFor (dAI zip2V (dCons (dVar 1) (dCons (dVar 0) dNil))) (gT 2 (gsC (gN 3) (gsC (gT 2 (gsC (gN 4) (gsC (gN 5) gsN))) gsN))) lp2__law_within) (dRet (dA tupleV (dCons (dVar 2) dNil)))))
def F__law_within : List SV → PL.P SV := fnRun 7 exitV den__law_within
def den__law_judged : DS := (dSeq (dPar 1 2 (dCons (dA (chk 2 F__law_within) (dCons (dVar 0) (dCons (dVar 1) dNil))) (dCons (dA (chk 2 F__law_within) (dCons (dVar 0) (dCons (dVar 2) dNil))) dNil))) (dSeq (dSet 3 (dA (chk 2 F__law_due) (dCons (dVar 1) (dCons (dVar 2) dNil)))) (dSeq (dIfS (dOrT (dB (d2 neV (dA (chk 3 F_shared) (dCons (dVar 0) (dCons (dVar 1) (dCons (dVar 2) dNil)))) (dVar 3))) (dB (d2 neV (dA (chk 3 F_shared) (dCons (dVar 0) (dCons (dVar 2) (dCons (dVar 1) dNil)))) (dVar 3)))) (dRet (dC (.bl false))) dNx) (dSeq (dPar 4 5 (dCons (d2 eqV (d2 ixV (dVar 3) (dC (.int 0))) (dA (chk 1 F__law_alone) (dCons (dVar 2) dNil))) (dCons (d2 eqV (d2 ixV (dVar 3) (dC (.int 0))) (dA (chk 1 F__law_alone) (dCons (dVar 1) dNil))) dNil))) (dSeq (dSet 6 (dA mkLst (dCons (dA (chk 3 F_includes) (dCons (dVar 0) (dCons (dVar 1) (dCons (dVar 2) dNil)))) (dCons (dA (chk 3 F_includes) (dCons (dVar 0) (dCons (dVar 2) (dCons (dVar 1) dNil)))) (dCons (dA (chk 3 F_same_set) (dCons (dVar 0) (dCons (dVar 1) (dCons (dVar 2) dNil)))) dNil))))) (dRet (d2 eqV (dA reprV (dCons (dVar 6) dNil)) (dA reprV (dCons (dA mkLst (dCons (dVar 4) (dCons (dVar 5) (dCons (dAndV (dVar 4) (dVar 5)) dNil)))) dNil)))))))))
def F__law_judged : List SV → PL.P SV := fnRun 7 exitV den__law_judged
def lp1__law_right : DS := (dSeq (dSet 5 (dA (chk 2 F__law_pick) (dCons (dVar 0) (dCons (dA mkLst (dCons (dC (.int 1)) (dCons (dC (.int 1)) (dCons (dC (.int 7)) (dCons (d2 addV (d2 powV (dC (.int 10)) (dC (.int 9))) (dC (.int 7))) (dCons (d2 powV (dC (.int 10)) (dC (.int 20))) dNil)))))) dNil)))) (dSeq (dSet 6 (d2 subV (dA (chk 2 F__law_draw) (dCons (dVar 0) (dCons (d2 mulV (dC (.int 5)) (d2 powV (dC (.int 10)) (dC (.int 29)))) dNil))) (dA (chk 2 F__law_pick) (dCons (dVar 0) (dCons (dA mkLst (dCons (dC (.int 0)) (dCons (d2 mulV (dC (.int 5)) (d2 powV (dC (.int 10)) (dC (.int 29)))) dNil))) dNil))))) (dSeq (dSet 7 (dA min2V (dCons (d2 mulV (dC (.int 5)) (d2 powV (dC (.int 10)) (dC (.int 29)))) (dCons (d2 addV (dVar 6) (d2 mulV (dVar 5) (d2 addV (dC (.int 100)) (dA (chk 2 F__law_draw) (dCons (dVar 0) (dCons (dA (chk 2 F__law_pick) (dCons (dVar 0) (dCons (dA mkLst (dCons (dC (.int 1000)) (dCons (d2 powV (dC (.int 10)) (dC (.int 9))) dNil))) dNil))) dNil)))))) dNil)))) (dSeq (dApp (dVar 1) (dA mkTup (dCons (dVar 6) (dCons (dVar 7) dNil)))) (dSeq (dApp (dVar 2) (dA (chk 4 F__law_far_part) (dCons (dVar 0) (dCons (dVar 6) (dCons (dVar 7) (dCons (dVar 5) dNil)))))) (dSeq (dSet 8 (dA (chk 4 F__law_far_part) (dCons (dVar 0) (dCons (dVar 6) (dCons (dVar 7) (dCons (dVar 5) dNil)))))) (dApp (dVar 3) (dA (chk 2 F__law_pick) (dCons (dVar 0) (dCons (dA mkLst (dCons (dVar 8) (dCons (dVar 8) (dCons (d2 ixV (dVar 2) (d1 negV (dC (.int 1)))) (dCons (dA (chk 2 F__law_bent) (dCons (dVar 0) (dCons (d2 ixV (dVar 2) (d1 negV (dC (.int 1)))) dNil))) dNil))))) dNil))))))))))
def den__law_right : DS := (dSeq (dPar3 1 2 3 (dCons (dA mkOwn dNil) (dCons (dA mkOwn dNil) (dCons (dA mkOwn dNil) dNil)))) (dSeq (dFor (dAI rng1V (dCons (d2 addV (dC (.int 1)) (dA (chk 2 F__law_draw) (dCons (dVar 0) (dCons (dC (.int 3)) dNil)))) dNil)) (gN 4) lp1__law_right) (dRet (dA (chk 3 F__law_judged) (dCons (dA tupleV (dCons (dVar 1) dNil)) (dCons (dA tupleV (dCons (dVar 2) dNil)) (dCons (dA tupleV (dCons (dVar 3) dNil)) dNil)))))))
def F__law_right : List SV → PL.P SV := fnRun 9 exitV den__law_right
def lp1_law : DS := (dIfS (dNotT (dTr (dA (chk 1 F__law_right) (dCons (dVar 2) dNil)))) (dRet (dC (.bl false))) dNx)
def lp2_law : DS := (dSeq (dSet 2 (dA (chk 2 F__law_source) (dCons (dVar 0) (dCons (dVar 1) dNil)))) (dFor (dAI rng1V (dCons (dC (.int 5)) dNil)) (gN 3) lp1_law))
def den_law : DS := (dSeq (dFor (dAI rng1V (dCons (dA max2V (dCons (dC (.int 1)) (dCons (dA min2V (dCons (dC (.int 4)) (dCons (dA lenV (dCons (dVar 0) dNil)) dNil))) dNil))) dNil)) (gN 1) lp2_law) (dRet (dC (.bl true))))
def F_law : List SV → PL.P SV := fnRun 4 exitV den_law
end G

namespace G
open PySem PySem.Spec PyProof.Rows L2 PL
/-! ### wells -/
def Wl (k : Nat) (m : Mem) : Prop := ∃ a b c : Int, m[k]? = some (.lst [.int a, .int b, .int c])
theorem fmod_nonneg {a b : Int} (h : 0 < b) : 0 ≤ a.fmod b ∧ a.fmod b < b := by
  rw [Int.fmod_eq_emod_of_nonneg a (by omega)]
  exact ⟨Int.emod_nonneg a (by omega), Int.emod_lt_of_pos a h⟩
theorem mulOk_r (i : Int) {j : Int} (h : j.natAbs < 18446744073709551616) : mulOk i j = true := by
  unfold mulOk
  simp [h]
theorem mulOk_l {i : Int} (j : Int) (h : i.natAbs < 18446744073709551616) : mulOk i j = true := by
  unfold mulOk
  simp [h]
theorem wl_lt {k : Nat} {m : Mem} (h : Wl k m) : k < m.length := by
  obtain ⟨a, b, c, e⟩ := h
  exact (List.getElem?_eq_some_iff.mp e).1
theorem atI_ofNat {α : Type} {xs : List α} {i : Int} (h0 : 0 ≤ i) (h1 : i < xs.length) : atI xs i = xs[i.toNat]? := by
  unfold atI ixN
  rw [if_pos h0, if_pos h1]
  rfl
theorem small_big {n : Nat} (h : n ≤ 1000000000000000000000000000000000000000000000000000000000000000000000) : n < big := big_of (Nat.lt_of_le_of_lt h (by decide +kernel))

theorem mix_ok (a b : Int) (m : Mem) : ∃ r : Int, F__law_mix [.dat (.int a), .dat (.int b)] m = .ok (.dat (.int r)) m := by
  have e1 : ∀ x : Int, mulOk 52391 x = true := fun x => mulOk_l x (by decide)
  have e2 : ∀ x : Int, mulOk x 48271 = true := fun x => mulOk_r x (by decide)
  have e3 : ∀ x y : Int, mulOk (x.fmod 2147483629) y = true := fun x y => mulOk_l y (by have := fmod_nonneg (a := x) (b := 2147483629) (by decide); omega)
  have e4 : ∀ x y : Int, mulOk (x.fmod 2147483587) y = true := fun x y => mulOk_l y (by have := fmod_nonneg (a := x) (b := 2147483587) (by decide); omega)
  have b1 : (1021 : Nat) < big := small_big (by decide)
  have b2 : (2011 : Nat) < big := small_big (by decide)
  have b3 : (2147483629 : Nat) < big := small_big (by decide)
  simp [F__law_mix, fnRun_ap, den__law_mix, enter, e1, e2, e3, e4, b1, b2, b3]

/-! ### triplets: the program's small defs -/
def FARn : Int := 1000000000000000000000000000000
def tri (f l s : Int) : D := .tup [.int f, .int l, .int s]
def Far (f l s : Int) : Prop := s ≠ 0 ∧ -FARn ≤ s ∧ s ≤ FARn ∧ -FARn ≤ f ∧ f ≤ FARn ∧ -FARn ≤ l ∧ l ≤ FARn
theorem is_whole_int (i : Int) (m : Mem) : F_is_whole [.dat (.int i)] m = .ok (.dat (.bl true)) m := by
  simp [F_is_whole, fnRun_ap, den_is_whole, enter, isiV, tyName, tyIs]
theorem is_between_int (i lo hi : Int) (m : Mem) : F_is_between [.dat (.int i), .dat (.int lo), .dat (.int hi)] m = .ok (.dat (.bl (decide (lo ≤ i ∧ i ≤ hi)))) m := by
  by_cases h : lo ≤ i
  · simp [F_is_between, fnRun_ap, den_is_between, enter, is_whole_int, h]
  · simp [F_is_between, fnRun_ap, den_is_between, enter, is_whole_int, h]
theorem far_big {i : Int} (h0 : -FARn ≤ i) (h1 : i ≤ FARn) : i.natAbs < big := small_big (by unfold FARn at *; omega)
/-! ### arrays -/
open AR (Bd exts inB place elem)
def HALF : Int := 500000000000000000000000000000
def pr (b : Bd) : D := .tup [.int b.1, .int b.2]
def bD (bs : List Bd) : D := .tup (bs.map pr)
structure BOk (bs : List Bd) : Prop where
  pos : 0 < bs.length
  le : bs.length ≤ 7
  in1 : ∀ b ∈ bs, -HALF ≤ b.1 ∧ b.1 ≤ HALF ∧ -HALF ≤ b.2 ∧ b.2 ≤ HALF
theorem is_pair_ok {b : Bd} (h : -HALF ≤ b.1 ∧ b.1 ≤ HALF ∧ -HALF ≤ b.2 ∧ b.2 ≤ HALF) (m : Mem) : F_is_pair [.dat (pr b)] m = .ok (.dat (.bl true)) m := by
  unfold HALF at h
  obtain ⟨h1, h2, h3, h4⟩ := h
  have b2 : (2 : Nat) < big := small_big (by decide)
  have f1 : (-1000000000000000000000000000000 : Int).fdiv 2 = -500000000000000000000000000000 := by decide
  have f2 : (1000000000000000000000000000000 : Int).fdiv 2 = 500000000000000000000000000000 := by decide
  simp [F_is_pair, fnRun_ap, den_is_pair, ce1_is_pair, enter, pr, isiV, tyName, tyIs, lenV, rdSq, itemsV, noX, loopC, gN, wipeE, dYes, is_between_int, b2, f1, f2, h1, h2, h3, h4, allV, rdL, asBs]
theorem all_true (n : Nat) : ∀ m : Mem, allV [.dat (.lst (List.replicate n (.bl true)))] m = .ok (.dat (.bl true)) m := fun m => by
  have e : asBs (List.replicate n (.bl true)) = some (List.replicate n true) := by
    have := asBs_bls (List.replicate n true)
    rw [List.map_replicate] at this
    exact this
  simp [allV, rdL, e]
theorem check_bounds_ok {bs : List Bd} (h : BOk bs) (x : Str) (m : Mem) : F_check_bounds [.dat (bD bs), .dat (.str x)] m = .ok (.dat .non) m := by
  have lc : ∀ env : En, noX (loopC (gN 2) dYes ce1_check_bounds [some (.dat (bD bs)), some (.dat (.str x)), none] (bs.map pr) []) m = .ok (List.replicate bs.length (.bl true)) m := fun env => by
    rw [loopC_all (fun _ => .bl true)]
    · congr 1
      simp
      exact List.map_const' ..
    · intro d hd
      obtain ⟨b, hb, rfl⟩ := List.mem_map.mp hd
      refine ⟨_, rfl, ?_⟩
      simp [ce1_check_bounds, is_pair_ok (h.in1 b hb)]
    · have := h.le
      simp
      omega
  have hp := h.pos
  have hle := h.le
  have l1 : (1 : Int) ≤ (bs.length : Int) := by omega
  have l2 : (bs.length : Int) ≤ 7 := by omega
  have ir : ∀ m, F_is_row [.dat (bD bs), .dat (.int 1), .dat (.int 7)] m = .ok (.dat (.bl true)) m := fun m => by
    simp [F_is_row, fnRun_ap, den_is_row, enter, bD, isiV, tyName, tyIs, lenV, rdSq, l1, l2]
  have l3 := lc []
  unfold bD at l3 ir
  simp [F_check_bounds, fnRun_ap, den_check_bounds, enter, bD, isiV, tyName, tyIs, ir, itemsV, wipeE, l3, all_true]
theorem extents_in_lc (bs : List Bd) (hl : bs.length ≤ 1000) {g : D → En → Option En} {ce : En → PL.P SV} {env : En} (m : Mem) (hg : ∀ b : Bd, ∃ e1, g (pr b) env = some e1 ∧ ce e1 m = .ok (.dat (.int (AR.ext b))) m) :
    noX (loopC g dYes ce env (bs.map pr) []) m = .ok ((exts bs).map D.int) m := by
  rw [loopC_all (fun d => match d with | .tup [.int a, .int b] => .int (AR.ext (a, b)) | d => d)]
  · congr 1
    rw [List.map_map]
    unfold exts
    rw [List.map_map]
    apply List.map_congr_left
    intro b _
    rfl
  · intro d hd
    obtain ⟨b, hb, rfl⟩ := List.mem_map.mp hd
    obtain ⟨e1, q1, q2⟩ := hg b
    exact ⟨e1, q1, q2⟩
  · simp
    omega
/-! products -/
def Sml (n : Nat) (xs : List Int) : Prop := xs.length ≤ 7 ∧ ∀ x ∈ xs, 0 ≤ x ∧ x ≤ 2 * FARn
theorem pow_big : (2 * 1000000000000000000000000000000 : Nat) ^ 8 < big := big_of (by decide +kernel)
theorem foldl_mul : ∀ (xs : List Int) (a : Int), xs.foldl (· * ·) a = a * AR.prod xs
  | [], a => by simp [AR.prod]
  | x :: r, a => by
    show (r.foldl (· * ·) (a * x)) = a * (x * AR.prod r)
    rw [foldl_mul r, Int.mul_assoc]
theorem int_pow_mono {c : Int} (hc : 1 ≤ c) (k : Nat) : ∀ j : Nat, c ^ k ≤ c ^ (k + j)
  | 0 => Int.le_refl _
  | j + 1 => by
    have ih := int_pow_mono hc k j
    have h0 : 0 ≤ c ^ (k + j) := Int.pow_nonneg (by omega)
    have : c ^ (k + j) * 1 ≤ c ^ (k + j) * c := Int.mul_le_mul_of_nonneg_left hc h0
    rw [← Nat.add_assoc, Int.pow_succ]
    omega
theorem far8 : ((2 * FARn) ^ 8 : Int) = (((2 * 1000000000000000000000000000000 : Nat) ^ 8 : Nat) : Int) := by unfold FARn; decide +kernel
theorem product_loop (a0 : Option SV) (m : Mem) : ∀ (xs : List Int) (k : Nat) (a : Int) (c : Option SV), 0 ≤ a → a ≤ (2 * FARn) ^ k → k + xs.length ≤ 8 → (∀ x ∈ xs, 0 ≤ x ∧ x ≤ 2 * FARn) →
    ∃ c', loopF (gN 2) lp1_product (xs.map D.int) [a0, some (.dat (.int a)), c] m = .ok (.nx [a0, some (.dat (.int (a * AR.prod xs))), c']) m
  | [], k, a, c, h0, h1, h2, h3 => ⟨c, by simp [loopF_nil, AR.prod]⟩
  | x :: r, k, a, c, h0, h1, h2, h3 => by
    obtain ⟨x0, x1⟩ := h3 x List.mem_cons_self
    have hp : (2 * FARn) ^ k ≤ (2 * FARn) ^ 8 := by
      have := int_pow_mono (c := 2 * FARn) (by unfold FARn; decide) k (8 - k)
      rw [show k + (8 - k) = 8 by omega] at this
      exact this
    have ab : a.natAbs < big := by
      have h8 := pow_big
      rw [far8] at hp
      generalize (2 * 1000000000000000000000000000000 : Nat) ^ 8 = z at h8 hp
      omega
    have xb : x.natAbs < big := small_big (by unfold FARn at x1; omega)
    have mo : mulOk a x = true := by simp [mulOk, ab, xb]
    have ha : a * x ≤ (2 * FARn) ^ (k + 1) := by
      rw [Int.pow_succ]
      exact Int.mul_le_mul h1 x1 x0 (Int.pow_nonneg (by unfold FARn; decide))
    obtain ⟨c', q⟩ := product_loop a0 m r (k + 1) (a * x) (some (.dat (.int x))) (Int.mul_nonneg h0 x0) ha (by simp at h2; omega) fun y hy => h3 y (List.mem_cons_of_mem _ hy)
    refine ⟨c', ?_⟩
    rw [List.map_cons]
    refine (loopF_nx (env2 := [a0, some (.dat (.int (a * x))), some (.dat (.int x))]) (m2 := m) rfl ?_).trans ?_
    · simp [lp1_product, mo]
    · rw [q, AR.prod, Int.mul_assoc]
theorem product_ok {xs : List Int} (hl : xs.length ≤ 7) (h : ∀ x ∈ xs, 0 ≤ x ∧ x ≤ 2 * FARn) (m : Mem) : F_product [.dat (.lst (xs.map D.int))] m = .ok (.dat (.int (AR.prod xs))) m := by
  obtain ⟨c', q⟩ := product_loop (some (.dat (.lst (xs.map D.int)))) m xs 0 1 none (by decide) (by simp) (by omega) h
  rw [Int.one_mul] at q
  simp [F_product, fnRun_ap, den_product, enter, itemsV, q]
/-! strides -/
theorem strd_get : ∀ (xs : List Int) (a : Int), AR.strd a xs = (List.range xs.length).map fun i => a * AR.prod (xs.take i)
  | [], a => rfl
  | x :: r, a => by
    rw [AR.strd, strd_get r (a * x), List.length_cons, List.range_succ_eq_map, List.map_cons, List.map_map]
    simp only [List.take_zero, AR.prod, Int.mul_one]
    congr 1
    apply List.map_congr_left
    intro i _
    simp [AR.prod, Int.mul_assoc]
theorem exts_sml {bs : List Bd} (h : BOk bs) : (exts bs).length ≤ 7 ∧ ∀ x ∈ exts bs, 0 ≤ x ∧ x ≤ 2 * FARn := by
  refine ⟨by unfold exts; rw [List.length_map]; exact h.le, fun x hx => ?_⟩
  obtain ⟨b, hb, rfl⟩ := List.mem_map.mp hx
  have := h.in1 b hb
  unfold AR.ext FARn
  unfold HALF at this
  omega
theorem cut_take (xs : List D) (k : Nat) (h : k ≤ xs.length) : PL.cutD xs none (some (k : Int)) = xs.take k := by
  unfold PL.cutD
  rw [HT.sIx_none, HT.sIx_nat]
  simp [Nat.min_eq_left h]
def ptl : List Int → List Bd → List Int → List Int
  | x :: xs, b :: bs, s :: ss => (x - b.1) * s :: ptl xs bs ss
  | _, _, _ => []
theorem ptl_sum : ∀ (a : Int) (bs : List Bd) (xs : List Int), (ptl xs bs (AR.strd a (exts bs))).sum = AR.ssum a bs xs
  | a, [], xs => by cases xs <;> simp [ptl, AR.ssum, AR.strd]
  | a, b :: bs, [] => by simp [ptl, AR.ssum]
  | a, b :: bs, x :: xs => by
    show (ptl (x :: xs) (b :: bs) (a :: AR.strd (a * AR.ext b) (exts bs))).sum = (x - b.1) * a + AR.ssum (a * AR.ext b) bs xs
    simp [ptl, ptl_sum (a * AR.ext b) bs xs]
def ptD (d : D) : D := match d with
  | .tup [.int x, .tup [.int lo, _], .int s] => .int ((x - lo) * s)
  | d => d
theorem ptl_map : ∀ (xs : List Int) (bs : List Bd) (ss : List Int), (zipD3 (xs.map D.int) (bs.map pr) (ss.map D.int)).map ptD = (ptl xs bs ss).map D.int
  | [], _, _ => by simp [zipD3, ptl]
  | _ :: _, [], _ => by simp [zipD3, ptl]
  | _ :: _, _ :: _, [] => by simp [zipD3, ptl]
  | x :: xs, b :: bs, s :: ss => by
    simp [zipD3, ptl, ptl_map xs bs ss, ptD, pr]
theorem zip3_mem : ∀ {xs : List Int} {bs : List Bd} {ss : List Int} {d : D}, d ∈ zipD3 (xs.map D.int) (bs.map pr) (ss.map D.int) → ∃ x b s, x ∈ xs ∧ b ∈ bs ∧ s ∈ ss ∧ d = .tup [.int x, pr b, .int s]
  | [], _, _, d, h => by simp [zipD3] at h
  | _ :: _, [], _, d, h => by simp [zipD3] at h
  | _ :: _, _ :: _, [], d, h => by simp [zipD3] at h
  | x :: xs, b :: bs, s :: ss, d, h => by
    simp only [List.map_cons, zipD3, List.mem_cons] at h
    rcases h with rfl | h
    · exact ⟨x, b, s, by simp, by simp, by simp, rfl⟩
    · obtain ⟨x', b', s', h1, h2, h3, e⟩ := zip3_mem h
      exact ⟨x', b', s', by simp [h1], by simp [h2], by simp [h3], e⟩
/-! places -/
theorem inB_mem : ∀ {bs : List Bd} {xs : List Int} {i : Nat} {b : Bd} {x : Int}, inB bs xs → bs[i]? = some b → xs[i]? = some x → b.1 ≤ x ∧ x ≤ b.2
  | [], [], i, b, x, _, h, _ => by simp at h
  | [], _ :: _, _, _, _, h, _, _ => h.elim
  | _ :: _, [], _, _, _, h, _, _ => h.elim
  | c :: bs, y :: xs, 0, b, x, h, h1, h2 => by
    simp at h1 h2
    subst h1 h2
    exact ⟨h.1, h.2.1⟩
  | c :: bs, y :: xs, i + 1, b, x, h, h1, h2 => inB_mem h.2.2 (by simpa using h1) (by simpa using h2)
theorem el_bound {bs : List Bd} {xs : List Int} (h : BOk bs) (hi : inB bs xs) : ∀ x ∈ xs, -HALF ≤ x ∧ x ≤ HALF := fun x hx => by
  obtain ⟨i, hi', e⟩ := List.mem_iff_getElem.mp hx
  have hl := AR.inB_len hi
  have hb : i < bs.length := by omega
  have := inB_mem hi (List.getElem?_eq_getElem hb) (List.getElem?_eq_getElem hi')
  have h2 := h.in1 bs[i] (List.getElem_mem hb)
  rw [e] at this
  omega
theorem prod_le : ∀ {xs : List Int} (_ : ∀ x ∈ xs, 0 ≤ x ∧ x ≤ 2 * FARn), 0 ≤ AR.prod xs ∧ AR.prod xs ≤ (2 * FARn) ^ xs.length
  | [], _ => by simp [AR.prod]
  | x :: r, h => by
    obtain ⟨a, b⟩ := h x List.mem_cons_self
    obtain ⟨c, d⟩ := prod_le (xs := r) fun y hy => h y (List.mem_cons_of_mem _ hy)
    refine ⟨Int.mul_nonneg a c, ?_⟩
    show x * AR.prod r ≤ (2 * FARn) ^ (r.length + 1)
    rw [Int.pow_succ, Int.mul_comm ((2 * FARn) ^ r.length)]
    exact Int.mul_le_mul b d c (by unfold FARn; decide)
theorem prod_big {xs : List Int} (hl : xs.length ≤ 7) (h : ∀ x ∈ xs, 0 ≤ x ∧ x ≤ 2 * FARn) : (AR.prod xs).natAbs < big := by
  obtain ⟨a, b⟩ := prod_le h
  have hp := int_pow_mono (c := 2 * FARn) (by unfold FARn; decide) xs.length (8 - xs.length)
  rw [show xs.length + (8 - xs.length) = 8 by omega, far8] at hp
  have h8 := pow_big
  generalize (2 * 1000000000000000000000000000000 : Nat) ^ 8 = z at h8 hp
  generalize (2 * FARn) ^ xs.length = y at b hp
  omega
theorem strd_big {bs : List Bd} (h : BOk bs) : ∀ s ∈ AR.strd 1 (exts bs), s.natAbs < big := fun s hs => by
  obtain ⟨l7, hx⟩ := exts_sml h
  rw [strd_get] at hs
  obtain ⟨i, hi, rfl⟩ := List.mem_map.mp hs
  rw [Int.one_mul]
  exact prod_big (by rw [List.length_take]; omega) fun x hx' => hx x (List.mem_of_mem_take hx')
def elD (d : D) : D := match d with
  | .tup [.int x, .tup [.int lo, .int hi]] => .bl (decide (lo ≤ x ∧ x ≤ hi))
  | d => d
theorem zip2_mem {xs : List Int} {bs : List Bd} {d : D} (h : d ∈ zipD2 (xs.map D.int) (bs.map pr)) : ∃ (i : Nat) (x : Int) (b : Bd), xs[i]? = some x ∧ bs[i]? = some b ∧ d = .tup [.int x, pr b] := by
  unfold zipD2 at h
  obtain ⟨i, hi, e⟩ := List.mem_iff_getElem.mp h
  have h' := List.getElem?_eq_getElem hi
  rw [e, List.getElem?_zipWith, List.getElem?_map, List.getElem?_map] at h'
  cases hx : xs[i]? with
  | none => rw [hx] at h'; simp at h'
  | some x =>
    cases hb : bs[i]? with
    | none => rw [hx, hb] at h'; simp at h'
    | some b =>
      rw [hx, hb] at h'
      simp at h'
      exact ⟨i, x, b, hx, hb, h'.symm⟩
/-! elements -/
theorem prod_pos : ∀ {bs : List Bd}, 0 < AR.prod (exts bs) → ∀ q ∈ bs, 0 < AR.ext q
  | [], _, q, hq => by simp at hq
  | b :: bs, h, q, hq => by
    have e0 := AR.ext_nonneg b
    have p0 := AR.prod_nonneg bs
    have hb : 0 < AR.ext b := by
      by_cases c : AR.ext b = 0
      · have : AR.prod (exts (b :: bs)) = 0 := by show AR.ext b * _ = 0; rw [c, Int.zero_mul]
        omega
      · omega
    have hp : 0 < AR.prod (exts bs) := by
      by_cases c : AR.prod (exts bs) = 0
      · have : AR.prod (exts (b :: bs)) = 0 := by show AR.ext b * AR.prod (exts bs) = 0; rw [c, Int.mul_zero]
        omega
      · omega
    rcases List.mem_cons.mp hq with rfl | hq
    · exact hb
    · exact prod_pos hp q hq
/-! ### wells, by what is wanted behind -/
def isW (c : Cell) : Prop := ∃ a b d : Int, c = .lst [.int a, .int b, .int d]
theorem wlS {k : Nat} {m : Mem} {c : Cell} (hk : k < m.length) (hc : isW c) : Wl k (m.set k c) := by
  obtain ⟨a, b, d, rfl⟩ := hc
  exact ⟨a, b, d, by simp [hk]⟩
theorem wlA {k : Nat} {m : Mem} (h : Wl k m) (l : Mem) : Wl k (m ++ l) := by
  have hk := wl_lt h
  obtain ⟨a, b, c, e⟩ := h
  exact ⟨a, b, c, by rw [List.getElem?_append_left hk]; exact e⟩
theorem wl_self {k : Nat} {m : Mem} (h : Wl k m) : ∃ c, isW c ∧ m.set k c = m := by
  have hk := wl_lt h
  obtain ⟨a, b, c, e⟩ := h
  refine ⟨_, ⟨a, b, c, rfl⟩, ?_⟩
  have e2 : m[k] = .lst [.int a, .int b, .int c] := by
    rw [List.getElem?_eq_getElem hk] at e
    exact Option.some.inj e
  rw [← e2]
  exact List.set_getElem_self hk
theorem draw_wp {k : Nat} {m : Mem} (h : Wl k m) {n : Int} {Q : SV → Mem → Prop} (hn : 0 < n) (hb : n.natAbs < big) (H : ∀ d c, isW c → 0 ≤ d → d < n → Q (.dat (.int d)) (m.set k c)) : Ok (F__law_draw [.ref k, .dat (.int n)] m) Q := by
  have hk := wl_lt h
  obtain ⟨a, b, c, e⟩ := h
  by_cases ha : 0 < a
  · have h0 : n ≠ 0 := by omega
    have e1 : F__law_draw [.ref k, .dat (.int n)] m = .ok (.dat (.int (a.fmod n))) (m.set k (.lst [.int (a.fdiv n), .int b, .int c])) := by
      simp [F__law_draw, fnRun_ap, den__law_draw, enter, setC, ixV, atI, ixN, rdSq, rdL, e, ha, h0, hb]
    obtain ⟨q1, q2⟩ := fmod_nonneg (a := a) hn
    exact ⟨_, _, e1, H _ _ ⟨_, _, _, rfl⟩ q1 q2⟩
  · have h0 : n ≠ 0 := by omega
    obtain ⟨r, er⟩ := mix_ok b (c + 1) (m.set k (.lst [.int a, .int b, .int (c + 1)]))
    have e5 : ∀ c' : Cell, (m.set k c')[k]? = some c' := fun c' => by simp [hk]
    have e1 : F__law_draw [.ref k, .dat (.int n)] m = .ok (.dat (.int (r.fmod n))) (m.set k (.lst [.int a, .int b, .int (c + 1)])) := by
      simp [F__law_draw, fnRun_ap, den__law_draw, enter, setC, ixV, atI, ixN, rdSq, rdL, e, e5, ha, h0, er]
    obtain ⟨q1, q2⟩ := fmod_nonneg (a := r) hn
    exact ⟨_, _, e1, H _ _ ⟨_, _, _, rfl⟩ q1 q2⟩
theorem draw_wpS {k : Nat} {m : Mem} {c0 : Cell} (hk : k < m.length) (h0 : isW c0) {n : Int} {Q : SV → Mem → Prop} (hn : 0 < n) (hb : n.natAbs < big) (H : ∀ d c, isW c → 0 ≤ d → d < n → Q (.dat (.int d)) (m.set k c)) : Ok (F__law_draw [.ref k, .dat (.int n)] (m.set k c0)) Q :=
  draw_wp (wlS hk h0) hn hb fun d c hc q1 q2 => by
    rw [List.set_set]
    exact H d c hc q1 q2
theorem draw_wpA {k : Nat} {m l : Mem} {c0 : Cell} (hk : k < m.length) (h0 : isW c0) {n : Int} {Q : SV → Mem → Prop} (hn : 0 < n) (hb : n.natAbs < big) (H : ∀ d c, isW c → 0 ≤ d → d < n → Q (.dat (.int d)) (m.set k c ++ l)) : Ok (F__law_draw [.ref k, .dat (.int n)] (m.set k c0 ++ l)) Q :=
  draw_wp (wlA (wlS hk h0) l) hn hb fun d c hc q1 q2 => by
    rw [List.set_append_left _ _ (by rw [List.length_set]; exact hk), List.set_set]
    exact H d c hc q1 q2
theorem pick_wp {k : Nat} {m : Mem} (h : Wl k m) {xs : List D} {Q : SV → Mem → Prop} (hx : 0 < xs.length) (hl : xs.length ≤ 1000) (H : ∀ d c, isW c → d ∈ xs → Q (.dat d) (m.set k c)) : Ok (F__law_pick [.ref k, .dat (.lst xs)] m) Q := by
  simp only [F__law_pick, fnRun_ap, den__law_pick, enter, ok_fin, dRet_ap, d2_ap, k2_ap, ok_bnd]
  simp [lenV, rdSq, rdL]
  refine draw_wp h (by omega) (small_big (by omega)) fun d c hc q1 q2 => ?_
  have hi : d.toNat < xs.length := by omega
  simp [ixV, rdSq, rdL, atI_ofNat q1 q2, List.getElem?_eq_getElem hi]
  exact H _ c hc (List.getElem_mem _)
theorem pick_wpS {k : Nat} {m : Mem} {c0 : Cell} (hk : k < m.length) (h0 : isW c0) {xs : List D} {Q : SV → Mem → Prop} (hx : 0 < xs.length) (hl : xs.length ≤ 1000) (H : ∀ d c, isW c → d ∈ xs → Q (.dat d) (m.set k c)) : Ok (F__law_pick [.ref k, .dat (.lst xs)] (m.set k c0)) Q :=
  pick_wp (wlS hk h0) hx hl fun d c hc hd => by
    rw [List.set_set]
    exact H d c hc hd
theorem pick_wpA {k : Nat} {m l : Mem} {c0 : Cell} (hk : k < m.length) (h0 : isW c0) {xs : List D} {Q : SV → Mem → Prop} (hx : 0 < xs.length) (hl : xs.length ≤ 1000) (H : ∀ d c, isW c → d ∈ xs → Q (.dat d) (m.set k c ++ l)) : Ok (F__law_pick [.ref k, .dat (.lst xs)] (m.set k c0 ++ l)) Q :=
  pick_wp (wlA (wlS hk h0) l) hx hl fun d c hc hd => by
    rw [List.set_append_left _ _ (by rw [List.length_set]; exact hk), List.set_set]
    exact H d c hc hd

/-! ### the source of draws, and the law's loops -/
theorem source_ok (ns : List Int) (k : Nat) (hl : ns.length ≤ 63) (m : Mem) : ∃ w, isW w ∧ F__law_source [.dat (.scr ns), .dat (.int (k : Int))] m = .ok (.ref m.length) (m ++ [w]) := by
  have m1 : ∀ x : Int, mulOk 7919 x = true := fun x => mulOk_l x (by decide)
  have m2 : ∀ x : Int, mulOk x 1 = true := fun x => mulOk_r x (by decide)
  have m3 : ∀ x : Int, mulOk x 0 = true := fun x => mulOk_r x (by decide)
  have h0 : ∃ z : Int, atI (ns.map D.int ++ [D.int 0]) 0 = some (.int z) := by
    rw [atI_ofNat (by decide) (by simp)]
    cases ns with
    | nil => exact ⟨0, rfl⟩
    | cons a r => exact ⟨a, rfl⟩
  obtain ⟨z, hz⟩ := h0
  have hlen : ns.length + 1 ≤ 16777216 := by omega
  by_cases hk : (k : Int) < ns.length
  · have hi : k < ns.length := by omega
    have ea : atI ns (k : Int) = some ns[k] := by rw [atI_ofNat (by omega) hk]; simp
    by_cases h : (1000000000000000000 : Int) ≤ ns[k]
    · refine ⟨.lst [.int ns[k], .int ns[k], .int 0], ⟨_, _, _, rfl⟩, ?_⟩
      simp [F__law_source, fnRun_ap, den__law_source, enter, mkLst, mkOwn, allDat, addV, hlen, ixV, rdSq, rdL, hz, m1, m2, m3, lenV, hk, ea, h, exitO]
    · refine ⟨.lst [.int 0, .int ns[k], .int 0], ⟨_, _, _, rfl⟩, ?_⟩
      simp [F__law_source, fnRun_ap, den__law_source, enter, mkLst, mkOwn, allDat, addV, hlen, ixV, rdSq, rdL, hz, m1, m2, m3, lenV, hk, ea, h, exitO]
  · by_cases h : (1000000000000000000 : Int) ≤ z + 7919 * (k : Int)
    · refine ⟨.lst [.int (z + 7919 * (k : Int)), .int (z + 7919 * (k : Int)), .int 0], ⟨_, _, _, rfl⟩, ?_⟩
      simp [F__law_source, fnRun_ap, den__law_source, enter, mkLst, mkOwn, allDat, addV, hlen, ixV, rdSq, rdL, hz, m1, m2, m3, lenV, hk, h, exitO]
    · refine ⟨.lst [.int 0, .int (z + 7919 * (k : Int)), .int 0], ⟨_, _, _, rfl⟩, ?_⟩
      simp [F__law_source, fnRun_ap, den__law_source, enter, mkLst, mkOwn, allDat, addV, hlen, ixV, rdSq, rdL, hz, m1, m2, m3, lenV, hk, h, exitO]

/-! ### sections: the program's small defs -/
open SE (Part many subs)
def paD : Part → D
  | .num x => .int x
  | .tri f l s => .tup [.int f, .int l, .int s]
  | .lst xs => .lst (xs.map D.int)
def scD (ps : List Part) : D := .tup (ps.map paD)
def FarI (x : Int) : Prop := -FARn ≤ x ∧ x ≤ FARn
def POk : Part → Prop
  | .num x => FarI x
  | .tri f l s => FarI f ∧ FarI l ∧ FarI s ∧ s ≠ 0
  | .lst xs => xs.length ≤ 64 ∧ ∀ x ∈ xs, FarI x
theorem tri_far {f l s : Int} (h : POk (.tri f l s)) : Far f l s := by
  obtain ⟨h1, h2, h3, h4⟩ := h
  exact ⟨h4, h3.1, h3.2, h1.1, h1.2, h2.1, h2.2⟩
theorem szF {f l s : Int} (h : Far f l s) : TR.sz f l s ≤ 3 * FARn := TR.sz_le h.1 (by decide) (by obtain ⟨_, _, _, h3, h4, h5, h6⟩ := h; unfold FARn at *; omega)
theorem mulOkF {i j : Int} (h0 : -(3 * FARn) ≤ i) (h1 : i ≤ 3 * FARn) (h2 : -(3 * FARn) ≤ j) (h3 : j ≤ 3 * FARn) : mulOk i j = true := by
  have a : i.natAbs < big := small_big (by unfold FARn at *; omega)
  have b : j.natAbs < big := small_big (by unfold FARn at *; omega)
  simp [mulOk, a, b]
theorem many_le {p : Part} (h : POk p) : many p ≤ 3 * FARn := by
  cases p with
  | num x => unfold FARn; simp [many]
  | tri f l s => exact szF (tri_far h)
  | lst xs => have := h.1; show (xs.length : Int) ≤ 3 * FARn; unfold FARn; omega
theorem is_far_int (x : Int) (m : Mem) : F_is_far [.dat (.int x)] m = .ok (.dat (.bl (decide (-FARn ≤ x ∧ x ≤ FARn)))) m := by
  simp [F_is_far, fnRun_ap, den_is_far, enter, is_between_int, FARn]
  exact (Bool.decide_and ..).symm
theorem is_part_ok {p : Part} (h : POk p) (m : Mem) : F_is_part [.dat (paD p)] m = .ok (.dat (.bl true)) m := by
  cases p with
  | num x =>
    obtain ⟨h1, h2⟩ := h
    simp [F_is_part, fnRun_ap, den_is_part, enter, paD, isiV, tyName, tyIs, is_far_int, h1, h2]
  | tri f l s =>
    obtain ⟨⟨a1, a2⟩, ⟨b1, b2⟩, ⟨c1, c2⟩, h0⟩ := h
    simp [F_is_part, fnRun_ap, den_is_part, ce1_is_part, enter, paD, isiV, tyName, tyIs, lenV, rdSq, itemsV, wipeE, noX, loopC, gN, dYes, is_far_int, a1, a2, b1, b2, c1, c2, allV, rdL, asBs, ixV, atI, ixN, h0]
  | lst xs =>
    have lc : ∀ e0, noX (loopC (gN 1) dYes ce2_is_part [e0, none] (xs.map D.int) []) m = .ok (List.replicate xs.length (.bl true)) m := fun e0 => by
      rw [loopC_all (fun _ => .bl true)]
      · congr 1
        simp
        exact List.map_const' ..
      · intro d hd
        obtain ⟨x, hx, rfl⟩ := List.mem_map.mp hd
        obtain ⟨h1, h2⟩ := h.2 x hx
        refine ⟨_, rfl, ?_⟩
        simp [ce2_is_part, is_far_int, h1, h2]
      · have := h.1
        simp
        omega
    have hl : (xs.length : Int) ≤ 64 := by have := h.1; omega
    simp [F_is_part, fnRun_ap, den_is_part, enter, paD, isiV, tyName, tyIs, lenV, rdSq, rdL, hl, itemsV, wipeE, lc, all_true]
theorem sz_sec {f l s : Int} (hs : s ≠ 0) : max 0 ((l - f).fdiv s + 1) = TR.sz f l s := by
  have := Int.add_mul_fdiv_right (l - f) 1 hs
  rw [Int.one_mul] at this
  unfold TR.sz
  rw [this]
theorem many_of_ok {p : Part} (h : POk p) (m : Mem) : F_many_of [.dat (paD p)] m = .ok (.dat (.int (many p))) m := by
  cases p with
  | num x => simp [F_many_of, fnRun_ap, den_many_of, enter, paD, isiV, tyName, tyIs, many]
  | tri f l s =>
    have hf := tri_far h
    have hb := far_big hf.2.1 hf.2.2.1
    simp [F_many_of, fnRun_ap, den_many_of, enter, paD, isiV, tyName, tyIs, ixV, atI, ixN, rdSq, hf.1, hb, many]
    exact sz_sec hf.1
  | lst xs => simp [F_many_of, fnRun_ap, den_many_of, enter, paD, isiV, tyName, tyIs, lenV, rdSq, rdL, many]
theorem at_part_ok {p : Part} (h : POk p) {i : Int} (h0 : 0 ≤ i) (h1 : i < many p) (m : Mem) : F_at_part [.dat (paD p), .dat (.int i)] m = .ok (.dat (.int (SE.at_ p i))) m := by
  cases p with
  | num x => simp [F_at_part, fnRun_ap, den_at_part, enter, paD, isiV, tyName, tyIs, SE.at_]
  | tri f l s =>
    have hf := tri_far h
    have hz := szF hf
    have h1' : i < TR.sz f l s := h1
    have mo : mulOk i s = true := mulOkF (by unfold FARn at *; omega) (by omega) (by have := hf.2.1; unfold FARn at *; omega) (by have := hf.2.2.1; unfold FARn at *; omega)
    simp [F_at_part, fnRun_ap, den_at_part, enter, paD, isiV, tyName, tyIs, ixV, atI, ixN, rdSq, mo, SE.at_]
  | lst xs =>
    have h1' : i < (xs.length : Int) := h1
    have e : atI (xs.map D.int) i = some (.int (xs.getD i.toNat 0)) := by
      rw [atI_ofNat h0 (by simpa using h1'), List.getElem?_map, List.getElem?_eq_getElem (by omega)]
      simp [List.getD, List.getElem?_eq_getElem (show i.toNat < xs.length by omega)]
    simp [F_at_part, fnRun_ap, den_at_part, enter, paD, isiV, tyName, tyIs, ixV, rdSq, rdL, e, SE.at_]
theorem minL_some : ∀ {xs : List Int}, xs ≠ [] → ∃ k, minL xs = some k
  | [], h => absurd rfl h
  | [a], _ => ⟨a, rfl⟩
  | a :: b :: r, _ => by
    obtain ⟨k, e⟩ := minL_some (xs := b :: r) (by simp)
    exact ⟨min a k, by simp [minL, e]⟩
theorem maxL_some : ∀ {xs : List Int}, xs ≠ [] → ∃ k, maxL xs = some k
  | [], h => absurd rfl h
  | [a], _ => ⟨a, rfl⟩
  | a :: b :: r, _ => by
    obtain ⟨k, e⟩ := maxL_some (xs := b :: r) (by simp)
    exact ⟨max a k, by simp [maxL, e]⟩
/-- the least and the greatest subscript -/
structure EndsP (p : Part) (lo hi : Int) : Prop where
  lo_in : lo ∈ subs p
  hi_in : hi ∈ subs p
  lo_le : ∀ x ∈ subs p, lo ≤ x
  le_hi : ∀ x ∈ subs p, x ≤ hi
theorem ends_of_ok {p : Part} (h : POk p) (hp : 0 < many p) (m : Mem) : ∃ lo hi, EndsP p lo hi ∧ ∀ m, F_ends_of [.dat (paD p)] m = .ok (.dat (.tup [.int lo, .int hi])) m := by
  cases p with
  | num x =>
    refine ⟨x, x, ⟨by simp [subs], by simp [subs], by simp [subs], by simp [subs]⟩, fun m => ?_⟩
    have a0 := at_part_ok h (i := 0) (by decide) hp
    have mo := many_of_ok h
    simp only [paD, many, SE.at_] at a0 mo
    simp [F_ends_of, fnRun_ap, den_ends_of, enter, paD, isiV, tyName, tyIs, a0, mo, mkLst, mkTup, allDat, min1V, max1V, rdL, asIs, minL, maxL]
  | tri f l s =>
    have a0 := at_part_ok h (i := 0) (by decide) hp
    have aL := at_part_ok h (i := many (.tri f l s) - 1) (by omega) (by omega)
    have mo := many_of_ok h
    have hs : s ≠ 0 := h.2.2.2
    have m0 := SE.at_mem (p := .tri f l s) (i := 0) (by decide) hp
    have m1 := SE.at_mem (p := .tri f l s) (i := many (.tri f l s) - 1) (by omega) (by omega)
    have bet : ∀ x ∈ subs (.tri f l s), min (SE.at_ (.tri f l s) 0) (SE.at_ (.tri f l s) (many (.tri f l s) - 1)) ≤ x ∧ x ≤ max (SE.at_ (.tri f l s) 0) (SE.at_ (.tri f l s) (many (.tri f l s) - 1)) := fun x hx => by
      obtain ⟨j, hj, rfl⟩ := TR.mem_els.mp hx
      have hp' : 0 < TR.sz f l s := hp
      show min (f + 0 * s) (f + (TR.sz f l s - 1) * s) ≤ f + (j : Int) * s ∧ f + (j : Int) * s ≤ max (f + 0 * s) (f + (TR.sz f l s - 1) * s)
      rcases Int.lt_or_gt_of_ne hs with hn | hpos
      · have e1 : (j : Int) * s ≤ 0 := Int.mul_nonpos_of_nonneg_of_nonpos (by omega) (by omega)
        have e2 : (TR.sz f l s - 1) * s ≤ (j : Int) * s := Int.mul_le_mul_of_nonpos_right (by omega) (by omega)
        omega
      · have e1 : 0 ≤ (j : Int) * s := Int.mul_nonneg (by omega) (by omega)
        have e2 : (j : Int) * s ≤ (TR.sz f l s - 1) * s := Int.mul_le_mul_of_nonneg_right (by omega) (by omega)
        omega
    refine ⟨min (SE.at_ (.tri f l s) 0) (SE.at_ (.tri f l s) (many (.tri f l s) - 1)), max (SE.at_ (.tri f l s) 0) (SE.at_ (.tri f l s) (many (.tri f l s) - 1)), ⟨?_, ?_, fun x hx => (bet x hx).1, fun x hx => (bet x hx).2⟩, fun m => ?_⟩
    · rcases Int.le_total (SE.at_ (.tri f l s) 0) (SE.at_ (.tri f l s) (many (.tri f l s) - 1)) with q | q
      · rw [Int.min_eq_left q]; exact m0
      · rw [Int.min_eq_right q]; exact m1
    · rcases Int.le_total (SE.at_ (.tri f l s) 0) (SE.at_ (.tri f l s) (many (.tri f l s) - 1)) with q | q
      · rw [Int.max_eq_right q]; exact m1
      · rw [Int.max_eq_left q]; exact m0
    · simp only [paD] at a0 aL mo
      simp [F_ends_of, fnRun_ap, den_ends_of, enter, paD, isiV, tyName, tyIs, a0, aL, mo, mkLst, mkTup, allDat, min1V, max1V, rdL, asIs, minL, maxL]
  | lst xs =>
    have hne : xs ≠ [] := by rintro rfl; simp [many] at hp
    obtain ⟨lo, e1⟩ := minL_some hne
    obtain ⟨hi, e2⟩ := maxL_some hne
    obtain ⟨q1, q2⟩ := minL_ok e1
    obtain ⟨q3, q4⟩ := maxL_ok e2
    refine ⟨lo, hi, ⟨q1, q3, q2, q4⟩, fun m => ?_⟩
    simp [F_ends_of, fnRun_ap, den_ends_of, enter, paD, isiV, tyName, tyIs, mkTup, allDat, min1V, max1V, rdL, e1, e2]
/-! sections -/
structure SOk (bs : List Bd) (ps : List Part) : Prop where
  len : ps.length = bs.length
  ok : ∀ p ∈ ps, POk p
  ins : 0 ∉ ps.map many → SE.inS bs ps
theorem manys_lc {ps : List Part} (h : ∀ p ∈ ps, POk p) (hl : ps.length ≤ 1000) {g : D → En → Option En} {ce : En → PL.P SV} {env : En} (m : Mem) (hg : ∀ p : Part, POk p → ∃ e1, g (paD p) env = some e1 ∧ ce e1 m = .ok (.dat (.int (many p))) m) :
    noX (loopC g dYes ce env (ps.map paD) []) m = .ok ((ps.map many).map D.int) m := by
  have main : ∀ (qs : List Part) (acc : List D), (∀ p ∈ qs, POk p) → acc.length + qs.length ≤ 1000 → loopC g dYes ce env (qs.map paD) acc m = .ok (acc ++ (qs.map many).map D.int) m := by
    intro qs
    induction qs with
    | nil => intro acc _ _; simp [loopC]
    | cons q r ih =>
      intro acc hq hl
      obtain ⟨e1, g1, g2⟩ := hg q (hq q List.mem_cons_self)
      simp at hl
      have := ih (acc ++ [.int (many q)]) (fun p hp => hq p (List.mem_cons_of_mem _ hp)) (by simp; omega)
      simp [loopC, g1, dYes, g2, show acc.length < 16777216 by omega, this]
  have := main ps [] h (by simpa using hl)
  simp [noX, this]
theorem is_empty_ok {ps : List Part} (h : ∀ p ∈ ps, POk p) (hl : ps.length ≤ 1000) (m : Mem) : F_is_empty [.dat (scD ps)] m = .ok (.dat (.bl (decide (0 ∈ ps.map many)))) m := by
  have lc : ∀ e0, noX (loopC (gN 1) dYes ce1_is_empty [e0, none] (ps.map paD) []) m = .ok ((ps.map many).map D.int) m := fun e0 => manys_lc h hl m fun p hp => ⟨_, rfl, by simp [ce1_is_empty, many_of_ok hp]⟩
  have e2 := inSV_ints 0 (ps.map many)
  rw [List.map_map] at e2
  simp [F_is_empty, fnRun_ap, den_is_empty, enter, scD, itemsV, wipeE, lc, e2]
theorem zipS_get {ps : List Part} {bs : List Bd} {i : Nat} {d : D} (h : (zipD2 (ps.map paD) (bs.map pr))[i]? = some d) : ∃ p b, ps[i]? = some p ∧ bs[i]? = some b ∧ d = .tup [paD p, pr b] := by
  unfold zipD2 at h
  rw [List.getElem?_zipWith, List.getElem?_map, List.getElem?_map] at h
  cases hp : ps[i]? with
  | none => rw [hp] at h; simp at h
  | some p =>
    cases hb : bs[i]? with
    | none => rw [hp, hb] at h; simp at h
    | some b => rw [hp, hb] at h; simp at h; exact ⟨p, b, rfl, rfl, h.symm⟩
theorem inS_get : ∀ {bs : List Bd} {ps : List Part} {i : Nat} {p : Part} {b : Bd}, SE.inS bs ps → ps[i]? = some p → bs[i]? = some b → ∀ x ∈ subs p, b.1 ≤ x ∧ x ≤ b.2
  | [], [], i, p, b, _, h, _ => by simp at h
  | [], _ :: _, _, _, _, h, _, _ => h.elim
  | _ :: _, [], _, _, _, h, _, _ => h.elim
  | c :: bs, q :: ps, 0, p, b, h, h1, h2 => by simp at h1 h2; subst h1 h2; exact h.1
  | c :: bs, q :: ps, i + 1, p, b, h, h1, h2 => inS_get h.2 (by simpa using h1) (by simpa using h2)
theorem many_pos {ps : List Part} (h : 0 ∉ ps.map many) {p : Part} (hp : p ∈ ps) : 0 < many p := by
  have h0 := SE.many_nonneg p
  have : many p ≠ 0 := fun z => h (List.mem_map.mpr ⟨p, hp, z⟩)
  omega
theorem check_section_ok {bs : List Bd} {ps : List Part} (h : SOk bs ps) (hl : bs.length ≤ 1000) (x : Str) (m : Mem) : F_check_section [.dat (bD bs), .dat (scD ps), .dat (.str x)] m = .ok (.dat .non) m := by
  have hlen := h.len
  have lc : ∀ m e0 e1 e2 e4 e5 e6 e7, noX (loopC (gN 3) dYes ce1_check_section [e0, e1, e2, none, e4, e5, e6, e7] (ps.map paD) []) m = .ok (List.replicate ps.length (.bl true)) m := fun m e0 e1 e2 e4 e5 e6 e7 => by
    rw [loopC_all (fun _ => .bl true)]
    · congr 1
      simp
      exact List.map_const' ..
    · intro d hd
      obtain ⟨p, hp, rfl⟩ := List.mem_map.mp hd
      exact ⟨_, rfl, by simp [ce1_check_section, is_part_ok (h.ok p hp)]⟩
    · simp; omega
  have ie := is_empty_ok h.ok (by omega)
  unfold scD at ie
  by_cases he : 0 ∈ ps.map many
  · simp only [he, decide_true] at ie
    simp [F_check_section, fnRun_ap, den_check_section, enter, bD, scD, isiV, tyName, tyIs, lenV, rdSq, hlen, itemsV, wipeE, lc, all_true, ie]
  · simp only [he, decide_false] at ie
    have main : Ok (F_check_section [.dat (bD bs), .dat (scD ps), .dat (.str x)] m) (fun v m' => v = .dat .non ∧ m' = m) := by
      simp [F_check_section, fnRun_ap, den_check_section, enter, bD, scD, isiV, tyName, tyIs, lenV, rdSq, hlen, itemsV, wipeE, lc, all_true, ie, zip2V]
      refine ok_forN (fun _ env mm => (∃ a b c d e, env = [some (.dat (.tup (bs.map pr))), some (.dat (.tup (ps.map paD))), some (.dat (.str x)), a, b, c, d, e]) ∧ mm = m) _ 0 _ _ ⟨⟨_, _, _, _, _, rfl⟩, rfl⟩ ?_ ?_
      · rintro i d env mm hi ⟨⟨a, b, c, d', e, rfl⟩, rfl⟩
        obtain ⟨p, b', hp, hb, rfl⟩ := zipS_get hi
        have hpm := List.mem_of_getElem? hp
        obtain ⟨lo, hi', ⟨w1, w2, _, _⟩, ee⟩ := ends_of_ok (h.ok p hpm) (many_pos he hpm) mm
        have ins := inS_get (h.ins he) hp hb
        have i1 := (ins lo w1).1
        have i2 := (ins hi' w2).2
        refine ⟨[some (.dat (.tup (bs.map pr))), some (.dat (.tup (ps.map paD))), some (.dat (.str x)), some (.dat (paD p)), some (.dat (.int b'.1)), some (.dat (.int b'.2)), d', e], by simp [gT, gsC, gN, gsN, pr], ?_⟩
        simp [lp2_check_section, ee, gT, gsC, gN, gsN, show ¬ lo < b'.1 by omega, show ¬ b'.2 < hi' by omega]
      · rintro env mm ⟨⟨a, b, c, d', e, rfl⟩, rfl⟩
        simp
    obtain ⟨v, m', e, rfl, rfl⟩ := main
    exact e
/-! ### bounds of great numbers -/
def Q32 : Nat := 100000000000000000000000000000000
def Bn (k : Nat) (x : Int) : Prop := x.natAbs ≤ Q32 ^ k
theorem Bn.mul {j k : Nat} {x y : Int} (h : Bn j x) (h' : Bn k y) : Bn (j + k) (x * y) := by
  unfold Bn at *
  rw [Int.natAbs_mul, Nat.pow_add]
  exact Nat.mul_le_mul h h'
theorem Bn.mono {j k : Nat} {x : Int} (h : Bn j x) (hk : j ≤ k) : Bn k x := Nat.le_trans h (Nat.pow_le_pow_right (by decide) hk)
theorem Bn.add {k : Nat} {x y : Int} (h : Bn k x) (h' : Bn k y) : Bn (k + 1) (x + y) := by
  unfold Bn at *
  rw [Nat.pow_succ]
  have := Int.natAbs_add_le x y
  have h2 : Q32 ^ k * 2 ≤ Q32 ^ k * Q32 := Nat.mul_le_mul_left _ (by decide)
  omega
theorem Bn.of {x : Int} (h : x.natAbs ≤ 100000000000000000000000000000000) : Bn 1 x := by
  unfold Bn Q32
  rw [Nat.pow_one]
  exact h
theorem Bn.big {k : Nat} {x : Int} (h : Bn k x) (hk : k ≤ 30) : x.natAbs < PL.big := by
  have h1 : x.natAbs ≤ Q32 ^ 30 := Nat.le_trans h (Nat.pow_le_pow_right (by decide) hk)
  have h2 : Q32 ^ 30 < PL.big := by
    unfold PL.big Q32
    decide +kernel
  omega
theorem Bn.ok {j k : Nat} {x y : Int} (h : Bn j x) (h' : Bn k y) (hj : j ≤ 30) (hk : k ≤ 30) : mulOk x y = true := by
  simp [mulOk, h.big hj, h'.big hk]
theorem Bn.one : Bn 0 1 := by unfold Bn; simp
theorem Bn.zero (k : Nat) : Bn k 0 := by unfold Bn; simp

theorem mulOk_big {i j : Int} (h0 : i.natAbs < big) (h1 : j.natAbs < big) : mulOk i j = true := by simp [mulOk, h0, h1]

/-! ### gcd, lcm, inverse, meeting -/
theorem loopW_go {t : En → PL.P Bool} {body : DS} {n : Nat} {env env' : En} {m m' : Mem} (ht : t env m = .ok true m) (hb : body env m = .ok (.nx env') m') : loopW t body (n + 1) env m = loopW t body n env' m' := by
  simp [loopW, ht, hb]
theorem loopW_end {t : En → PL.P Bool} {body : DS} {n : Nat} {env : En} {m : Mem} (ht : t env m = .ok false m) : loopW t body (n + 1) env m = .ok (.nx env) m := by
  simp [loopW, ht]
theorem nat_fmod (x y : Nat) : ((x : Int)).fmod (y : Int) = ((x % y : Nat) : Int) := by
  rw [Int.fmod_eq_emod_of_nonneg _ (by omega)]
  exact (Int.natCast_emod x y).symm
theorem nat_fdiv (x y : Nat) : ((x : Int)).fdiv (y : Int) = ((x / y : Nat) : Int) := by
  rw [Int.fdiv_eq_ediv_of_nonneg _ (by omega)]
  exact (Int.natCast_ediv x y).symm
theorem gcd_test (x y : Nat) (m : Mem) : ts2_gcd [some (.dat (.int x)), some (.dat (.int y))] m = .ok (!decide (y = 0)) m := by
  simp [ts2_gcd] <;> omega
theorem gcd_body (x y : Nat) (hy : y ≠ 0) (m : Mem) : lp1_gcd [some (.dat (.int x)), some (.dat (.int y))] m = .ok (.nx [some (.dat (.int y)), some (.dat (.int ((x % y : Nat) : Int)))]) m := by
  simp [lp1_gcd, hy, nat_fmod]
theorem gcd_loop (m : Mem) : ∀ (k x y n : Nat), y < 2 ^ k → 2 * k + 1 ≤ n → loopW ts2_gcd lp1_gcd n [some (.dat (.int x)), some (.dat (.int y))] m = .ok (.nx [some (.dat (.int (Nat.gcd x y : Nat))), some (.dat (.int 0))]) m
  | 0, x, y, n, h, hn => by
    obtain ⟨n, rfl⟩ : ∃ n', n = n' + 1 := ⟨n - 1, by omega⟩
    have hy : y = 0 := by simpa using h
    subst hy
    rw [loopW_end (by rw [gcd_test]; simp)]
    simp
  | k + 1, x, y, n, h, hn => by
    obtain ⟨n, rfl⟩ : ∃ n', n = n' + 2 := ⟨n - 2, by omega⟩
    by_cases hy : y = 0
    · subst hy
      rw [loopW_end (by rw [gcd_test]; simp)]
      simp
    · rw [loopW_go (by rw [gcd_test]; simp [hy]) (gcd_body x y hy m)]
      by_cases hr : x % y = 0
      · rw [hr, loopW_end (by rw [gcd_test]; simp)]
        have : Nat.gcd x y = y := by rw [Nat.gcd_comm, Nat.gcd_rec, hr]; simp
        rw [this]
        rfl
      · rw [loopW_go (by rw [gcd_test]; simp [hr]) (gcd_body y (x % y) hr m)]
        have h2 := TR.half_step (show 0 < x % y by omega) (Nat.mod_lt x (by omega))
        rw [gcd_loop m k (x % y) (y % (x % y)) n (by rw [Nat.pow_succ] at h; omega) (by omega)]
        have : Nat.gcd (x % y) (y % (x % y)) = Nat.gcd x y := by
          rw [Nat.gcd_comm, ← Nat.gcd_rec, Nat.gcd_comm x y, Nat.gcd_rec y x]
        rw [this]
theorem gcd_ok {a b : Int} (ha : 0 ≤ a) (hb : 0 ≤ b) (h : b < 2 ^ 400) (m : Mem) : F_gcd [.dat (.int a), .dat (.int b)] m = .ok (.dat (.int (Int.gcd a b))) m := by
  have q := gcd_loop m 400 a.toNat b.toNat 1000 (by omega) (by decide)
  rw [show ((a.toNat : Nat) : Int) = a by omega, show ((b.toNat : Nat) : Int) = b by omega] at q
  have e : Int.gcd a b = Nat.gcd a.toNat b.toNat := by
    unfold Int.gcd
    rw [show a.natAbs = a.toNat by omega, show b.natAbs = b.toNat by omega]
  rw [e]
  simp [F_gcd, fnRun_ap, den_gcd, enter, dWhile, q]
theorem lcm_ok {a b : Int} (ha : 0 < a) (hb : 0 < b) (h : a ≤ FARn) (h' : b ≤ FARn) (m : Mem) : F_lcm [.dat (.int a), .dat (.int b)] m = .ok (.dat (.int (Int.lcm a b))) m := by
  have g := gcd_ok (a := a) (b := b) (by omega) (by omega) (by unfold FARn at h'; omega)
  have mo : mulOk a b = true := mulOk_big (small_big (by unfold FARn at *; omega)) (small_big (by unfold FARn at *; omega))
  have g0 : 0 < Int.gcd a b := Int.gcd_pos_of_ne_zero_left _ (by omega)
  have gle : Int.gcd a b ≤ a.natAbs := Nat.le_of_dvd (by omega) (Nat.gcd_dvd_left ..)
  have gb : Int.gcd a b < big := small_big (by unfold FARn at *; omega)
  have e : ((a * b).natAbs : Int).fdiv (Int.gcd a b : Int) = (Int.lcm a b : Int) := by
    rw [nat_fdiv]
    rw [Int.natAbs_mul]
    rfl
  simp [F_lcm, fnRun_ap, den_lcm, enter, g, mo, show Int.gcd a b ≠ 0 by omega, gb, e]
/-! the extended gcd -/
structure EInv (M a : Int) (x y : Nat) (u v : Int) : Prop where
  d1 : M ∣ ((x : Int) - u * a)
  d2 : M ∣ ((y : Int) - v * a)
  sum : (u.natAbs * y + v.natAbs * x : Nat) = M.toNat
  sgn : u * v ≤ 0
  pos : 0 < x ∨ v = 0
theorem natAbs_opp {u v : Int} (t : Nat) (h : u * v ≤ 0) : (u - (t : Int) * v).natAbs = u.natAbs + t * v.natAbs := by
  have e : ((t : Int) * v).natAbs = t * v.natAbs := by rw [Int.natAbs_mul]; simp
  rcases Int.lt_trichotomy v 0 with hv | hv | hv
  · have hu : 0 ≤ u := by
      by_cases q : 0 ≤ u
      · exact q
      · have := Int.mul_pos_of_neg_of_neg (show u < 0 by omega) hv
        omega
    have : (t : Int) * v ≤ 0 := Int.mul_nonpos_of_nonneg_of_nonpos (by omega) (by omega)
    omega
  · subst hv; simp
  · have hu : u ≤ 0 := by
      by_cases q : u ≤ 0
      · exact q
      · have := Int.mul_pos (show 0 < u by omega) hv
        omega
    have : 0 ≤ (t : Int) * v := Int.mul_nonneg (by omega) (by omega)
    omega
theorem EInv.step {M a : Int} {x y : Nat} {u v : Int} (h : EInv M a x y u v) (hy : y ≠ 0) : EInv M a y (x % y) v (u - ((x / y : Nat) : Int) * v) := by
  have hx := Nat.div_add_mod x y
  generalize hq : x / y = q at *
  refine ⟨h.d2, ?_, ?_, ?_, .inl (by omega)⟩
  · have h1 : M ∣ ((q : Int) * ((y : Int) - v * a)) := Int.dvd_trans h.d2 ⟨(q : Int), Int.mul_comm _ _⟩
    have h2 := Int.dvd_sub h.d1 h1
    have e : (x : Int) - u * a - (q : Int) * ((y : Int) - v * a) = ((x % y : Nat) : Int) - (u - (q : Int) * v) * a := by
      have e1 : (x : Int) = (y : Int) * (q : Int) + ((x % y : Nat) : Int) := by omega
      rw [Int.mul_sub, Int.sub_mul, Int.mul_assoc, Int.mul_comm (q : Int) (y : Int)]
      omega
    rw [e] at h2
    exact h2
  · rw [natAbs_opp _ h.sgn, ← h.sum]
    have e1 : x = y * q + x % y := by omega
    have e2 : v.natAbs * x = v.natAbs * (y * q) + v.natAbs * (x % y) := by
      rw [← Nat.mul_add]
      rw [← e1]
    have e3 : (u.natAbs + q * v.natAbs) * y = u.natAbs * y + v.natAbs * (y * q) := by
      rw [Nat.add_mul, Nat.mul_comm q v.natAbs, Nat.mul_assoc, Nat.mul_comm q y]
    omega
  · have : v * (u - (q : Int) * v) = u * v - (q : Int) * (v * v) := by
      rw [Int.mul_sub, Int.mul_comm v u, Int.mul_left_comm]
    rw [this]
    have h1 := h.sgn
    have h2 : 0 ≤ v * v := by
      rcases Int.le_total 0 v with h | h
      · exact Int.mul_nonneg h h
      · exact Int.mul_nonneg_of_nonpos_of_nonpos h h
    have h3 : 0 ≤ (q : Int) * (v * v) := Int.mul_nonneg (by omega) h2
    omega
theorem inv_test (a b : Option SV) (x y : Nat) (u v : Option SV) (t : Option SV) (m : Mem) : ts2_inverse [a, b, some (.dat (.int x)), some (.dat (.int y)), u, v, t] m = .ok (!decide (y = 0)) m := by
  simp [ts2_inverse] <;> omega
theorem inv_body {M c : Int} (hM : M ≤ 3 * FARn) {x y : Nat} {u v : Int} (h : EInv M c x y u v) (hx : x ≤ 3 * FARn) (hy : y ≠ 0) (hy2 : y ≤ 3 * FARn) (a b t : Option SV) (m : Mem) : lp1_inverse [a, b, some (.dat (.int x)), some (.dat (.int y)), some (.dat (.int u)), some (.dat (.int v)), t] m =
    .ok (.nx [a, b, some (.dat (.int y)), some (.dat (.int ((x % y : Nat) : Int))), some (.dat (.int v)), some (.dat (.int (u - ((x / y : Nat) : Int) * v))), some (.dat (.int ((x / y : Nat) : Int)))]) m := by
  have hy' : (y : Int) ≠ 0 := by omega
  have yb : y < big := small_big (by unfold FARn at *; omega)
  have hq : x / y ≤ x := Nat.div_le_self x y
  have vb : v.natAbs < big := by
    rcases h.pos with p | p
    · have : v.natAbs * 1 ≤ v.natAbs * x := Nat.mul_le_mul_left _ p
      have := h.sum
      exact small_big (by unfold FARn at *; omega)
    · subst p; exact small_big (by decide)
  have qb : x / y < big := small_big (by unfold FARn at *; omega)
  have mo1 : mulOk ((x / y : Nat) : Int) (y : Int) = true := mulOk_big (by rw [Int.natAbs_natCast]; exact qb) (by rw [Int.natAbs_natCast]; exact yb)
  have mo2 : mulOk ((x / y : Nat) : Int) v = true := mulOk_big (by rw [Int.natAbs_natCast]; exact qb) vb
  have e : (x : Int) - ((x / y : Nat) : Int) * (y : Int) = ((x % y : Nat) : Int) := by
    have := Nat.div_add_mod x y
    rw [Int.mul_comm]
    have h2 : ((y * (x / y) : Nat) : Int) = (y : Int) * ((x / y : Nat) : Int) := by simp
    omega
  have fd := nat_fdiv x y
  generalize ((x / y : Nat) : Int) = q at *
  generalize ((x % y : Nat) : Int) = r at *
  simp only [lp1_inverse]
  simp [hy, yb, fd, mo1, mo2, e]
theorem inv_loop {M c : Int} (hM : M ≤ 3 * FARn) (a b : Option SV) (m : Mem) : ∀ (k x y n : Nat) (u v : Int) (t : Option SV), EInv M c x y u v → y < 2 ^ k → 2 * k + 1 ≤ n → x ≤ 3 * FARn → y ≤ 3 * FARn →
    ∃ u' v' t', loopW ts2_inverse lp1_inverse n [a, b, some (.dat (.int x)), some (.dat (.int y)), some (.dat (.int u)), some (.dat (.int v)), t] m = .ok (.nx [a, b, some (.dat (.int (Nat.gcd x y : Nat))), some (.dat (.int 0)), some (.dat (.int u')), v', t']) m ∧ M ∣ ((Nat.gcd x y : Nat) - u' * c)
  | 0, x, y, n, u, v, t, hI, h, hn, hx, hy2 => by
    obtain ⟨n, rfl⟩ : ∃ n', n = n' + 1 := ⟨n - 1, by omega⟩
    have hy : y = 0 := by simpa using h
    subst hy
    exact ⟨u, some (.dat (.int v)), t, by rw [loopW_end (by rw [inv_test]; simp)]; simp, by simpa using hI.d1⟩
  | k + 1, x, y, n, u, v, t, hI, h, hn, hx, hy2 => by
    obtain ⟨n, rfl⟩ : ∃ n', n = n' + 2 := ⟨n - 2, by omega⟩
    by_cases hy : y = 0
    · subst hy
      exact ⟨u, some (.dat (.int v)), t, by rw [loopW_end (by rw [inv_test]; simp)]; simp, by simpa using hI.d1⟩
    · rw [loopW_go (by rw [inv_test]; simp [hy]) (inv_body hM hI hx hy hy2 a b t m)]
      have hI2 := hI.step hy
      have hr2 : x % y < y := Nat.mod_lt x (by omega)
      by_cases hr : x % y = 0
      · have e : Nat.gcd x y = y := by rw [Nat.gcd_comm, Nat.gcd_rec, hr]; simp
        rw [e]
        exact ⟨v, _, _, by rw [hr, loopW_end (by rw [inv_test]; simp)]; rfl, hI.d2⟩
      · rw [loopW_go (by rw [inv_test]; simp [hr]) (inv_body hM hI2 (by omega) hr (by omega) a b _ m)]
        have h2 := TR.half_step (show 0 < x % y by omega) hr2
        have e : Nat.gcd (x % y) (y % (x % y)) = Nat.gcd x y := by
          rw [Nat.gcd_comm, ← Nat.gcd_rec, Nat.gcd_comm x y, Nat.gcd_rec y x]
        have q := inv_loop hM a b m k (x % y) (y % (x % y)) n _ _ (some (.dat (.int ((y / (x % y) : Nat) : Int)))) (hI2.step hr) (by rw [Nat.pow_succ] at h; omega) (by omega) (by omega) (by omega)
        rw [e] at q
        exact q
theorem inverse_ok {a M : Int} (hM : 0 < M) (hM2 : M ≤ FARn) (hg : Int.gcd a M = 1) (m : Mem) : ∃ u : Int, F_inverse [.dat (.int a), .dat (.int M)] m = .ok (.dat (.int u)) m ∧ 0 ≤ u ∧ u < M ∧ M ∣ (1 - u * a) := by
  have hr := fmod_nonneg (a := a) hM
  have hI : EInv M (a.fmod M) (a.fmod M).toNat M.toNat 1 0 := by
    refine ⟨?_, ?_, by simp, by simp, .inr rfl⟩
    · rw [show ((a.fmod M).toNat : Int) - 1 * a.fmod M = 0 by omega]; exact Int.dvd_zero _
    · rw [show (M.toNat : Int) - 0 * a.fmod M = M by omega]; exact Int.dvd_refl _
  obtain ⟨u, v', t', q, hd⟩ := inv_loop (show M ≤ 3 * FARn by unfold FARn at *; omega) (some (.dat (.int a))) (some (.dat (.int M))) m 400 (a.fmod M).toNat M.toNat 1000 1 0 none hI (by unfold FARn at hM2; omega) (by decide) (by unfold FARn at *; omega) (by unfold FARn at *; omega)
  have ed := TR.dvd_fmod (a := a) (b := M) (Int.dvd_refl M) hM
  have eg : Nat.gcd (a.fmod M).toNat M.toNat = 1 := by
    have h1 : Nat.gcd (a.fmod M).toNat M.toNat = Int.gcd (a.fmod M) M := by
      unfold Int.gcd
      rw [show (a.fmod M).natAbs = (a.fmod M).toNat by omega, show M.natAbs = M.toNat by omega]
    rw [h1, ← hg, Int.fmod_eq_emod_of_nonneg _ (by omega)]
    have := Int.gcd_add_mul_left_left M (a % M) (a / M)
    rw [Int.emod_add_mul_ediv] at this
    exact this.symm
  rw [eg] at hd
  rw [show (((a.fmod M).toNat : Nat) : Int) = a.fmod M by omega, show ((M.toNat : Nat) : Int) = M by omega] at q
  have hr2 := fmod_nonneg (a := u) hM
  refine ⟨u.fmod M, ?_, hr2.1, hr2.2, ?_⟩
  · simp [F_inverse, fnRun_ap, den_inverse, enter, mkTup, allDat, gT, gsC, gN, gsN, dWhile, q, show M ≠ 0 by omega]
  · have eu := TR.dvd_fmod (a := u) (b := M) (Int.dvd_refl M) hM
    obtain ⟨k1, hk1⟩ := hd
    obtain ⟨k2, hk2⟩ := ed
    obtain ⟨k3, hk3⟩ := eu
    refine ⟨k1 - u * k2 + a * k3, ?_⟩
    have e1 : u.fmod M = u - M * k3 := by omega
    have e2 : a.fmod M = a - M * k2 := by omega
    rw [e2] at hk1
    rw [e1]
    have x1 : u * (a - M * k2) = u * a - M * (u * k2) := by rw [Int.mul_sub, Int.mul_left_comm]
    have x2 : (u - M * k3) * a = u * a - M * (a * k3) := by rw [Int.sub_mul, Int.mul_assoc, Int.mul_comm k3 a]
    have x3 : M * (k1 - u * k2 + a * k3) = M * k1 - M * (u * k2) + M * (a * k3) := by rw [Int.mul_add, Int.mul_sub]
    rw [x2, x3]
    rw [x1] at hk1
    simp at hk1
    omega
/-! ### meeting -/
theorem meeting_none {f s f' s' : Int} (hs : 0 < s) (hs' : 0 < s') (h2 : s' ≤ FARn) (hd : ¬ (Int.gcd s s' : Int) ∣ (f' - f)) (m : Mem) : F_meeting [.dat (.int f), .dat (.int s), .dat (.int f'), .dat (.int s')] m = .ok (.dat .non) m := by
  have g := gcd_ok (a := s) (b := s') (by omega) (by omega) (by unfold FARn at h2; omega)
  have g0 : 0 < Int.gcd s s' := Int.gcd_pos_of_ne_zero_left _ (by omega)
  have hm : ¬ (f' - f).fmod (Int.gcd s s' : Int) = 0 := fun q => hd (Int.dvd_of_fmod_eq_zero q)
  simp [F_meeting, fnRun_ap, den_meeting, enter, g, show Int.gcd s s' ≠ 0 by omega, hm]
theorem dvd_cancel {g p x : Int} (h : p ∣ x) : g * p ∣ g * x := Int.mul_dvd_mul (Int.dvd_refl g) h
theorem meeting_ok {f s f' s' : Int} (hs : 0 < s) (hs' : 0 < s') (h1 : s ≤ FARn) (h2 : s' ≤ FARn) (hf : (f' - f).natAbs ≤ 3 * FARn) (hd : (Int.gcd s s' : Int) ∣ (f' - f)) (m : Mem) :
    ∃ x : Int, F_meeting [.dat (.int f), .dat (.int s), .dat (.int f'), .dat (.int s')] m = .ok (.dat (.tup [.int x, .int (Int.lcm s s')])) m ∧ s ∣ (x - f) ∧ s' ∣ (x - f') := by
  have g := gcd_ok (a := s) (b := s') (by omega) (by omega) (by unfold FARn at h2; omega)
  have g0 : 0 < Int.gcd s s' := Int.gcd_pos_of_ne_zero_left _ (by omega)
  have gle : Int.gcd s s' ≤ s.natAbs := Nat.le_of_dvd (by omega) (Nat.gcd_dvd_left ..)
  have gb : Int.gcd s s' < big := small_big (by unfold FARn at *; omega)
  have hm : (f' - f).fmod (Int.gcd s s' : Int) = 0 := Int.fmod_eq_zero_of_dvd hd
  have l1 := lcm_ok hs hs' h1 h2
  have L0 : 0 < Int.lcm s s' := Int.lcm_pos (by omega) (by omega)
  have dL1 : s ∣ (Int.lcm s s' : Int) := Int.dvd_lcm_left ..
  have dL2 : s' ∣ (Int.lcm s s' : Int) := Int.dvd_lcm_right ..
  obtain ⟨c, hc⟩ := hd
  obtain ⟨p, hp⟩ : (Int.gcd s s' : Int) ∣ s' := Int.gcd_dvd_right ..
  obtain ⟨o, ho⟩ : (Int.gcd s s' : Int) ∣ s := Int.gcd_dvd_left ..
  generalize hgg : (Int.gcd s s' : Int) = gg at *
  have gg0 : 0 < gg := by omega
  have ggn : gg ≠ 0 := by omega
  have p0 : 0 < p := by
    by_cases q : 0 < p
    · exact q
    · have := Int.mul_nonpos_of_nonneg_of_nonpos (show 0 ≤ gg by omega) (show p ≤ 0 by omega)
      omega
  have o0 : 0 < o := by
    by_cases q : 0 < o
    · exact q
    · have := Int.mul_nonpos_of_nonneg_of_nonpos (show 0 ≤ gg by omega) (show o ≤ 0 by omega)
      omega
  have e1 : s'.fdiv gg = p := by rw [hp]; exact Int.mul_fdiv_cancel_left _ ggn
  have e2 : s.fdiv gg = o := by rw [ho]; exact Int.mul_fdiv_cancel_left _ ggn
  have e3 : (f' - f).fdiv gg = c := by rw [hc]; exact Int.mul_fdiv_cancel_left _ ggn
  have ple : p ≤ s' := by
    have : 1 * p ≤ gg * p := Int.mul_le_mul_of_nonneg_right (by omega) (by omega)
    omega
  have ole : o ≤ s := by
    have : 1 * o ≤ gg * o := Int.mul_le_mul_of_nonneg_right (by omega) (by omega)
    omega
  have cle : c.natAbs ≤ (f' - f).natAbs := by
    rw [hc, Int.natAbs_mul]
    exact Nat.le_mul_of_pos_left _ (by omega)
  have gbI : gg.natAbs < big := by omega
  have hcop : Int.gcd o p = 1 := by
    have := Int.gcd_mul_left gg o p
    rw [← ho, ← hp] at this
    have h3 : gg.natAbs = Int.gcd s s' := by omega
    rw [h3] at this
    have h4 : Int.gcd s s' * 1 = Int.gcd s s' * Int.gcd o p := by omega
    exact (Nat.eq_of_mul_eq_mul_left g0 h4).symm
  have fin_ : ∀ t : Int, p ∣ (t * o - c) → s ∣ ((f + t * s).fmod (Int.lcm s s' : Int) - f) ∧ s' ∣ ((f + t * s).fmod (Int.lcm s s' : Int) - f') := fun t ht => by
    have q1 := TR.dvd_fmod (a := f + t * s) (b := (Int.lcm s s' : Int)) dL1 (by omega)
    have q2 := TR.dvd_fmod (a := f + t * s) (b := (Int.lcm s s' : Int)) dL2 (by omega)
    generalize (f + t * s).fmod (Int.lcm s s' : Int) = z at *
    constructor
    · have := Int.dvd_sub (show s ∣ t * s from ⟨t, Int.mul_comm _ _⟩) q1
      rw [show t * s - (f + t * s - z) = z - f by omega] at this
      exact this
    · have h5 : s' ∣ (t * s - (f' - f)) := by
        have := dvd_cancel (g := gg) ht
        rw [← hp, Int.mul_sub, ← hc, Int.mul_left_comm, ← ho] at this
        exact this
      have := Int.dvd_sub h5 q2
      rw [show t * s - (f' - f) - (f + t * s - z) = z - f' by omega] at this
      exact this
  have lb : Int.lcm s s' ≠ 0 := by omega
  by_cases hp1 : 1 < p
  · obtain ⟨u, hu, u0, u1, ud⟩ := inverse_ok (a := o) (M := p) (by omega) (by omega) hcop m
    have mo1 : mulOk c u = true := mulOk_big (small_big (by unfold FARn at *; omega)) (small_big (by unfold FARn at *; omega))
    have ht := fmod_nonneg (a := c * u) p0
    have mo2 : mulOk ((c * u).fmod p) s = true := mulOk_big (small_big (by unfold FARn at *; omega)) (small_big (by unfold FARn at *; omega))
    have hpd : p ∣ ((c * u).fmod p * o - c) := by
      have q := TR.dvd_fmod (a := c * u) (b := p) (Int.dvd_refl p) p0
      obtain ⟨k1, hk1⟩ := q
      obtain ⟨k2, hk2⟩ := ud
      refine ⟨-(k1 * o) - c * k2, ?_⟩
      have x1 : (c * u).fmod p = c * u - p * k1 := by omega
      rw [x1, Int.sub_mul, Int.mul_sub, Int.mul_neg, Int.mul_assoc, Int.mul_assoc]
      have x2 : c * (1 - u * o) = c * (p * k2) := by rw [hk2]
      rw [Int.mul_sub, Int.mul_one, Int.mul_left_comm c p k2] at x2
      omega
    obtain ⟨y1, y2⟩ := fin_ _ hpd
    refine ⟨_, ?_, y1, y2⟩
    simp [F_meeting, fnRun_ap, den_meeting, enter, g, ggn, hm, l1, e1, e2, e3, hp1, gbI, hu, mo1, mo2, show p ≠ 0 by omega, mkTup, allDat, lb]
  · have p1 : p = 1 := by omega
    obtain ⟨y1, y2⟩ := fin_ 0 (by rw [p1]; exact Int.one_dvd _)
    refine ⟨_, ?_, y1, y2⟩
    have mo : mulOk 0 s = true := mulOk_l _ (by decide)
    simp [F_meeting, fnRun_ap, den_meeting, enter, g, ggn, hm, l1, e1, hp1, gbI, mo, mkTup, allDat, lb]

theorem check_pair_ok {bs : List Bd} {ps qs : List Part} (hB : BOk bs) (h1 : SOk bs ps) (h2 : SOk bs qs) (m : Mem) : F_check_pair [.dat (bD bs), .dat (scD ps), .dat (scD qs)] m = .ok (.dat .non) m := by
  have h7 := hB.le
  simp [F_check_pair, fnRun_ap, den_check_pair, enter, check_bounds_ok hB, check_section_ok h1 (by omega), check_section_ok h2 (by omega)]

theorem many_in {p : Part} (h : POk p) {lo hi : Int} (hi' : ∀ x ∈ subs p, lo ≤ x ∧ x ≤ hi) (h0 : 0 < many p) : many p ≤ 64 ∨ many p ≤ hi - lo + 1 := by
  cases p with
  | num x => left; simp [many]
  | lst xs => left; have := h.1; simp [many]; omega
  | tri f l s =>
    right
    have hs : s ≠ 0 := h.2.2.2
    have a0 := hi' _ (SE.at_mem (p := .tri f l s) (i := 0) (by decide) h0)
    have aL := hi' _ (SE.at_mem (p := .tri f l s) (i := many (.tri f l s) - 1) (by omega) (by omega))
    generalize hn : many (.tri f l s) = n at *
    simp only [SE.at_] at a0 aL
    rcases Int.lt_or_gt_of_ne hs with hneg | hpos
    · have : (n - 1) * s ≤ (n - 1) * (-1) := Int.mul_le_mul_of_nonneg_left (by omega) (by omega)
      omega
    · have : (n - 1) * 1 ≤ (n - 1) * s := Int.mul_le_mul_of_nonneg_left (by omega) (by omega)
      omega
theorem inS_many : ∀ {bs : List Bd} {ps : List Part}, (∀ b ∈ bs, -HALF ≤ b.1 ∧ b.1 ≤ HALF ∧ -HALF ≤ b.2 ∧ b.2 ≤ HALF) → (∀ p ∈ ps, POk p) → SE.inS bs ps → ∀ p ∈ ps, many p ≤ 2 * FARn
  | [], [], _, _, _, p, hp => by simp at hp
  | [], _ :: _, _, _, h, _, _ => h.elim
  | _ :: _, [], _, _, h, _, _ => h.elim
  | b :: bs, q :: ps, hb, ho, hi, p, hp => by
    rcases List.mem_cons.mp hp with rfl | hp
    · obtain ⟨b1, b2, b3, b4⟩ := hb b List.mem_cons_self
      rcases Int.lt_or_le 0 (many p) with h0 | h0
      · rcases many_in (ho p List.mem_cons_self) hi.1 h0 with h | h
        · unfold FARn; omega
        · unfold HALF at *; unfold FARn; omega
      · unfold FARn; omega
    · exact inS_many (fun c hc => hb c (List.mem_cons_of_mem _ hc)) (fun r hr => ho r (List.mem_cons_of_mem _ hr)) hi.2 p hp

/-! ### what parts share: plain -/
theorem sdd_mem {xs : List Int} {x : Int} : x ∈ sortI (dd xs) ↔ x ∈ xs := by rw [(sortI_perm _).mem_iff, mem_dd]
theorem le_ne_lt : ∀ {xs : List Int}, xs.Pairwise (· ≤ ·) → xs.Nodup → xs.Pairwise (· < ·)
  | [], _, _ => List.Pairwise.nil
  | x :: r, h, hn => by
    rw [List.pairwise_cons] at h ⊢
    obtain ⟨n1, n2⟩ := List.nodup_cons.mp hn
    exact ⟨fun y hy => by have := h.1 y hy; have : x ≠ y := fun z => n1 (z ▸ hy); omega, le_ne_lt h.2 n2⟩
theorem sdd_lt (xs : List Int) : (sortI (dd xs)).Pairwise (· < ·) := le_ne_lt (sortI_up _) ((sortI_perm _).nodup_iff.mpr (dd_nodup xs))
theorem sdd_eq {ns zs : List Int} (h : zs.Pairwise (· < ·)) (hm : ∀ k, k ∈ zs ↔ k ∈ ns) : sortI (dd ns) = zs := (sorted_dd h hm).symm
def cmP (p q : Part) : List Int := (sortI (dd (subs p))).filter fun x => decide (x ∈ subs q)
theorem cmP_lt (p q : Part) : (cmP p q).Pairwise (· < ·) := (sdd_lt _).filter _
theorem cmP_mem {p q : Part} {x : Int} : x ∈ cmP p q ↔ x ∈ subs p ∧ x ∈ subs q := by
  unfold cmP
  rw [List.mem_filter, sdd_mem]
  simp
theorem cmP_eq {p q : Part} {zs : List Int} (h : zs.Pairwise (· < ·)) (hm : ∀ x, x ∈ zs ↔ x ∈ subs p ∧ x ∈ subs q) : cmP p q = zs := TR.lt_ext (cmP_lt p q) h fun x => by rw [cmP_mem, hm]
theorem cmP_comm (p q : Part) : cmP p q = cmP q p := cmP_eq (cmP_lt q p) fun x => by rw [cmP_mem]; exact And.comm
/-- the count, and the least one -/
def cmD : List Int → D
  | [] => .tup [.int 0, .non]
  | x :: r => .tup [.int ((x :: r).length : Nat), .int x]
theorem mem_dn {f l s x : Int} (hs : s < 0) : x ∈ TR.els f s (TR.sz f l s).toNat ↔ l ≤ x ∧ x ≤ f ∧ s ∣ (x - f) := by
  have h0 := TR.sz_nonneg f l s
  rw [TR.mem_els]
  constructor
  · rintro ⟨j, hj, rfl⟩
    have := ((TR.lt_sz (f := f) (l := l) (k := (j : Int)) (by omega) (by omega)).mp (by omega)).2 hs
    have : (j : Int) * s ≤ 0 := Int.mul_nonpos_of_nonneg_of_nonpos (by omega) (by omega)
    exact ⟨by omega, by omega, ⟨j, by rw [Int.mul_comm s]; omega⟩⟩
  · rintro ⟨h1, h2, k, hk⟩
    have k0 : 0 ≤ k := by
      by_cases q : 0 ≤ k
      · exact q
      · have : 0 < s * k := Int.mul_pos_of_neg_of_neg hs (by omega)
        omega
    have e : x = f + k * s := by rw [Int.mul_comm k]; omega
    have hk2 : k < TR.sz f l s := (TR.lt_sz (f := f) (l := l) (k := k) (by omega) k0).mpr ⟨fun _ => by omega, fun q => by omega⟩
    exact ⟨k.toNat, by omega, by rw [show ((k.toNat : Nat) : Int) = k by omega]; exact e⟩
/-- the subscripts of a triplet by its ends -/
theorem tri_ends {f l s lo hi : Int} (hs : s ≠ 0) (h : EndsP (.tri f l s) lo hi) (x : Int) : x ∈ subs (.tri f l s) ↔ lo ≤ x ∧ x ≤ hi ∧ ((s.natAbs : Nat) : Int) ∣ (x - lo) := by
  obtain ⟨h1, h2, h3, h4⟩ := h
  have key : ∀ y z, y ∈ subs (.tri f l s) → z ∈ subs (.tri f l s) → s ∣ (y - z) := fun y z hy hz => by
    obtain ⟨j, _, rfl⟩ := TR.mem_els.mp hy
    obtain ⟨i, _, rfl⟩ := TR.mem_els.mp hz
    exact ⟨(j : Int) - i, by rw [Int.mul_sub, Int.mul_comm s, Int.mul_comm s]; omega⟩
  constructor
  · intro hx
    exact ⟨h3 x hx, h4 x hx, Int.natAbs_dvd.mpr (key x lo hx h1)⟩
  · rintro ⟨a, b, c⟩
    have c' : s ∣ (x - lo) := Int.natAbs_dvd.mp c
    rcases Int.lt_or_gt_of_ne hs with hn | hp
    · have q1 := (mem_dn hn).mp h1
      have q2 := (mem_dn hn).mp h2
      refine (mem_dn hn).mpr ⟨by omega, by omega, ?_⟩
      have := Int.dvd_add c' q1.2.2
      rwa [show x - lo + (lo - f) = x - f by omega] at this
    · have q1 := (TR.mem_sz hp).mp h1
      have q2 := (TR.mem_sz hp).mp h2
      refine (TR.mem_sz hp).mpr ⟨by omega, by omega, ?_⟩
      have := Int.dvd_add c' q1.2.2
      rwa [show x - lo + (lo - f) = x - f by omega] at this
theorem tri_endsF {f l s lo hi : Int} (h : POk (.tri f l s)) (he : EndsP (.tri f l s) lo hi) : FarI lo ∧ FarI hi ∧ lo ≤ hi := by
  have bt : ∀ x ∈ subs (.tri f l s), min f l ≤ x ∧ x ≤ max f l := fun x hx => by
    obtain ⟨j, hj, rfl⟩ := TR.mem_els.mp hx
    have h0 := TR.sz_nonneg f l s
    obtain ⟨a, b⟩ := TR.elt_between (f := f) (l := l) (s := s) (k := (j : Int)) h.2.2.2 (by omega) (by omega)
    omega
  have b1 := bt _ he.lo_in
  have b2 := bt _ he.hi_in
  have := he.lo_le _ he.hi_in
  obtain ⟨⟨a1, a2⟩, ⟨a3, a4⟩, _, _⟩ := h
  exact ⟨⟨by omega, by omega⟩, ⟨by omega, by omega⟩, this⟩
/-! ### the program -/
def fewB : Part → Bool
  | .lst _ => true
  | p => decide (many p = 1)
def LSm (p : Part) : Prop := ∀ xs, p = .lst xs → xs.length < 64
def optL : Bool → List Int → D
  | true, xs => .lst (xs.map D.int)
  | false, _ => .non
theorem one_sub {p : Part} (h : many p = 1) : subs p = [SE.at_ p 0] := by
  have sl := SE.subs_length p
  have e := SE.subs_at (p := p) (j := 0) (by omega)
  obtain ⟨x, hx⟩ := List.length_eq_one_iff.mp (show (subs p).length = 1 by omega)
  rw [hx] at e ⊢
  simp at e
  rw [e]
theorem sdd_one (x : Int) : sortI (dd [x]) = [x] := sdd_eq (List.pairwise_singleton _ _) fun _ => Iff.rfl
theorem few_of_ok {p : Part} (h : POk p) (hL : LSm p) (m : Mem) : F_few_of [.dat (paD p)] m = .ok (.dat (optL (fewB p) (sortI (dd (subs p))))) m := by
  have mo := many_of_ok h
  cases p with
  | num x =>
    have a0 := at_part_ok h (i := 0) (by decide) (by simp [many])
    simp only [paD, many, SE.at_] at mo a0
    simp [F_few_of, fnRun_ap, den_few_of, enter, paD, isiV, tyName, tyIs, mo, a0, mkLst, allDat, fewB, many, subs, sdd_one, optL]
  | lst xs =>
    have hl := hL xs rfl
    have := dd_le xs
    simp [F_few_of, fnRun_ap, den_few_of, enter, paD, isiV, tyName, tyIs, fewB, subs, optL, show (dd xs).length < 64 by omega, show xs.length ≤ 1000 by omega]
  | tri f l s =>
    by_cases h1 : many (.tri f l s) = 1
    · have a0 := at_part_ok h (i := 0) (by decide) (by omega)
      rw [one_sub h1, sdd_one]
      rw [h1] at mo
      simp only [paD] at mo a0
      simp [F_few_of, fnRun_ap, den_few_of, enter, paD, isiV, tyName, tyIs, mo, a0, mkLst, allDat, fewB, h1, optL]
    · simp only [paD] at mo
      simp [F_few_of, fnRun_ap, den_few_of, enter, paD, isiV, tyName, tyIs, mo, fewB, h1, optL]
theorem has_subscript_ok {f l s : Int} (h : POk (.tri f l s)) (hp : 0 < many (.tri f l s)) (x : Int) (m : Mem) : F_has_subscript [.dat (paD (.tri f l s)), .dat (.int x)] m = .ok (.dat (.bl (decide (x ∈ subs (.tri f l s))))) m := by
  obtain ⟨lo, hi, he, ee⟩ := ends_of_ok h hp m
  have hs : s ≠ 0 := h.2.2.2
  have te := tri_ends hs he x
  have hd : ((x - lo).fmod ((s.natAbs : Nat) : Int) = 0) ↔ ((s.natAbs : Nat) : Int) ∣ (x - lo) := ⟨Int.dvd_of_fmod_eq_zero, Int.fmod_eq_zero_of_dvd⟩
  rw [← hd] at te
  simp only [te]
  simp only [paD] at ee
  by_cases c1 : lo ≤ x
  · by_cases c2 : x ≤ hi
    · simp [F_has_subscript, fnRun_ap, den_has_subscript, enter, paD, ee, gT, gsC, gN, gsN, ixV, atI, ixN, rdSq, c1, c2, hs]
    · simp [F_has_subscript, fnRun_ap, den_has_subscript, enter, paD, ee, gT, gsC, gN, gsN, ixV, atI, ixN, rdSq, c1, c2, hs]
  · simp [F_has_subscript, fnRun_ap, den_has_subscript, enter, paD, ee, gT, gsC, gN, gsN, ixV, atI, ixN, rdSq, c1, hs]

theorem few_ne {p : Part} (h : fewB p = false) : ∃ f l s, p = .tri f l s := by
  cases p with
  | num x => simp [fewB, many] at h
  | lst xs => simp [fewB] at h
  | tri f l s => exact ⟨f, l, s, rfl⟩
theorem neV_nilL (zs : List Int) (m : Mem) : PL.neV (.dat (.lst (zs.map D.int))) (.dat (.lst [])) m = .ok (.dat (.bl (!decide (zs = [])))) m := neV_lstI zs [] m
theorem len_sdd (xs : List Int) : (sortI (dd xs)).length ≤ xs.length := by rw [(sortI_perm _).length_eq]; exact dd_le xs
theorem few_len {p : Part} (h : POk p) (hf : fewB p = true) : (sortI (dd (subs p))).length ≤ 64 := by
  have := len_sdd (subs p)
  have sl := SE.subs_length p
  cases p with
  | num x => simp [subs] at this ⊢; omega
  | lst xs => have := h.1; simp [subs] at *; omega
  | tri f l s => simp [fewB] at hf; omega
theorem shared_part_ok {p q : Part} (h : POk p) (h' : POk q) (hL : LSm p) (hL' : LSm q) (hp : 0 < many p) (hq : 0 < many q) (m : Mem) : F_shared_part [.dat (paD p), .dat (paD q)] m = .ok (.dat (cmD (cmP p q))) m := by
  have f1 := few_of_ok h hL
  have f2 := few_of_ok h' hL'
  by_cases b1 : fewB p = true
  · have l1 := few_len h b1
    rw [b1] at f1
    by_cases b2 : fewB q = true
    · rw [b2] at f2
      have lc : ∀ e0 e1 e2 e4 e5 e6 e7 e8 e9 e10 e11, noX (loopC (gN 12) ct2_shared_part ce1_shared_part [e0, e1, e2, some (.dat (.lst ((sortI (dd (subs q))).map D.int))), e4, e5, e6, e7, e8, e9, e10, e11, none] ((sortI (dd (subs p))).map D.int) []) m = .ok ((cmP p q).map D.int) m := fun e0 e1 e2 e4 e5 e6 e7 e8 e9 e10 e11 =>
        lc_filter D.int (fun x => decide (x ∈ subs q)) D.int (sortI (dd (subs p))) (fun x hx => ⟨_, rfl, by simp [ct2_shared_part, sdd_mem], fun _ => by simp [ce1_shared_part]⟩) (by omega)
      generalize cmP p q = zs at *
      have ne := neV_nilL zs m
      cases zs with
      | nil =>
        rw [List.map_nil] at ne
        simp [F_shared_part, fnRun_ap, den_shared_part, enter, f1, f2, optL, PL.isNon, itemsV, wipeE, lc, ne, mkLst, mkTup, allDat, cmD]
      | cons x r =>
        simp only [List.map_cons] at ne lc
        simp [F_shared_part, fnRun_ap, den_shared_part, enter, f1, f2, optL, PL.isNon, itemsV, wipeE, lc, ne, mkLst, mkTup, allDat, cmD, lenV, rdSq, rdL, ixV, atI, ixN]
    · have b2' : fewB q = false := by simpa using b2
      obtain ⟨f, l, s, rfl⟩ := few_ne b2'
      rw [b2'] at f2
      have hs := has_subscript_ok h' hq
      have lc : ∀ e0 e2 e3 e4 e5 e6 e7 e8 e9 e10 e11, noX (loopC (gN 12) ct4_shared_part ce3_shared_part [e0, some (.dat (paD (.tri f l s))), e2, e3, e4, e5, e6, e7, e8, e9, e10, e11, none] ((sortI (dd (subs p))).map D.int) []) m = .ok ((cmP p (.tri f l s)).map D.int) m := fun e0 e2 e3 e4 e5 e6 e7 e8 e9 e10 e11 =>
        lc_filter D.int (fun x => decide (x ∈ subs (.tri f l s))) D.int (sortI (dd (subs p))) (fun x hx => ⟨_, rfl, by simp [ct4_shared_part, hs], fun _ => by simp [ce3_shared_part]⟩) (by omega)
      generalize cmP p (.tri f l s) = zs at *
      have ne := neV_nilL zs m
      generalize paD (.tri f l s) = Y at *
      cases zs with
      | nil =>
        rw [List.map_nil] at ne
        simp [F_shared_part, fnRun_ap, den_shared_part, enter, f1, f2, optL, PL.isNon, itemsV, wipeE, lc, ne, mkLst, mkTup, allDat, cmD]
      | cons x r =>
        simp only [List.map_cons] at ne lc
        simp [F_shared_part, fnRun_ap, den_shared_part, enter, f1, f2, optL, PL.isNon, itemsV, wipeE, lc, ne, mkLst, mkTup, allDat, cmD, lenV, rdSq, rdL, ixV, atI, ixN]
  · have b1' : fewB p = false := by simpa using b1
    obtain ⟨f, l, s, rfl⟩ := few_ne b1'
    rw [b1'] at f1
    by_cases b2 : fewB q = true
    · rw [b2] at f2
      have l2 := few_len h' b2
      have hs := has_subscript_ok h hp
      have lc : ∀ e1 e2 e3 e4 e5 e6 e7 e8 e9 e10 e11, noX (loopC (gN 12) ct6_shared_part ce5_shared_part [some (.dat (paD (.tri f l s))), e1, e2, e3, e4, e5, e6, e7, e8, e9, e10, e11, none] ((sortI (dd (subs q))).map D.int) []) m = .ok ((cmP (.tri f l s) q).map D.int) m := fun e1 e2 e3 e4 e5 e6 e7 e8 e9 e10 e11 => by
        rw [cmP_comm]
        exact lc_filter D.int (fun x => decide (x ∈ subs (.tri f l s))) D.int (sortI (dd (subs q))) (fun x hx => ⟨_, rfl, by simp [ct6_shared_part, hs], fun _ => by simp [ce5_shared_part]⟩) (by omega)
      generalize cmP (.tri f l s) q = zs at *
      have ne := neV_nilL zs m
      generalize paD (.tri f l s) = Y at *
      cases zs with
      | nil =>
        rw [List.map_nil] at ne
        simp [F_shared_part, fnRun_ap, den_shared_part, enter, f1, f2, optL, PL.isNon, itemsV, wipeE, lc, ne, mkLst, mkTup, allDat, cmD]
      | cons x r =>
        simp only [List.map_cons] at ne lc
        simp [F_shared_part, fnRun_ap, den_shared_part, enter, f1, f2, optL, PL.isNon, itemsV, wipeE, lc, ne, mkLst, mkTup, allDat, cmD, lenV, rdSq, rdL, ixV, atI, ixN]
    · have b2' : fewB q = false := by simpa using b2
      obtain ⟨f', l', s', rfl⟩ := few_ne b2'
      rw [b2'] at f2
      obtain ⟨lo, hi, he, ee⟩ := ends_of_ok h hp m
      obtain ⟨lo', hi', he', ee'⟩ := ends_of_ok h' hq m
      have hs : s ≠ 0 := h.2.2.2
      have hs' : s' ≠ 0 := h'.2.2.2
      obtain ⟨⟨e1, e2⟩, ⟨e3, e4⟩, e5⟩ := tri_endsF h he
      obtain ⟨⟨e1', e2'⟩, ⟨e3', e4'⟩, e5'⟩ := tri_endsF h' he'
      have s2 := h.2.2.1
      have s2' := h'.2.2.1
      have te := tri_ends hs he
      have te' := tri_ends hs' he'
      simp only [paD] at f1 f2 ee ee'
      have pS : (0 : Int) < ((s.natAbs : Nat) : Int) := by omega
      have pS' : (0 : Int) < ((s'.natAbs : Nat) : Int) := by omega
      have S1 : ((s.natAbs : Nat) : Int) ≤ FARn := by have := s2.1; have := s2.2; omega
      have S2 : ((s'.natAbs : Nat) : Int) ≤ FARn := by have := s2'.1; have := s2'.2; omega
      have i2 : ∀ m, ixV (.dat (.tup [.int f, .int l, .int s])) (.dat (.int 2)) m = .ok (.dat (.int s)) m := fun m => by simp [ixV, atI, ixN, rdSq]
      have i2' : ∀ m, ixV (.dat (.tup [.int f', .int l', .int s'])) (.dat (.int 2)) m = .ok (.dat (.int s')) m := fun m => by simp [ixV, atI, ixN, rdSq]
      generalize hS : ((s.natAbs : Nat) : Int) = S at *
      generalize hS' : ((s'.natAbs : Nat) : Int) = S' at *
      have ab : ∀ m, absV' [.dat (.int s)] m = .ok (.dat (.int S)) m := fun m => by rw [← hS]; simp
      have ab' : ∀ m, absV' [.dat (.int s')] m = .ok (.dat (.int S')) m := fun m => by rw [← hS']; simp
      have me : ∀ x, x ∈ cmP (.tri f l s) (.tri f' l' s') ↔ x ∈ TR.els lo S (TR.sz lo hi S).toNat ∧ x ∈ TR.els lo' S' (TR.sz lo' hi' S').toNat := fun x => by
        rw [cmP_mem, te, te', TR.mem_sz pS, TR.mem_sz pS']
      by_cases hd : (Int.gcd S S' : Int) ∣ (lo' - lo)
      · obtain ⟨x, q, x1, x2⟩ := meeting_ok (f := lo) (f' := lo') pS pS' S1 S2 (by unfold FARn at *; omega) hd m
        have L0 : 0 < Int.lcm S S' := Int.lcm_pos (by omega) (by omega)
        have Lle : Int.lcm S S' ≤ S.natAbs * S'.natAbs := Nat.le_of_dvd (Nat.mul_pos (by omega) (by omega)) (Nat.lcm_dvd_mul ..)
        have Lb : Int.lcm S S' < big := by
          have : S.natAbs * S'.natAbs ≤ 1000000000000000000000000000000 * 1000000000000000000000000000000 := Nat.mul_le_mul (by unfold FARn at *; omega) (by unfold FARn at *; omega)
          exact small_big (by omega)
        generalize hLL : (Int.lcm S S' : Int) = L at *
        have Lb' : L.natAbs < big := by omega
        have mm := TR.met_mem (f := lo) (l := hi) (f' := lo') (l' := hi') (x := x) (L := L) pS pS' (by omega) x1 x2 (by rw [← hLL]; exact Int.dvd_lcm_left ..) (by rw [← hLL]; exact Int.dvd_lcm_right ..) (fun y a b => by rw [← hLL]; exact TR.lcm_dvd a b)
        generalize hst : max lo lo' + (x - max lo lo').fmod L = st at *
        have ec : cmP (.tri f l s) (.tri f' l' s') = TR.els st L (TR.sz st (min hi hi') L).toNat := TR.lt_ext (cmP_lt _ _) (TR.els_lt (by omega) _) fun y => by rw [me]; exact mm y
        rw [ec]
        have sz := sz_sec (f := st) (l := min hi hi') (s := L) (by omega)
        have j0 : ∀ m, ixV (.dat (.tup [.int x, .int L])) (.dat (.int 0)) m = .ok (.dat (.int x)) m := fun m => by simp [ixV, atI, ixN, rdSq]
        have j1 : ∀ m, ixV (.dat (.tup [.int x, .int L])) (.dat (.int 1)) m = .ok (.dat (.int L)) m := fun m => by simp [ixV, atI, ixN, rdSq]
        by_cases hc : st ≤ min hi hi'
        · have hz : 0 < TR.sz st (min hi hi') L := (TR.lt_sz (f := st) (l := min hi hi') (s := L) (k := 0) (by omega) (by omega)).mpr ⟨fun _ => by omega, fun _ => by omega⟩
          obtain ⟨n, hn⟩ : ∃ n : Nat, (TR.sz st (min hi hi') L).toNat = n + 1 := ⟨(TR.sz st (min hi hi') L).toNat - 1, by omega⟩
          have eh : ∃ r, TR.els st L (n + 1) = st :: r ∧ r.length = n := by
            have g0 := TR.els_get (f := st) (s := L) (n := n + 1) (j := 0) (by omega)
            have gl := TR.els_length st L (n + 1)
            cases hE : TR.els st L (n + 1) with
            | nil => rw [hE] at gl; simp at gl
            | cons y r =>
              rw [hE] at g0 gl
              simp at g0 gl
              exact ⟨r, by rw [g0], gl⟩
          obtain ⟨r, er, hr⟩ := eh
          rw [hn, er]
          have ecnt : (min hi hi' - st).fdiv L + 1 = ((st :: r).length : Nat) := by simp; omega
          simp [F_shared_part, fnRun_ap, den_shared_part, enter, paD, f1, f2, optL, PL.isNon, mkTup, mkLst, allDat, ee, ee', gT, gsC, gN, gsN, i2, i2', ab, ab', q, j0, j1, hst, hc, show L ≠ 0 by omega, Lb', cmD, ecnt]
        · have hz : (TR.sz st (min hi hi') L).toNat = 0 := by
            have : ¬ 0 < TR.sz st (min hi hi') L := fun z => by
              have := ((TR.lt_sz (f := st) (l := min hi hi') (s := L) (k := 0) (by omega) (by omega)).mp z).1 (by omega)
              omega
            omega
          rw [hz, TR.els_zero]
          simp [F_shared_part, fnRun_ap, den_shared_part, enter, paD, f1, f2, optL, PL.isNon, mkTup, mkLst, allDat, ee, ee', gT, gsC, gN, gsN, i2, i2', ab, ab', q, j0, j1, hst, hc, show L ≠ 0 by omega, Lb', cmD]
      · have q := meeting_none (f := lo) (f' := lo') pS pS' S2 hd m
        have ec : cmP (.tri f l s) (.tri f' l' s') = [] := by
          match hx : cmP (.tri f l s) (.tri f' l' s') with
          | [] => rfl
          | y :: r => exact absurd ((me y).mp (by rw [hx]; exact List.mem_cons_self)) (TR.gcd_none hd hi hi' y pS pS')
        rw [ec]
        simp [F_shared_part, fnRun_ap, den_shared_part, enter, paD, f1, f2, optL, PL.isNon, mkTup, mkLst, allDat, ee, ee', gT, gsC, gN, gsN, i2, i2', ab, ab', q, cmD]

/-! ### what sections share -/
def cmS (ps qs : List Part) : List (List Int) := List.zipWith cmP ps qs
def lenI (c : List Int) : Int := (c.length : Int)
def shN (cs : List (List Int)) : Int := AR.prod (cs.map lenI)
def hdD : List Int → D
  | [] => .non
  | x :: _ => .int x
def shE (cs : List (List Int)) : D := if 0 < shN cs then .tup [.int (shN cs), .tup (cs.map hdD)] else .tup [.int 0, .non]
theorem cmS_comm : ∀ ps qs : List Part, cmS ps qs = cmS qs ps
  | [], [] => rfl
  | [], _ :: _ => rfl
  | _ :: _, [] => rfl
  | p :: ps, q :: qs => by
    have := cmS_comm ps qs
    unfold cmS at *
    simp [this, cmP_comm p q]
theorem shN_nonneg : ∀ cs : List (List Int), 0 ≤ shN cs
  | [] => by decide
  | c :: cs => Int.mul_nonneg (by unfold lenI; omega) (shN_nonneg cs)
theorem cmD0 (c : List Int) (m : Mem) : ixV (.dat (cmD c)) (.dat (.int 0)) m = .ok (.dat (.int (lenI c))) m := by
  cases c <;> simp [cmD, ixV, atI, ixN, rdSq, lenI]
theorem cmD1 (c : List Int) (m : Mem) : ixV (.dat (cmD c)) (.dat (.int 1)) m = .ok (.dat (hdD c)) m := by
  cases c <;> simp [cmD, ixV, atI, ixN, rdSq, hdD]
theorem shE0 (cs : List (List Int)) (m : Mem) : ixV (.dat (shE cs)) (.dat (.int 0)) m = .ok (.dat (.int (shN cs))) m := by
  have := shN_nonneg cs
  unfold shE
  split
  · simp [ixV, atI, ixN, rdSq]
  · simp [ixV, atI, ixN, rdSq]; omega
theorem emp_sub {p : Part} (h : many p = 0) : subs p = [] := by
  have := SE.subs_length p
  exact List.length_eq_zero_iff.mp (by omega)
theorem cm_empL {p q : Part} (h : many p = 0) : cmP p q = [] := by
  match hx : cmP p q with
  | [] => rfl
  | y :: r =>
    have := (cmP_mem (p := p) (q := q) (x := y)).mp (by rw [hx]; exact List.mem_cons_self)
    rw [emp_sub h] at this
    simp at this
theorem sh_emp : ∀ {ps qs : List Part}, ps.length = qs.length → 0 ∈ ps.map many → shN (cmS ps qs) = 0
  | [], _, _, h => by simp at h
  | _ :: _, [], h, _ => by simp at h
  | p :: ps, q :: qs, hl, h => by
    show lenI (cmP p q) * shN (cmS ps qs) = 0
    rw [List.map_cons] at h
    rcases List.mem_cons.mp h with h | h
    · rw [cm_empL h.symm]
      simp [lenI]
    · rw [sh_emp (by simpa using hl) h, Int.mul_zero]
theorem sh_empR {ps qs : List Part} (hl : ps.length = qs.length) (h : 0 ∈ qs.map many) : shN (cmS ps qs) = 0 := by
  rw [cmS_comm]
  exact sh_emp hl.symm h
theorem sh_self : ∀ {ps : List Part}, 0 ∉ ps.map many → 0 < shN (cmS ps ps)
  | [], _ => by decide
  | p :: ps, h => by
    have hp := many_pos h (p := p) List.mem_cons_self
    have ih := sh_self (ps := ps) fun z => h (List.mem_cons_of_mem _ z)
    show 0 < lenI (cmP p p) * shN (cmS ps ps)
    refine Int.mul_pos ?_ ih
    have hm := SE.at_mem (p := p) (i := 0) (by decide) hp
    have : SE.at_ p 0 ∈ cmP p p := cmP_mem.mpr ⟨hm, hm⟩
    have := List.length_pos_of_mem this
    unfold lenI
    omega
theorem cmP_len (p q : Part) : lenI (cmP p q) ≤ many p := by
  have h1 : (cmP p q).length ≤ (sortI (dd (subs p))).length := List.length_filter_le ..
  have h2 := len_sdd (subs p)
  have sl := SE.subs_length p
  unfold lenI
  omega
structure LS (bs : List Bd) (ps : List Part) : Prop where
  s : SOk bs ps
  l : ∀ p ∈ ps, LSm p
theorem zip_pa (ps qs : List Part) : zipD2 (ps.map paD) (qs.map paD) = (ps.zip qs).map fun pq => .tup [paD pq.1, paD pq.2] := by
  unfold zipD2
  rw [List.zip, List.map_zipWith, List.zipWith_map]
theorem cmS_zip (ps qs : List Part) : cmS ps qs = (ps.zip qs).map fun pq => cmP pq.1 pq.2 := by
  unfold cmS
  rw [List.zip, List.map_zipWith]
theorem shared_in_ok {bs : List Bd} {ps qs : List Part} (hB : BOk bs) (h1 : LS bs ps) (h2 : LS bs qs) (m : Mem) : F_shared_in [.dat (scD ps), .dat (scD qs)] m = .ok (.dat (shE (cmS ps qs))) m := by
  have h7 := hB.le
  have l1 := h1.s.len
  have l2 := h2.s.len
  have e1 := is_empty_ok h1.s.ok (by omega)
  have e2 := is_empty_ok h2.s.ok (by omega)
  by_cases z1 : 0 ∈ ps.map many
  · simp only [z1, decide_true] at e1
    have := sh_emp (qs := qs) (by omega) z1
    simp [F_shared_in, fnRun_ap, den_shared_in, enter, e1, shE, this, mkTup, allDat]
  · simp only [z1, decide_false] at e1
    by_cases z2 : 0 ∈ qs.map many
    · simp only [z2, decide_true] at e2
      have := sh_empR (ps := ps) (by omega) z2
      simp [F_shared_in, fnRun_ap, den_shared_in, enter, e1, e2, shE, this, mkTup, allDat]
    · simp only [z2, decide_false] at e2
      have lc : ∀ m e0 e1 e2 e3 e6, noX (loopC (gT 2 (gsC (gN 4) (gsC (gN 5) gsN))) dYes ce1_shared_in [e0, e1, e2, e3, none, none, e6] (zipD2 (ps.map paD) (qs.map paD)) []) m = .ok ((cmS ps qs).map cmD) m := fun m e0 e1 e2 e3 e6 => by
        rw [zip_pa, cmS_zip, List.map_map]
        refine lc_map _ _ _ (fun pq hpq => ?_) (by simp; omega)
        have hm := List.of_mem_zip hpq
        refine ⟨[e0, e1, e2, e3, some (.dat (paD pq.1)), some (.dat (paD pq.2)), e6], by simp [gT, gsC, gN, gsN], ?_⟩
        simp [ce1_shared_in, shared_part_ok (h1.s.ok _ hm.1) (h2.s.ok _ hm.2) (h1.l _ hm.1) (h2.l _ hm.2) (many_pos z1 hm.1) (many_pos z2 hm.2)]
      have lenC : (cmS ps qs).length ≤ 7 := by unfold cmS; rw [List.length_zipWith]; omega
      have bnd : ∀ x ∈ (cmS ps qs).map lenI, 0 ≤ x ∧ x ≤ 2 * FARn := fun x hx => by
        rw [cmS_zip, List.map_map] at hx
        obtain ⟨pq, hpq, rfl⟩ := List.mem_map.mp hx
        have hm := List.of_mem_zip hpq
        have := cmP_len pq.1 pq.2
        have := inS_many hB.in1 h1.s.ok (h1.s.ins z1) _ hm.1
        show 0 ≤ lenI (cmP pq.1 pq.2) ∧ lenI (cmP pq.1 pq.2) ≤ 2 * FARn
        refine ⟨?_, by omega⟩
        unfold lenI
        omega
      have pk := product_ok (xs := (cmS ps qs).map lenI) (by rw [List.length_map]; omega) bnd
      have lc2 : ∀ m e0 e1 e2 e3 e4 e5, noX (loopC (gN 6) dYes ce2_shared_in [e0, e1, e2, e3, e4, e5, none] ((cmS ps qs).map cmD) []) m = .ok (((cmS ps qs).map lenI).map D.int) m := fun m e0 e1 e2 e3 e4 e5 => by
        rw [List.map_map]
        exact lc_map cmD (D.int ∘ lenI) (cmS ps qs) (fun c _ => ⟨_, rfl, by simp [ce2_shared_in, cmD0]⟩) (by omega)
      have lc3 : ∀ m e0 e1 e2 e3 e4 e5, noX (loopC (gN 6) dYes ce3_shared_in [e0, e1, e2, e3, e4, e5, none] ((cmS ps qs).map cmD) []) m = .ok ((cmS ps qs).map hdD) m := fun m e0 e1 e2 e3 e4 e5 =>
        lc_map cmD hdD (cmS ps qs) (fun c _ => ⟨_, rfl, by simp [ce3_shared_in, cmD1]⟩) (by omega)
      have hN : AR.prod ((cmS ps qs).map lenI) = shN (cmS ps qs) := rfl
      rw [hN] at pk
      unfold scD at *
      generalize cmS ps qs = cs at *
      generalize cs.map lenI = ns at *
      by_cases hc : 0 < shN cs
      · simp [F_shared_in, fnRun_ap, den_shared_in, enter, e1, e2, zip2V, wipeE, lc, itemsV, lc2, pk, hc, lc3, tupleV, rdSq, rdL, mkTup, allDat, shE]
      · simp [F_shared_in, fnRun_ap, den_shared_in, enter, e1, e2, zip2V, wipeE, lc, itemsV, lc2, pk, hc, mkTup, allDat, shE]
theorem shared_ok {bs : List Bd} {ps qs : List Part} (hB : BOk bs) (h1 : LS bs ps) (h2 : LS bs qs) (m : Mem) : F_shared [.dat (bD bs), .dat (scD ps), .dat (scD qs)] m = .ok (.dat (shE (cmS ps qs))) m := by
  simp [F_shared, fnRun_ap, den_shared, enter, check_pair_ok hB h1.s h2.s, shared_in_ok hB h1 h2]
def incB (ps qs : List Part) : Bool := decide (shN (cmS ps qs) = shN (cmS qs qs))
theorem includes_in_ok {bs : List Bd} {ps qs : List Part} (hB : BOk bs) (h1 : LS bs ps) (h2 : LS bs qs) (m : Mem) : F_includes_in [.dat (scD ps), .dat (scD qs)] m = .ok (.dat (.bl (incB ps qs))) m := by
  have h7 := hB.le
  have l1 := h1.s.len
  have l2 := h2.s.len
  have e1 := is_empty_ok h1.s.ok (by omega)
  have e2 := is_empty_ok h2.s.ok (by omega)
  have s1 := shared_in_ok hB h1 h2
  have s2 := shared_in_ok hB h2 h2
  by_cases z2 : 0 ∈ qs.map many
  · simp only [z2, decide_true] at e2
    have a := sh_empR (ps := ps) (by omega) z2
    have b := sh_emp (qs := qs) rfl z2
    simp [F_includes_in, fnRun_ap, den_includes_in, enter, e2, incB, a, b]
  · simp only [z2, decide_false] at e2
    by_cases z1 : 0 ∈ ps.map many
    · simp only [z1, decide_true] at e1
      have a := sh_emp (qs := qs) (by omega) z1
      have b := sh_self z2
      have c : ¬ shN (cmS ps qs) = shN (cmS qs qs) := by omega
      simp [F_includes_in, fnRun_ap, den_includes_in, enter, e1, e2, incB, c]
    · simp only [z1, decide_false] at e1
      simp [F_includes_in, fnRun_ap, den_includes_in, enter, e1, e2, s1, s2, shE0, incB]
theorem includes_ok {bs : List Bd} {ps qs : List Part} (hB : BOk bs) (h1 : LS bs ps) (h2 : LS bs qs) (m : Mem) : F_includes [.dat (bD bs), .dat (scD ps), .dat (scD qs)] m = .ok (.dat (.bl (incB ps qs))) m := by
  simp [F_includes, fnRun_ap, den_includes, enter, check_pair_ok hB h1.s h2.s, includes_in_ok hB h1 h2]
theorem same_set_ok {bs : List Bd} {ps qs : List Part} (hB : BOk bs) (h1 : LS bs ps) (h2 : LS bs qs) (m : Mem) : F_same_set [.dat (bD bs), .dat (scD ps), .dat (scD qs)] m = .ok (.dat (.bl (incB ps qs && incB qs ps))) m := by
  cases hb : incB ps qs with
  | true => simp [F_same_set, fnRun_ap, den_same_set, enter, check_pair_ok hB h1.s h2.s, includes_in_ok hB h1 h2, includes_in_ok hB h2 h1, hb]
  | false => simp [F_same_set, fnRun_ap, den_same_set, enter, check_pair_ok hB h1.s h2.s, includes_in_ok hB h1 h2, hb]
theorem shE_okD (cs : List (List Int)) : okD (shE cs) = true ∧ eqd (shE cs) (shE cs) = true := by
  have a : plains (cs.map hdD) = true ∧ deps (cs.map hdD) ≤ 1 := by
    induction cs with
    | nil => simp [plains, deps]
    | cons c r ih => cases c <;> simp [plains, deps, hdD, PL.plain, dep, ih.1] <;> omega
  have b : ∀ cs : List (List Int), eqd (.tup (cs.map hdD)) (.tup (cs.map hdD)) = true := fun cs => by
    induction cs with
    | nil => simpa using eqd_tup_nil
    | cons c r ih =>
      rw [List.map_cons, eqd_tup_cons, ih]
      cases c <;> simp [hdD, eqd, toPy, PyData.eqv]
  unfold shE
  split
  · refine ⟨?_, ?_⟩
    · simp [okD, PL.plain, plains, dep, deps, a.1]; omega
    · simp [eqd_tup_cons, eqd_tup_nil, eqd_int, b cs]
  · refine ⟨?_, ?_⟩
    · simp [okD, PL.plain, plains, dep, deps]
    · simp [eqd_tup_cons, eqd_tup_nil, eqd_int]
      simp [eqd, toPy, PyData.eqv]
theorem neV_shE (cs : List (List Int)) (m : Mem) : PL.neV (.dat (shE cs)) (.dat (shE cs)) m = .ok (.dat (.bl false)) m := by
  have := shE_okD cs
  simp [PL.neV, svD, this.1, this.2]

theorem law_many_ok {p : Part} (h : POk p) (m : Mem) : F__law_many [.dat (paD p)] m = .ok (.dat (.int (many p))) m := by
  cases p with
  | num x => simp [F__law_many, fnRun_ap, den__law_many, enter, paD, isiV, tyName, tyIs, many]
  | tri f l s =>
    have hf := tri_far h
    have hb := far_big hf.2.1 hf.2.2.1
    simp [F__law_many, fnRun_ap, den__law_many, enter, paD, isiV, tyName, tyIs, ixV, atI, ixN, rdSq, hf.1, hb, many]
    exact sz_sec hf.1
  | lst xs => simp [F__law_many, fnRun_ap, den__law_many, enter, paD, isiV, tyName, tyIs, lenV, rdSq, rdL, many]

theorem dv_test (x y : Nat) (m : Mem) : ts2__law_divisor [some (.dat (.int x)), some (.dat (.int y))] m = .ok (!decide (y = 0)) m := by
  simp [ts2__law_divisor] <;> omega
theorem dv_body (x y : Nat) (hy : y ≠ 0) (m : Mem) : lp1__law_divisor [some (.dat (.int x)), some (.dat (.int y))] m = .ok (.nx [some (.dat (.int y)), some (.dat (.int ((x % y : Nat) : Int)))]) m := by
  simp [lp1__law_divisor, hy, nat_fmod]
theorem dv_loop (m : Mem) : ∀ (k x y n : Nat), y < 2 ^ k → 2 * k + 1 ≤ n → loopW ts2__law_divisor lp1__law_divisor n [some (.dat (.int x)), some (.dat (.int y))] m = .ok (.nx [some (.dat (.int (Nat.gcd x y : Nat))), some (.dat (.int 0))]) m
  | 0, x, y, n, h, hn => by
    obtain ⟨n, rfl⟩ : ∃ n', n = n' + 1 := ⟨n - 1, by omega⟩
    have hy : y = 0 := by simpa using h
    subst hy
    rw [loopW_end (by rw [dv_test]; simp)]
    simp
  | k + 1, x, y, n, h, hn => by
    obtain ⟨n, rfl⟩ : ∃ n', n = n' + 2 := ⟨n - 2, by omega⟩
    by_cases hy : y = 0
    · subst hy
      rw [loopW_end (by rw [dv_test]; simp)]
      simp
    · rw [loopW_go (by rw [dv_test]; simp [hy]) (dv_body x y hy m)]
      by_cases hr : x % y = 0
      · rw [hr, loopW_end (by rw [dv_test]; simp)]
        have : Nat.gcd x y = y := by rw [Nat.gcd_comm, Nat.gcd_rec, hr]; simp
        rw [this]
        rfl
      · rw [loopW_go (by rw [dv_test]; simp [hr]) (dv_body y (x % y) hr m)]
        have h2 := TR.half_step (show 0 < x % y by omega) (Nat.mod_lt x (by omega))
        rw [dv_loop m k (x % y) (y % (x % y)) n (by rw [Nat.pow_succ] at h; omega) (by omega)]
        have : Nat.gcd (x % y) (y % (x % y)) = Nat.gcd x y := by
          rw [Nat.gcd_comm, ← Nat.gcd_rec, Nat.gcd_comm x y, Nat.gcd_rec y x]
        rw [this]
theorem divisor_ok {a b : Int} (ha : 0 ≤ a) (hb : 0 ≤ b) (h : b < 2 ^ 400) (m : Mem) : F__law_divisor [.dat (.int a), .dat (.int b)] m = .ok (.dat (.int (Int.gcd a b))) m := by
  have q := dv_loop m 400 a.toNat b.toNat 1000 (by omega) (by decide)
  rw [show ((a.toNat : Nat) : Int) = a by omega, show ((b.toNat : Nat) : Int) = b by omega] at q
  have e : Int.gcd a b = Nat.gcd a.toNat b.toNat := by
    unfold Int.gcd
    rw [show a.natAbs = a.toNat by omega, show b.natAbs = b.toNat by omega]
  rw [e]
  simp [F__law_divisor, fnRun_ap, den__law_divisor, enter, dWhile, q]

theorem tri_EndsP {f l s : Int} (hs : s ≠ 0) (hp : 0 < many (.tri f l s)) : EndsP (.tri f l s) (min f (f + (TR.sz f l s - 1) * s)) (max f (f + (TR.sz f l s - 1) * s)) := by
  have hp' : 0 < TR.sz f l s := hp
  have m0 : f ∈ subs (.tri f l s) := by simpa [SE.at_] using SE.at_mem (p := .tri f l s) (i := 0) (by decide) hp
  have m1 : f + (TR.sz f l s - 1) * s ∈ subs (.tri f l s) := SE.at_mem (p := .tri f l s) (i := many (.tri f l s) - 1) (by omega) (by omega)
  have bet : ∀ x ∈ subs (.tri f l s), min f (f + (TR.sz f l s - 1) * s) ≤ x ∧ x ≤ max f (f + (TR.sz f l s - 1) * s) := fun x hx => by
    obtain ⟨j, hj, rfl⟩ := TR.mem_els.mp hx
    rcases Int.lt_or_gt_of_ne hs with hn | hpos
    · have e1 : (j : Int) * s ≤ 0 := Int.mul_nonpos_of_nonneg_of_nonpos (by omega) (by omega)
      have e2 : (TR.sz f l s - 1) * s ≤ (j : Int) * s := Int.mul_le_mul_of_nonpos_right (by omega) (by omega)
      omega
    · have e1 : 0 ≤ (j : Int) * s := Int.mul_nonneg (by omega) (by omega)
      have e2 : (j : Int) * s ≤ (TR.sz f l s - 1) * s := Int.mul_le_mul_of_nonneg_right (by omega) (by omega)
      omega
  refine ⟨?_, ?_, fun x hx => (bet x hx).1, fun x hx => (bet x hx).2⟩
  · rcases Int.le_total f (f + (TR.sz f l s - 1) * s) with q | q
    · rw [Int.min_eq_left q]; exact m0
    · rw [Int.min_eq_right q]; exact m1
  · rcases Int.le_total f (f + (TR.sz f l s - 1) * s) with q | q
    · rw [Int.max_eq_right q]; exact m1
    · rw [Int.max_eq_left q]; exact m0
theorem span_ok {f l s : Int} (h : POk (.tri f l s)) (hp : 0 < many (.tri f l s)) : ∃ lo hi, EndsP (.tri f l s) lo hi ∧ ∀ m, F__law_span [.dat (paD (.tri f l s))] m = .ok (.dat (.tup [.int lo, .int hi, .int ((s.natAbs : Nat) : Int)])) m := by
  refine ⟨_, _, tri_EndsP h.2.2.2 hp, fun m => ?_⟩
  have hf := tri_far h
  have hz := szF hf
  have hp' : 0 < TR.sz f l s := hp
  have mo : mulOk (TR.sz f l s - 1) s = true := mulOkF (by unfold FARn at *; omega) (by omega) (by have := hf.2.1; unfold FARn at *; omega) (by have := hf.2.2.1; unfold FARn at *; omega)
  have lm := law_many_ok h
  simp only [paD, many] at lm
  simp [F__law_span, fnRun_ap, den__law_span, enter, paD, lm, ixV, atI, ixN, rdSq, mo, mkTup, allDat]
theorem has_ok {p : Part} (h : POk p) (hp : 0 < many p) (x : Int) (m : Mem) : F__law_has [.dat (paD p), .dat (.int x)] m = .ok (.dat (.bl (decide (x ∈ subs p)))) m := by
  cases p with
  | num y => simp [F__law_has, fnRun_ap, den__law_has, enter, paD, isiV, tyName, tyIs, subs]
  | lst xs =>
    simp [F__law_has, fnRun_ap, den__law_has, enter, paD, isiV, tyName, tyIs, subs]
    exact decide_eq_decide.mpr Iff.rfl
  | tri f l s =>
    obtain ⟨lo, hi, he, ee⟩ := span_ok h hp
    have hs : s ≠ 0 := h.2.2.2
    have te := tri_ends hs he x
    have hd : ((x - lo).fmod ((s.natAbs : Nat) : Int) = 0) ↔ ((s.natAbs : Nat) : Int) ∣ (x - lo) := ⟨Int.dvd_of_fmod_eq_zero, Int.fmod_eq_zero_of_dvd⟩
    rw [← hd] at te
    simp only [te]
    simp only [paD] at ee
    by_cases c1 : lo ≤ x
    · by_cases c2 : x ≤ hi
      · simp [F__law_has, fnRun_ap, den__law_has, enter, paD, isiV, tyName, tyIs, ee, gT, gsC, gN, gsN, c1, c2, hs]
      · simp [F__law_has, fnRun_ap, den__law_has, enter, paD, isiV, tyName, tyIs, ee, gT, gsC, gN, gsN, c1, c2, hs]
    · simp [F__law_has, fnRun_ap, den__law_has, enter, paD, isiV, tyName, tyIs, ee, gT, gsC, gN, gsN, c1, hs]
def lfB : Part → Bool
  | .tri f l s => decide (TR.sz f l s ≤ 60)
  | _ => true
theorem few_ok {p : Part} (h : POk p) (hL : LSm p) (m : Mem) : F__law_few [.dat (paD p)] m = .ok (.dat (optL (lfB p) (sortI (dd (subs p))))) m := by
  cases p with
  | num x => simp [F__law_few, fnRun_ap, den__law_few, enter, paD, isiV, tyName, tyIs, lfB, mkLst, allDat, subs, sdd_one, optL]
  | lst xs =>
    have hl := hL xs rfl
    have := dd_le xs
    simp [F__law_few, fnRun_ap, den__law_few, enter, paD, isiV, tyName, tyIs, lfB, subs, optL, show (dd xs).length < 64 by omega, show xs.length ≤ 1000 by omega]
  | tri f l s =>
    have lm := law_many_ok h
    simp only [paD, many] at lm
    by_cases h60 : TR.sz f l s ≤ 60
    · have h0 := TR.sz_nonneg f l s
      have en : dd (subs (.tri f l s)) = subs (.tri f l s) := dd_id (SE.els_inj' h.2.2.2 _)
      have lc : ∀ m, noX (loopC (gN 1) dYes ce1__law_few [some (.dat (.tup [.int f, .int l, .int s])), none] (rngD 0 (TR.sz f l s).toNat) []) m = .ok ((subs (.tri f l s)).map D.int) m := fun m => by
        unfold rngD
        have es : subs (.tri f l s) = (List.range (TR.sz f l s).toNat).map fun (i : Nat) => f + (i : Int) * s := rfl
        rw [es, List.map_map]
        refine lc_map _ _ _ (fun i hi => ?_) (by simp; omega)
        have hi' : i < (TR.sz f l s).toNat := List.mem_range.mp hi
        have mo : mulOk (i : Int) s = true := mulOk_l _ (by omega)
        refine ⟨_, rfl, ?_⟩
        simp [ce1__law_few, ixV, atI, ixN, rdSq, mo]
      rw [en]
      have hb : -4611686018427387904 ≤ TR.sz f l s ∧ TR.sz f l s < 4611686018427387904 := by omega
      simp [F__law_few, fnRun_ap, den__law_few, enter, paD, isiV, tyName, tyIs, lm, show ¬ 60 < TR.sz f l s by omega, rng1V, hb, wipeE, lc, lfB, h60, optL]
    · simp [F__law_few, fnRun_ap, den__law_few, enter, paD, isiV, tyName, tyIs, lm, show 60 < TR.sz f l s by omega, lfB, h60, optL]

/-! the walk of _law_met, plain -/
/-- the first place of a row that lies behind a number -/
theorem first_at {lo least S : Int} (hS : 0 < S) : ∃ k : Nat, S * max 0 ((least - lo + S - 1).fdiv S) = (k : Int) * S ∧ least ≤ lo + (k : Int) * S ∧ ∀ j : Nat, least ≤ lo + (j : Int) * S → k ≤ j := by
  rw [Int.fdiv_eq_ediv_of_nonneg _ (by omega)]
  have e := Int.emod_add_mul_ediv (least - lo + S - 1) S
  have r0 := Int.emod_nonneg (least - lo + S - 1) (show S ≠ 0 by omega)
  have r1 := Int.emod_lt_of_pos (least - lo + S - 1) hS
  generalize (least - lo + S - 1) / S = q at *
  generalize (least - lo + S - 1) % S = r at *
  refine ⟨(max 0 q).toNat, ?_, ?_, fun j hj => ?_⟩
  · rw [show (((max 0 q).toNat : Nat) : Int) = max 0 q by omega, Int.mul_comm]
  · rw [show (((max 0 q).toNat : Nat) : Int) = max 0 q by omega]
    rcases Int.le_total 0 q with h | h
    · rw [Int.max_eq_right h, Int.mul_comm]; omega
    · rw [Int.max_eq_left h]
      have : S * q ≤ 0 := Int.mul_nonpos_of_nonneg_of_nonpos (by omega) h
      omega
  · rcases Int.lt_or_le (j : Int) q with h | h
    · exfalso
      have : S * (j : Int) ≤ S * (q - 1) := Int.mul_le_mul_of_nonneg_left (by omega) (by omega)
      rw [Int.mul_sub, Int.mul_one, Int.mul_comm S (j : Int)] at this
      omega
    · omega
/-- a triplet's subscripts behind a number -/
theorem walk_at {f l s lo hi least S a : Int} (hs : s ≠ 0) (he : EndsP (.tri f l s) lo hi) (hS : ((s.natAbs : Nat) : Int) = S) {k : Nat} (ha : a = lo + (k : Int) * S) (hk : ∀ j : Nat, least ≤ lo + (j : Int) * S → k ≤ j) {x : Int} (hx : x ∈ subs (.tri f l s)) (hl : least ≤ x) : ∃ j : Nat, x = a + (j : Int) * S := by
  have pS : 0 < S := by omega
  obtain ⟨x1, x2, q, hq⟩ := (tri_ends hs he x).mp hx
  rw [hS] at hq
  have q0 : 0 ≤ q := by
    by_cases z : 0 ≤ q
    · exact z
    · have : S * q < 0 := Int.mul_neg_of_pos_of_neg pS (by omega)
      omega
  have := hk q.toNat (by rw [show ((q.toNat : Nat) : Int) = q by omega, Int.mul_comm]; omega)
  refine ⟨q.toNat - k, ?_⟩
  rw [show ((q.toNat - k : Nat) : Int) = q - k by omega, Int.sub_mul, Int.mul_comm q]
  omega
theorem period {S S' u a b t : Int} (hu : 0 < u) (e1 : S = u * a) (e2 : S' = u * b) (hb : 0 < b) {j : Nat} (h : S' ∣ (t + (j : Int) * S)) : ∃ i : Nat, (i : Int) < b ∧ S' ∣ (t + (i : Int) * S) := by
  have r0 := Int.emod_nonneg (j : Int) (show b ≠ 0 by omega)
  have r1 := Int.emod_lt_of_pos (j : Int) hb
  have e := Int.emod_add_mul_ediv (j : Int) b
  refine ⟨((j : Int) % b).toNat, by omega, ?_⟩
  rw [show ((((j : Int) % b).toNat : Nat) : Int) = (j : Int) % b by omega]
  generalize (j : Int) % b = r at *
  generalize (j : Int) / b = q at *
  have hd : S' ∣ (b * q * S) := ⟨q * a, by rw [e1, e2]; simp only [Int.mul_assoc, Int.mul_comm, Int.mul_left_comm]⟩
  have := Int.dvd_sub h hd
  rw [← e, Int.add_mul, show t + (r * S + b * q * S) - b * q * S = t + r * S by omega] at this
  exact this
structure StU (u : Int) (p : Part) : Prop where
  st : ∀ f l s, p = .tri f l s → ∃ a : Int, 0 < a ∧ a ≤ 120 ∧ ((s.natAbs : Nat) : Int) = u * a
theorem lf_ne {p : Part} (h : lfB p = false) : ∃ f l s, p = .tri f l s := by
  cases p with
  | num x => simp [lfB] at h
  | lst xs => simp [lfB] at h
  | tri f l s => exact ⟨f, l, s, rfl⟩
theorem lf_len {p : Part} (h : POk p) (hf : lfB p = true) : (sortI (dd (subs p))).length ≤ 64 := by
  have := len_sdd (subs p)
  have sl := SE.subs_length p
  cases p with
  | num x => simp [subs] at this ⊢; omega
  | lst xs => have := h.1; simp [subs] at *; omega
  | tri f l s => simp [lfB] at hf; simp only [many] at sl; omega
theorem met_ok {u : Int} (hu : 0 < u) {p q : Part} (h : POk p) (h' : POk q) (hL : LSm p) (hL' : LSm q) (hp : 0 < many p) (hq : 0 < many q) (hS : StU u p) (hS' : StU u q) (m : Mem) : F__law_met [.dat (paD p), .dat (paD q)] m = .ok (.dat (cmD (cmP p q))) m := by
  have f1 := few_ok h hL
  have f2 := few_ok h' hL'
  have a1 := has_ok h hp
  have a2 := has_ok h' hq
  have lcX : ∀ (r : Part), (sortI (dd (subs r))).length ≤ 64 → (∀ x, x ∈ subs p ∧ x ∈ subs q → x ∈ subs r) → ∀ e2 e3 e4 e5 e6 e7 e8 e9 e10 e11 e12, noX (loopC (gN 13) ct2__law_met ce1__law_met [some (.dat (paD p)), some (.dat (paD q)), e2, e3, e4, e5, e6, e7, e8, e9, e10, e11, e12, none] ((sortI (dd (subs r))).map D.int) []) m = .ok ((cmP p q).map D.int) m := fun r hl hr e2 e3 e4 e5 e6 e7 e8 e9 e10 e11 e12 => by
    have e : cmP p q = (sortI (dd (subs r))).filter fun x => decide (x ∈ subs p) && decide (x ∈ subs q) := cmP_eq ((sdd_lt _).filter _) fun x => by
      rw [List.mem_filter, sdd_mem]
      simp
      exact fun z1 z2 => hr x ⟨z1, z2⟩
    rw [e]
    refine lc_filter D.int (fun x => decide (x ∈ subs p) && decide (x ∈ subs q)) D.int (sortI (dd (subs r))) (fun x hx => ⟨_, rfl, ?_, fun _ => by simp [ce1__law_met]⟩) (by omega)
    by_cases c1 : x ∈ subs p
    · by_cases c2 : x ∈ subs q
      · simp [ct2__law_met, a1, a2, c1, c2]
      · simp [ct2__law_met, a1, a2, c1, c2]
    · simp [ct2__law_met, a1, c1]
  by_cases b1 : lfB p = true
  · rw [b1] at f1
    have lc := lcX p (lf_len h b1) fun x z => z.1
    generalize cmP p q = zs at *
    have ne := neV_nilL zs m
    cases zs with
    | nil =>
      rw [List.map_nil] at ne
      simp [F__law_met, fnRun_ap, den__law_met, enter, f1, optL, PL.isNon, itemsV, wipeE, lc, ne, mkLst, mkTup, allDat, cmD, lenV, rdSq, rdL]
    | cons x r =>
      simp only [List.map_cons] at ne lc
      simp [F__law_met, fnRun_ap, den__law_met, enter, f1, optL, PL.isNon, itemsV, wipeE, lc, ne, mkLst, mkTup, allDat, cmD, lenV, rdSq, rdL, ixV, atI, ixN]
  · have b1' : lfB p = false := by simpa using b1
    rw [b1'] at f1
    by_cases b2 : lfB q = true
    · rw [b2] at f2
      have lc := lcX q (lf_len h' b2) fun x z => z.2
      generalize cmP p q = zs at *
      have ne := neV_nilL zs m
      cases zs with
      | nil =>
        rw [List.map_nil] at ne
        simp [F__law_met, fnRun_ap, den__law_met, enter, f1, f2, optL, PL.isNon, itemsV, wipeE, lc, ne, mkLst, mkTup, allDat, cmD, lenV, rdSq, rdL]
      | cons x r =>
        simp only [List.map_cons] at ne lc
        simp [F__law_met, fnRun_ap, den__law_met, enter, f1, f2, optL, PL.isNon, itemsV, wipeE, lc, ne, mkLst, mkTup, allDat, cmD, lenV, rdSq, rdL, ixV, atI, ixN]
    · have b2' : lfB q = false := by simpa using b2
      rw [b2'] at f2
      clear lcX
      obtain ⟨f, l, s, rfl⟩ := lf_ne b1'
      obtain ⟨f', l', s', rfl⟩ := lf_ne b2'
      obtain ⟨lo, hi, he, ee⟩ := span_ok h hp
      obtain ⟨lo', hi', he', ee'⟩ := span_ok h' hq
      have hs : s ≠ 0 := h.2.2.2
      have hs' : s' ≠ 0 := h'.2.2.2
      obtain ⟨⟨e1, e2⟩, ⟨e3, e4⟩, e5⟩ := tri_endsF h he
      obtain ⟨⟨e1', e2'⟩, ⟨e3', e4'⟩, e5'⟩ := tri_endsF h' he'
      have s2 := h.2.2.1
      have s2' := h'.2.2.1
      obtain ⟨a, a0, a120, ea⟩ := hS.st f l s rfl
      obtain ⟨b, b0, b120, eb⟩ := hS'.st f' l' s' rfl
      have te := tri_ends hs he
      have te' := tri_ends hs' he'
      have S1 : ((s.natAbs : Nat) : Int) ≤ FARn := by have := s2.1; have := s2.2; omega
      have S2 : ((s'.natAbs : Nat) : Int) ≤ FARn := by have := s2'.1; have := s2'.2; omega
      generalize hSS : ((s.natAbs : Nat) : Int) = S at *
      generalize hSS' : ((s'.natAbs : Nat) : Int) = S' at *
      have pS : 0 < S := by omega
      have pS' : 0 < S' := by omega
      obtain ⟨k, k1, k2, k3⟩ := first_at (lo := lo) (least := lo') pS
      have wk : ∀ x, x ∈ cmP (.tri f l s) (.tri f' l' s') → ∃ j : Nat, x = (lo + (k : Int) * S) + (j : Int) * S ∧ x ≤ min hi hi' ∧ S' ∣ (x - lo') := fun x hx => by
        obtain ⟨x1, x2⟩ := cmP_mem.mp hx
        obtain ⟨t1, t2, t3⟩ := (te' x).mp x2
        obtain ⟨j, hj⟩ := walk_at hs he hSS rfl k3 x1 t1
        exact ⟨j, hj, by have := ((te x).mp x1).2.1; omega, t3⟩
      generalize hA : lo + (k : Int) * S = A at *
      have Sb : S.natAbs < big := small_big (by unfold FARn at *; omega)
      have Sb' : S'.natAbs < big := small_big (by unfold FARn at *; omega)
      have mo1 : mulOk S (max 0 ((lo' - lo + S - 1).fdiv S)) = true := by
        refine mulOkF (by unfold FARn; omega) (by unfold FARn at *; omega) (by unfold FARn; omega) ?_
        rw [Int.fdiv_eq_ediv_of_nonneg _ (by omega)]
        rcases Int.le_total 0 (lo' - lo + S - 1) with z | z
        · have := Int.ediv_le_self S z
          unfold FARn at *; omega
        · have : (lo' - lo + S - 1) / S < 1 := Int.ediv_lt_of_lt_mul pS (by omega)
          unfold FARn at *; omega
      have mo2 : mulOk S S' = true := mulOk_big Sb Sb'
      have dv := divisor_ok (a := S) (b := S') (by omega) (by omega) (by unfold FARn at *; omega)
      have g0 : 0 < Int.gcd S S' := Int.gcd_pos_of_ne_zero_left _ (by omega)
      have gle : Int.gcd S S' ≤ S.natAbs := Nat.le_of_dvd (by omega) (Nat.gcd_dvd_left ..)
      have gb : Int.gcd S S' < big := by omega
      have elcm : (S * S').fdiv (Int.gcd S S' : Int) = (Int.lcm S S' : Int) := by
        have h1 : S * S' = ((S.natAbs * S'.natAbs : Nat) : Int) := by rw [Int.natCast_mul]; rw [show ((S.natAbs : Nat) : Int) = S by omega, show ((S'.natAbs : Nat) : Int) = S' by omega]
        rw [h1, nat_fdiv]
        rfl
      have L0 : 0 < Int.lcm S S' := Int.lcm_pos (by omega) (by omega)
      have Lle : Int.lcm S S' ≤ S.natAbs * S'.natAbs := Nat.le_of_dvd (Nat.mul_pos (by omega) (by omega)) (Nat.lcm_dvd_mul ..)
      have Lb : Int.lcm S S' < big := by
        have : S.natAbs * S'.natAbs ≤ 1000000000000000000000000000000 * 1000000000000000000000000000000 := Nat.mul_le_mul (by unfold FARn at *; omega) (by unfold FARn at *; omega)
        exact small_big (by omega)
      have dL1 : S ∣ (Int.lcm S S' : Int) := Int.dvd_lcm_left ..
      have dL2 : S' ∣ (Int.lcm S S' : Int) := Int.dvd_lcm_right ..
      have dL : ∀ y, S ∣ y → S' ∣ y → (Int.lcm S S' : Int) ∣ y := fun y z1 z2 => TR.lcm_dvd z1 z2
      have gne : ((Int.gcd S S' : Nat) : Int) ≠ 0 := by omega
      generalize hLL : (Int.lcm S S' : Int) = L at *
      have Lb' : L.natAbs < big := by omega
      have none_ : ∀ i : Nat, (∀ j : Nat, j < i → ¬ S' ∣ (A + (j : Int) * S - lo')) → min hi hi' < A + (i : Int) * S → cmP (.tri f l s) (.tri f' l' s') = [] := fun i hI hm => by
        match hx : cmP (.tri f l s) (.tri f' l' s') with
        | [] => rfl
        | y :: r =>
          exfalso
          obtain ⟨j, j1, j2, j3⟩ := wk y (by rw [hx]; exact List.mem_cons_self)
          have : j < i := by
            rcases Nat.lt_or_ge j i with z | z
            · exact z
            · have : (i : Int) * S ≤ (j : Int) * S := Int.mul_le_mul_of_nonneg_right (by omega) (by omega)
              omega
          rw [j1] at j3
          exact hI j this j3
      have some_ : ∀ i : Nat, (∀ j : Nat, j < i → ¬ S' ∣ (A + (j : Int) * S - lo')) → A + (i : Int) * S ≤ min hi hi' → S' ∣ (A + (i : Int) * S - lo') → cmP (.tri f l s) (.tri f' l' s') = TR.els (A + (i : Int) * S) L (TR.sz (A + (i : Int) * S) (min hi hi') L).toNat := fun i hI hm hd => by
        refine cmP_eq (TR.els_lt (by omega) _) fun x => ?_
        rw [TR.mem_sz (by omega)]
        constructor
        · rintro ⟨x1, x2, x3⟩
          refine ⟨(te x).mpr ⟨?_, by omega, ?_⟩, (te' x).mpr ⟨?_, by omega, ?_⟩⟩
          · have : 0 ≤ (k : Int) * S := Int.mul_nonneg (by omega) (by omega)
            have : 0 ≤ (i : Int) * S := Int.mul_nonneg (by omega) (by omega)
            omega
          · have z1 := Int.dvd_trans dL1 x3
            have z2 : S ∣ (((k : Int) + (i : Int)) * S) := ⟨_, Int.mul_comm _ _⟩
            have := Int.dvd_add z1 z2
            rw [Int.add_mul, show x - (A + (i : Int) * S) + ((k : Int) * S + (i : Int) * S) = x - lo by omega] at this
            exact this
          · have : 0 ≤ (i : Int) * S := Int.mul_nonneg (by omega) (by omega)
            omega
          · have := Int.dvd_add (Int.dvd_trans dL2 x3) hd
            rw [show x - (A + (i : Int) * S) + (A + (i : Int) * S - lo') = x - lo' by omega] at this
            exact this
        · intro hx
          obtain ⟨j, j1, j2, j3⟩ := wk x (cmP_mem.mpr hx)
          have hij : i ≤ j := by
            rcases Nat.lt_or_ge j i with z | z
            · rw [j1] at j3
              exact absurd j3 (hI j z)
            · exact z
          have : (i : Int) * S ≤ (j : Int) * S := Int.mul_le_mul_of_nonneg_right (by omega) (by omega)
          refine ⟨by omega, by omega, dL _ ?_ ?_⟩
          · refine ⟨(j : Int) - i, ?_⟩
            rw [Int.mul_sub, Int.mul_comm S, Int.mul_comm S]
            omega
          · have := Int.dvd_sub j3 hd
            rw [show x - lo' - (A + (i : Int) * S - lo') = x - (A + (i : Int) * S) by omega] at this
            exact this
      have main : Ok (F__law_met [.dat (paD (.tri f l s)), .dat (paD (.tri f' l' s'))] m) (fun v m' => v = .dat (cmD (cmP (.tri f l s) (.tri f' l' s'))) ∧ m' = m) := by
        simp only [paD] at f1 f2 ee ee' ⊢
        simp [F__law_met, fnRun_ap, den__law_met, enter, f1, f2, optL, PL.isNon, ee, ee', gT, gsC, gN, gsN, show S ≠ 0 by omega, Sb, mo1, k1, hA, rng1V]
        refine ok_rng (fun i env mm => (∃ t, env = [some (.dat (.tup [.int f, .int l, .int s])), some (.dat (.tup [.int f', .int l', .int s'])), none, none, some (.dat (.int lo)), some (.dat (.int hi)), some (.dat (.int S)), some (.dat (.int lo')), some (.dat (.int hi')), some (.dat (.int S')), some (.dat (.int (A + (i : Int) * S))), t, none, none]) ∧ mm = m ∧ ∀ j : Nat, j < i → ¬ S' ∣ (A + (j : Int) * S - lo')) ⟨⟨none, by simp⟩, rfl, fun j hj => by omega⟩ ?_ ?_
        · rintro i env mm hi130 ⟨⟨t, rfl⟩, rfl, hI⟩
          refine ⟨_, rfl, ?_⟩
          by_cases c1 : min hi hi' < A + (i : Int) * S
          · rw [none_ i hI c1]
            simp [lp3__law_met, c1, mkTup, allDat, cmD]
          · by_cases c2 : S' ∣ (A + (i : Int) * S - lo')
            · have c2' : (A + (i : Int) * S - lo').fmod S' = 0 := Int.fmod_eq_zero_of_dvd c2
              rw [some_ i hI (by omega) c2]
              generalize A + (i : Int) * S = st at *
              have sz := sz_sec (f := st) (l := min hi hi') (s := L) (by omega)
              have hz : 0 < TR.sz st (min hi hi') L := (TR.lt_sz (f := st) (l := min hi hi') (s := L) (k := 0) (by omega) (by omega)).mpr ⟨fun _ => by omega, fun _ => by omega⟩
              obtain ⟨n, hn⟩ : ∃ n : Nat, (TR.sz st (min hi hi') L).toNat = n + 1 := ⟨(TR.sz st (min hi hi') L).toNat - 1, by omega⟩
              have eh : ∃ r, TR.els st L (n + 1) = st :: r ∧ r.length = n := by
                have g0 := TR.els_get (f := st) (s := L) (n := n + 1) (j := 0) (by omega)
                have gl := TR.els_length st L (n + 1)
                cases hE : TR.els st L (n + 1) with
                | nil => rw [hE] at gl; simp at gl
                | cons y r =>
                  rw [hE] at g0 gl
                  simp at g0 gl
                  exact ⟨r, by rw [g0], gl⟩
              obtain ⟨r, er, hr⟩ := eh
              rw [hn, er]
              have ecnt : (min hi hi' - st).fdiv L + 1 = ((st :: r).length : Nat) := by simp; omega
              simp [lp3__law_met, c1, c2', show S' ≠ 0 by omega, mo2, dv, gne, gb, elcm, show L ≠ 0 by omega, Lb', mkTup, allDat, cmD, ecnt]
            · have c2' : ¬ (A + (i : Int) * S - lo').fmod S' = 0 := fun z => c2 (Int.dvd_of_fmod_eq_zero z)
              simp [lp3__law_met, c1, c2', show S' ≠ 0 by omega]
              refine ⟨by rw [Int.add_mul, Int.one_mul]; omega, fun j hj => ?_⟩
              rcases Nat.lt_or_ge j i with z | z
              · exact hI j z
              · have : j = i := by omega
                rw [this]
                exact c2
        · rintro env mm ⟨⟨t, rfl⟩, rfl, hI⟩
          have : cmP (.tri f l s) (.tri f' l' s') = [] := by
            match hx : cmP (.tri f l s) (.tri f' l' s') with
            | [] => rfl
            | y :: r =>
              exfalso
              obtain ⟨j, j1, j2, j3⟩ := wk y (by rw [hx]; exact List.mem_cons_self)
              rw [j1] at j3
              obtain ⟨i, i1, i2⟩ := period (t := A - lo') hu ea eb b0 (j := j) (by rw [show A - lo' + (j : Int) * S = A + (j : Int) * S - lo' by omega]; exact j3)
              refine hI i (by omega) ?_
              rw [show A + (i : Int) * S - lo' = A - lo' + (i : Int) * S by omega]
              exact i2
          rw [this]
          simp [mkTup, allDat, cmD]
      obtain ⟨v, m', e, rfl, rfl⟩ := main
      exact e

def DU (p q : Part) : Prop := ∃ u : Int, 0 < u ∧ StU u p ∧ StU u q
def cm2 (pq : Part × Part) : List Int := cmP pq.1 pq.2
theorem shN_snoc : ∀ (cs : List (List Int)) (c : List Int), shN (cs ++ [c]) = shN cs * lenI c
  | [], c => by
    show lenI c * AR.prod [] = AR.prod [] * lenI c
    exact Int.mul_comm _ _
  | d :: cs, c => by
    show lenI d * shN (cs ++ [c]) = lenI d * shN cs * lenI c
    rw [shN_snoc cs c, Int.mul_assoc]
theorem cmD_gT (g1 g2 : Nat) (c : List Int) : cmD c = .tup [.int (lenI c), hdD c] := by
  cases c <;> simp [cmD, hdD, lenI]
theorem due_ok {ps qs : List Part} (hl : ps.length = qs.length) (h7 : ps.length ≤ 7) (h1 : ∀ p ∈ ps, POk p ∧ LSm p) (h2 : ∀ q ∈ qs, POk q ∧ LSm q) (hd : ∀ pq ∈ ps.zip qs, DU pq.1 pq.2) (m : Mem) : F__law_due [.dat (scD ps), .dat (scD qs)] m = .ok (.dat (shE (cmS ps qs))) m := by
  have main : Ok (F__law_due [.dat (scD ps), .dat (scD qs)] m) (fun v m' => v = .dat (shE (cmS ps qs)) ∧ m' = m) := by
    simp [F__law_due, fnRun_ap, den__law_due, enter, mkOwn, allDat, scD, zip2V, zip_pa]
    refine ok_for (fun pq : Part × Part => D.tup [paD pq.1, paD pq.2]) (fun pre env mm => (∃ a b c d, env = [some (.dat (.tup (ps.map paD))), some (.dat (.tup (qs.map paD))), some (.dat (.int (shN (pre.map cm2)))), some (.ref m.length), a, b, c, d]) ∧ mm = m ++ [.lst ((pre.map cm2).map hdD)] ∧ Bn pre.length (shN (pre.map cm2))) (ps.zip qs) [] _ _ ⟨⟨none, none, none, none, by simp; rfl⟩, rfl, Bn.one⟩ ?_ ?_
    · rintro pre pq post env mm ez ⟨⟨a, b, c, d, rfl⟩, rfl, hb⟩
      rw [List.nil_append] at ez
      have hm : pq ∈ ps.zip qs := by rw [ez]; simp
      obtain ⟨m1, m2⟩ := List.of_mem_zip hm
      obtain ⟨p1, p2⟩ := h1 _ m1
      obtain ⟨q1, q2⟩ := h2 _ m2
      obtain ⟨u, hu, su, su'⟩ := hd _ hm
      have hpl : pre.length < 7 := by
        have : (ps.zip qs).length = (pre ++ pq :: post).length := by rw [ez]
        simp at this
        omega
      refine ⟨[some (.dat (.tup (ps.map paD))), some (.dat (.tup (qs.map paD))), some (.dat (.int (shN (pre.map cm2)))), some (.ref m.length), some (.dat (paD pq.1)), some (.dat (paD pq.2)), c, d], by simp [gT, gsC, gN, gsN], ?_⟩
      have i1 := law_many_ok p1
      have i2 := law_many_ok q1
      have iz := inSV_ints 0 [many pq.1, many pq.2]
      simp only [List.map_cons, List.map_nil] at iz
      by_cases z1 : many pq.1 = 0
      · have e0 : shN (cmS ps qs) = 0 := sh_emp hl (List.mem_map.mpr ⟨_, m1, z1⟩)
        have iz' : ∀ m, inSV (.dat (.int 0)) (.dat (.lst [.int (many pq.1), .int (many pq.2)])) m = .ok (.dat (.bl true)) m := fun m => by rw [iz, decide_eq_true (by simp [z1])]
        simp [lp1__law_due, i1, i2, mkLst, mkTup, allDat, iz', shE, e0]
      · by_cases z2 : many pq.2 = 0
        · have e0 : shN (cmS ps qs) = 0 := sh_empR hl (List.mem_map.mpr ⟨_, m2, z2⟩)
          have iz' : ∀ m, inSV (.dat (.int 0)) (.dat (.lst [.int (many pq.1), .int (many pq.2)])) m = .ok (.dat (.bl true)) m := fun m => by rw [iz, decide_eq_true (by simp [z2])]
          simp [lp1__law_due, i1, i2, mkLst, mkTup, allDat, iz', shE, e0]
        · have n1 := SE.many_nonneg pq.1
          have n2 := SE.many_nonneg pq.2
          have mt := met_ok hu p1 q1 p2 q2 (by omega) (by omega) su su'
          rw [cmD_gT 6 7] at mt
          have lb : Bn 1 (lenI (cmP pq.1 pq.2)) := Bn.of (by
            have a1 := cmP_len pq.1 pq.2
            have a2 := many_le p1
            have a3 : 0 ≤ lenI (cmP pq.1 pq.2) := by unfold lenI; omega
            unfold FARn at a2
            omega)
          have mo : mulOk (shN (pre.map cm2)) (lenI (cmP pq.1 pq.2)) = true := hb.ok lb (by omega) (by decide)
          have eN : shN (pre.map cm2) * lenI (cmP pq.1 pq.2) = shN ((pre ++ [pq]).map cm2) := by
            rw [List.map_append]
            exact (shN_snoc _ _).symm
          have hN := hb.mul lb
          rw [eN] at hN
          have iz' : ∀ m, inSV (.dat (.int 0)) (.dat (.lst [.int (many pq.1), .int (many pq.2)])) m = .ok (.dat (.bl false)) m := fun m => by rw [iz, decide_eq_false (by simp; omega)]
          simp [lp1__law_due, i1, i2, mkLst, mkTup, allDat, iz', mt, gT, gsC, gN, gsN, mo, rdL, show pre.length < 16777216 by omega]
          rw [eN]
          simp [cm2] at hN ⊢
          exact hN
    · rintro env mm ⟨⟨a, b, c, d, rfl⟩, rfl, hb⟩
      have ec : ([] ++ ps.zip qs).map cm2 = cmS ps qs := by rw [List.nil_append, cmS_zip]; rfl
      rw [ec]
      by_cases hc : 0 < shN (cmS ps qs)
      · simp [hc, tupleV, rdSq, rdL, mkTup, allDat, shE]
      · simp [hc, mkTup, allDat, shE]
  obtain ⟨v, m', e, rfl, rfl⟩ := main
  exact e
theorem alone_ok {ps : List Part} (h7 : ps.length ≤ 7) (h1 : ∀ p ∈ ps, POk p ∧ LSm p) (hd : ∀ p ∈ ps, ∃ u : Int, 0 < u ∧ StU u p) (m : Mem) : F__law_alone [.dat (scD ps)] m = .ok (.dat (.int (shN (cmS ps ps)))) m := by
  have d := due_ok rfl h7 h1 h1 (fun pq hpq => by
    obtain ⟨i, hi, rfl⟩ := List.getElem_of_mem hpq
    have hi' : i < ps.length := by simpa using hi
    rw [List.getElem_zip]
    obtain ⟨u, hu, su⟩ := hd ps[i] (List.getElem_mem hi')
    exact ⟨u, hu, su, su⟩)
  simp [F__law_alone, fnRun_ap, den__law_alone, enter, d, shE0]
def clip (b : Bd) : Part → Part
  | .lst xs => .lst (xs.map fun x => min x b.2)
  | p => p
theorem zip_pb (ps : List Part) (bs : List Bd) : zipD2 (ps.map paD) (bs.map pr) = (ps.zip bs).map fun pb => .tup [paD pb.1, pr pb.2] := by
  unfold zipD2
  rw [List.zip, List.map_zipWith, List.zipWith_map]
def clips (ps : List Part) (bs : List Bd) : List Part := (ps.zip bs).map fun pb => clip pb.2 pb.1
theorem within_ok {ps : List Part} {bs : List Bd} (h7 : ps.length ≤ 7) (hL : ∀ p ∈ ps, LSm p) (m : Mem) : F__law_within [.dat (bD bs), .dat (scD ps)] m = .ok (.dat (scD (clips ps bs))) m := by
  have main : Ok (F__law_within [.dat (bD bs), .dat (scD ps)] m) (fun v m' => v = .dat (scD (clips ps bs)) ∧ m' = m) := by
    simp [F__law_within, fnRun_ap, den__law_within, enter, mkOwn, allDat, scD, bD, zip2V, zip_pb]
    refine ok_for (fun pb : Part × Bd => D.tup [paD pb.1, pr pb.2]) (fun pre env mm => (∃ a b c, env = [some (.dat (.tup (bs.map pr))), some (.dat (.tup (ps.map paD))), some (.ref m.length), a, b, c, none]) ∧ mm = m ++ [.lst ((pre.map fun pb => clip pb.2 pb.1).map paD)]) (ps.zip bs) [] _ _ ⟨⟨none, none, none, rfl⟩, rfl⟩ ?_ ?_
    · rintro pre pb post env mm ez ⟨⟨a, b, c, rfl⟩, rfl⟩
      rw [List.nil_append] at ez
      have hm : pb ∈ ps.zip bs := by rw [ez]; simp
      obtain ⟨m1, m2⟩ := List.of_mem_zip hm
      have hL1 := hL _ m1
      have hpl : pre.length < 7 := by
        have : (ps.zip bs).length = (pre ++ pb :: post).length := by rw [ez]
        simp at this
        omega
      obtain ⟨p, bd⟩ := pb
      refine ⟨[some (.dat (.tup (bs.map pr))), some (.dat (.tup (ps.map paD))), some (.ref m.length), some (.dat (paD p)), some (.dat (.int bd.1)), some (.dat (.int bd.2)), none], by simp [gT, gsC, gN, gsN, pr], ?_⟩
      cases p with
      | num x => simp [lp2__law_within, paD, isiV, tyName, tyIs, rdL, show pre.length < 16777216 by omega, clip]
      | tri f l s => simp [lp2__law_within, paD, isiV, tyName, tyIs, rdL, show pre.length < 16777216 by omega, clip]
      | lst xs =>
        have hx := hL1 xs rfl
        have lc : ∀ m e0 e1 e2 e3 e4, noX (loopC (gN 6) dYes ce1__law_within [e0, e1, e2, e3, e4, some (.dat (.int bd.2)), none] (xs.map D.int) []) m = .ok ((xs.map fun x => min x bd.2).map D.int) m := fun m e0 e1 e2 e3 e4 => by
          rw [List.map_map]
          exact lc_map D.int (D.int ∘ fun x => min x bd.2) xs (fun x _ => ⟨_, rfl, by simp [ce1__law_within]⟩) (by omega)
        simp only [List.map_map] at lc
        simp [lp2__law_within, paD, isiV, tyName, tyIs, itemsV, wipeE, lc, rdL, show pre.length < 16777216 by omega, clip]
    · rintro env mm ⟨⟨a, b, c, rfl⟩, rfl⟩
      simp [tupleV, rdSq, rdL, clips]
  obtain ⟨v, m', e, rfl, rfl⟩ := main
  exact e
theorem sh_bls3 (a b c : Bool) : shOk (.lst [.bl a, .bl b, .bl c]) = true ∧ okD (.str (toPy (.lst [.bl a, .bl b, .bl c])).shown) = true := by
  cases a <;> cases b <;> cases c <;> decide +kernel
theorem judged_ok {bs : List Bd} {ps qs : List Part} (hB : BOk bs) (l1 : ps.length = bs.length) (l2 : qs.length = bs.length) (L1 : ∀ p ∈ ps, LSm p) (L2 : ∀ p ∈ qs, LSm p) (h1 : LS bs (clips ps bs)) (h2 : LS bs (clips qs bs)) (hd : ∀ pq ∈ (clips ps bs).zip (clips qs bs), DU pq.1 pq.2) (m : Mem) : F__law_judged [.dat (bD bs), .dat (scD ps), .dat (scD qs)] m = .ok (.dat (.bl true)) m := by
  have h7 := hB.le
  have w1 := within_ok (bs := bs) (by omega) L1
  have w2 := within_ok (bs := bs) (by omega) L2
  generalize hP : clips ps bs = P at *
  generalize hQ : clips qs bs = Q at *
  have k1 := h1.s.len
  have k2 := h2.s.len
  have o1 : ∀ p ∈ P, POk p ∧ LSm p := fun p hp => ⟨h1.s.ok p hp, h1.l p hp⟩
  have o2 : ∀ p ∈ Q, POk p ∧ LSm p := fun p hp => ⟨h2.s.ok p hp, h2.l p hp⟩
  have d1 := due_ok (by omega) (by omega) o1 o2 hd
  have u1 : ∀ p ∈ P, ∃ u : Int, 0 < u ∧ StU u p := fun p hp => by
    obtain ⟨i, hi, rfl⟩ := List.getElem_of_mem hp
    have := hd (P[i], Q[i]'(by omega)) (List.mem_iff_getElem.mpr ⟨i, by simp; omega, by simp⟩)
    obtain ⟨u, hu, a, _⟩ := this
    exact ⟨u, hu, a⟩
  have u2 : ∀ p ∈ Q, ∃ u : Int, 0 < u ∧ StU u p := fun p hp => by
    obtain ⟨i, hi, rfl⟩ := List.getElem_of_mem hp
    have := hd (P[i]'(by omega), Q[i]) (List.mem_iff_getElem.mpr ⟨i, by simp; omega, by simp⟩)
    obtain ⟨u, hu, _, a⟩ := this
    exact ⟨u, hu, a⟩
  have a1 := alone_ok (by omega) o1 u1
  have a2 := alone_ok (by omega) o2 u2
  have s1 := shared_ok hB h1 h2
  have s2 := shared_ok hB h2 h1
  rw [cmS_comm Q P] at s2
  have i1 := includes_ok hB h1 h2
  have i2 := includes_ok hB h2 h1
  have i3 := same_set_ok hB h1 h2
  have e1 : decide (shN (cmS P Q) = shN (cmS Q Q)) = incB P Q := rfl
  have e2 : decide (shN (cmS P Q) = shN (cmS P P)) = incB Q P := by unfold incB; rw [cmS_comm Q P]
  have n1 := neV_shE (cmS P Q)
  have z0 := shE0 (cmS P Q)
  generalize shE (cmS P Q) = Y at *
  generalize shN (cmS P Q) = y at *
  generalize incB P Q = t at *
  generalize incB Q P = r at *
  cases t with
  | true =>
    obtain ⟨r1, r2⟩ := sh_bls3 true r r
    have es := eqV_str r2
    simp only [Bool.true_and] at i3
    simp [F__law_judged, fnRun_ap, den__law_judged, enter, w1, w2, d1, s1, s2, n1, z0, a1, a2, e1, e2, i1, i2, i3, mkLst, allDat, shD, r1, es]
  | false =>
    obtain ⟨r1, r2⟩ := sh_bls3 false r false
    have es := eqV_str r2
    simp only [Bool.false_and] at i3
    simp [F__law_judged, fnRun_ap, den__law_judged, enter, w1, w2, d1, s1, s2, n1, z0, a1, a2, e1, e2, i1, i2, i3, mkLst, allDat, shD, r1, es]

theorem addV_lsts (xs ys : List D) (m : Mem) (h : xs.length + ys.length ≤ 16777216) : addV (.dat (.lst xs)) (.dat (.lst ys)) m = .ok (.dat (.lst (xs ++ ys))) m := by
  simp [addV, rdL, h]
theorem rng_map (lo : Int) (n : Nat) : rngD lo n = (AR.rng lo n).map D.int := by simp [rngD, AR.rng]
theorem fm_le {a b : Int} (ha : 0 ≤ a) (hb : 0 < b) : 0 ≤ a.fmod b ∧ a.fmod b ≤ a := by
  rw [Int.fmod_eq_emod_of_nonneg _ (by omega)]
  have := Int.emod_add_mul_ediv a b
  have h1 := Int.emod_nonneg a (show b ≠ 0 by omega)
  have : 0 ≤ b * (a / b) := Int.mul_nonneg (by omega) (Int.ediv_nonneg ha (by omega))
  omega
structure FP (lo hi u A : Int) (p : Part) : Prop where
  ok : POk p
  l : LSm p
  st : ∀ f l s, p = .tri f l s → (∃ a : Int, 0 < a ∧ a ≤ A ∧ ((s.natAbs : Nat) : Int) = u * a) ∧ f.natAbs ≤ 500000000000000000000000000000 ∧ l.natAbs ≤ 500000000000000000000000000000
  ins : (∀ xs, p ≠ .lst xs) → ∀ x ∈ subs p, lo ≤ x ∧ x ≤ hi
  lin : ∀ xs, p = .lst xs → ∀ x ∈ xs, lo ≤ x
theorem fp_tri {lo hi u f l s a : Int} (hu : 0 < u) (hu2 : u ≤ 100000000000000000000) (ha : 0 < a) (ha2 : a ≤ 60) (hs : ((s.natAbs : Nat) : Int) = u * a) (hlo : -500000000000000000000000000000 ≤ lo) (hhi : hi ≤ 500000000000000000000000000000) (h1 : lo ≤ min f l) (h2 : max f l ≤ hi) : FP lo hi u 60 (.tri f l s) := by
  have p1 : 1 ≤ u * a := Int.mul_pos hu ha
  have p2 : u * a ≤ 100000000000000000000 * 60 := Int.mul_le_mul hu2 ha2 (by omega) (by omega)
  have hs0 : s ≠ 0 := by omega
  refine ⟨⟨⟨by unfold FARn; omega, by unfold FARn; omega⟩, ⟨by unfold FARn; omega, by unfold FARn; omega⟩, ⟨by unfold FARn; omega, by unfold FARn; omega⟩, hs0⟩, fun xs z => (nomatch z), ?_, fun _ x hx => ?_, fun xs z => (nomatch z)⟩
  · rintro f' l' s' ⟨⟩
    exact ⟨⟨a, ha, ha2, hs⟩, by omega, by omega⟩
  · obtain ⟨j, hj, rfl⟩ := TR.mem_els.mp hx
    have h0 := TR.sz_nonneg f l s
    obtain ⟨a, b⟩ := TR.elt_between (f := f) (l := l) (s := s) (k := (j : Int)) hs0 (by omega) (by omega)
    omega
theorem far_part_wp {k : Nat} {m : Mem} (hw : Wl k m) {lo hi u : Int} (hu : 0 < u) (hu2 : u ≤ 100000000000000000000) (hlo : -500000000000000000000000000000 ≤ lo) (hhi : hi ≤ 500000000000000000000000000000) (hlt : lo < hi) {Q : SV → Mem → Prop}
    (H : ∀ (p : Part) (c : Cell), isW c → FP lo hi u 60 p → Q (.dat (paD p)) (m.set k c)) : Ok (F__law_far_part [.ref k, .dat (.int lo), .dat (.int hi), .dat (.int u)] m) Q := by
  have hk := wl_lt hw
  have mou : ∀ d : Int, 0 ≤ d → d ≤ 100 → mulOk u d = true := fun d d0 d1 => mulOkF (by unfold FARn; omega) (by unfold FARn; omega) (by unfold FARn; omega) (by unfold FARn; omega)
  simp [F__law_far_part, fnRun_ap, den__law_far_part, enter]
  refine draw_wp hw (by decide) (small_big (by decide)) fun d1 c1 hc1 p1 p2 => ?_
  simp [rng1V, wipeE, ok_noX, rng_map]
  refine ok_lcA D.int (fun pre acc mm => ∃ (xs : List Int) (c : Cell), isW c ∧ xs.length = pre.length ∧ (∀ x ∈ xs, lo ≤ x ∧ x ≤ hi) ∧ acc = xs.map D.int ∧ mm = m.set k c) (AR.rng 0 2) ⟨[], c1, hc1, rfl, by simp, rfl, rfl⟩ (by rw [AR.rng_length]; decide) ?_ ?_
  · rintro pre x post acc mm _ ⟨xs, c, hc, hl, hx, rfl, rfl⟩
    refine ⟨_, rfl, ?_⟩
    simp [ce1__law_far_part]
    refine draw_wpS hk hc (by omega) (small_big (by omega)) fun d2 c2 hc2 p3 p4 => ?_
    simp
    refine ⟨xs ++ [lo + d2], c2, hc2, by simp [hl], ?_, by simp, rfl⟩
    intro z hz
    rcases List.mem_append.mp hz with hz | hz
    · exact hx z hz
    · simp at hz; omega
  · rintro acc mm ⟨xs, c, hc, hl, hx, rfl, rfl⟩
    rw [AR.rng_length] at hl
    have sl : (sortI xs).length = 2 := by rw [(sortI_perm _).length_eq, hl]
    have sm : ∀ x ∈ sortI xs, lo ≤ x ∧ x ≤ hi := fun x h => hx x ((sortI_perm _).mem_iff.mp h)
    have su := sortI_up xs
    obtain ⟨e0, e1, hE⟩ : ∃ e0 e1, sortI xs = [e0, e1] := by
      match h : sortI xs with
      | [a, b] => exact ⟨a, b, rfl⟩
      | [] => rw [h] at sl; simp at sl
      | [a] => rw [h] at sl; simp at sl
      | a :: b :: c :: r => rw [h] at sl; simp at sl
    rw [hE] at su sm
    simp at su sm
    obtain ⟨⟨m1, m2⟩, m3, m4⟩ := sm
    have j0 : ∀ a b : Int, ∀ m, ixV (.dat (.lst [.int a, .int b])) (.dat (.int 0)) m = .ok (.dat (.int a)) m := fun a b m => by simp [ixV, atI, ixN, rdSq, rdL]
    have j1 : ∀ a b : Int, ∀ m, ixV (.dat (.lst [.int a, .int b])) (.dat (.int 1)) m = .ok (.dat (.int b)) m := fun a b m => by simp [ixV, atI, ixN, rdSq, rdL]
    simp [hE]
    by_cases w0 : d1 = 0
    · simp [w0, j0]
      refine H (.num e0) c hc ⟨⟨by unfold FARn; omega, by unfold FARn; omega⟩, fun xs z => (nomatch z), fun _ _ _ z => (nomatch z), fun _ x hx => ?_, fun xs z => (nomatch z)⟩
      simp [subs] at hx
      omega
    by_cases w1 : d1 = 1
    · simp [w1]
      refine draw_wpS hk hc (by decide) (small_big (by decide)) fun d2 c2 hc2 p3 p4 => ?_
      simp [rng1V, show -4611686018427387904 ≤ d2 ∧ d2 < 4611686018427387904 by omega, wipeE, ok_noX, rng_map]
      refine ok_lcA D.int (fun pre acc mm => ∃ (ys : List Int) (c : Cell), isW c ∧ ys.length = pre.length ∧ (∀ x ∈ ys, lo ≤ x ∧ x ≤ 600000000000000000000000000000) ∧ acc = ys.map D.int ∧ mm = m.set k c) (AR.rng 0 d2.toNat) ⟨[], c2, hc2, rfl, by simp, rfl, rfl⟩ (by rw [AR.rng_length]; omega) ?_ ?_
      · rintro pre x post acc mm _ ⟨ys, c, hc, hl, hy, rfl, rfl⟩
        refine ⟨_, rfl, ?_⟩
        simp [ce2__law_far_part, j0]
        refine draw_wpS hk hc (by decide) (small_big (by decide)) fun d3 c3 hc3 p5 p6 => ?_
        have mo := mou d3 (by omega) (by omega)
        have b1 : 0 ≤ u * d3 := Int.mul_nonneg (by omega) (by omega)
        have b2 : u * d3 ≤ 100000000000000000000 * 9 := Int.mul_le_mul hu2 (by omega) (by omega) (by omega)
        simp [mo]
        refine ⟨ys ++ [e0 + u * d3], c3, hc3, by simp [hl], ?_, by simp, rfl⟩
        intro z hz
        rcases List.mem_append.mp hz with hz | hz
        · exact hy z hz
        · simp at hz; omega
      · rintro acc mm ⟨ys, c, hc, hl, hy, rfl, rfl⟩
        rw [AR.rng_length] at hl
        have hz : ∀ x ∈ ys ++ [e0, e1], lo ≤ x ∧ x ≤ 600000000000000000000000000000 := fun x hx => by
          rcases List.mem_append.mp hx with hx | hx
          · exact hy x hx
          · simp at hx; omega
        have ll : (ys ++ [e0, e1]).length ≤ 5 := by simp; omega
        have := H (.lst (ys ++ [e0, e1])) c hc ⟨⟨by omega, fun x hx => by have := hz x hx; exact ⟨by unfold FARn; omega, by unfold FARn; omega⟩⟩, fun xs z => by cases z; omega, fun _ _ _ z => (nomatch z), fun z => absurd rfl (z _), fun xs z x hx => by cases z; exact (hz x hx).1⟩
        rw [addV_lsts _ _ _ (by simp; omega)]
        simpa [paD] using this
    · simp [w0, w1]
      refine draw_wpS hk hc (by decide) (small_big (by decide)) fun d2 c2 hc2 p3 p4 => ?_
      have mo := mou (1 + d2) (by omega) (by omega)
      obtain ⟨f1, f2⟩ := fm_le (a := e0 - lo) (b := u) (by omega) hu
      have b1 : 0 < u * (1 + d2) := Int.mul_pos hu (by omega)
      simp [mo, j0, j1, show u ≠ 0 by omega, mkLst, allDat]
      generalize hE0 : e0 - (e0 - lo).fmod u = g at *
      by_cases w5 : d1 < 5
      · simp [w5, j0, j1, mkTup, allDat]
        exact H (.tri g e1 (u * (1 + d2))) c2 hc2 (fp_tri (a := 1 + d2) hu hu2 (by omega) (by omega) (by omega) hlo hhi (by omega) (by omega))
      · obtain ⟨f3, f4⟩ := fm_le (a := e1 - g) (b := u) (by omega) hu
        simp [w5, j0, j1, mkTup, allDat, show u ≠ 0 by omega]
        exact H (.tri (e1 - (e1 - g).fmod u) g (-(u * (1 + d2)))) c2 hc2 (fp_tri (a := 1 + d2) hu hu2 (by omega) (by omega) (by omega) hlo hhi (by omega) (by omega))

theorem FP.mono {lo hi u A B : Int} {p : Part} (h : FP lo hi u A p) (hA : A ≤ B) : FP lo hi u B p :=
  ⟨h.ok, h.l, fun f l s e => by
    obtain ⟨⟨a, a0, a1, a2⟩, r⟩ := h.st f l s e
    exact ⟨⟨a, a0, by omega, a2⟩, r⟩, h.ins, h.lin⟩
/-- subscripts of a triplet, in both ways -/
theorem mem_tri {f l s x : Int} (hs : s ≠ 0) : x ∈ subs (.tri f l s) ↔ (0 < s → f ≤ x ∧ x ≤ l) ∧ (s < 0 → l ≤ x ∧ x ≤ f) ∧ s ∣ (x - f) := by
  rcases Int.lt_or_gt_of_ne hs with hn | hp
  · show x ∈ TR.els f s (TR.sz f l s).toNat ↔ _
    rw [mem_dn hn]
    constructor
    · rintro ⟨a, b, c⟩
      exact ⟨fun z => by omega, fun _ => ⟨a, b⟩, c⟩
    · rintro ⟨_, b, c⟩
      exact ⟨(b hn).1, (b hn).2, c⟩
  · show x ∈ TR.els f s (TR.sz f l s).toNat ↔ _
    rw [TR.mem_sz hp]
    constructor
    · rintro ⟨a, b, c⟩
      exact ⟨fun _ => ⟨a, b⟩, fun z => by omega, c⟩
    · rintro ⟨a, _, c⟩
      exact ⟨(a hp).1, (a hp).2, c⟩
/-- a triplet as the bent ones are -/
structure FQ (lo hi u : Int) (p : Part) : Prop where
  ok : POk p
  l : LSm p
  st : StU u p
  ins : (∀ xs, p ≠ .lst xs) → ∀ x ∈ subs p, lo ≤ x ∧ x ≤ hi
  lin : ∀ xs, p = .lst xs → ∀ x ∈ xs, lo ≤ x
theorem FP.q {lo hi u : Int} {p : Part} (h : FP lo hi u 60 p) : FQ lo hi u p :=
  ⟨h.ok, h.l, ⟨fun f l s e => by
    obtain ⟨⟨a, a0, a1, a2⟩, r⟩ := h.st f l s e
    exact ⟨a, a0, by omega, a2⟩⟩, h.ins, h.lin⟩
theorem fq_tri {lo hi u f l s a : Int} (hu : 0 < u) (hu2 : u ≤ 100000000000000000000) (ha : 0 < a) (ha2 : a ≤ 120) (hs : ((s.natAbs : Nat) : Int) = u * a) (hf : f.natAbs ≤ 600000000000000000000000000000) (hl : l.natAbs ≤ 600000000000000000000000000000) (hi' : ∀ x ∈ subs (.tri f l s), lo ≤ x ∧ x ≤ hi) : FQ lo hi u (.tri f l s) := by
  have p1 : 1 ≤ u * a := Int.mul_pos hu ha
  have p2 : u * a ≤ 100000000000000000000 * 120 := Int.mul_le_mul hu2 ha2 (by omega) (by omega)
  refine ⟨⟨⟨by unfold FARn; omega, by unfold FARn; omega⟩, ⟨by unfold FARn; omega, by unfold FARn; omega⟩, ⟨by unfold FARn; omega, by unfold FARn; omega⟩, by omega⟩, fun xs z => (nomatch z), ⟨?_⟩, fun _ => hi', fun xs z => (nomatch z)⟩
  rintro f' l' s' ⟨⟩
  exact ⟨a, ha, ha2, hs⟩
theorem bent_wp {k : Nat} {m : Mem} (hw : Wl k m) {lo hi u : Int} (hu : 0 < u) (hu2 : u ≤ 100000000000000000000) {p : Part} (hp : FP lo hi u 60 p) {Q : SV → Mem → Prop}
    (H : ∀ (q : Part) (c : Cell), isW c → FQ lo hi u q → Q (.dat (paD q)) (m.set k c)) : Ok (F__law_bent [.ref k, .dat (paD p)] m) Q := by
  have hk := wl_lt hw
  obtain ⟨c0, hc0, e0⟩ := wl_self hw
  cases p with
  | num x =>
    simp [F__law_bent, fnRun_ap, den__law_bent, enter, paD, isiV, tyName, tyIs]
    have := H (.num x) c0 hc0 hp.q
    rw [e0] at this
    exact this
  | lst xs =>
    simp [F__law_bent, fnRun_ap, den__law_bent, enter, paD, isiV, tyName, tyIs]
    have := H (.lst xs) c0 hc0 hp.q
    rw [e0] at this
    exact this
  | tri f l s =>
    obtain ⟨⟨a, a0, a1, a2⟩, bf, bl⟩ := hp.st f l s rfl
    have hs : s ≠ 0 := hp.ok.2.2.2
    have p1 : 1 ≤ u * a := Int.mul_pos hu a0
    have p2 : u * a ≤ 100000000000000000000 * 60 := Int.mul_le_mul hu2 a1 (by omega) (by omega)
    have ins := hp.ins (fun xs z => nomatch z)
    have mo : mulOk 2 s = true := mulOk_l _ (by decide)
    simp [F__law_bent, fnRun_ap, den__law_bent, enter, paD, isiV, tyName, tyIs, gT, gsC, gN, gsN, mo, mkTup, mkLst, allDat]
    refine pick_wp hw (by simp) (by simp) fun d c hc hd => ?_
    have go : ∀ q : Part, FQ lo hi u q → d = paD q → Q (.dat d) (m.set k c) := fun q hq e => by rw [e]; exact H q c hc hq
    simp at hd ⊢
    rcases hd with rfl | rfl | rfl
    · refine go (.tri (f + s) l s) (fq_tri hu hu2 a0 (by omega) a2 (by omega) (by omega) fun x hx => ins x ?_) rfl
      rw [mem_tri hs] at hx ⊢
      obtain ⟨x1, x2, x3⟩ := hx
      refine ⟨fun z => by have := x1 z; omega, fun z => by have := x2 z; omega, ?_⟩
      have := Int.dvd_add x3 (Int.dvd_refl s)
      rwa [show x - (f + s) + s = x - f by omega] at this
    · refine go (.tri f (l - s) s) (fq_tri hu hu2 a0 (by omega) a2 (by omega) (by omega) fun x hx => ins x ?_) rfl
      rw [mem_tri hs] at hx ⊢
      obtain ⟨x1, x2, x3⟩ := hx
      exact ⟨fun z => by have := x1 z; omega, fun z => by have := x2 z; omega, x3⟩
    · refine go (.tri f l (2 * s)) (fq_tri hu hu2 (a := 2 * a) (by omega) (by omega) (by rw [Int.mul_left_comm]; omega) (by omega) (by omega) fun x hx => ins x ?_) rfl
      rw [mem_tri (by omega)] at hx
      rw [mem_tri hs]
      obtain ⟨x1, x2, x3⟩ := hx
      exact ⟨fun z => by have := x1 (by omega); omega, fun z => by have := x2 (by omega); omega, Int.dvd_trans ⟨2, Int.mul_comm _ _⟩ x3⟩
/-! a turn -/
abbrev TT := Bd × Part × Part
structure TOk (t : TT) : Prop where
  b : -HALF ≤ t.1.1 ∧ t.1.1 ≤ HALF ∧ -HALF ≤ t.1.2 ∧ t.1.2 ≤ HALF ∧ t.1.1 < t.1.2
  u : ∃ u : Int, 0 < u ∧ FQ t.1.1 t.1.2 u t.2.1 ∧ FQ t.1.1 t.1.2 u t.2.2
theorem clip_ok {b : Bd} {p : Part} (hb : -HALF ≤ b.1 ∧ b.1 ≤ HALF ∧ -HALF ≤ b.2 ∧ b.2 ≤ HALF ∧ b.1 < b.2) {u : Int} (h : FQ b.1 b.2 u p) : POk (clip b p) ∧ LSm (clip b p) ∧ StU u (clip b p) ∧ ∀ x ∈ subs (clip b p), b.1 ≤ x ∧ x ≤ b.2 := by
  cases p with
  | num x => exact ⟨h.ok, h.l, h.st, h.ins fun xs z => nomatch z⟩
  | tri f l s => exact ⟨h.ok, h.l, h.st, h.ins fun xs z => nomatch z⟩
  | lst xs =>
    have hl := h.l xs rfl
    have hm : ∀ x ∈ xs.map (fun x => min x b.2), b.1 ≤ x ∧ x ≤ b.2 := fun x hx => by
      obtain ⟨y, hy, rfl⟩ := List.mem_map.mp hx
      have := h.lin xs rfl y hy
      omega
    refine ⟨⟨by rw [List.length_map]; omega, fun x hx => ?_⟩, fun ys z => ?_, ⟨fun _ _ _ z => nomatch z⟩, hm⟩
    · have := hm x hx
      unfold HALF at hb
      exact ⟨by unfold FARn; omega, by unfold FARn; omega⟩
    · cases z
      rw [List.length_map]
      exact hl
theorem clips_ts (ts : List TT) (g : TT → Part) : clips (ts.map g) (ts.map (·.1)) = ts.map fun t => clip t.1 (g t) := by
  unfold clips
  rw [List.zip_map', List.map_map]
  rfl
theorem ts_ls {ts : List TT} {g : TT → Part} (h : ∀ t ∈ ts, TOk t ∧ ∃ u, FQ t.1.1 t.1.2 u (g t)) : LS (ts.map (·.1)) (ts.map fun t => clip t.1 (g t)) := by
  have hin : ∀ ts : List TT, (∀ t ∈ ts, TOk t ∧ ∃ u, FQ t.1.1 t.1.2 u (g t)) → SE.inS (ts.map (·.1)) (ts.map fun t => clip t.1 (g t)) := by
    intro ts
    induction ts with
    | nil => intro _; trivial
    | cons t r ih =>
      intro h
      obtain ⟨h1, u, h2⟩ := h t List.mem_cons_self
      exact ⟨(clip_ok h1.b h2).2.2.2, ih fun z hz => h z (List.mem_cons_of_mem _ hz)⟩
  refine ⟨⟨by simp, fun p hp => ?_, fun _ => hin ts h⟩, fun p hp => ?_⟩
  · obtain ⟨t, ht, rfl⟩ := List.mem_map.mp hp
    obtain ⟨h1, u, h2⟩ := h t ht
    exact (clip_ok h1.b h2).1
  · obtain ⟨t, ht, rfl⟩ := List.mem_map.mp hp
    obtain ⟨h1, u, h2⟩ := h t ht
    exact (clip_ok h1.b h2).2.1
theorem judged_ts {ts : List TT} (h : ∀ t ∈ ts, TOk t) (h0 : 0 < ts.length) (h7 : ts.length ≤ 7) (m : Mem) : F__law_judged [.dat (bD (ts.map (·.1))), .dat (scD (ts.map (·.2.1))), .dat (scD (ts.map (·.2.2)))] m = .ok (.dat (.bl true)) m := by
  have hB : BOk (ts.map (·.1)) := ⟨by simpa using h0, by simpa using h7, fun b hb => by
    obtain ⟨t, ht, rfl⟩ := List.mem_map.mp hb
    obtain ⟨a1, a2, a3, a4, _⟩ := (h t ht).b
    exact ⟨a1, a2, a3, a4⟩⟩
  refine judged_ok hB (by simp) (by simp) (fun p hp => ?_) (fun p hp => ?_) ?_ ?_ ?_ m
  · obtain ⟨t, ht, rfl⟩ := List.mem_map.mp hp
    obtain ⟨u, _, q, _⟩ := (h t ht).u
    exact q.l
  · obtain ⟨t, ht, rfl⟩ := List.mem_map.mp hp
    obtain ⟨u, _, _, q⟩ := (h t ht).u
    exact q.l
  · rw [clips_ts]
    exact ts_ls fun t ht => ⟨h t ht, by obtain ⟨u, _, q, _⟩ := (h t ht).u; exact ⟨u, q⟩⟩
  · rw [clips_ts]
    exact ts_ls fun t ht => ⟨h t ht, by obtain ⟨u, _, _, q⟩ := (h t ht).u; exact ⟨u, q⟩⟩
  · rw [clips_ts, clips_ts, List.zip_map']
    intro pq hpq
    obtain ⟨t, ht, rfl⟩ := List.mem_map.mp hpq
    obtain ⟨u, hu, q1, q2⟩ := (h t ht).u
    exact ⟨u, hu, (clip_ok (h t ht).b q1).2.2.1, (clip_ok (h t ht).b q2).2.2.1⟩

def mem3 (m : Mem) (k : Nat) (c : Cell) (ts : List TT) : Mem := m.set k c ++ [.lst (ts.map fun t => pr t.1), .lst (ts.map fun t => paD t.2.1), .lst (ts.map fun t => paD t.2.2)]
theorem far_part_wpA {k : Nat} {m : Mem} {c0 : Cell} {L : Mem} (hk : k < m.length) (h0 : isW c0) {lo hi u : Int} (hu : 0 < u) (hu2 : u ≤ 100000000000000000000) (hlo : -500000000000000000000000000000 ≤ lo) (hhi : hi ≤ 500000000000000000000000000000) (hlt : lo < hi) {Q : SV → Mem → Prop}
    (H : ∀ (p : Part) (c : Cell), isW c → FP lo hi u 60 p → Q (.dat (paD p)) (m.set k c ++ L)) : Ok (F__law_far_part [.ref k, .dat (.int lo), .dat (.int hi), .dat (.int u)] (m.set k c0 ++ L)) Q :=
  far_part_wp (wlA (wlS hk h0) L) hu hu2 hlo hhi hlt fun p c hc hp => by
    rw [List.set_append_left _ _ (by rw [List.length_set]; exact hk), List.set_set]
    exact H p c hc hp
theorem bent_wpA {k : Nat} {m : Mem} {c0 : Cell} {L : Mem} (hk : k < m.length) (h0 : isW c0) {lo hi u : Int} (hu : 0 < u) (hu2 : u ≤ 100000000000000000000) {p : Part} (hp : FP lo hi u 60 p) {Q : SV → Mem → Prop}
    (H : ∀ (q : Part) (c : Cell), isW c → FQ lo hi u q → Q (.dat (paD q)) (m.set k c ++ L)) : Ok (F__law_bent [.ref k, .dat (paD p)] (m.set k c0 ++ L)) Q :=
  bent_wp (wlA (wlS hk h0) L) hu hu2 hp fun p c hc hp => by
    rw [List.set_append_left _ _ (by rw [List.length_set]; exact hk), List.set_set]
    exact H p c hc hp
theorem turn_wp {k : Nat} {m : Mem} {c : Cell} (hk : k < m.length) (hc : isW c) (ts : List TT) (ht : ts.length ≤ 10) (e4 e5 e6 e7 e8 : Option SV) (N : En → Mem → Prop) (Q : Out → Mem → Prop)
    (H : ∀ (t : TT) (c : Cell) (a b d e : Option SV), TOk t → isW c → N [some (.ref k), some (.ref m.length), some (.ref (m.length + 1)), some (.ref (m.length + 2)), e4, a, b, d, e] (mem3 m k c (ts ++ [t]))) :
    Ok (lp1__law_right [some (.ref k), some (.ref m.length), some (.ref (m.length + 1)), some (.ref (m.length + 2)), e4, e5, e6, e7, e8] (mem3 m k c ts)) (LB N Q) := by
  have mo5 : mulOk 5 100000000000000000000000000000 = true := mulOk_l _ (by decide)
  unfold mem3
  simp [lp1__law_right, mkLst, allDat, mo5]
  refine pick_wpA hk hc (by simp) (by simp) fun d1 c1 hc1 hd1 => ?_
  have hd : ∃ u : Int, d1 = .int u ∧ 0 < u ∧ u ≤ 100000000000000000000 := by
    simp at hd1
    rcases hd1 with rfl | rfl | rfl | rfl <;> exact ⟨_, rfl, by omega, by omega⟩
  obtain ⟨u, rfl, u0, u1⟩ := hd
  refine draw_wpA hk hc1 (by decide) (small_big (by decide)) fun d2 c2 hc2 p1 p2 => ?_
  refine pick_wpA hk hc2 (by simp) (by simp) fun d3 c3 hc3 hd3 => ?_
  have hd : ∃ w : Int, d3 = .int w ∧ (w = 0 ∨ w = 500000000000000000000000000000) := by
    simp at hd3
    rcases hd3 with rfl | rfl
    · exact ⟨_, rfl, .inl rfl⟩
    · exact ⟨_, rfl, .inr rfl⟩
  obtain ⟨w, rfl, hw⟩ := hd
  simp
  refine pick_wpA hk hc3 (by simp) (by simp) fun d4 c4 hc4 hd4 => ?_
  have hd : ∃ y : Int, d4 = .int y ∧ 1000 ≤ y ∧ y ≤ 1000000000 := by
    simp at hd4
    rcases hd4 with rfl | rfl <;> exact ⟨_, rfl, by omega, by omega⟩
  obtain ⟨y, rfl, y0, y1⟩ := hd
  refine draw_wpA hk hc4 (by omega) (small_big (by omega)) fun d5 c5 hc5 p3 p4 => ?_
  have mou : mulOk u (100 + d5) = true := mulOkF (by unfold FARn; omega) (by unfold FARn; omega) (by unfold FARn; omega) (by unfold FARn; omega)
  have q1 : 0 < u * (100 + d5) := Int.mul_pos u0 (by omega)
  have q2 : u * (100 + d5) ≤ 100000000000000000000 * 1000000100 := Int.mul_le_mul u1 (by omega) (by omega) (by omega)
  simp [mou]
  generalize hlo : d2 - w = lo at *
  generalize hhi : min 500000000000000000000000000000 (lo + u * (100 + d5)) = hi at *
  have r1 : -500000000000000000000000000000 ≤ lo := by omega
  have r2 : lo < hi := by omega
  have r3 : hi ≤ 500000000000000000000000000000 := by omega
  have kl : ∀ c : Cell, (m.set k c).length = m.length := fun c => List.length_set
  have G0 : ∀ (c : Cell) (a b d : List D), rdL (.ref m.length) (m.set k c ++ [.lst a, .lst b, .lst d]) = some a := fun c a b d => by simp [rdL, kl]
  have G1 : ∀ (c : Cell) (a b d : List D), rdL (.ref (m.length + 1)) (m.set k c ++ [.lst a, .lst b, .lst d]) = some b := fun c a b d => by simp [rdL, List.getElem?_append_right, kl]
  have G2 : ∀ (c : Cell) (a b d : List D), rdL (.ref (m.length + 2)) (m.set k c ++ [.lst a, .lst b, .lst d]) = some d := fun c a b d => by simp [rdL, List.getElem?_append_right, kl]
  have S0 : ∀ (c v x y z : Cell), (m.set k c ++ [x, y, z]).set m.length v = m.set k c ++ [v, y, z] := fun c v x y z => by rw [List.set_append_right _ _ (by rw [kl]; omega), kl, show m.length - m.length = 0 by omega]; rfl
  have S1 : ∀ (c v x y z : Cell), (m.set k c ++ [x, y, z]).set (m.length + 1) v = m.set k c ++ [x, v, z] := fun c v x y z => by rw [List.set_append_right _ _ (by rw [kl]; omega), kl, show m.length + 1 - m.length = 1 by omega]; rfl
  have S2 : ∀ (c v x y z : Cell), (m.set k c ++ [x, y, z]).set (m.length + 2) v = m.set k c ++ [x, y, v] := fun c v x y z => by rw [List.set_append_right _ _ (by rw [kl]; omega), kl, show m.length + 2 - m.length = 2 by omega]; rfl
  have X1 : ∀ (c : Cell) (a b d : List D) (x : D), ixV (.ref (m.length + 1)) (.dat (.int (-1))) (m.set k c ++ [.lst a, .lst (b ++ [x]), .lst d]) = .ok (.dat x) (m.set k c ++ [.lst a, .lst (b ++ [x]), .lst d]) := fun c a b d x => by
    have e1 : (-1 + ((b.length : Int) + 1)).toNat = b.length := by omega
    have e2 : (b ++ [x])[b.length]? = some x := by rw [List.getElem?_append_right (by simp)]; simp
    simp [ixV, atI, ixN, rdSq, G1, e1, e2, show (1 : Int) ≤ (b.length : Int) + 1 by omega]
  have hl : ts.length < 16777216 := by omega
  simp [G0, S0, mkTup, allDat, hl]
  simp [G1]
  refine far_part_wpA hk hc5 u0 u1 r1 r3 r2 fun p c6 hc6 hp => ?_
  simp [G1, S1, hl]
  refine far_part_wpA hk hc6 u0 u1 r1 r3 r2 fun q c7 hc7 hq => ?_
  simp [G2, X1]
  refine bent_wpA hk hc7 u0 u1 hp fun q' c8 hc8 hq' => ?_
  simp [mkLst, allDat]
  refine pick_wpA hk hc8 (by simp) (by simp) fun d6 c9 hc9 hd6 => ?_
  have hB : -HALF ≤ lo ∧ lo ≤ HALF ∧ -HALF ≤ hi ∧ hi ≤ HALF ∧ lo < hi := by unfold HALF; omega
  have go : ∀ r : Part, FQ lo hi u r → d6 = paD r → ∃ r, FQ lo hi u r ∧ d6 = paD r := fun r h1 h2 => ⟨r, h1, h2⟩
  have hr : ∃ r, FQ lo hi u r ∧ d6 = paD r := by
    simp at hd6
    rcases hd6 with rfl | rfl | rfl
    · exact go q hq.q rfl
    · exact go p hp.q rfl
    · exact go q' hq' rfl
  obtain ⟨r, hr, rfl⟩ := hr
  have := H ((lo, hi), p, r) c9 (some (.dat (.int u))) (some (.dat (.int lo))) (some (.dat (.int hi))) (some (.dat (paD q))) ⟨hB, u, u0, hp.q, hr⟩ hc9
  unfold mem3 at this
  simp [pr] at this
  simp [G2, S2, hl]
  exact this
theorem right_wp {k : Nat} {m : Mem} (h : Wl k m) {Q : SV → Mem → Prop} (H : ∀ c, isW c → Q (.dat (.bl true)) (m.set k c)) : Ok (F__law_right [.ref k] m) Q := by
  have hk := wl_lt h
  obtain ⟨c0, hc0, e0⟩ := wl_self h
  simp [F__law_right, fnRun_ap, den__law_right, enter, mkOwn, allDat]
  rw [← e0]
  simp
  refine draw_wpA hk hc0 (by decide) (small_big (by decide)) fun d1 c1 hc1 p1 p2 => ?_
  simp [rng1V, show -4611686018427387904 ≤ 1 + d1 ∧ 1 + d1 < 4611686018427387904 by omega]
  refine ok_rng (fun i env mm => ∃ (ts : List TT) (c : Cell) (a b d e f : Option SV), isW c ∧ ts.length = i ∧ (∀ t ∈ ts, TOk t) ∧ env = [some (.ref k), some (.ref m.length), some (.ref (m.length + 1)), some (.ref (m.length + 2)), a, b, d, e, f] ∧ mm = mem3 m k c ts)
    ⟨[], c1, none, none, none, none, none, hc1, rfl, by simp, rfl, rfl⟩ ?_ ?_
  · rintro i env mm hi ⟨ts, c, a, b, d, e, f, hc, hl, hts, rfl, rfl⟩
    refine ⟨_, rfl, ?_⟩
    simp only [List.set_cons_succ, List.set_cons_zero]
    refine turn_wp hk hc ts (by omega) _ _ _ _ _ _ _ fun t c' a' b' d' e' ht hc' => ⟨ts ++ [t], c', _, a', b', d', e', hc', by simp [hl], ?_, rfl, rfl⟩
    intro z hz
    rcases List.mem_append.mp hz with hz | hz
    · exact hts z hz
    · simp at hz; subst hz; exact ht
  · rintro env mm ⟨ts, c, a, b, d, e, f, hc, hl, hts, rfl, rfl⟩
    have kl : (m.set k c).length = m.length := List.length_set
    have j := judged_ts hts (by omega) (by omega)
    unfold bD scD at j
    simp only [List.map_map] at j
    unfold mem3
    have G0 : ∀ (a b d : List D), rdL (.ref m.length) (m.set k c ++ [.lst a, .lst b, .lst d]) = some a := fun a b d => by simp [rdL, kl]
    have G1 : ∀ (a b d : List D), rdL (.ref (m.length + 1)) (m.set k c ++ [.lst a, .lst b, .lst d]) = some b := fun a b d => by simp [rdL, List.getElem?_append_right, kl]
    have G2 : ∀ (a b d : List D), rdL (.ref (m.length + 2)) (m.set k c ++ [.lst a, .lst b, .lst d]) = some d := fun a b d => by simp [rdL, List.getElem?_append_right, kl]
    have := H c hc
    simp only [Function.comp_def] at j
    simp [tupleV, rdSq, G0, G1, G2, j]
    simpa using this
theorem law_true (ns : List Int) (hl : ns.length ≤ 63) : ∃ m', F_law [.dat (.scr ns)] [] = .ok (.dat (.bl true)) m' := by
  have main : Ok (F_law [.dat (.scr ns)] []) (fun v _ => v = .dat (.bl true)) := by
    have hb : -4611686018427387904 ≤ max 1 (min 4 (ns.length : Int)) ∧ max 1 (min 4 (ns.length : Int)) < 4611686018427387904 := by omega
    simp [F_law, fnRun_ap, den_law, enter, lenV, rng1V, hb]
    refine ok_rng (fun _ env _ => ∃ a b c, env = [some (.dat (.scr ns)), a, b, c]) ⟨none, none, none, rfl⟩ ?_ ?_
    · rintro i env mm hi ⟨a, b, c, rfl⟩
      refine ⟨_, rfl, ?_⟩
      obtain ⟨w, hw, e⟩ := source_ok ns i hl mm
      simp [lp2_law, e, rng1V]
      refine ok_rng (fun _ env m1 => (∃ a c, env = [some (.dat (.scr ns)), a, some (.ref mm.length), c]) ∧ Wl mm.length m1) ⟨⟨_, _, rfl⟩, ?_⟩ ?_ ?_
      · obtain ⟨x, y, z, rfl⟩ := hw
        exact ⟨x, y, z, get_app_len _ _⟩
      · rintro j env m1 hj ⟨⟨a, c, rfl⟩, hw1⟩
        refine ⟨_, rfl, ?_⟩
        simp [lp1_law]
        refine right_wp hw1 fun c' hc' => ?_
        simp
        exact wlS (wl_lt hw1) hc'
      · rintro env m1 ⟨⟨a, c, rfl⟩, hw1⟩
        simp
    · rintro env mm ⟨a, b, c, rfl⟩
      simp
  obtain ⟨v, m', e, rfl⟩ := main
  exact ⟨m', e⟩

end G

namespace G
open PySem PySem.Spec PyProof.Rows L2 PL
def topS (i : Nat) : Stmt := PySem.Challenge.pw_sectionwise_k14_whole_far_sections_that.main.body.getD i (.Pass ⟨0, 0, 0, 0⟩)
abbrev s__law_source : Stmt := topS 36
theorem sc__law_source : FnScope ["_law_script", "_law_k", "_law_cell"] ["_law_script", "_law_k"] (defScope s__law_source) := ⟨rfl, rfl, rfl, by decide +kernel, rfl, by decide +kernel, by decide +kernel⟩
abbrev s__law_mix : Stmt := topS 35
theorem sc__law_mix : FnScope ["_law_cell", "_law_lap", "_law_blend"] ["_law_cell", "_law_lap"] (defScope s__law_mix) := ⟨rfl, rfl, rfl, by decide +kernel, rfl, by decide +kernel, by decide +kernel⟩
abbrev s__law_draw : Stmt := topS 37
theorem sc__law_draw : FnScope ["_law_well", "_law_many_here", "_law_drawn"] ["_law_well", "_law_many_here"] (defScope s__law_draw) := ⟨rfl, rfl, rfl, by decide +kernel, rfl, by decide +kernel, by decide +kernel⟩
abbrev s__law_pick : Stmt := topS 38
theorem sc__law_pick : FnScope ["_law_well", "_law_some"] ["_law_well", "_law_some"] (defScope s__law_pick) := ⟨rfl, rfl, rfl, by decide +kernel, rfl, by decide +kernel, by decide +kernel⟩
abbrev s__law_far_part : Stmt := topS 41
theorem sc__law_far_part : FnScope ["_law_well", "_law_low", "_law_high", "_law_unit", "_law_way", "_law_ends", "_law_step", "_law_k"] ["_law_well", "_law_low", "_law_high", "_law_unit"] (defScope s__law_far_part) := ⟨rfl, rfl, rfl, by decide +kernel, rfl, by decide +kernel, by decide +kernel⟩
abbrev s__law_bent : Stmt := topS 42
theorem sc__law_bent : FnScope ["_law_well", "_law_part", "_law_first", "_law_last", "_law_step"] ["_law_well", "_law_part"] (defScope s__law_bent) := ⟨rfl, rfl, rfl, by decide +kernel, rfl, by decide +kernel, by decide +kernel⟩
abbrev s_is_row : Stmt := topS 7
theorem sc_is_row : FnScope ["value", "least", "most"] ["value", "least", "most"] (defScope s_is_row) := ⟨rfl, rfl, rfl, by decide +kernel, rfl, by decide +kernel, by decide +kernel⟩
abbrev s_is_whole : Stmt := topS 5
theorem sc_is_whole : FnScope ["value"] ["value"] (defScope s_is_whole) := ⟨rfl, rfl, rfl, by decide +kernel, rfl, by decide +kernel, by decide +kernel⟩
abbrev s_is_between : Stmt := topS 6
theorem sc_is_between : FnScope ["value", "low", "high"] ["value", "low", "high"] (defScope s_is_between) := ⟨rfl, rfl, rfl, by decide +kernel, rfl, by decide +kernel, by decide +kernel⟩
abbrev s_is_pair : Stmt := topS 16
theorem sc_is_pair : FnScope ["pair", "one"] ["pair"] (defScope s_is_pair) := ⟨rfl, rfl, rfl, by decide +kernel, rfl, by decide +kernel, by decide +kernel⟩
abbrev s_check_bounds : Stmt := topS 17
theorem sc_check_bounds : FnScope ["bounds", "name", "pair"] ["bounds", "name"] (defScope s_check_bounds) := ⟨rfl, rfl, rfl, by decide +kernel, rfl, by decide +kernel, by decide +kernel⟩
abbrev s_is_far : Stmt := topS 15
theorem sc_is_far : FnScope ["number"] ["number"] (defScope s_is_far) := ⟨rfl, rfl, rfl, by decide +kernel, rfl, by decide +kernel, by decide +kernel⟩
abbrev s_is_part : Stmt := topS 19
theorem sc_is_part : FnScope ["part", "one"] ["part"] (defScope s_is_part) := ⟨rfl, rfl, rfl, by decide +kernel, rfl, by decide +kernel, by decide +kernel⟩
abbrev s_many_of : Stmt := topS 20
theorem sc_many_of : FnScope ["part"] ["part"] (defScope s_many_of) := ⟨rfl, rfl, rfl, by decide +kernel, rfl, by decide +kernel, by decide +kernel⟩
abbrev s_at_part : Stmt := topS 21
theorem sc_at_part : FnScope ["part", "index"] ["part", "index"] (defScope s_at_part) := ⟨rfl, rfl, rfl, by decide +kernel, rfl, by decide +kernel, by decide +kernel⟩
abbrev s_ends_of : Stmt := topS 22
theorem sc_ends_of : FnScope ["part", "some"] ["part"] (defScope s_ends_of) := ⟨rfl, rfl, rfl, by decide +kernel, rfl, by decide +kernel, by decide +kernel⟩
abbrev s_is_empty : Stmt := topS 23
theorem sc_is_empty : FnScope ["section", "part"] ["section"] (defScope s_is_empty) := ⟨rfl, rfl, rfl, by decide +kernel, rfl, by decide +kernel, by decide +kernel⟩
abbrev s_check_section : Stmt := topS 24
theorem sc_check_section : FnScope ["bounds", "section", "name", "part", "low", "high", "least", "greatest"] ["bounds", "section", "name"] (defScope s_check_section) := ⟨rfl, rfl, rfl, by decide +kernel, rfl, by decide +kernel, by decide +kernel⟩
abbrev s_check_pair : Stmt := topS 25
theorem sc_check_pair : FnScope ["bounds", "one", "other"] ["bounds", "one", "other"] (defScope s_check_pair) := ⟨rfl, rfl, rfl, by decide +kernel, rfl, by decide +kernel, by decide +kernel⟩
abbrev s_product : Stmt := topS 18
theorem sc_product : FnScope ["numbers", "found", "number"] ["numbers"] (defScope s_product) := ⟨rfl, rfl, rfl, by decide +kernel, rfl, by decide +kernel, by decide +kernel⟩
abbrev s_gcd : Stmt := topS 8
theorem sc_gcd : FnScope ["one", "other"] ["one", "other"] (defScope s_gcd) := ⟨rfl, rfl, rfl, by decide +kernel, rfl, by decide +kernel, by decide +kernel⟩
abbrev s_lcm : Stmt := topS 9
theorem sc_lcm : FnScope ["one", "other"] ["one", "other"] (defScope s_lcm) := ⟨rfl, rfl, rfl, by decide +kernel, rfl, by decide +kernel, by decide +kernel⟩
abbrev s_inverse : Stmt := topS 10
theorem sc_inverse : FnScope ["number", "modulus", "one", "other", "first", "last", "times"] ["number", "modulus"] (defScope s_inverse) := ⟨rfl, rfl, rfl, by decide +kernel, rfl, by decide +kernel, by decide +kernel⟩
abbrev s_meeting : Stmt := topS 11
theorem sc_meeting : FnScope ["first", "step", "other", "stride", "shared", "whole", "part", "times"] ["first", "step", "other", "stride"] (defScope s_meeting) := ⟨rfl, rfl, rfl, by decide +kernel, rfl, by decide +kernel, by decide +kernel⟩
abbrev s_few_of : Stmt := topS 26
theorem sc_few_of : FnScope ["part"] ["part"] (defScope s_few_of) := ⟨rfl, rfl, rfl, by decide +kernel, rfl, by decide +kernel, by decide +kernel⟩
abbrev s_has_subscript : Stmt := topS 27
theorem sc_has_subscript : FnScope ["part", "number", "low", "high"] ["part", "number"] (defScope s_has_subscript) := ⟨rfl, rfl, rfl, by decide +kernel, rfl, by decide +kernel, by decide +kernel⟩
abbrev s_shared_part : Stmt := topS 28
theorem sc_shared_part : FnScope ["part", "twin", "few", "rare", "some", "low", "high", "least", "greatest", "met", "first", "last", "one"] ["part", "twin"] (defScope s_shared_part) := ⟨rfl, rfl, rfl, by decide +kernel, rfl, by decide +kernel, by decide +kernel⟩
abbrev s_shared_in : Stmt := topS 29
theorem sc_shared_in : FnScope ["one", "other", "found", "many", "part", "twin", "row"] ["one", "other"] (defScope s_shared_in) := ⟨rfl, rfl, rfl, by decide +kernel, rfl, by decide +kernel, by decide +kernel⟩
abbrev s_shared : Stmt := topS 30
theorem sc_shared : FnScope ["bounds", "one", "other"] ["bounds", "one", "other"] (defScope s_shared) := ⟨rfl, rfl, rfl, by decide +kernel, rfl, by decide +kernel, by decide +kernel⟩
abbrev s_includes_in : Stmt := topS 31
theorem sc_includes_in : FnScope ["one", "other"] ["one", "other"] (defScope s_includes_in) := ⟨rfl, rfl, rfl, by decide +kernel, rfl, by decide +kernel, by decide +kernel⟩
abbrev s_includes : Stmt := topS 32
theorem sc_includes : FnScope ["bounds", "one", "other"] ["bounds", "one", "other"] (defScope s_includes) := ⟨rfl, rfl, rfl, by decide +kernel, rfl, by decide +kernel, by decide +kernel⟩
abbrev s_same_set : Stmt := topS 33
theorem sc_same_set : FnScope ["bounds", "one", "other"] ["bounds", "one", "other"] (defScope s_same_set) := ⟨rfl, rfl, rfl, by decide +kernel, rfl, by decide +kernel, by decide +kernel⟩
abbrev s__law_many : Stmt := topS 39
theorem sc__law_many : FnScope ["_law_part"] ["_law_part"] (defScope s__law_many) := ⟨rfl, rfl, rfl, by decide +kernel, rfl, by decide +kernel, by decide +kernel⟩
abbrev s__law_divisor : Stmt := topS 40
theorem sc__law_divisor : FnScope ["_law_one", "_law_two"] ["_law_one", "_law_two"] (defScope s__law_divisor) := ⟨rfl, rfl, rfl, by decide +kernel, rfl, by decide +kernel, by decide +kernel⟩
abbrev s__law_span : Stmt := topS 43
theorem sc__law_span : FnScope ["_law_part", "_law_last"] ["_law_part"] (defScope s__law_span) := ⟨rfl, rfl, rfl, by decide +kernel, rfl, by decide +kernel, by decide +kernel⟩
abbrev s__law_has : Stmt := topS 44
theorem sc__law_has : FnScope ["_law_part", "_law_number", "_law_low", "_law_high", "_law_step"] ["_law_part", "_law_number"] (defScope s__law_has) := ⟨rfl, rfl, rfl, by decide +kernel, rfl, by decide +kernel, by decide +kernel⟩
abbrev s__law_few : Stmt := topS 45
theorem sc__law_few : FnScope ["_law_part", "_law_k"] ["_law_part"] (defScope s__law_few) := ⟨rfl, rfl, rfl, by decide +kernel, rfl, by decide +kernel, by decide +kernel⟩
abbrev s__law_met : Stmt := topS 46
theorem sc__law_met : FnScope ["_law_part", "_law_twin", "_law_some", "_law_both", "_law_low", "_law_high", "_law_step", "_law_least", "_law_most", "_law_stride", "_law_here", "_law_turn", "_law_whole", "_law_number"] ["_law_part", "_law_twin"] (defScope s__law_met) := ⟨rfl, rfl, rfl, by decide +kernel, rfl, by decide +kernel, by decide +kernel⟩
abbrev s__law_due : Stmt := topS 47
theorem sc__law_due : FnScope ["_law_first", "_law_second", "_law_many_here", "_law_spot", "_law_part", "_law_twin", "_law_amount", "_law_least"] ["_law_first", "_law_second"] (defScope s__law_due) := ⟨rfl, rfl, rfl, by decide +kernel, rfl, by decide +kernel, by decide +kernel⟩
abbrev s__law_alone : Stmt := topS 48
theorem sc__law_alone : FnScope ["_law_section_so"] ["_law_section_so"] (defScope s__law_alone) := ⟨rfl, rfl, rfl, by decide +kernel, rfl, by decide +kernel, by decide +kernel⟩
abbrev s__law_within : Stmt := topS 50
theorem sc__law_within : FnScope ["_law_bounds_so", "_law_section_so", "_law_found", "_law_part", "_law_low", "_law_high", "_law_number"] ["_law_bounds_so", "_law_section_so"] (defScope s__law_within) := ⟨rfl, rfl, rfl, by decide +kernel, rfl, by decide +kernel, by decide +kernel⟩
abbrev s__law_judged : Stmt := topS 51
theorem sc__law_judged : FnScope ["_law_bounds_so", "_law_first", "_law_second", "_law_due_here", "_law_mine", "_law_its", "_law_told"] ["_law_bounds_so", "_law_first", "_law_second"] (defScope s__law_judged) := ⟨rfl, rfl, rfl, by decide +kernel, rfl, by decide +kernel, by decide +kernel⟩
abbrev s__law_right : Stmt := topS 49
theorem sc__law_right : FnScope ["_law_well", "_law_bounds_so", "_law_first", "_law_second", "_law_turn", "_law_unit", "_law_low", "_law_high", "_law_more_so"] ["_law_well"] (defScope s__law_right) := ⟨rfl, rfl, rfl, by decide +kernel, rfl, by decide +kernel, by decide +kernel⟩
abbrev s_law : Stmt := topS 52
theorem sc_law : FnScope ["_law_script", "_law_k", "_law_well", "_law_turn"] ["_law_script"] (defScope s_law) := ⟨rfl, rfl, rfl, by decide +kernel, rfl, by decide +kernel, by decide +kernel⟩
structure Hd (K : PySem.W.Frag) (mg : Str → Option Value) : Prop where
  m_abs : mg "abs" = none
  m_all : mg "all" = none
  m_bool : mg "bool" = none
  m_int : mg "int" = none
  m_isinstance : mg "isinstance" = none
  m_len : mg "len" = none
  m_list : mg "list" = none
  m_max : mg "max" = none
  m_min : mg "min" = none
  m_range : mg "range" = none
  m_repr : mg "repr" = none
  m_set : mg "set" = none
  m_sorted : mg "sorted" = none
  m_tuple : mg "tuple" = none
  m_zip : mg "zip" = none
  h_FAR : ∃ t, mg "FAR" = some (.int 1000000000000000000000000000000 t)
  h_MOST_DIMENSIONS : ∃ t, mg "MOST_DIMENSIONS" = some (.int 7 t)
  h_MOST_LIST : ∃ t, mg "MOST_LIST" = some (.int 64 t)
  f__law_source : ∃ f fd, mg "_law_source" = some (.ref f) ∧ FunD K "_law_source" "_law_source" (defArgs s__law_source) (defBody s__law_source) (defScope s__law_source) [] [] f fd
  f__law_mix : ∃ f fd, mg "_law_mix" = some (.ref f) ∧ FunD K "_law_mix" "_law_mix" (defArgs s__law_mix) (defBody s__law_mix) (defScope s__law_mix) [] [] f fd
  f__law_draw : ∃ f fd, mg "_law_draw" = some (.ref f) ∧ FunD K "_law_draw" "_law_draw" (defArgs s__law_draw) (defBody s__law_draw) (defScope s__law_draw) [] [] f fd
  f__law_pick : ∃ f fd, mg "_law_pick" = some (.ref f) ∧ FunD K "_law_pick" "_law_pick" (defArgs s__law_pick) (defBody s__law_pick) (defScope s__law_pick) [] [] f fd
  f__law_far_part : ∃ f fd, mg "_law_far_part" = some (.ref f) ∧ FunD K "_law_far_part" "_law_far_part" (defArgs s__law_far_part) (defBody s__law_far_part) (defScope s__law_far_part) [] [] f fd
  f__law_bent : ∃ f fd, mg "_law_bent" = some (.ref f) ∧ FunD K "_law_bent" "_law_bent" (defArgs s__law_bent) (defBody s__law_bent) (defScope s__law_bent) [] [] f fd
  f_is_row : ∃ f fd, mg "is_row" = some (.ref f) ∧ FunD K "is_row" "is_row" (defArgs s_is_row) (defBody s_is_row) (defScope s_is_row) [] [] f fd
  f_is_whole : ∃ f fd, mg "is_whole" = some (.ref f) ∧ FunD K "is_whole" "is_whole" (defArgs s_is_whole) (defBody s_is_whole) (defScope s_is_whole) [] [] f fd
  f_is_between : ∃ f fd, mg "is_between" = some (.ref f) ∧ FunD K "is_between" "is_between" (defArgs s_is_between) (defBody s_is_between) (defScope s_is_between) [] [] f fd
  f_is_pair : ∃ f fd, mg "is_pair" = some (.ref f) ∧ FunD K "is_pair" "is_pair" (defArgs s_is_pair) (defBody s_is_pair) (defScope s_is_pair) [] [] f fd
  f_check_bounds : ∃ f fd, mg "check_bounds" = some (.ref f) ∧ FunD K "check_bounds" "check_bounds" (defArgs s_check_bounds) (defBody s_check_bounds) (defScope s_check_bounds) [] [] f fd
  f_is_far : ∃ f fd, mg "is_far" = some (.ref f) ∧ FunD K "is_far" "is_far" (defArgs s_is_far) (defBody s_is_far) (defScope s_is_far) [] [] f fd
  f_is_part : ∃ f fd, mg "is_part" = some (.ref f) ∧ FunD K "is_part" "is_part" (defArgs s_is_part) (defBody s_is_part) (defScope s_is_part) [] [] f fd
  f_many_of : ∃ f fd, mg "many_of" = some (.ref f) ∧ FunD K "many_of" "many_of" (defArgs s_many_of) (defBody s_many_of) (defScope s_many_of) [] [] f fd
  f_at_part : ∃ f fd, mg "at_part" = some (.ref f) ∧ FunD K "at_part" "at_part" (defArgs s_at_part) (defBody s_at_part) (defScope s_at_part) [] [] f fd
  f_ends_of : ∃ f fd, mg "ends_of" = some (.ref f) ∧ FunD K "ends_of" "ends_of" (defArgs s_ends_of) (defBody s_ends_of) (defScope s_ends_of) [] [] f fd
  f_is_empty : ∃ f fd, mg "is_empty" = some (.ref f) ∧ FunD K "is_empty" "is_empty" (defArgs s_is_empty) (defBody s_is_empty) (defScope s_is_empty) [] [] f fd
  f_check_section : ∃ f fd, mg "check_section" = some (.ref f) ∧ FunD K "check_section" "check_section" (defArgs s_check_section) (defBody s_check_section) (defScope s_check_section) [] [] f fd
  f_check_pair : ∃ f fd, mg "check_pair" = some (.ref f) ∧ FunD K "check_pair" "check_pair" (defArgs s_check_pair) (defBody s_check_pair) (defScope s_check_pair) [] [] f fd
  f_product : ∃ f fd, mg "product" = some (.ref f) ∧ FunD K "product" "product" (defArgs s_product) (defBody s_product) (defScope s_product) [] [] f fd
  f_gcd : ∃ f fd, mg "gcd" = some (.ref f) ∧ FunD K "gcd" "gcd" (defArgs s_gcd) (defBody s_gcd) (defScope s_gcd) [] [] f fd
  f_lcm : ∃ f fd, mg "lcm" = some (.ref f) ∧ FunD K "lcm" "lcm" (defArgs s_lcm) (defBody s_lcm) (defScope s_lcm) [] [] f fd
  f_inverse : ∃ f fd, mg "inverse" = some (.ref f) ∧ FunD K "inverse" "inverse" (defArgs s_inverse) (defBody s_inverse) (defScope s_inverse) [] [] f fd
  f_meeting : ∃ f fd, mg "meeting" = some (.ref f) ∧ FunD K "meeting" "meeting" (defArgs s_meeting) (defBody s_meeting) (defScope s_meeting) [] [] f fd
  f_few_of : ∃ f fd, mg "few_of" = some (.ref f) ∧ FunD K "few_of" "few_of" (defArgs s_few_of) (defBody s_few_of) (defScope s_few_of) [] [] f fd
  f_has_subscript : ∃ f fd, mg "has_subscript" = some (.ref f) ∧ FunD K "has_subscript" "has_subscript" (defArgs s_has_subscript) (defBody s_has_subscript) (defScope s_has_subscript) [] [] f fd
  f_shared_part : ∃ f fd, mg "shared_part" = some (.ref f) ∧ FunD K "shared_part" "shared_part" (defArgs s_shared_part) (defBody s_shared_part) (defScope s_shared_part) [] [] f fd
  f_shared_in : ∃ f fd, mg "shared_in" = some (.ref f) ∧ FunD K "shared_in" "shared_in" (defArgs s_shared_in) (defBody s_shared_in) (defScope s_shared_in) [] [] f fd
  f_shared : ∃ f fd, mg "shared" = some (.ref f) ∧ FunD K "shared" "shared" (defArgs s_shared) (defBody s_shared) (defScope s_shared) [] [] f fd
  f_includes_in : ∃ f fd, mg "includes_in" = some (.ref f) ∧ FunD K "includes_in" "includes_in" (defArgs s_includes_in) (defBody s_includes_in) (defScope s_includes_in) [] [] f fd
  f_includes : ∃ f fd, mg "includes" = some (.ref f) ∧ FunD K "includes" "includes" (defArgs s_includes) (defBody s_includes) (defScope s_includes) [] [] f fd
  f_same_set : ∃ f fd, mg "same_set" = some (.ref f) ∧ FunD K "same_set" "same_set" (defArgs s_same_set) (defBody s_same_set) (defScope s_same_set) [] [] f fd
  f__law_many : ∃ f fd, mg "_law_many" = some (.ref f) ∧ FunD K "_law_many" "_law_many" (defArgs s__law_many) (defBody s__law_many) (defScope s__law_many) [] [] f fd
  f__law_divisor : ∃ f fd, mg "_law_divisor" = some (.ref f) ∧ FunD K "_law_divisor" "_law_divisor" (defArgs s__law_divisor) (defBody s__law_divisor) (defScope s__law_divisor) [] [] f fd
  f__law_span : ∃ f fd, mg "_law_span" = some (.ref f) ∧ FunD K "_law_span" "_law_span" (defArgs s__law_span) (defBody s__law_span) (defScope s__law_span) [] [] f fd
  f__law_has : ∃ f fd, mg "_law_has" = some (.ref f) ∧ FunD K "_law_has" "_law_has" (defArgs s__law_has) (defBody s__law_has) (defScope s__law_has) [] [] f fd
  f__law_few : ∃ f fd, mg "_law_few" = some (.ref f) ∧ FunD K "_law_few" "_law_few" (defArgs s__law_few) (defBody s__law_few) (defScope s__law_few) [] [] f fd
  f__law_met : ∃ f fd, mg "_law_met" = some (.ref f) ∧ FunD K "_law_met" "_law_met" (defArgs s__law_met) (defBody s__law_met) (defScope s__law_met) [] [] f fd
  f__law_due : ∃ f fd, mg "_law_due" = some (.ref f) ∧ FunD K "_law_due" "_law_due" (defArgs s__law_due) (defBody s__law_due) (defScope s__law_due) [] [] f fd
  f__law_alone : ∃ f fd, mg "_law_alone" = some (.ref f) ∧ FunD K "_law_alone" "_law_alone" (defArgs s__law_alone) (defBody s__law_alone) (defScope s__law_alone) [] [] f fd
  f__law_within : ∃ f fd, mg "_law_within" = some (.ref f) ∧ FunD K "_law_within" "_law_within" (defArgs s__law_within) (defBody s__law_within) (defScope s__law_within) [] [] f fd
  f__law_judged : ∃ f fd, mg "_law_judged" = some (.ref f) ∧ FunD K "_law_judged" "_law_judged" (defArgs s__law_judged) (defBody s__law_judged) (defScope s__law_judged) [] [] f fd
  f__law_right : ∃ f fd, mg "_law_right" = some (.ref f) ∧ FunD K "_law_right" "_law_right" (defArgs s__law_right) (defBody s__law_right) (defScope s__law_right) [] [] f fd
  f_law : ∃ f fd, mg "law" = some (.ref f) ∧ FunD K "law" "law" (defArgs s_law) (defBody s_law) (defScope s_law) [] [] f fd
section
variable {P : Program} {w : World} {K : PySem.W.Frag} {mg : Str → Option Value} {base : Heap}
theorem fok__law_source (h : Hd K mg) {f : Addr} {fd : FuncData} (F : FunD K "_law_source" "_law_source" (defArgs s__law_source) (defBody s__law_source) (defScope s__law_source) [] [] f fd) : FnG P w K mg base 1 f fd ["_law_script", "_law_k"] (spF ⟨K, mg⟩ 2 F__law_source) := by
  have m_int := h.m_int
  have m_len := h.m_len
  refine fok_of F sc__law_source exitO_ok fun cdv A outer s H E hr => ?_
  have tk := takes_of (X := cxOf (L2.CX P w) P w K mg base ["_law_script", "_law_k", "_law_cell"] "_law_source" (defScope s__law_source) f cdv A outer s H E) (E := E) rfl rfl rfl rfl
  have hp := passes_of (X := cxOf (L2.CX P w) P w K mg base ["_law_script", "_law_k", "_law_cell"] "_law_source" (defScope s__law_source) f cdv A outer s H E) rfl
  exact (jb_cons (js_set 2 sc__law_source.nd (je_bin jo_add (je_ix (je_bin jo_add (je_var 0) (je_lst (ja_cons je_int ja_nil))) je_int) (je_bin jo_mul je_int (je_var 1)))) (jb_cons (js_if (jt_cmp jo_lt (je_var 1) (je_callB jc_len (by rfl) m_len (by decide +kernel) (ja_cons (je_var 0) ja_nil))) (jb_one (js_set 2 sc__law_source.nd (je_ix (je_var 0) (je_var 1)))) jb_nil) (jb_one (js_ret (je_own (ja_cons (je_bin jo_mul (je_var 2) (je_callTy jc_int (by rfl) m_int (by decide +kernel) (ja_cons (je_cmp jo_ge (je_var 2) (je_bin jo_pow je_int je_int)) ja_nil))) (ja_cons (je_var 2) (ja_cons je_int ja_nil))))))))
theorem cal__law_source (h : Hd K mg) : Cal P w K mg base 1 "_law_source" ["_law_script", "_law_k"] F__law_source := by
  obtain ⟨f, fd, hm, F⟩ := h.f__law_source
  exact cal_of F hm (F.bindsN fun _ _ _ _ _ _ us hl => match us, hl with | [_, _], _ => rfl) (fok__law_source h F)
theorem fok__law_mix (h : Hd K mg) {f : Addr} {fd : FuncData} (F : FunD K "_law_mix" "_law_mix" (defArgs s__law_mix) (defBody s__law_mix) (defScope s__law_mix) [] [] f fd) : FnG P w K mg base 1 f fd ["_law_cell", "_law_lap"] (spF ⟨K, mg⟩ 2 F__law_mix) := by
  have m_int := h.m_int
  refine fok_of F sc__law_mix exitV_ok fun cdv A outer s H E hr => ?_
  have tk := takes_of (X := cxOf (L2.CX P w) P w K mg base ["_law_cell", "_law_lap", "_law_blend"] "_law_mix" (defScope s__law_mix) f cdv A outer s H E) (E := E) rfl rfl rfl rfl
  have hp := passes_of (X := cxOf (L2.CX P w) P w K mg base ["_law_cell", "_law_lap", "_law_blend"] "_law_mix" (defScope s__law_mix) f cdv A outer s H E) rfl
  exact (jb_cons (js_set 2 sc__law_mix.nd (je_bin jo_add (je_bin jo_add (je_bin jo_add (je_bin jo_mod (je_callTy jc_int (by rfl) m_int (by decide +kernel) (ja_cons (je_var 0) ja_nil)) je_int) (je_bin jo_mul je_int (je_var 1))) (je_bin jo_mod (je_callTy jc_int (by rfl) m_int (by decide +kernel) (ja_cons (je_bin jo_fdiv (je_var 0) je_int) ja_nil)) je_int)) je_int)) (jb_cons (js_set 2 sc__law_mix.nd (je_bin jo_mod (je_callTy jc_int (by rfl) m_int (by decide +kernel) (ja_cons (je_bin jo_mul (je_var 2) je_int) ja_nil)) je_int)) (jb_cons (js_set 2 sc__law_mix.nd (je_bin jo_mod (je_callTy jc_int (by rfl) m_int (by decide +kernel) (ja_cons (je_bin jo_mul (je_var 2) (je_bin jo_add (je_bin jo_add (je_bin jo_fdiv (je_var 2) je_int) je_int) (je_var 1))) ja_nil)) je_int)) (jb_one (js_ret (je_bin jo_mod (je_callTy jc_int (by rfl) m_int (by decide +kernel) (ja_cons (je_bin jo_mul (je_var 2) (je_bin jo_add (je_bin jo_fdiv (je_var 2) je_int) je_int)) ja_nil)) je_int))))))
theorem cal__law_mix (h : Hd K mg) : Cal P w K mg base 1 "_law_mix" ["_law_cell", "_law_lap"] F__law_mix := by
  obtain ⟨f, fd, hm, F⟩ := h.f__law_mix
  exact cal_of F hm (F.bindsN fun _ _ _ _ _ _ us hl => match us, hl with | [_, _], _ => rfl) (fok__law_mix h F)
theorem fok__law_draw (h : Hd K mg) (c__law_mix : Cal P w K mg base 1 "_law_mix" ["_law_cell", "_law_lap"] F__law_mix) {f : Addr} {fd : FuncData} (F : FunD K "_law_draw" "_law_draw" (defArgs s__law_draw) (defBody s__law_draw) (defScope s__law_draw) [] [] f fd) : FnG P w K mg base 2 f fd ["_law_well", "_law_many_here"] (spF ⟨K, mg⟩ 2 F__law_draw) := by
  have m_int := h.m_int
  refine fok_of F sc__law_draw exitV_ok fun cdv A outer s H E hr => ?_
  have tk := takes_of (X := cxOf (L2.CX P w) P w K mg base ["_law_well", "_law_many_here", "_law_drawn"] "_law_draw" (defScope s__law_draw) f cdv A outer s H E) (E := E) rfl rfl rfl rfl
  have hp := passes_of (X := cxOf (L2.CX P w) P w K mg base ["_law_well", "_law_many_here", "_law_drawn"] "_law_draw" (defScope s__law_draw) f cdv A outer s H E) rfl
  exact (jb_cons (js_if (jt_cmp jo_gt (je_ix (je_var 0) je_int) je_int) (jb_cons (js_set 2 sc__law_draw.nd (je_bin jo_mod (je_callTy jc_int (by rfl) m_int (by decide +kernel) (ja_cons (je_ix (je_var 0) je_int) ja_nil)) (je_var 1))) (jb_cons (js_setIx (je_var 0) je_int (je_bin jo_fdiv (je_ix (je_var 0) je_int) (je_var 1))) (jb_one (js_ret (je_var 2))))) jb_nil) (jb_cons (js_setIx (je_var 0) je_int (je_bin jo_add (je_ix (je_var 0) je_int) je_int)) (jb_one (js_ret (je_bin jo_mod (je_callTy jc_int (by rfl) m_int (by decide +kernel) (ja_cons (je_call c__law_mix (hr.mono (by decide)) tk (by rfl) (ja_cons (je_ix (je_var 0) je_int) (ja_cons (je_ix (je_var 0) je_int) ja_nil))) ja_nil)) (je_var 1))))))
theorem cal__law_draw (h : Hd K mg) (c__law_mix : Cal P w K mg base 1 "_law_mix" ["_law_cell", "_law_lap"] F__law_mix) : Cal P w K mg base 2 "_law_draw" ["_law_well", "_law_many_here"] F__law_draw := by
  obtain ⟨f, fd, hm, F⟩ := h.f__law_draw
  exact cal_of F hm (F.bindsN fun _ _ _ _ _ _ us hl => match us, hl with | [_, _], _ => rfl) (fok__law_draw h c__law_mix F)
theorem fok__law_pick (h : Hd K mg) (c__law_draw : Cal P w K mg base 2 "_law_draw" ["_law_well", "_law_many_here"] F__law_draw) {f : Addr} {fd : FuncData} (F : FunD K "_law_pick" "_law_pick" (defArgs s__law_pick) (defBody s__law_pick) (defScope s__law_pick) [] [] f fd) : FnG P w K mg base 3 f fd ["_law_well", "_law_some"] (spF ⟨K, mg⟩ 2 F__law_pick) := by
  have m_len := h.m_len
  refine fok_of F sc__law_pick exitV_ok fun cdv A outer s H E hr => ?_
  have tk := takes_of (X := cxOf (L2.CX P w) P w K mg base ["_law_well", "_law_some"] "_law_pick" (defScope s__law_pick) f cdv A outer s H E) (E := E) rfl rfl rfl rfl
  have hp := passes_of (X := cxOf (L2.CX P w) P w K mg base ["_law_well", "_law_some"] "_law_pick" (defScope s__law_pick) f cdv A outer s H E) rfl
  exact (jb_one (js_ret (je_ix (je_var 1) (je_call c__law_draw (hr.mono (by decide)) tk (by rfl) (ja_cons (je_var 0) (ja_cons (je_callB jc_len (by rfl) m_len (by decide +kernel) (ja_cons (je_var 1) ja_nil)) ja_nil))))))
theorem cal__law_pick (h : Hd K mg) (c__law_draw : Cal P w K mg base 2 "_law_draw" ["_law_well", "_law_many_here"] F__law_draw) : Cal P w K mg base 3 "_law_pick" ["_law_well", "_law_some"] F__law_pick := by
  obtain ⟨f, fd, hm, F⟩ := h.f__law_pick
  exact cal_of F hm (F.bindsN fun _ _ _ _ _ _ us hl => match us, hl with | [_, _], _ => rfl) (fok__law_pick h c__law_draw F)
theorem fok__law_far_part (h : Hd K mg) (c__law_draw : Cal P w K mg base 2 "_law_draw" ["_law_well", "_law_many_here"] F__law_draw) {f : Addr} {fd : FuncData} (F : FunD K "_law_far_part" "_law_far_part" (defArgs s__law_far_part) (defBody s__law_far_part) (defScope s__law_far_part) [] [] f fd) : FnG P w K mg base 3 f fd ["_law_well", "_law_low", "_law_high", "_law_unit"] (spF ⟨K, mg⟩ 4 F__law_far_part) := by
  have m_int := h.m_int
  have m_range := h.m_range
  have m_sorted := h.m_sorted
  refine fok_of F sc__law_far_part exitV_ok fun cdv A outer s H E hr => ?_
  have tk := takes_of (X := cxOf (L2.CX P w) P w K mg base ["_law_well", "_law_low", "_law_high", "_law_unit", "_law_way", "_law_ends", "_law_step", "_law_k"] "_law_far_part" (defScope s__law_far_part) f cdv A outer s H E) (E := E) rfl rfl rfl rfl
  have hp := passes_of (X := cxOf (L2.CX P w) P w K mg base ["_law_well", "_law_low", "_law_high", "_law_unit", "_law_way", "_law_ends", "_law_step", "_law_k"] "_law_far_part" (defScope s__law_far_part) f cdv A outer s H E) rfl
  exact (jb_cons (js_parT rfl (ja_cons (je_call c__law_draw (hr.mono (by decide)) tk (by rfl) (ja_cons (je_var 0) (ja_cons je_int ja_nil))) (ja_cons (je_callB jc_sorted (by rfl) m_sorted (by decide +kernel) (ja_cons (je_lc [("_law_k", 7)] rfl sc__law_far_part.nd (ji_rng1 (by rfl) m_range (ja_cons je_int ja_nil)) (blkOk_by (by kernel_rfl)) (fun _ _ _ _ _ => (jg_name (i := 7) sc__law_far_part.nd)) (by decide) test_no (fun _ _ _ _ _ => (je_bin jo_add (je_var 1) (je_call c__law_draw (hr.mono (by decide)) takes0 (by rfl) (ja_cons (je_var 0) (ja_cons (je_bin jo_add (je_bin jo_sub (je_var 2) (je_var 1)) je_int) ja_nil)))))) ja_nil)) ja_nil)) (jn_cons (i := 4) sc__law_far_part.nd (jn_cons (i := 5) sc__law_far_part.nd jn_nil))) (jb_cons (js_if (jt_cmp (jo_eq hr.units) (je_var 4) je_int) (jb_one (js_ret (je_ix (je_var 5) je_int))) jb_nil) (jb_cons (js_if (jt_cmp (jo_eq hr.units) (je_var 4) je_int) (jb_one (js_ret (je_bin jo_add (je_lc [("_law_k", 7)] rfl sc__law_far_part.nd (ji_rng1 (by rfl) m_range (ja_cons (je_call c__law_draw (hr.mono (by decide)) tk (by rfl) (ja_cons (je_var 0) (ja_cons je_int ja_nil))) ja_nil)) (blkOk_by (by kernel_rfl)) (fun _ _ _ _ _ => (jg_name (i := 7) sc__law_far_part.nd)) (by decide) test_no (fun _ _ _ _ _ => (je_bin jo_add (je_ix (je_var 5) je_int) (je_bin jo_mul (je_var 3) (je_call c__law_draw (hr.mono (by decide)) takes0 (by rfl) (ja_cons (je_var 0) (ja_cons je_int ja_nil))))))) (je_var 5)))) jb_nil) (jb_cons (js_set 6 sc__law_far_part.nd (je_bin jo_mul (je_var 3) (je_bin jo_add je_int (je_call c__law_draw (hr.mono (by decide)) tk (by rfl) (ja_cons (je_var 0) (ja_cons je_int ja_nil)))))) (jb_cons (js_set 5 sc__law_far_part.nd (je_lst (ja_cons (je_bin jo_sub (je_ix (je_var 5) je_int) (je_bin jo_mod (je_callTy jc_int (by rfl) m_int (by decide +kernel) (ja_cons (je_bin jo_sub (je_ix (je_var 5) je_int) (je_var 1)) ja_nil)) (je_var 3))) (ja_cons (je_ix (je_var 5) je_int) ja_nil)))) (jb_cons (js_if (jt_cmp jo_lt (je_var 4) je_int) (jb_one (js_ret (je_tup (ja_cons (je_ix (je_var 5) je_int) (ja_cons (je_ix (je_var 5) je_int) (ja_cons (je_var 6) ja_nil)))))) jb_nil) (jb_one (js_ret (je_tup (ja_cons (je_bin jo_sub (je_ix (je_var 5) je_int) (je_bin jo_mod (je_callTy jc_int (by rfl) m_int (by decide +kernel) (ja_cons (je_bin jo_sub (je_ix (je_var 5) je_int) (je_ix (je_var 5) je_int)) ja_nil)) (je_var 3))) (ja_cons (je_ix (je_var 5) je_int) (ja_cons (je_bin jo_sub je_int (je_var 6)) ja_nil))))))))))))
theorem cal__law_far_part (h : Hd K mg) (c__law_draw : Cal P w K mg base 2 "_law_draw" ["_law_well", "_law_many_here"] F__law_draw) : Cal P w K mg base 3 "_law_far_part" ["_law_well", "_law_low", "_law_high", "_law_unit"] F__law_far_part := by
  obtain ⟨f, fd, hm, F⟩ := h.f__law_far_part
  exact cal_of F hm (F.bindsN fun _ _ _ _ _ _ us hl => match us, hl with | [_, _, _, _], _ => rfl) (fok__law_far_part h c__law_draw F)
theorem fok__law_bent (h : Hd K mg) (c__law_pick : Cal P w K mg base 3 "_law_pick" ["_law_well", "_law_some"] F__law_pick) {f : Addr} {fd : FuncData} (F : FunD K "_law_bent" "_law_bent" (defArgs s__law_bent) (defBody s__law_bent) (defScope s__law_bent) [] [] f fd) : FnG P w K mg base 4 f fd ["_law_well", "_law_part"] (spF ⟨K, mg⟩ 2 F__law_bent) := by
  have m_isinstance := h.m_isinstance
  have m_tuple := h.m_tuple
  refine fok_of F sc__law_bent exitV_ok fun cdv A outer s H E hr => ?_
  have tk := takes_of (X := cxOf (L2.CX P w) P w K mg base ["_law_well", "_law_part", "_law_first", "_law_last", "_law_step"] "_law_bent" (defScope s__law_bent) f cdv A outer s H E) (E := E) rfl rfl rfl rfl
  have hp := passes_of (X := cxOf (L2.CX P w) P w K mg base ["_law_well", "_law_part", "_law_first", "_law_last", "_law_step"] "_law_bent" (defScope s__law_bent) f cdv A outer s H E) rfl
  exact (jb_cons (js_if (jt_not (jt_val (je_isi tab_tuple (by rfl) m_isinstance (by rfl) m_tuple (by decide +kernel) (je_var 1)))) (jb_one (js_ret (je_var 1))) jb_nil) (jb_cons (js_asg (je_var 1) (jg_tup rfl (jgs_cons (jg_name (i := 2) sc__law_bent.nd) (jgs_cons (jg_name (i := 3) sc__law_bent.nd) (jgs_cons (jg_name (i := 4) sc__law_bent.nd) jgs_nil))))) (jb_one (js_ret (je_call c__law_pick (hr.mono (by decide)) tk (by rfl) (ja_cons (je_var 0) (ja_cons (je_lst (ja_cons (je_tup (ja_cons (je_bin jo_add (je_var 2) (je_var 4)) (ja_cons (je_var 3) (ja_cons (je_var 4) ja_nil)))) (ja_cons (je_tup (ja_cons (je_var 2) (ja_cons (je_bin jo_sub (je_var 3) (je_var 4)) (ja_cons (je_var 4) ja_nil)))) (ja_cons (je_tup (ja_cons (je_var 2) (ja_cons (je_var 3) (ja_cons (je_bin jo_mul je_int (je_var 4)) ja_nil)))) ja_nil)))) ja_nil)))))))
theorem cal__law_bent (h : Hd K mg) (c__law_pick : Cal P w K mg base 3 "_law_pick" ["_law_well", "_law_some"] F__law_pick) : Cal P w K mg base 4 "_law_bent" ["_law_well", "_law_part"] F__law_bent := by
  obtain ⟨f, fd, hm, F⟩ := h.f__law_bent
  exact cal_of F hm (F.bindsN fun _ _ _ _ _ _ us hl => match us, hl with | [_, _], _ => rfl) (fok__law_bent h c__law_pick F)
theorem fok_is_row (h : Hd K mg) {f : Addr} {fd : FuncData} (F : FunD K "is_row" "is_row" (defArgs s_is_row) (defBody s_is_row) (defScope s_is_row) [] [] f fd) : FnG P w K mg base 1 f fd ["value", "least", "most"] (spF ⟨K, mg⟩ 3 F_is_row) := by
  have m_isinstance := h.m_isinstance
  have m_len := h.m_len
  have m_list := h.m_list
  have m_tuple := h.m_tuple
  refine fok_of F sc_is_row exitV_ok fun cdv A outer s H E hr => ?_
  have tk := takes_of (X := cxOf (L2.CX P w) P w K mg base ["value", "least", "most"] "is_row" (defScope s_is_row) f cdv A outer s H E) (E := E) rfl rfl rfl rfl
  have hp := passes_of (X := cxOf (L2.CX P w) P w K mg base ["value", "least", "most"] "is_row" (defScope s_is_row) f cdv A outer s H E) rfl
  exact (jb_one (js_ret (je_and (je_isi2 tab_list tab_tuple (by rfl) m_isinstance (by rfl) m_list (by decide +kernel) (by rfl) m_tuple (by decide +kernel) (je_var 0)) (je_one (je_chain jo_le jo_le (je_var 1) (je_callB jc_len (by rfl) m_len (by decide +kernel) (ja_cons (je_var 0) ja_nil)) (je_var 2))))))
theorem cal_is_row (h : Hd K mg) : Cal P w K mg base 1 "is_row" ["value", "least", "most"] F_is_row := by
  obtain ⟨f, fd, hm, F⟩ := h.f_is_row
  exact cal_of F hm (F.bindsN fun _ _ _ _ _ _ us hl => match us, hl with | [_, _, _], _ => rfl) (fok_is_row h F)
theorem fok_is_whole (h : Hd K mg) {f : Addr} {fd : FuncData} (F : FunD K "is_whole" "is_whole" (defArgs s_is_whole) (defBody s_is_whole) (defScope s_is_whole) [] [] f fd) : FnG P w K mg base 1 f fd ["value"] (spF ⟨K, mg⟩ 1 F_is_whole) := by
  have m_bool := h.m_bool
  have m_int := h.m_int
  have m_isinstance := h.m_isinstance
  refine fok_of F sc_is_whole exitV_ok fun cdv A outer s H E hr => ?_
  have tk := takes_of (X := cxOf (L2.CX P w) P w K mg base ["value"] "is_whole" (defScope s_is_whole) f cdv A outer s H E) (E := E) rfl rfl rfl rfl
  have hp := passes_of (X := cxOf (L2.CX P w) P w K mg base ["value"] "is_whole" (defScope s_is_whole) f cdv A outer s H E) rfl
  exact (jb_one (js_ret (je_and (je_isi tab_int (by rfl) m_isinstance (by rfl) m_int (by decide +kernel) (je_var 0)) (je_one (je_not (je_isi tab_bool (by rfl) m_isinstance (by rfl) m_bool (by decide +kernel) (je_var 0)))))))
theorem cal_is_whole (h : Hd K mg) : Cal P w K mg base 1 "is_whole" ["value"] F_is_whole := by
  obtain ⟨f, fd, hm, F⟩ := h.f_is_whole
  exact cal_of F hm (F.bindsN fun _ _ _ _ _ _ us hl => match us, hl with | [_], _ => rfl) (fok_is_whole h F)
theorem fok_is_between (h : Hd K mg) (c_is_whole : Cal P w K mg base 1 "is_whole" ["value"] F_is_whole) {f : Addr} {fd : FuncData} (F : FunD K "is_between" "is_between" (defArgs s_is_between) (defBody s_is_between) (defScope s_is_between) [] [] f fd) : FnG P w K mg base 2 f fd ["value", "low", "high"] (spF ⟨K, mg⟩ 3 F_is_between) := by
  refine fok_of F sc_is_between exitV_ok fun cdv A outer s H E hr => ?_
  have tk := takes_of (X := cxOf (L2.CX P w) P w K mg base ["value", "low", "high"] "is_between" (defScope s_is_between) f cdv A outer s H E) (E := E) rfl rfl rfl rfl
  have hp := passes_of (X := cxOf (L2.CX P w) P w K mg base ["value", "low", "high"] "is_between" (defScope s_is_between) f cdv A outer s H E) rfl
  exact (jb_one (js_ret (je_and (je_call c_is_whole (hr.mono (by decide)) tk (by rfl) (ja_cons (je_var 0) ja_nil)) (je_one (je_chain jo_le jo_le (je_var 1) (je_var 0) (je_var 2))))))
theorem cal_is_between (h : Hd K mg) (c_is_whole : Cal P w K mg base 1 "is_whole" ["value"] F_is_whole) : Cal P w K mg base 2 "is_between" ["value", "low", "high"] F_is_between := by
  obtain ⟨f, fd, hm, F⟩ := h.f_is_between
  exact cal_of F hm (F.bindsN fun _ _ _ _ _ _ us hl => match us, hl with | [_, _, _], _ => rfl) (fok_is_between h c_is_whole F)
theorem fok_is_pair (h : Hd K mg) (c_is_between : Cal P w K mg base 2 "is_between" ["value", "low", "high"] F_is_between) {f : Addr} {fd : FuncData} (F : FunD K "is_pair" "is_pair" (defArgs s_is_pair) (defBody s_is_pair) (defScope s_is_pair) [] [] f fd) : FnG P w K mg base 3 f fd ["pair"] (spF ⟨K, mg⟩ 1 F_is_pair) := by
  have m_all := h.m_all
  have m_isinstance := h.m_isinstance
  have m_len := h.m_len
  have m_tuple := h.m_tuple
  have h_FAR := h.h_FAR
  refine fok_of F sc_is_pair exitV_ok fun cdv A outer s H E hr => ?_
  have tk := takes_of (X := cxOf (L2.CX P w) P w K mg base ["pair", "one"] "is_pair" (defScope s_is_pair) f cdv A outer s H E) (E := E) rfl rfl rfl rfl
  have hp := passes_of (X := cxOf (L2.CX P w) P w K mg base ["pair", "one"] "is_pair" (defScope s_is_pair) f cdv A outer s H E) rfl
  exact (jb_cons (js_if (JW.pt (jw_or (jt_not (jt_val (je_isi tab_tuple (by rfl) m_isinstance (by rfl) m_tuple (by decide +kernel) (je_var 0)))) (jw_or1 (jt_cmp (jo_ne hr.units) (je_callB jc_len (by rfl) m_len (by decide +kernel) (ja_cons (je_var 0) ja_nil)) je_int)))) (jb_one (js_ret je_bl)) jb_nil) (jb_one (js_ret (je_callB (jc_all rfl) (by rfl) m_all (by decide +kernel) (ja_cons (je_lc [("one", 1)] rfl sc_is_pair.nd (ji_seq (je_var 0)) (blkOk_by (by kernel_rfl)) (fun _ _ _ _ _ => (jg_name (i := 1) sc_is_pair.nd)) (by decide) test_no (fun _ _ _ _ _ => (je_call c_is_between (hr.mono (by decide)) takes0 (by rfl) (ja_cons (je_var 1) (ja_cons (je_bin jo_fdiv (je_neg (je_gint (by rfl) h_FAR)) je_int) (ja_cons (je_bin jo_fdiv (je_gint (by rfl) h_FAR) je_int) ja_nil)))))) ja_nil)))))
theorem cal_is_pair (h : Hd K mg) (c_is_between : Cal P w K mg base 2 "is_between" ["value", "low", "high"] F_is_between) : Cal P w K mg base 3 "is_pair" ["pair"] F_is_pair := by
  obtain ⟨f, fd, hm, F⟩ := h.f_is_pair
  exact cal_of F hm (F.bindsN fun _ _ _ _ _ _ us hl => match us, hl with | [_], _ => rfl) (fok_is_pair h c_is_between F)
theorem fok_check_bounds (h : Hd K mg) (c_is_row : Cal P w K mg base 1 "is_row" ["value", "least", "most"] F_is_row) (c_is_pair : Cal P w K mg base 3 "is_pair" ["pair"] F_is_pair) {f : Addr} {fd : FuncData} (F : FunD K "check_bounds" "check_bounds" (defArgs s_check_bounds) (defBody s_check_bounds) (defScope s_check_bounds) [] [] f fd) : FnG P w K mg base 4 f fd ["bounds", "name"] (spF ⟨K, mg⟩ 2 F_check_bounds) := by
  have m_all := h.m_all
  have m_isinstance := h.m_isinstance
  have m_tuple := h.m_tuple
  have h_MOST_DIMENSIONS := h.h_MOST_DIMENSIONS
  refine fok_of F sc_check_bounds exitV_ok fun cdv A outer s H E hr => ?_
  have tk := takes_of (X := cxOf (L2.CX P w) P w K mg base ["bounds", "name", "pair"] "check_bounds" (defScope s_check_bounds) f cdv A outer s H E) (E := E) rfl rfl rfl rfl
  have hp := passes_of (X := cxOf (L2.CX P w) P w K mg base ["bounds", "name", "pair"] "check_bounds" (defScope s_check_bounds) f cdv A outer s H E) rfl
  exact (jb_cons (js_if (JW.pt (jw_or (jt_not (jt_val (je_isi tab_tuple (by rfl) m_isinstance (by rfl) m_tuple (by decide +kernel) (je_var 0)))) (jw_or1 (jt_not (jt_val (je_call c_is_row (hr.mono (by decide)) tk (by rfl) (ja_cons (je_var 0) (ja_cons je_int (ja_cons (je_gint (by rfl) h_MOST_DIMENSIONS) ja_nil))))))))) (jb_one js_never) jb_nil) (jb_one (js_if (jt_not (jt_val (je_callB (jc_all rfl) (by rfl) m_all (by decide +kernel) (ja_cons (je_lc [("pair", 2)] rfl sc_check_bounds.nd (ji_seq (je_var 0)) (blkOk_by (by kernel_rfl)) (fun _ _ _ _ _ => (jg_name (i := 2) sc_check_bounds.nd)) (by decide) test_no (fun _ _ _ _ _ => (je_call c_is_pair (hr.mono (by decide)) takes0 (by rfl) (ja_cons (je_var 2) ja_nil)))) ja_nil)))) (jb_one js_never) jb_nil)))
theorem cal_check_bounds (h : Hd K mg) (c_is_row : Cal P w K mg base 1 "is_row" ["value", "least", "most"] F_is_row) (c_is_pair : Cal P w K mg base 3 "is_pair" ["pair"] F_is_pair) : Cal P w K mg base 4 "check_bounds" ["bounds", "name"] F_check_bounds := by
  obtain ⟨f, fd, hm, F⟩ := h.f_check_bounds
  exact cal_of F hm (F.bindsN fun _ _ _ _ _ _ us hl => match us, hl with | [_, _], _ => rfl) (fok_check_bounds h c_is_row c_is_pair F)
theorem fok_is_far (h : Hd K mg) (c_is_between : Cal P w K mg base 2 "is_between" ["value", "low", "high"] F_is_between) {f : Addr} {fd : FuncData} (F : FunD K "is_far" "is_far" (defArgs s_is_far) (defBody s_is_far) (defScope s_is_far) [] [] f fd) : FnG P w K mg base 3 f fd ["number"] (spF ⟨K, mg⟩ 1 F_is_far) := by
  have h_FAR := h.h_FAR
  refine fok_of F sc_is_far exitV_ok fun cdv A outer s H E hr => ?_
  have tk := takes_of (X := cxOf (L2.CX P w) P w K mg base ["number"] "is_far" (defScope s_is_far) f cdv A outer s H E) (E := E) rfl rfl rfl rfl
  have hp := passes_of (X := cxOf (L2.CX P w) P w K mg base ["number"] "is_far" (defScope s_is_far) f cdv A outer s H E) rfl
  exact (jb_one (js_ret (je_call c_is_between (hr.mono (by decide)) tk (by rfl) (ja_cons (je_var 0) (ja_cons (je_neg (je_gint (by rfl) h_FAR)) (ja_cons (je_gint (by rfl) h_FAR) ja_nil))))))
theorem cal_is_far (h : Hd K mg) (c_is_between : Cal P w K mg base 2 "is_between" ["value", "low", "high"] F_is_between) : Cal P w K mg base 3 "is_far" ["number"] F_is_far := by
  obtain ⟨f, fd, hm, F⟩ := h.f_is_far
  exact cal_of F hm (F.bindsN fun _ _ _ _ _ _ us hl => match us, hl with | [_], _ => rfl) (fok_is_far h c_is_between F)
theorem fok_is_part (h : Hd K mg) (c_is_far : Cal P w K mg base 3 "is_far" ["number"] F_is_far) {f : Addr} {fd : FuncData} (F : FunD K "is_part" "is_part" (defArgs s_is_part) (defBody s_is_part) (defScope s_is_part) [] [] f fd) : FnG P w K mg base 4 f fd ["part"] (spF ⟨K, mg⟩ 1 F_is_part) := by
  have m_all := h.m_all
  have m_isinstance := h.m_isinstance
  have m_len := h.m_len
  have m_list := h.m_list
  have m_tuple := h.m_tuple
  have h_MOST_LIST := h.h_MOST_LIST
  refine fok_of F sc_is_part exitV_ok fun cdv A outer s H E hr => ?_
  have tk := takes_of (X := cxOf (L2.CX P w) P w K mg base ["part", "one"] "is_part" (defScope s_is_part) f cdv A outer s H E) (E := E) rfl rfl rfl rfl
  have hp := passes_of (X := cxOf (L2.CX P w) P w K mg base ["part", "one"] "is_part" (defScope s_is_part) f cdv A outer s H E) rfl
  exact (jb_cons (js_if (jt_val (je_isi tab_tuple (by rfl) m_isinstance (by rfl) m_tuple (by decide +kernel) (je_var 0))) (jb_one (js_ret (je_and (je_cmp (jo_eq hr.units) (je_callB jc_len (by rfl) m_len (by decide +kernel) (ja_cons (je_var 0) ja_nil)) je_int) (je_and (je_callB (jc_all rfl) (by rfl) m_all (by decide +kernel) (ja_cons (je_lc [("one", 1)] rfl sc_is_part.nd (ji_seq (je_var 0)) (blkOk_by (by kernel_rfl)) (fun _ _ _ _ _ => (jg_name (i := 1) sc_is_part.nd)) (by decide) test_no (fun _ _ _ _ _ => (je_call c_is_far (hr.mono (by decide)) takes0 (by rfl) (ja_cons (je_var 1) ja_nil)))) ja_nil)) (je_one (je_cmp (jo_ne hr.units) (je_ix (je_var 0) je_int) je_int)))))) jb_nil) (jb_cons (js_if (jt_val (je_isi tab_list (by rfl) m_isinstance (by rfl) m_list (by decide +kernel) (je_var 0))) (jb_one (js_ret (je_and (je_cmp jo_le (je_callB jc_len (by rfl) m_len (by decide +kernel) (ja_cons (je_var 0) ja_nil)) (je_gint (by rfl) h_MOST_LIST)) (je_one (je_callB (jc_all rfl) (by rfl) m_all (by decide +kernel) (ja_cons (je_lc [("one", 1)] rfl sc_is_part.nd (ji_seq (je_var 0)) (blkOk_by (by kernel_rfl)) (fun _ _ _ _ _ => (jg_name (i := 1) sc_is_part.nd)) (by decide) test_no (fun _ _ _ _ _ => (je_call c_is_far (hr.mono (by decide)) takes0 (by rfl) (ja_cons (je_var 1) ja_nil)))) ja_nil)))))) jb_nil) (jb_one (js_ret (je_call c_is_far (hr.mono (by decide)) tk (by rfl) (ja_cons (je_var 0) ja_nil))))))
theorem cal_is_part (h : Hd K mg) (c_is_far : Cal P w K mg base 3 "is_far" ["number"] F_is_far) : Cal P w K mg base 4 "is_part" ["part"] F_is_part := by
  obtain ⟨f, fd, hm, F⟩ := h.f_is_part
  exact cal_of F hm (F.bindsN fun _ _ _ _ _ _ us hl => match us, hl with | [_], _ => rfl) (fok_is_part h c_is_far F)
theorem fok_many_of (h : Hd K mg) {f : Addr} {fd : FuncData} (F : FunD K "many_of" "many_of" (defArgs s_many_of) (defBody s_many_of) (defScope s_many_of) [] [] f fd) : FnG P w K mg base 1 f fd ["part"] (spF ⟨K, mg⟩ 1 F_many_of) := by
  have m_isinstance := h.m_isinstance
  have m_len := h.m_len
  have m_list := h.m_list
  have m_max := h.m_max
  have m_tuple := h.m_tuple
  refine fok_of F sc_many_of exitV_ok fun cdv A outer s H E hr => ?_
  have tk := takes_of (X := cxOf (L2.CX P w) P w K mg base ["part"] "many_of" (defScope s_many_of) f cdv A outer s H E) (E := E) rfl rfl rfl rfl
  have hp := passes_of (X := cxOf (L2.CX P w) P w K mg base ["part"] "many_of" (defScope s_many_of) f cdv A outer s H E) rfl
  exact (jb_cons (js_if (jt_val (je_isi tab_tuple (by rfl) m_isinstance (by rfl) m_tuple (by decide +kernel) (je_var 0))) (jb_one (js_ret (je_callB (jc_max2 rfl) (by rfl) m_max (by decide +kernel) (ja_cons je_int (ja_cons (je_bin jo_add (je_bin jo_fdiv (je_bin jo_sub (je_ix (je_var 0) je_int) (je_ix (je_var 0) je_int)) (je_ix (je_var 0) je_int)) je_int) ja_nil))))) jb_nil) (jb_one (js_ret (je_if (jt_val (je_isi tab_list (by rfl) m_isinstance (by rfl) m_list (by decide +kernel) (je_var 0))) (je_callB jc_len (by rfl) m_len (by decide +kernel) (ja_cons (je_var 0) ja_nil)) je_int))))
theorem cal_many_of (h : Hd K mg) : Cal P w K mg base 1 "many_of" ["part"] F_many_of := by
  obtain ⟨f, fd, hm, F⟩ := h.f_many_of
  exact cal_of F hm (F.bindsN fun _ _ _ _ _ _ us hl => match us, hl with | [_], _ => rfl) (fok_many_of h F)
theorem fok_at_part (h : Hd K mg) {f : Addr} {fd : FuncData} (F : FunD K "at_part" "at_part" (defArgs s_at_part) (defBody s_at_part) (defScope s_at_part) [] [] f fd) : FnG P w K mg base 1 f fd ["part", "index"] (spF ⟨K, mg⟩ 2 F_at_part) := by
  have m_isinstance := h.m_isinstance
  have m_list := h.m_list
  have m_tuple := h.m_tuple
  refine fok_of F sc_at_part exitV_ok fun cdv A outer s H E hr => ?_
  have tk := takes_of (X := cxOf (L2.CX P w) P w K mg base ["part", "index"] "at_part" (defScope s_at_part) f cdv A outer s H E) (E := E) rfl rfl rfl rfl
  have hp := passes_of (X := cxOf (L2.CX P w) P w K mg base ["part", "index"] "at_part" (defScope s_at_part) f cdv A outer s H E) rfl
  exact (jb_cons (js_if (jt_val (je_isi tab_tuple (by rfl) m_isinstance (by rfl) m_tuple (by decide +kernel) (je_var 0))) (jb_one (js_ret (je_bin jo_add (je_ix (je_var 0) je_int) (je_bin jo_mul (je_var 1) (je_ix (je_var 0) je_int))))) jb_nil) (jb_one (js_ret (je_if (jt_val (je_isi tab_list (by rfl) m_isinstance (by rfl) m_list (by decide +kernel) (je_var 0))) (je_ix (je_var 0) (je_var 1)) (je_var 0)))))
theorem cal_at_part (h : Hd K mg) : Cal P w K mg base 1 "at_part" ["part", "index"] F_at_part := by
  obtain ⟨f, fd, hm, F⟩ := h.f_at_part
  exact cal_of F hm (F.bindsN fun _ _ _ _ _ _ us hl => match us, hl with | [_, _], _ => rfl) (fok_at_part h F)
theorem fok_ends_of (h : Hd K mg) (c_many_of : Cal P w K mg base 1 "many_of" ["part"] F_many_of) (c_at_part : Cal P w K mg base 1 "at_part" ["part", "index"] F_at_part) {f : Addr} {fd : FuncData} (F : FunD K "ends_of" "ends_of" (defArgs s_ends_of) (defBody s_ends_of) (defScope s_ends_of) [] [] f fd) : FnG P w K mg base 2 f fd ["part"] (spF ⟨K, mg⟩ 1 F_ends_of) := by
  have m_isinstance := h.m_isinstance
  have m_list := h.m_list
  have m_max := h.m_max
  have m_min := h.m_min
  refine fok_of F sc_ends_of exitV_ok fun cdv A outer s H E hr => ?_
  have tk := takes_of (X := cxOf (L2.CX P w) P w K mg base ["part", "some"] "ends_of" (defScope s_ends_of) f cdv A outer s H E) (E := E) rfl rfl rfl rfl
  have hp := passes_of (X := cxOf (L2.CX P w) P w K mg base ["part", "some"] "ends_of" (defScope s_ends_of) f cdv A outer s H E) rfl
  exact (jb_cons (js_set 1 sc_ends_of.nd (je_if (jt_val (je_isi tab_list (by rfl) m_isinstance (by rfl) m_list (by decide +kernel) (je_var 0))) (je_var 0) (je_lst (ja_cons (je_call c_at_part (hr.mono (by decide)) tk (by rfl) (ja_cons (je_var 0) (ja_cons je_int ja_nil))) (ja_cons (je_call c_at_part (hr.mono (by decide)) tk (by rfl) (ja_cons (je_var 0) (ja_cons (je_bin jo_sub (je_call c_many_of (hr.mono (by decide)) tk (by rfl) (ja_cons (je_var 0) ja_nil)) je_int) ja_nil))) ja_nil))))) (jb_one (js_ret (je_tup (ja_cons (je_callB (jc_min1 rfl) (by rfl) m_min (by decide +kernel) (ja_cons (je_var 1) ja_nil)) (ja_cons (je_callB (jc_max1 rfl) (by rfl) m_max (by decide +kernel) (ja_cons (je_var 1) ja_nil)) ja_nil))))))
theorem cal_ends_of (h : Hd K mg) (c_many_of : Cal P w K mg base 1 "many_of" ["part"] F_many_of) (c_at_part : Cal P w K mg base 1 "at_part" ["part", "index"] F_at_part) : Cal P w K mg base 2 "ends_of" ["part"] F_ends_of := by
  obtain ⟨f, fd, hm, F⟩ := h.f_ends_of
  exact cal_of F hm (F.bindsN fun _ _ _ _ _ _ us hl => match us, hl with | [_], _ => rfl) (fok_ends_of h c_many_of c_at_part F)
theorem fok_is_empty (h : Hd K mg) (c_many_of : Cal P w K mg base 1 "many_of" ["part"] F_many_of) {f : Addr} {fd : FuncData} (F : FunD K "is_empty" "is_empty" (defArgs s_is_empty) (defBody s_is_empty) (defScope s_is_empty) [] [] f fd) : FnG P w K mg base 2 f fd ["section"] (spF ⟨K, mg⟩ 1 F_is_empty) := by
  refine fok_of F sc_is_empty exitV_ok fun cdv A outer s H E hr => ?_
  have tk := takes_of (X := cxOf (L2.CX P w) P w K mg base ["section", "part"] "is_empty" (defScope s_is_empty) f cdv A outer s H E) (E := E) rfl rfl rfl rfl
  have hp := passes_of (X := cxOf (L2.CX P w) P w K mg base ["section", "part"] "is_empty" (defScope s_is_empty) f cdv A outer s H E) rfl
  exact (jb_one (js_ret (je_cmp jo_in je_int (je_lc [("part", 1)] rfl sc_is_empty.nd (ji_seq (je_var 0)) (blkOk_by (by kernel_rfl)) (fun _ _ _ _ _ => (jg_name (i := 1) sc_is_empty.nd)) (by decide) test_no (fun _ _ _ _ _ => (je_call c_many_of (hr.mono (by decide)) takes0 (by rfl) (ja_cons (je_var 1) ja_nil)))) (by rfl))))
theorem cal_is_empty (h : Hd K mg) (c_many_of : Cal P w K mg base 1 "many_of" ["part"] F_many_of) : Cal P w K mg base 2 "is_empty" ["section"] F_is_empty := by
  obtain ⟨f, fd, hm, F⟩ := h.f_is_empty
  exact cal_of F hm (F.bindsN fun _ _ _ _ _ _ us hl => match us, hl with | [_], _ => rfl) (fok_is_empty h c_many_of F)
theorem fok_check_section (h : Hd K mg) (c_is_part : Cal P w K mg base 4 "is_part" ["part"] F_is_part) (c_ends_of : Cal P w K mg base 2 "ends_of" ["part"] F_ends_of) (c_is_empty : Cal P w K mg base 2 "is_empty" ["section"] F_is_empty) {f : Addr} {fd : FuncData} (F : FunD K "check_section" "check_section" (defArgs s_check_section) (defBody s_check_section) (defScope s_check_section) [] [] f fd) : FnG P w K mg base 5 f fd ["bounds", "section", "name"] (spF ⟨K, mg⟩ 3 F_check_section) := by
  have m_all := h.m_all
  have m_isinstance := h.m_isinstance
  have m_len := h.m_len
  have m_tuple := h.m_tuple
  have m_zip := h.m_zip
  refine fok_of F sc_check_section exitV_ok fun cdv A outer s H E hr => ?_
  have tk := takes_of (X := cxOf (L2.CX P w) P w K mg base ["bounds", "section", "name", "part", "low", "high", "least", "greatest"] "check_section" (defScope s_check_section) f cdv A outer s H E) (E := E) rfl rfl rfl rfl
  have hp := passes_of (X := cxOf (L2.CX P w) P w K mg base ["bounds", "section", "name", "part", "low", "high", "least", "greatest"] "check_section" (defScope s_check_section) f cdv A outer s H E) rfl
  exact (jb_cons (js_if (JW.pt (jw_or (jt_not (jt_val (je_isi tab_tuple (by rfl) m_isinstance (by rfl) m_tuple (by decide +kernel) (je_var 1)))) (jw_or (jt_cmp (jo_ne hr.units) (je_callB jc_len (by rfl) m_len (by decide +kernel) (ja_cons (je_var 1) ja_nil)) (je_callB jc_len (by rfl) m_len (by decide +kernel) (ja_cons (je_var 0) ja_nil))) (jw_or1 (jt_not (jt_val (je_callB (jc_all rfl) (by rfl) m_all (by decide +kernel) (ja_cons (je_lc [("part", 3)] rfl sc_check_section.nd (ji_seq (je_var 1)) (blkOk_by (by kernel_rfl)) (fun _ _ _ _ _ => (jg_name (i := 3) sc_check_section.nd)) (by decide) test_no (fun _ _ _ _ _ => (je_call c_is_part (hr.mono (by decide)) takes0 (by rfl) (ja_cons (je_var 3) ja_nil)))) ja_nil)))))))) (jb_one js_never) jb_nil) (jb_one (js_if (jt_not (jt_val (je_call c_is_empty (hr.mono (by decide)) tk (by rfl) (ja_cons (je_var 1) ja_nil)))) (jb_one (js_for hp rfl (ji_zip2 (by rfl) m_zip (ja_cons (je_var 1) (ja_cons (je_var 0) ja_nil))) (jg_tup rfl (jgs_cons (jg_name (i := 3) sc_check_section.nd) (jgs_cons (jg_tup rfl (jgs_cons (jg_name (i := 4) sc_check_section.nd) (jgs_cons (jg_name (i := 5) sc_check_section.nd) jgs_nil))) jgs_nil))) (jb_cons (js_asg (je_call c_ends_of (hr.mono (by decide)) tk (by rfl) (ja_cons (je_var 3) ja_nil)) (jg_tup rfl (jgs_cons (jg_name (i := 6) sc_check_section.nd) (jgs_cons (jg_name (i := 7) sc_check_section.nd) jgs_nil)))) (jb_one (js_if (JW.pt (jw_or (jt_cmp jo_lt (je_var 6) (je_var 4)) (jw_or1 (jt_cmp jo_gt (je_var 7) (je_var 5))))) (jb_one js_never) jb_nil))))) jb_nil)))
theorem cal_check_section (h : Hd K mg) (c_is_part : Cal P w K mg base 4 "is_part" ["part"] F_is_part) (c_ends_of : Cal P w K mg base 2 "ends_of" ["part"] F_ends_of) (c_is_empty : Cal P w K mg base 2 "is_empty" ["section"] F_is_empty) : Cal P w K mg base 5 "check_section" ["bounds", "section", "name"] F_check_section := by
  obtain ⟨f, fd, hm, F⟩ := h.f_check_section
  exact cal_of F hm (F.bindsN fun _ _ _ _ _ _ us hl => match us, hl with | [_, _, _], _ => rfl) (fok_check_section h c_is_part c_ends_of c_is_empty F)
theorem fok_check_pair (h : Hd K mg) (c_check_bounds : Cal P w K mg base 4 "check_bounds" ["bounds", "name"] F_check_bounds) (c_check_section : Cal P w K mg base 5 "check_section" ["bounds", "section", "name"] F_check_section) {f : Addr} {fd : FuncData} (F : FunD K "check_pair" "check_pair" (defArgs s_check_pair) (defBody s_check_pair) (defScope s_check_pair) [] [] f fd) : FnG P w K mg base 6 f fd ["bounds", "one", "other"] (spF ⟨K, mg⟩ 3 F_check_pair) := by
  refine fok_of F sc_check_pair exitV_ok fun cdv A outer s H E hr => ?_
  have tk := takes_of (X := cxOf (L2.CX P w) P w K mg base ["bounds", "one", "other"] "check_pair" (defScope s_check_pair) f cdv A outer s H E) (E := E) rfl rfl rfl rfl
  have hp := passes_of (X := cxOf (L2.CX P w) P w K mg base ["bounds", "one", "other"] "check_pair" (defScope s_check_pair) f cdv A outer s H E) rfl
  exact (jb_cons (js_expr (je_call c_check_bounds (hr.mono (by decide)) tk (by rfl) (ja_cons (je_var 0) (ja_cons je_str ja_nil)))) (jb_cons (js_expr (je_call c_check_section (hr.mono (by decide)) tk (by rfl) (ja_cons (je_var 0) (ja_cons (je_var 1) (ja_cons je_str ja_nil))))) (jb_one (js_expr (je_call c_check_section (hr.mono (by decide)) tk (by rfl) (ja_cons (je_var 0) (ja_cons (je_var 2) (ja_cons je_str ja_nil))))))))
theorem cal_check_pair (h : Hd K mg) (c_check_bounds : Cal P w K mg base 4 "check_bounds" ["bounds", "name"] F_check_bounds) (c_check_section : Cal P w K mg base 5 "check_section" ["bounds", "section", "name"] F_check_section) : Cal P w K mg base 6 "check_pair" ["bounds", "one", "other"] F_check_pair := by
  obtain ⟨f, fd, hm, F⟩ := h.f_check_pair
  exact cal_of F hm (F.bindsN fun _ _ _ _ _ _ us hl => match us, hl with | [_, _, _], _ => rfl) (fok_check_pair h c_check_bounds c_check_section F)
theorem fok_product (h : Hd K mg) {f : Addr} {fd : FuncData} (F : FunD K "product" "product" (defArgs s_product) (defBody s_product) (defScope s_product) [] [] f fd) : FnG P w K mg base 1 f fd ["numbers"] (spF ⟨K, mg⟩ 1 F_product) := by
  refine fok_of F sc_product exitV_ok fun cdv A outer s H E hr => ?_
  have tk := takes_of (X := cxOf (L2.CX P w) P w K mg base ["numbers", "found", "number"] "product" (defScope s_product) f cdv A outer s H E) (E := E) rfl rfl rfl rfl
  have hp := passes_of (X := cxOf (L2.CX P w) P w K mg base ["numbers", "found", "number"] "product" (defScope s_product) f cdv A outer s H E) rfl
  exact (jb_cons (js_set 1 sc_product.nd je_int) (jb_cons (js_for hp rfl (ji_seq (je_var 0)) (jg_name (i := 2) sc_product.nd) (jb_one (js_set 1 sc_product.nd (je_bin jo_mul (je_var 1) (je_var 2))))) (jb_one (js_ret (je_var 1)))))
theorem cal_product (h : Hd K mg) : Cal P w K mg base 1 "product" ["numbers"] F_product := by
  obtain ⟨f, fd, hm, F⟩ := h.f_product
  exact cal_of F hm (F.bindsN fun _ _ _ _ _ _ us hl => match us, hl with | [_], _ => rfl) (fok_product h F)
theorem fok_gcd (h : Hd K mg) {f : Addr} {fd : FuncData} (F : FunD K "gcd" "gcd" (defArgs s_gcd) (defBody s_gcd) (defScope s_gcd) [] [] f fd) : FnG P w K mg base 1 f fd ["one", "other"] (spF ⟨K, mg⟩ 2 F_gcd) := by
  have m_abs := h.m_abs
  refine fok_of F sc_gcd exitV_ok fun cdv A outer s H E hr => ?_
  have tk := takes_of (X := cxOf (L2.CX P w) P w K mg base ["one", "other"] "gcd" (defScope s_gcd) f cdv A outer s H E) (E := E) rfl rfl rfl rfl
  have hp := passes_of (X := cxOf (L2.CX P w) P w K mg base ["one", "other"] "gcd" (defScope s_gcd) f cdv A outer s H E) rfl
  exact (jb_cons (js_while hp (jt_cmp (jo_ne hr.units) (je_var 1) je_int) (jb_one (js_par 0 1 rfl sc_gcd.nd (ja_cons (je_var 1) (ja_cons (je_bin jo_mod (je_var 0) (je_var 1)) ja_nil))))) (jb_one (js_ret (je_callB jc_abs (by rfl) m_abs (by decide +kernel) (ja_cons (je_var 0) ja_nil)))))
theorem cal_gcd (h : Hd K mg) : Cal P w K mg base 1 "gcd" ["one", "other"] F_gcd := by
  obtain ⟨f, fd, hm, F⟩ := h.f_gcd
  exact cal_of F hm (F.bindsN fun _ _ _ _ _ _ us hl => match us, hl with | [_, _], _ => rfl) (fok_gcd h F)
theorem fok_lcm (h : Hd K mg) (c_gcd : Cal P w K mg base 1 "gcd" ["one", "other"] F_gcd) {f : Addr} {fd : FuncData} (F : FunD K "lcm" "lcm" (defArgs s_lcm) (defBody s_lcm) (defScope s_lcm) [] [] f fd) : FnG P w K mg base 2 f fd ["one", "other"] (spF ⟨K, mg⟩ 2 F_lcm) := by
  have m_abs := h.m_abs
  refine fok_of F sc_lcm exitV_ok fun cdv A outer s H E hr => ?_
  have tk := takes_of (X := cxOf (L2.CX P w) P w K mg base ["one", "other"] "lcm" (defScope s_lcm) f cdv A outer s H E) (E := E) rfl rfl rfl rfl
  have hp := passes_of (X := cxOf (L2.CX P w) P w K mg base ["one", "other"] "lcm" (defScope s_lcm) f cdv A outer s H E) rfl
  exact (jb_one (js_ret (je_bin jo_fdiv (je_callB jc_abs (by rfl) m_abs (by decide +kernel) (ja_cons (je_bin jo_mul (je_var 0) (je_var 1)) ja_nil)) (je_call c_gcd (hr.mono (by decide)) tk (by rfl) (ja_cons (je_var 0) (ja_cons (je_var 1) ja_nil))))))
theorem cal_lcm (h : Hd K mg) (c_gcd : Cal P w K mg base 1 "gcd" ["one", "other"] F_gcd) : Cal P w K mg base 2 "lcm" ["one", "other"] F_lcm := by
  obtain ⟨f, fd, hm, F⟩ := h.f_lcm
  exact cal_of F hm (F.bindsN fun _ _ _ _ _ _ us hl => match us, hl with | [_, _], _ => rfl) (fok_lcm h c_gcd F)
theorem fok_inverse (h : Hd K mg) {f : Addr} {fd : FuncData} (F : FunD K "inverse" "inverse" (defArgs s_inverse) (defBody s_inverse) (defScope s_inverse) [] [] f fd) : FnG P w K mg base 1 f fd ["number", "modulus"] (spF ⟨K, mg⟩ 2 F_inverse) := by
  refine fok_of F sc_inverse exitV_ok fun cdv A outer s H E hr => ?_
  have tk := takes_of (X := cxOf (L2.CX P w) P w K mg base ["number", "modulus", "one", "other", "first", "last", "times"] "inverse" (defScope s_inverse) f cdv A outer s H E) (E := E) rfl rfl rfl rfl
  have hp := passes_of (X := cxOf (L2.CX P w) P w K mg base ["number", "modulus", "one", "other", "first", "last", "times"] "inverse" (defScope s_inverse) f cdv A outer s H E) rfl
  exact (jb_cons (js_parT rfl (ja_cons (je_bin jo_mod (je_var 0) (je_var 1)) (ja_cons (je_var 1) (ja_cons je_int (ja_cons je_int ja_nil)))) (jn_cons (i := 2) sc_inverse.nd (jn_cons (i := 3) sc_inverse.nd (jn_cons (i := 4) sc_inverse.nd (jn_cons (i := 5) sc_inverse.nd jn_nil))))) (jb_cons (js_while hp (jt_cmp (jo_ne hr.units) (je_var 3) je_int) (jb_cons (js_set 6 sc_inverse.nd (je_bin jo_fdiv (je_var 2) (je_var 3))) (jb_cons (js_par 2 3 rfl sc_inverse.nd (ja_cons (je_var 3) (ja_cons (je_bin jo_sub (je_var 2) (je_bin jo_mul (je_var 6) (je_var 3))) ja_nil))) (jb_one (js_par 4 5 rfl sc_inverse.nd (ja_cons (je_var 5) (ja_cons (je_bin jo_sub (je_var 4) (je_bin jo_mul (je_var 6) (je_var 5))) ja_nil))))))) (jb_one (js_ret (je_bin jo_mod (je_var 4) (je_var 1))))))
theorem cal_inverse (h : Hd K mg) : Cal P w K mg base 1 "inverse" ["number", "modulus"] F_inverse := by
  obtain ⟨f, fd, hm, F⟩ := h.f_inverse
  exact cal_of F hm (F.bindsN fun _ _ _ _ _ _ us hl => match us, hl with | [_, _], _ => rfl) (fok_inverse h F)
theorem fok_meeting (h : Hd K mg) (c_gcd : Cal P w K mg base 1 "gcd" ["one", "other"] F_gcd) (c_lcm : Cal P w K mg base 2 "lcm" ["one", "other"] F_lcm) (c_inverse : Cal P w K mg base 1 "inverse" ["number", "modulus"] F_inverse) {f : Addr} {fd : FuncData} (F : FunD K "meeting" "meeting" (defArgs s_meeting) (defBody s_meeting) (defScope s_meeting) [] [] f fd) : FnG P w K mg base 3 f fd ["first", "step", "other", "stride"] (spF ⟨K, mg⟩ 4 F_meeting) := by
  refine fok_of F sc_meeting exitV_ok fun cdv A outer s H E hr => ?_
  have tk := takes_of (X := cxOf (L2.CX P w) P w K mg base ["first", "step", "other", "stride", "shared", "whole", "part", "times"] "meeting" (defScope s_meeting) f cdv A outer s H E) (E := E) rfl rfl rfl rfl
  have hp := passes_of (X := cxOf (L2.CX P w) P w K mg base ["first", "step", "other", "stride", "shared", "whole", "part", "times"] "meeting" (defScope s_meeting) f cdv A outer s H E) rfl
  exact (jb_cons (js_set 4 sc_meeting.nd (je_call c_gcd (hr.mono (by decide)) tk (by rfl) (ja_cons (je_var 1) (ja_cons (je_var 3) ja_nil)))) (jb_cons (js_if (jt_cmp (jo_ne hr.units) (je_bin jo_mod (je_bin jo_sub (je_var 2) (je_var 0)) (je_var 4)) je_int) (jb_one (js_ret je_non)) jb_nil) (jb_cons (js_set 5 sc_meeting.nd (je_call c_lcm (hr.mono (by decide)) tk (by rfl) (ja_cons (je_var 1) (ja_cons (je_var 3) ja_nil)))) (jb_cons (js_set 6 sc_meeting.nd (je_bin jo_fdiv (je_var 3) (je_var 4))) (jb_cons (js_set 7 sc_meeting.nd (je_if (jt_cmp jo_gt (je_var 6) je_int) (je_bin jo_mod (je_bin jo_mul (je_bin jo_fdiv (je_bin jo_sub (je_var 2) (je_var 0)) (je_var 4)) (je_call c_inverse (hr.mono (by decide)) tk (by rfl) (ja_cons (je_bin jo_fdiv (je_var 1) (je_var 4)) (ja_cons (je_var 6) ja_nil)))) (je_var 6)) je_int)) (jb_one (js_ret (je_tup (ja_cons (je_bin jo_mod (je_bin jo_add (je_var 0) (je_bin jo_mul (je_var 7) (je_var 1))) (je_var 5)) (ja_cons (je_var 5) ja_nil))))))))))
theorem cal_meeting (h : Hd K mg) (c_gcd : Cal P w K mg base 1 "gcd" ["one", "other"] F_gcd) (c_lcm : Cal P w K mg base 2 "lcm" ["one", "other"] F_lcm) (c_inverse : Cal P w K mg base 1 "inverse" ["number", "modulus"] F_inverse) : Cal P w K mg base 3 "meeting" ["first", "step", "other", "stride"] F_meeting := by
  obtain ⟨f, fd, hm, F⟩ := h.f_meeting
  exact cal_of F hm (F.bindsN fun _ _ _ _ _ _ us hl => match us, hl with | [_, _, _, _], _ => rfl) (fok_meeting h c_gcd c_lcm c_inverse F)
theorem fok_few_of (h : Hd K mg) (c_many_of : Cal P w K mg base 1 "many_of" ["part"] F_many_of) (c_at_part : Cal P w K mg base 1 "at_part" ["part", "index"] F_at_part) {f : Addr} {fd : FuncData} (F : FunD K "few_of" "few_of" (defArgs s_few_of) (defBody s_few_of) (defScope s_few_of) [] [] f fd) : FnG P w K mg base 2 f fd ["part"] (spF ⟨K, mg⟩ 1 F_few_of) := by
  have m_isinstance := h.m_isinstance
  have m_list := h.m_list
  have m_set := h.m_set
  have m_sorted := h.m_sorted
  refine fok_of F sc_few_of exitV_ok fun cdv A outer s H E hr => ?_
  have tk := takes_of (X := cxOf (L2.CX P w) P w K mg base ["part"] "few_of" (defScope s_few_of) f cdv A outer s H E) (E := E) rfl rfl rfl rfl
  have hp := passes_of (X := cxOf (L2.CX P w) P w K mg base ["part"] "few_of" (defScope s_few_of) f cdv A outer s H E) rfl
  exact (jb_cons (js_if (jt_val (je_isi tab_list (by rfl) m_isinstance (by rfl) m_list (by decide +kernel) (je_var 0))) (jb_one (js_ret (je_sortSet (by rfl) m_sorted (by rfl) m_set rfl (je_var 0)))) jb_nil) (jb_one (js_ret (je_if (jt_cmp (jo_eq hr.units) (je_call c_many_of (hr.mono (by decide)) tk (by rfl) (ja_cons (je_var 0) ja_nil)) je_int) (je_lst (ja_cons (je_call c_at_part (hr.mono (by decide)) tk (by rfl) (ja_cons (je_var 0) (ja_cons je_int ja_nil))) ja_nil)) je_non))))
theorem cal_few_of (h : Hd K mg) (c_many_of : Cal P w K mg base 1 "many_of" ["part"] F_many_of) (c_at_part : Cal P w K mg base 1 "at_part" ["part", "index"] F_at_part) : Cal P w K mg base 2 "few_of" ["part"] F_few_of := by
  obtain ⟨f, fd, hm, F⟩ := h.f_few_of
  exact cal_of F hm (F.bindsN fun _ _ _ _ _ _ us hl => match us, hl with | [_], _ => rfl) (fok_few_of h c_many_of c_at_part F)
theorem fok_has_subscript (h : Hd K mg) (c_ends_of : Cal P w K mg base 2 "ends_of" ["part"] F_ends_of) {f : Addr} {fd : FuncData} (F : FunD K "has_subscript" "has_subscript" (defArgs s_has_subscript) (defBody s_has_subscript) (defScope s_has_subscript) [] [] f fd) : FnG P w K mg base 3 f fd ["part", "number"] (spF ⟨K, mg⟩ 2 F_has_subscript) := by
  have m_abs := h.m_abs
  refine fok_of F sc_has_subscript exitV_ok fun cdv A outer s H E hr => ?_
  have tk := takes_of (X := cxOf (L2.CX P w) P w K mg base ["part", "number", "low", "high"] "has_subscript" (defScope s_has_subscript) f cdv A outer s H E) (E := E) rfl rfl rfl rfl
  have hp := passes_of (X := cxOf (L2.CX P w) P w K mg base ["part", "number", "low", "high"] "has_subscript" (defScope s_has_subscript) f cdv A outer s H E) rfl
  exact (jb_cons (js_asg (je_call c_ends_of (hr.mono (by decide)) tk (by rfl) (ja_cons (je_var 0) ja_nil)) (jg_tup rfl (jgs_cons (jg_name (i := 2) sc_has_subscript.nd) (jgs_cons (jg_name (i := 3) sc_has_subscript.nd) jgs_nil)))) (jb_one (js_ret (je_and (je_chain jo_le jo_le (je_var 2) (je_var 1) (je_var 3)) (je_one (je_cmp (jo_eq hr.units) (je_bin jo_mod (je_bin jo_sub (je_var 1) (je_var 2)) (je_callB jc_abs (by rfl) m_abs (by decide +kernel) (ja_cons (je_ix (je_var 0) je_int) ja_nil))) je_int))))))
theorem cal_has_subscript (h : Hd K mg) (c_ends_of : Cal P w K mg base 2 "ends_of" ["part"] F_ends_of) : Cal P w K mg base 3 "has_subscript" ["part", "number"] F_has_subscript := by
  obtain ⟨f, fd, hm, F⟩ := h.f_has_subscript
  exact cal_of F hm (F.bindsN fun _ _ _ _ _ _ us hl => match us, hl with | [_, _], _ => rfl) (fok_has_subscript h c_ends_of F)
theorem fok_shared_part (h : Hd K mg) (c_meeting : Cal P w K mg base 3 "meeting" ["first", "step", "other", "stride"] F_meeting) (c_ends_of : Cal P w K mg base 2 "ends_of" ["part"] F_ends_of) (c_few_of : Cal P w K mg base 2 "few_of" ["part"] F_few_of) (c_has_subscript : Cal P w K mg base 3 "has_subscript" ["part", "number"] F_has_subscript) {f : Addr} {fd : FuncData} (F : FunD K "shared_part" "shared_part" (defArgs s_shared_part) (defBody s_shared_part) (defScope s_shared_part) [] [] f fd) : FnG P w K mg base 4 f fd ["part", "twin"] (spF ⟨K, mg⟩ 2 F_shared_part) := by
  have m_abs := h.m_abs
  have m_len := h.m_len
  have m_max := h.m_max
  have m_min := h.m_min
  refine fok_of F sc_shared_part exitV_ok fun cdv A outer s H E hr => ?_
  have tk := takes_of (X := cxOf (L2.CX P w) P w K mg base ["part", "twin", "few", "rare", "some", "low", "high", "least", "greatest", "met", "first", "last", "one"] "shared_part" (defScope s_shared_part) f cdv A outer s H E) (E := E) rfl rfl rfl rfl
  have hp := passes_of (X := cxOf (L2.CX P w) P w K mg base ["part", "twin", "few", "rare", "some", "low", "high", "least", "greatest", "met", "first", "last", "one"] "shared_part" (defScope s_shared_part) f cdv A outer s H E) rfl
  exact (jb_cons (js_parT rfl (ja_cons (je_call c_few_of (hr.mono (by decide)) tk (by rfl) (ja_cons (je_var 0) ja_nil)) (ja_cons (je_call c_few_of (hr.mono (by decide)) tk (by rfl) (ja_cons (je_var 1) ja_nil)) ja_nil)) (jn_cons (i := 2) sc_shared_part.nd (jn_cons (i := 3) sc_shared_part.nd jn_nil))) (jb_cons (js_if (JW.pt (jw_or (jt_cmp jo_notN (je_var 2) je_non) (jw_or1 (jt_cmp jo_notN (je_var 3) je_non)))) (jb_cons (js_if (JW.pt (jw_and (jt_cmp jo_notN (je_var 2) je_non) (jw_and1 (jt_cmp jo_notN (je_var 3) je_non)))) (jb_one (js_setLc 4 [("one", 12)] rfl sc_shared_part.nd (ji_seq (je_var 2)) (blkOk_by (by kernel_rfl)) (fun _ _ _ _ _ => (jg_name (i := 12) sc_shared_part.nd)) (by decide) (test_one fun _ _ _ _ _ => (jt_cmp jo_in (je_var 12) (je_var 3) (by rfl))) (fun _ _ _ _ _ => (je_var 12)) (sw_true rfl rfl rfl (by decide +kernel)))) (jb_cons (js_set 4 sc_shared_part.nd (je_if (jt_cmp jo_notN (je_var 2) je_non) (je_lc [("one", 12)] rfl sc_shared_part.nd (ji_seq (je_var 2)) (blkOk_by (by kernel_rfl)) (fun _ _ _ _ _ => (jg_name (i := 12) sc_shared_part.nd)) (by decide) (test_one fun _ _ _ _ _ => (jt_val (je_call c_has_subscript (hr.mono (by decide)) takes0 (by rfl) (ja_cons (je_var 1) (ja_cons (je_var 12) ja_nil))))) (fun _ _ _ _ _ => (je_var 12))) je_non)) (jb_one (js_set 4 sc_shared_part.nd (je_if (jt_cmp jo_isN (je_var 4) je_non) (je_lc [("one", 12)] rfl sc_shared_part.nd (ji_seq (je_var 3)) (blkOk_by (by kernel_rfl)) (fun _ _ _ _ _ => (jg_name (i := 12) sc_shared_part.nd)) (by decide) (test_one fun _ _ _ _ _ => (jt_val (je_call c_has_subscript (hr.mono (by decide)) takes0 (by rfl) (ja_cons (je_var 0) (ja_cons (je_var 12) ja_nil))))) (fun _ _ _ _ _ => (je_var 12))) (je_var 4)))))) (jb_one (js_ret (je_if (jt_cmp (jo_ne hr.units) (je_var 4) (je_lst ja_nil)) (je_tup (ja_cons (je_callB jc_len (by rfl) m_len (by decide +kernel) (ja_cons (je_var 4) ja_nil)) (ja_cons (je_ix (je_var 4) je_int) ja_nil))) (je_tup (ja_cons je_int (ja_cons je_non ja_nil))))))) jb_nil) (jb_cons (js_asg (je_tup (ja_cons (je_call c_ends_of (hr.mono (by decide)) tk (by rfl) (ja_cons (je_var 0) ja_nil)) (ja_cons (je_call c_ends_of (hr.mono (by decide)) tk (by rfl) (ja_cons (je_var 1) ja_nil)) ja_nil))) (jg_tup rfl (jgs_cons (jg_tup rfl (jgs_cons (jg_name (i := 5) sc_shared_part.nd) (jgs_cons (jg_name (i := 6) sc_shared_part.nd) jgs_nil))) (jgs_cons (jg_tup rfl (jgs_cons (jg_name (i := 7) sc_shared_part.nd) (jgs_cons (jg_name (i := 8) sc_shared_part.nd) jgs_nil))) jgs_nil)))) (jb_cons (js_set 9 sc_shared_part.nd (je_call c_meeting (hr.mono (by decide)) tk (by rfl) (ja_cons (je_var 5) (ja_cons (je_callB jc_abs (by rfl) m_abs (by decide +kernel) (ja_cons (je_ix (je_var 0) je_int) ja_nil)) (ja_cons (je_var 7) (ja_cons (je_callB jc_abs (by rfl) m_abs (by decide +kernel) (ja_cons (je_ix (je_var 1) je_int) ja_nil)) ja_nil)))))) (jb_cons (js_if (jt_cmp jo_isN (je_var 9) je_non) (jb_one (js_ret (je_tup (ja_cons je_int (ja_cons je_non ja_nil))))) jb_nil) (jb_cons (js_set 10 sc_shared_part.nd (je_callB (jc_max2 rfl) (by rfl) m_max (by decide +kernel) (ja_cons (je_var 5) (ja_cons (je_var 7) ja_nil)))) (jb_cons (js_set 10 sc_shared_part.nd (je_bin jo_add (je_var 10) (je_bin jo_mod (je_bin jo_sub (je_ix (je_var 9) je_int) (je_var 10)) (je_ix (je_var 9) je_int)))) (jb_cons (js_set 11 sc_shared_part.nd (je_callB (jc_min2 rfl) (by rfl) m_min (by decide +kernel) (ja_cons (je_var 6) (ja_cons (je_var 8) ja_nil)))) (jb_one (js_ret (je_if (jt_cmp jo_le (je_var 10) (je_var 11)) (je_tup (ja_cons (je_bin jo_add (je_bin jo_fdiv (je_bin jo_sub (je_var 11) (je_var 10)) (je_ix (je_var 9) je_int)) je_int) (ja_cons (je_var 10) ja_nil))) (je_tup (ja_cons je_int (ja_cons je_non ja_nil))))))))))))))
theorem cal_shared_part (h : Hd K mg) (c_meeting : Cal P w K mg base 3 "meeting" ["first", "step", "other", "stride"] F_meeting) (c_ends_of : Cal P w K mg base 2 "ends_of" ["part"] F_ends_of) (c_few_of : Cal P w K mg base 2 "few_of" ["part"] F_few_of) (c_has_subscript : Cal P w K mg base 3 "has_subscript" ["part", "number"] F_has_subscript) : Cal P w K mg base 4 "shared_part" ["part", "twin"] F_shared_part := by
  obtain ⟨f, fd, hm, F⟩ := h.f_shared_part
  exact cal_of F hm (F.bindsN fun _ _ _ _ _ _ us hl => match us, hl with | [_, _], _ => rfl) (fok_shared_part h c_meeting c_ends_of c_few_of c_has_subscript F)
theorem fok_shared_in (h : Hd K mg) (c_product : Cal P w K mg base 1 "product" ["numbers"] F_product) (c_is_empty : Cal P w K mg base 2 "is_empty" ["section"] F_is_empty) (c_shared_part : Cal P w K mg base 4 "shared_part" ["part", "twin"] F_shared_part) {f : Addr} {fd : FuncData} (F : FunD K "shared_in" "shared_in" (defArgs s_shared_in) (defBody s_shared_in) (defScope s_shared_in) [] [] f fd) : FnG P w K mg base 5 f fd ["one", "other"] (spF ⟨K, mg⟩ 2 F_shared_in) := by
  have m_tuple := h.m_tuple
  have m_zip := h.m_zip
  refine fok_of F sc_shared_in exitV_ok fun cdv A outer s H E hr => ?_
  have tk := takes_of (X := cxOf (L2.CX P w) P w K mg base ["one", "other", "found", "many", "part", "twin", "row"] "shared_in" (defScope s_shared_in) f cdv A outer s H E) (E := E) rfl rfl rfl rfl
  have hp := passes_of (X := cxOf (L2.CX P w) P w K mg base ["one", "other", "found", "many", "part", "twin", "row"] "shared_in" (defScope s_shared_in) f cdv A outer s H E) rfl
  exact (jb_cons (js_if (JW.pt (jw_or (jt_val (je_call c_is_empty (hr.mono (by decide)) tk (by rfl) (ja_cons (je_var 0) ja_nil))) (jw_or1 (jt_val (je_call c_is_empty (hr.mono (by decide)) tk (by rfl) (ja_cons (je_var 1) ja_nil)))))) (jb_one (js_ret (je_tup (ja_cons je_int (ja_cons je_non ja_nil))))) jb_nil) (jb_cons (js_setLc 2 [("part", 4), ("twin", 5)] rfl sc_shared_in.nd (ji_zip2 (by rfl) m_zip (ja_cons (je_var 0) (ja_cons (je_var 1) ja_nil))) (blkOk_by (by kernel_rfl)) (fun _ _ _ _ _ => (jg_tup rfl (jgs_cons (jg_name (i := 4) sc_shared_in.nd) (jgs_cons (jg_name (i := 5) sc_shared_in.nd) jgs_nil)))) (by decide) test_no (fun _ _ _ _ _ => (je_call c_shared_part (hr.mono (by decide)) takes0 (by rfl) (ja_cons (je_var 4) (ja_cons (je_var 5) ja_nil)))) (sw_true rfl rfl rfl (by decide +kernel))) (jb_cons (js_set 3 sc_shared_in.nd (je_call c_product (hr.mono (by decide)) tk (by rfl) (ja_cons (je_lc [("row", 6)] rfl sc_shared_in.nd (ji_seq (je_var 2)) (blkOk_by (by kernel_rfl)) (fun _ _ _ _ _ => (jg_name (i := 6) sc_shared_in.nd)) (by decide) test_no (fun _ _ _ _ _ => (je_ix (je_var 6) je_int))) ja_nil))) (jb_one (js_ret (je_if (jt_cmp jo_gt (je_var 3) je_int) (je_tup (ja_cons (je_var 3) (ja_cons (je_callTy jc_tuple (by rfl) m_tuple (by decide +kernel) (ja_cons (je_lc [("row", 6)] rfl sc_shared_in.nd (ji_seq (je_var 2)) (blkOk_by (by kernel_rfl)) (fun _ _ _ _ _ => (jg_name (i := 6) sc_shared_in.nd)) (by decide) test_no (fun _ _ _ _ _ => (je_ix (je_var 6) je_int))) ja_nil)) ja_nil))) (je_tup (ja_cons je_int (ja_cons je_non ja_nil)))))))))
theorem cal_shared_in (h : Hd K mg) (c_product : Cal P w K mg base 1 "product" ["numbers"] F_product) (c_is_empty : Cal P w K mg base 2 "is_empty" ["section"] F_is_empty) (c_shared_part : Cal P w K mg base 4 "shared_part" ["part", "twin"] F_shared_part) : Cal P w K mg base 5 "shared_in" ["one", "other"] F_shared_in := by
  obtain ⟨f, fd, hm, F⟩ := h.f_shared_in
  exact cal_of F hm (F.bindsN fun _ _ _ _ _ _ us hl => match us, hl with | [_, _], _ => rfl) (fok_shared_in h c_product c_is_empty c_shared_part F)
theorem fok_shared (h : Hd K mg) (c_check_pair : Cal P w K mg base 6 "check_pair" ["bounds", "one", "other"] F_check_pair) (c_shared_in : Cal P w K mg base 5 "shared_in" ["one", "other"] F_shared_in) {f : Addr} {fd : FuncData} (F : FunD K "shared" "shared" (defArgs s_shared) (defBody s_shared) (defScope s_shared) [] [] f fd) : FnG P w K mg base 7 f fd ["bounds", "one", "other"] (spF ⟨K, mg⟩ 3 F_shared) := by
  refine fok_of F sc_shared exitV_ok fun cdv A outer s H E hr => ?_
  have tk := takes_of (X := cxOf (L2.CX P w) P w K mg base ["bounds", "one", "other"] "shared" (defScope s_shared) f cdv A outer s H E) (E := E) rfl rfl rfl rfl
  have hp := passes_of (X := cxOf (L2.CX P w) P w K mg base ["bounds", "one", "other"] "shared" (defScope s_shared) f cdv A outer s H E) rfl
  exact (jb_cons (js_expr (je_call c_check_pair (hr.mono (by decide)) tk (by rfl) (ja_cons (je_var 0) (ja_cons (je_var 1) (ja_cons (je_var 2) ja_nil))))) (jb_one (js_ret (je_call c_shared_in (hr.mono (by decide)) tk (by rfl) (ja_cons (je_var 1) (ja_cons (je_var 2) ja_nil))))))
theorem cal_shared (h : Hd K mg) (c_check_pair : Cal P w K mg base 6 "check_pair" ["bounds", "one", "other"] F_check_pair) (c_shared_in : Cal P w K mg base 5 "shared_in" ["one", "other"] F_shared_in) : Cal P w K mg base 7 "shared" ["bounds", "one", "other"] F_shared := by
  obtain ⟨f, fd, hm, F⟩ := h.f_shared
  exact cal_of F hm (F.bindsN fun _ _ _ _ _ _ us hl => match us, hl with | [_, _, _], _ => rfl) (fok_shared h c_check_pair c_shared_in F)
theorem fok_includes_in (h : Hd K mg) (c_is_empty : Cal P w K mg base 2 "is_empty" ["section"] F_is_empty) (c_shared_in : Cal P w K mg base 5 "shared_in" ["one", "other"] F_shared_in) {f : Addr} {fd : FuncData} (F : FunD K "includes_in" "includes_in" (defArgs s_includes_in) (defBody s_includes_in) (defScope s_includes_in) [] [] f fd) : FnG P w K mg base 6 f fd ["one", "other"] (spF ⟨K, mg⟩ 2 F_includes_in) := by
  refine fok_of F sc_includes_in exitV_ok fun cdv A outer s H E hr => ?_
  have tk := takes_of (X := cxOf (L2.CX P w) P w K mg base ["one", "other"] "includes_in" (defScope s_includes_in) f cdv A outer s H E) (E := E) rfl rfl rfl rfl
  have hp := passes_of (X := cxOf (L2.CX P w) P w K mg base ["one", "other"] "includes_in" (defScope s_includes_in) f cdv A outer s H E) rfl
  exact (jb_cons (js_if (jt_val (je_call c_is_empty (hr.mono (by decide)) tk (by rfl) (ja_cons (je_var 1) ja_nil))) (jb_one (js_ret je_bl)) jb_nil) (jb_one (js_ret (je_and (je_not (je_call c_is_empty (hr.mono (by decide)) tk (by rfl) (ja_cons (je_var 0) ja_nil))) (je_one (je_cmp (jo_eq hr.units) (je_ix (je_call c_shared_in (hr.mono (by decide)) tk (by rfl) (ja_cons (je_var 0) (ja_cons (je_var 1) ja_nil))) je_int) (je_ix (je_call c_shared_in (hr.mono (by decide)) tk (by rfl) (ja_cons (je_var 1) (ja_cons (je_var 1) ja_nil))) je_int)))))))
theorem cal_includes_in (h : Hd K mg) (c_is_empty : Cal P w K mg base 2 "is_empty" ["section"] F_is_empty) (c_shared_in : Cal P w K mg base 5 "shared_in" ["one", "other"] F_shared_in) : Cal P w K mg base 6 "includes_in" ["one", "other"] F_includes_in := by
  obtain ⟨f, fd, hm, F⟩ := h.f_includes_in
  exact cal_of F hm (F.bindsN fun _ _ _ _ _ _ us hl => match us, hl with | [_, _], _ => rfl) (fok_includes_in h c_is_empty c_shared_in F)
theorem fok_includes (h : Hd K mg) (c_check_pair : Cal P w K mg base 6 "check_pair" ["bounds", "one", "other"] F_check_pair) (c_includes_in : Cal P w K mg base 6 "includes_in" ["one", "other"] F_includes_in) {f : Addr} {fd : FuncData} (F : FunD K "includes" "includes" (defArgs s_includes) (defBody s_includes) (defScope s_includes) [] [] f fd) : FnG P w K mg base 7 f fd ["bounds", "one", "other"] (spF ⟨K, mg⟩ 3 F_includes) := by
  refine fok_of F sc_includes exitV_ok fun cdv A outer s H E hr => ?_
  have tk := takes_of (X := cxOf (L2.CX P w) P w K mg base ["bounds", "one", "other"] "includes" (defScope s_includes) f cdv A outer s H E) (E := E) rfl rfl rfl rfl
  have hp := passes_of (X := cxOf (L2.CX P w) P w K mg base ["bounds", "one", "other"] "includes" (defScope s_includes) f cdv A outer s H E) rfl
  exact (jb_cons (js_expr (je_call c_check_pair (hr.mono (by decide)) tk (by rfl) (ja_cons (je_var 0) (ja_cons (je_var 1) (ja_cons (je_var 2) ja_nil))))) (jb_one (js_ret (je_call c_includes_in (hr.mono (by decide)) tk (by rfl) (ja_cons (je_var 1) (ja_cons (je_var 2) ja_nil))))))
theorem cal_includes (h : Hd K mg) (c_check_pair : Cal P w K mg base 6 "check_pair" ["bounds", "one", "other"] F_check_pair) (c_includes_in : Cal P w K mg base 6 "includes_in" ["one", "other"] F_includes_in) : Cal P w K mg base 7 "includes" ["bounds", "one", "other"] F_includes := by
  obtain ⟨f, fd, hm, F⟩ := h.f_includes
  exact cal_of F hm (F.bindsN fun _ _ _ _ _ _ us hl => match us, hl with | [_, _, _], _ => rfl) (fok_includes h c_check_pair c_includes_in F)
theorem fok_same_set (h : Hd K mg) (c_check_pair : Cal P w K mg base 6 "check_pair" ["bounds", "one", "other"] F_check_pair) (c_includes_in : Cal P w K mg base 6 "includes_in" ["one", "other"] F_includes_in) {f : Addr} {fd : FuncData} (F : FunD K "same_set" "same_set" (defArgs s_same_set) (defBody s_same_set) (defScope s_same_set) [] [] f fd) : FnG P w K mg base 7 f fd ["bounds", "one", "other"] (spF ⟨K, mg⟩ 3 F_same_set) := by
  refine fok_of F sc_same_set exitV_ok fun cdv A outer s H E hr => ?_
  have tk := takes_of (X := cxOf (L2.CX P w) P w K mg base ["bounds", "one", "other"] "same_set" (defScope s_same_set) f cdv A outer s H E) (E := E) rfl rfl rfl rfl
  have hp := passes_of (X := cxOf (L2.CX P w) P w K mg base ["bounds", "one", "other"] "same_set" (defScope s_same_set) f cdv A outer s H E) rfl
  exact (jb_cons (js_expr (je_call c_check_pair (hr.mono (by decide)) tk (by rfl) (ja_cons (je_var 0) (ja_cons (je_var 1) (ja_cons (je_var 2) ja_nil))))) (jb_one (js_ret (je_and (je_call c_includes_in (hr.mono (by decide)) tk (by rfl) (ja_cons (je_var 1) (ja_cons (je_var 2) ja_nil))) (je_one (je_call c_includes_in (hr.mono (by decide)) tk (by rfl) (ja_cons (je_var 2) (ja_cons (je_var 1) ja_nil))))))))
theorem cal_same_set (h : Hd K mg) (c_check_pair : Cal P w K mg base 6 "check_pair" ["bounds", "one", "other"] F_check_pair) (c_includes_in : Cal P w K mg base 6 "includes_in" ["one", "other"] F_includes_in) : Cal P w K mg base 7 "same_set" ["bounds", "one", "other"] F_same_set := by
  obtain ⟨f, fd, hm, F⟩ := h.f_same_set
  exact cal_of F hm (F.bindsN fun _ _ _ _ _ _ us hl => match us, hl with | [_, _, _], _ => rfl) (fok_same_set h c_check_pair c_includes_in F)
theorem fok__law_many (h : Hd K mg) {f : Addr} {fd : FuncData} (F : FunD K "_law_many" "_law_many" (defArgs s__law_many) (defBody s__law_many) (defScope s__law_many) [] [] f fd) : FnG P w K mg base 1 f fd ["_law_part"] (spF ⟨K, mg⟩ 1 F__law_many) := by
  have m_isinstance := h.m_isinstance
  have m_len := h.m_len
  have m_list := h.m_list
  have m_max := h.m_max
  have m_tuple := h.m_tuple
  refine fok_of F sc__law_many exitV_ok fun cdv A outer s H E hr => ?_
  have tk := takes_of (X := cxOf (L2.CX P w) P w K mg base ["_law_part"] "_law_many" (defScope s__law_many) f cdv A outer s H E) (E := E) rfl rfl rfl rfl
  have hp := passes_of (X := cxOf (L2.CX P w) P w K mg base ["_law_part"] "_law_many" (defScope s__law_many) f cdv A outer s H E) rfl
  exact (jb_cons (js_if (jt_val (je_isi tab_tuple (by rfl) m_isinstance (by rfl) m_tuple (by decide +kernel) (je_var 0))) (jb_one (js_ret (je_callB (jc_max2 rfl) (by rfl) m_max (by decide +kernel) (ja_cons je_int (ja_cons (je_bin jo_add (je_bin jo_fdiv (je_bin jo_sub (je_ix (je_var 0) je_int) (je_ix (je_var 0) je_int)) (je_ix (je_var 0) je_int)) je_int) ja_nil))))) jb_nil) (jb_one (js_ret (je_if (jt_val (je_isi tab_list (by rfl) m_isinstance (by rfl) m_list (by decide +kernel) (je_var 0))) (je_callB jc_len (by rfl) m_len (by decide +kernel) (ja_cons (je_var 0) ja_nil)) je_int))))
theorem cal__law_many (h : Hd K mg) : Cal P w K mg base 1 "_law_many" ["_law_part"] F__law_many := by
  obtain ⟨f, fd, hm, F⟩ := h.f__law_many
  exact cal_of F hm (F.bindsN fun _ _ _ _ _ _ us hl => match us, hl with | [_], _ => rfl) (fok__law_many h F)
theorem fok__law_divisor (h : Hd K mg) {f : Addr} {fd : FuncData} (F : FunD K "_law_divisor" "_law_divisor" (defArgs s__law_divisor) (defBody s__law_divisor) (defScope s__law_divisor) [] [] f fd) : FnG P w K mg base 1 f fd ["_law_one", "_law_two"] (spF ⟨K, mg⟩ 2 F__law_divisor) := by
  have m_int := h.m_int
  refine fok_of F sc__law_divisor exitV_ok fun cdv A outer s H E hr => ?_
  have tk := takes_of (X := cxOf (L2.CX P w) P w K mg base ["_law_one", "_law_two"] "_law_divisor" (defScope s__law_divisor) f cdv A outer s H E) (E := E) rfl rfl rfl rfl
  have hp := passes_of (X := cxOf (L2.CX P w) P w K mg base ["_law_one", "_law_two"] "_law_divisor" (defScope s__law_divisor) f cdv A outer s H E) rfl
  exact (jb_cons (js_while hp (jt_cmp (jo_ne hr.units) (je_var 1) je_int) (jb_one (js_par 0 1 rfl sc__law_divisor.nd (ja_cons (je_var 1) (ja_cons (je_bin jo_mod (je_callTy jc_int (by rfl) m_int (by decide +kernel) (ja_cons (je_var 0) ja_nil)) (je_var 1)) ja_nil))))) (jb_one (js_ret (je_var 0))))
theorem cal__law_divisor (h : Hd K mg) : Cal P w K mg base 1 "_law_divisor" ["_law_one", "_law_two"] F__law_divisor := by
  obtain ⟨f, fd, hm, F⟩ := h.f__law_divisor
  exact cal_of F hm (F.bindsN fun _ _ _ _ _ _ us hl => match us, hl with | [_, _], _ => rfl) (fok__law_divisor h F)
theorem fok__law_span (h : Hd K mg) (c__law_many : Cal P w K mg base 1 "_law_many" ["_law_part"] F__law_many) {f : Addr} {fd : FuncData} (F : FunD K "_law_span" "_law_span" (defArgs s__law_span) (defBody s__law_span) (defScope s__law_span) [] [] f fd) : FnG P w K mg base 2 f fd ["_law_part"] (spF ⟨K, mg⟩ 1 F__law_span) := by
  have m_abs := h.m_abs
  have m_max := h.m_max
  have m_min := h.m_min
  refine fok_of F sc__law_span exitV_ok fun cdv A outer s H E hr => ?_
  have tk := takes_of (X := cxOf (L2.CX P w) P w K mg base ["_law_part", "_law_last"] "_law_span" (defScope s__law_span) f cdv A outer s H E) (E := E) rfl rfl rfl rfl
  have hp := passes_of (X := cxOf (L2.CX P w) P w K mg base ["_law_part", "_law_last"] "_law_span" (defScope s__law_span) f cdv A outer s H E) rfl
  exact (jb_cons (js_set 1 sc__law_span.nd (je_bin jo_add (je_ix (je_var 0) je_int) (je_bin jo_mul (je_bin jo_sub (je_call c__law_many (hr.mono (by decide)) tk (by rfl) (ja_cons (je_var 0) ja_nil)) je_int) (je_ix (je_var 0) je_int)))) (jb_one (js_ret (je_tup (ja_cons (je_callB (jc_min2 rfl) (by rfl) m_min (by decide +kernel) (ja_cons (je_ix (je_var 0) je_int) (ja_cons (je_var 1) ja_nil))) (ja_cons (je_callB (jc_max2 rfl) (by rfl) m_max (by decide +kernel) (ja_cons (je_ix (je_var 0) je_int) (ja_cons (je_var 1) ja_nil))) (ja_cons (je_callB jc_abs (by rfl) m_abs (by decide +kernel) (ja_cons (je_ix (je_var 0) je_int) ja_nil)) ja_nil)))))))
theorem cal__law_span (h : Hd K mg) (c__law_many : Cal P w K mg base 1 "_law_many" ["_law_part"] F__law_many) : Cal P w K mg base 2 "_law_span" ["_law_part"] F__law_span := by
  obtain ⟨f, fd, hm, F⟩ := h.f__law_span
  exact cal_of F hm (F.bindsN fun _ _ _ _ _ _ us hl => match us, hl with | [_], _ => rfl) (fok__law_span h c__law_many F)
theorem fok__law_has (h : Hd K mg) (c__law_span : Cal P w K mg base 2 "_law_span" ["_law_part"] F__law_span) {f : Addr} {fd : FuncData} (F : FunD K "_law_has" "_law_has" (defArgs s__law_has) (defBody s__law_has) (defScope s__law_has) [] [] f fd) : FnG P w K mg base 3 f fd ["_law_part", "_law_number"] (spF ⟨K, mg⟩ 2 F__law_has) := by
  have m_int := h.m_int
  have m_isinstance := h.m_isinstance
  have m_list := h.m_list
  have m_tuple := h.m_tuple
  refine fok_of F sc__law_has exitV_ok fun cdv A outer s H E hr => ?_
  have tk := takes_of (X := cxOf (L2.CX P w) P w K mg base ["_law_part", "_law_number", "_law_low", "_law_high", "_law_step"] "_law_has" (defScope s__law_has) f cdv A outer s H E) (E := E) rfl rfl rfl rfl
  have hp := passes_of (X := cxOf (L2.CX P w) P w K mg base ["_law_part", "_law_number", "_law_low", "_law_high", "_law_step"] "_law_has" (defScope s__law_has) f cdv A outer s H E) rfl
  exact (jb_cons (js_if (jt_not (jt_val (je_isi tab_tuple (by rfl) m_isinstance (by rfl) m_tuple (by decide +kernel) (je_var 0)))) (jb_one (js_ret (je_if (jt_val (je_isi tab_list (by rfl) m_isinstance (by rfl) m_list (by decide +kernel) (je_var 0))) (je_cmp jo_in (je_var 1) (je_var 0) (by rfl)) (je_cmp (jo_eq hr.units) (je_var 1) (je_var 0))))) jb_nil) (jb_cons (js_asg (je_call c__law_span (hr.mono (by decide)) tk (by rfl) (ja_cons (je_var 0) ja_nil)) (jg_tup rfl (jgs_cons (jg_name (i := 2) sc__law_has.nd) (jgs_cons (jg_name (i := 3) sc__law_has.nd) (jgs_cons (jg_name (i := 4) sc__law_has.nd) jgs_nil))))) (jb_one (js_ret (je_and (je_chain jo_le jo_le (je_var 2) (je_var 1) (je_var 3)) (je_one (je_cmp (jo_eq hr.units) (je_bin jo_mod (je_callTy jc_int (by rfl) m_int (by decide +kernel) (ja_cons (je_bin jo_sub (je_var 1) (je_var 2)) ja_nil)) (je_var 4)) je_int)))))))
theorem cal__law_has (h : Hd K mg) (c__law_span : Cal P w K mg base 2 "_law_span" ["_law_part"] F__law_span) : Cal P w K mg base 3 "_law_has" ["_law_part", "_law_number"] F__law_has := by
  obtain ⟨f, fd, hm, F⟩ := h.f__law_has
  exact cal_of F hm (F.bindsN fun _ _ _ _ _ _ us hl => match us, hl with | [_, _], _ => rfl) (fok__law_has h c__law_span F)
theorem fok__law_few (h : Hd K mg) (c__law_many : Cal P w K mg base 1 "_law_many" ["_law_part"] F__law_many) {f : Addr} {fd : FuncData} (F : FunD K "_law_few" "_law_few" (defArgs s__law_few) (defBody s__law_few) (defScope s__law_few) [] [] f fd) : FnG P w K mg base 2 f fd ["_law_part"] (spF ⟨K, mg⟩ 1 F__law_few) := by
  have m_isinstance := h.m_isinstance
  have m_list := h.m_list
  have m_range := h.m_range
  have m_set := h.m_set
  have m_sorted := h.m_sorted
  have m_tuple := h.m_tuple
  refine fok_of F sc__law_few exitV_ok fun cdv A outer s H E hr => ?_
  have tk := takes_of (X := cxOf (L2.CX P w) P w K mg base ["_law_part", "_law_k"] "_law_few" (defScope s__law_few) f cdv A outer s H E) (E := E) rfl rfl rfl rfl
  have hp := passes_of (X := cxOf (L2.CX P w) P w K mg base ["_law_part", "_law_k"] "_law_few" (defScope s__law_few) f cdv A outer s H E) rfl
  exact (jb_cons (js_if (jt_not (jt_val (je_isi tab_tuple (by rfl) m_isinstance (by rfl) m_tuple (by decide +kernel) (je_var 0)))) (jb_one (js_ret (je_if (jt_val (je_isi tab_list (by rfl) m_isinstance (by rfl) m_list (by decide +kernel) (je_var 0))) (je_sortSet (by rfl) m_sorted (by rfl) m_set rfl (je_var 0)) (je_lst (ja_cons (je_var 0) ja_nil))))) jb_nil) (jb_cons (js_if (jt_cmp jo_gt (je_call c__law_many (hr.mono (by decide)) tk (by rfl) (ja_cons (je_var 0) ja_nil)) je_int) (jb_one (js_ret je_non)) jb_nil) (jb_one (js_ret (je_callB jc_sorted (by rfl) m_sorted (by decide +kernel) (ja_cons (je_lc [("_law_k", 1)] rfl sc__law_few.nd (ji_rng1 (by rfl) m_range (ja_cons (je_call c__law_many (hr.mono (by decide)) tk (by rfl) (ja_cons (je_var 0) ja_nil)) ja_nil)) (blkOk_by (by kernel_rfl)) (fun _ _ _ _ _ => (jg_name (i := 1) sc__law_few.nd)) (by decide) test_no (fun _ _ _ _ _ => (je_bin jo_add (je_ix (je_var 0) je_int) (je_bin jo_mul (je_var 1) (je_ix (je_var 0) je_int))))) ja_nil))))))
theorem cal__law_few (h : Hd K mg) (c__law_many : Cal P w K mg base 1 "_law_many" ["_law_part"] F__law_many) : Cal P w K mg base 2 "_law_few" ["_law_part"] F__law_few := by
  obtain ⟨f, fd, hm, F⟩ := h.f__law_few
  exact cal_of F hm (F.bindsN fun _ _ _ _ _ _ us hl => match us, hl with | [_], _ => rfl) (fok__law_few h c__law_many F)
theorem fok__law_met (h : Hd K mg) (c__law_divisor : Cal P w K mg base 1 "_law_divisor" ["_law_one", "_law_two"] F__law_divisor) (c__law_span : Cal P w K mg base 2 "_law_span" ["_law_part"] F__law_span) (c__law_has : Cal P w K mg base 3 "_law_has" ["_law_part", "_law_number"] F__law_has) (c__law_few : Cal P w K mg base 2 "_law_few" ["_law_part"] F__law_few) {f : Addr} {fd : FuncData} (F : FunD K "_law_met" "_law_met" (defArgs s__law_met) (defBody s__law_met) (defScope s__law_met) [] [] f fd) : FnG P w K mg base 4 f fd ["_law_part", "_law_twin"] (spF ⟨K, mg⟩ 2 F__law_met) := by
  have m_int := h.m_int
  have m_len := h.m_len
  have m_max := h.m_max
  have m_min := h.m_min
  have m_range := h.m_range
  refine fok_of F sc__law_met exitV_ok fun cdv A outer s H E hr => ?_
  have tk := takes_of (X := cxOf (L2.CX P w) P w K mg base ["_law_part", "_law_twin", "_law_some", "_law_both", "_law_low", "_law_high", "_law_step", "_law_least", "_law_most", "_law_stride", "_law_here", "_law_turn", "_law_whole", "_law_number"] "_law_met" (defScope s__law_met) f cdv A outer s H E) (E := E) rfl rfl rfl rfl
  have hp := passes_of (X := cxOf (L2.CX P w) P w K mg base ["_law_part", "_law_twin", "_law_some", "_law_both", "_law_low", "_law_high", "_law_step", "_law_least", "_law_most", "_law_stride", "_law_here", "_law_turn", "_law_whole", "_law_number"] "_law_met" (defScope s__law_met) f cdv A outer s H E) rfl
  exact (jb_cons (js_if (JW.pt (jw_or (jt_cmp jo_notN (je_call c__law_few (hr.mono (by decide)) tk (by rfl) (ja_cons (je_var 0) ja_nil)) je_non) (jw_or1 (jt_cmp jo_notN (je_call c__law_few (hr.mono (by decide)) tk (by rfl) (ja_cons (je_var 1) ja_nil)) je_non)))) (jb_cons (js_set 2 sc__law_met.nd (je_call c__law_few (hr.mono (by decide)) tk (by rfl) (ja_cons (je_var 0) ja_nil))) (jb_cons (js_set 2 sc__law_met.nd (je_if (jt_cmp jo_isN (je_var 2) je_non) (je_call c__law_few (hr.mono (by decide)) tk (by rfl) (ja_cons (je_var 1) ja_nil)) (je_var 2))) (jb_cons (js_setLc 3 [("_law_number", 13)] rfl sc__law_met.nd (ji_seq (je_var 2)) (blkOk_by (by kernel_rfl)) (fun _ _ _ _ _ => (jg_name (i := 13) sc__law_met.nd)) (by decide) (test_one fun _ _ _ _ _ => (JW.pt (jw_and (jt_val (je_call c__law_has (hr.mono (by decide)) takes0 (by rfl) (ja_cons (je_var 0) (ja_cons (je_var 13) ja_nil)))) (jw_and1 (jt_val (je_call c__law_has (hr.mono (by decide)) takes0 (by rfl) (ja_cons (je_var 1) (ja_cons (je_var 13) ja_nil)))))))) (fun _ _ _ _ _ => (je_var 13)) (sw_true rfl rfl rfl (by decide +kernel))) (jb_one (js_ret (je_tup (ja_cons (je_callB jc_len (by rfl) m_len (by decide +kernel) (ja_cons (je_var 3) ja_nil)) (ja_cons (je_if (jt_cmp (jo_ne hr.units) (je_var 3) (je_lst ja_nil)) (je_ix (je_var 3) je_int) je_non) ja_nil)))))))) jb_nil) (jb_cons (js_asg (je_call c__law_span (hr.mono (by decide)) tk (by rfl) (ja_cons (je_var 0) ja_nil)) (jg_tup rfl (jgs_cons (jg_name (i := 4) sc__law_met.nd) (jgs_cons (jg_name (i := 5) sc__law_met.nd) (jgs_cons (jg_name (i := 6) sc__law_met.nd) jgs_nil))))) (jb_cons (js_asg (je_call c__law_span (hr.mono (by decide)) tk (by rfl) (ja_cons (je_var 1) ja_nil)) (jg_tup rfl (jgs_cons (jg_name (i := 7) sc__law_met.nd) (jgs_cons (jg_name (i := 8) sc__law_met.nd) (jgs_cons (jg_name (i := 9) sc__law_met.nd) jgs_nil))))) (jb_cons (js_set 10 sc__law_met.nd (je_bin jo_add (je_var 4) (je_bin jo_mul (je_var 6) (je_callB (jc_max2 rfl) (by rfl) m_max (by decide +kernel) (ja_cons je_int (ja_cons (je_bin jo_fdiv (je_bin jo_sub (je_bin jo_add (je_bin jo_sub (je_var 7) (je_var 4)) (je_var 6)) je_int) (je_var 6)) ja_nil)))))) (jb_cons (js_for hp rfl (ji_rng1 (by rfl) m_range (ja_cons je_int ja_nil)) (jg_name (i := 11) sc__law_met.nd) (jb_cons (js_if (jt_cmp jo_gt (je_var 10) (je_callB (jc_min2 rfl) (by rfl) m_min (by decide +kernel) (ja_cons (je_var 5) (ja_cons (je_var 8) ja_nil)))) (jb_one (js_ret (je_tup (ja_cons je_int (ja_cons je_non ja_nil))))) jb_nil) (jb_cons (js_if (jt_cmp (jo_eq hr.units) (je_bin jo_mod (je_callTy jc_int (by rfl) m_int (by decide +kernel) (ja_cons (je_bin jo_sub (je_var 10) (je_var 7)) ja_nil)) (je_var 9)) je_int) (jb_cons (js_set 12 sc__law_met.nd (je_bin jo_fdiv (je_bin jo_mul (je_var 6) (je_var 9)) (je_call c__law_divisor (hr.mono (by decide)) tk (by rfl) (ja_cons (je_var 6) (ja_cons (je_var 9) ja_nil))))) (jb_one (js_ret (je_tup (ja_cons (je_bin jo_add (je_bin jo_fdiv (je_bin jo_sub (je_callB (jc_min2 rfl) (by rfl) m_min (by decide +kernel) (ja_cons (je_var 5) (ja_cons (je_var 8) ja_nil))) (je_var 10)) (je_var 12)) je_int) (ja_cons (je_var 10) ja_nil)))))) jb_nil) (jb_one (js_set 10 sc__law_met.nd (je_bin jo_add (je_var 10) (je_var 6))))))) (jb_one (js_ret (je_tup (ja_cons je_int (ja_cons je_non ja_nil))))))))))
theorem cal__law_met (h : Hd K mg) (c__law_divisor : Cal P w K mg base 1 "_law_divisor" ["_law_one", "_law_two"] F__law_divisor) (c__law_span : Cal P w K mg base 2 "_law_span" ["_law_part"] F__law_span) (c__law_has : Cal P w K mg base 3 "_law_has" ["_law_part", "_law_number"] F__law_has) (c__law_few : Cal P w K mg base 2 "_law_few" ["_law_part"] F__law_few) : Cal P w K mg base 4 "_law_met" ["_law_part", "_law_twin"] F__law_met := by
  obtain ⟨f, fd, hm, F⟩ := h.f__law_met
  exact cal_of F hm (F.bindsN fun _ _ _ _ _ _ us hl => match us, hl with | [_, _], _ => rfl) (fok__law_met h c__law_divisor c__law_span c__law_has c__law_few F)
theorem fok__law_due (h : Hd K mg) (c__law_many : Cal P w K mg base 1 "_law_many" ["_law_part"] F__law_many) (c__law_met : Cal P w K mg base 4 "_law_met" ["_law_part", "_law_twin"] F__law_met) {f : Addr} {fd : FuncData} (F : FunD K "_law_due" "_law_due" (defArgs s__law_due) (defBody s__law_due) (defScope s__law_due) [] [] f fd) : FnG P w K mg base 5 f fd ["_law_first", "_law_second"] (spF ⟨K, mg⟩ 2 F__law_due) := by
  have m_tuple := h.m_tuple
  have m_zip := h.m_zip
  refine fok_of F sc__law_due exitV_ok fun cdv A outer s H E hr => ?_
  have tk := takes_of (X := cxOf (L2.CX P w) P w K mg base ["_law_first", "_law_second", "_law_many_here", "_law_spot", "_law_part", "_law_twin", "_law_amount", "_law_least"] "_law_due" (defScope s__law_due) f cdv A outer s H E) (E := E) rfl rfl rfl rfl
  have hp := passes_of (X := cxOf (L2.CX P w) P w K mg base ["_law_first", "_law_second", "_law_many_here", "_law_spot", "_law_part", "_law_twin", "_law_amount", "_law_least"] "_law_due" (defScope s__law_due) f cdv A outer s H E) rfl
  exact (jb_cons (js_par 2 3 rfl sc__law_due.nd (ja_cons je_int (ja_cons (je_own ja_nil) ja_nil))) (jb_cons (js_for hp rfl (ji_zip2 (by rfl) m_zip (ja_cons (je_var 0) (ja_cons (je_var 1) ja_nil))) (jg_tup rfl (jgs_cons (jg_name (i := 4) sc__law_due.nd) (jgs_cons (jg_name (i := 5) sc__law_due.nd) jgs_nil))) (jb_cons (js_if (jt_cmp jo_in je_int (je_lst (ja_cons (je_call c__law_many (hr.mono (by decide)) tk (by rfl) (ja_cons (je_var 4) ja_nil)) (ja_cons (je_call c__law_many (hr.mono (by decide)) tk (by rfl) (ja_cons (je_var 5) ja_nil)) ja_nil))) (by rfl)) (jb_one (js_ret (je_tup (ja_cons je_int (ja_cons je_non ja_nil))))) jb_nil) (jb_cons (js_asg (je_call c__law_met (hr.mono (by decide)) tk (by rfl) (ja_cons (je_var 4) (ja_cons (je_var 5) ja_nil))) (jg_tup rfl (jgs_cons (jg_name (i := 6) sc__law_due.nd) (jgs_cons (jg_name (i := 7) sc__law_due.nd) jgs_nil)))) (jb_cons (js_set 2 sc__law_due.nd (je_bin jo_mul (je_var 2) (je_var 6))) (jb_one (js_append (je_var 3) (je_var 7))))))) (jb_one (js_ret (je_if (jt_cmp jo_gt (je_var 2) je_int) (je_tup (ja_cons (je_var 2) (ja_cons (je_callTy jc_tuple (by rfl) m_tuple (by decide +kernel) (ja_cons (je_var 3) ja_nil)) ja_nil))) (je_tup (ja_cons je_int (ja_cons je_non ja_nil))))))))
theorem cal__law_due (h : Hd K mg) (c__law_many : Cal P w K mg base 1 "_law_many" ["_law_part"] F__law_many) (c__law_met : Cal P w K mg base 4 "_law_met" ["_law_part", "_law_twin"] F__law_met) : Cal P w K mg base 5 "_law_due" ["_law_first", "_law_second"] F__law_due := by
  obtain ⟨f, fd, hm, F⟩ := h.f__law_due
  exact cal_of F hm (F.bindsN fun _ _ _ _ _ _ us hl => match us, hl with | [_, _], _ => rfl) (fok__law_due h c__law_many c__law_met F)
theorem fok__law_alone (h : Hd K mg) (c__law_due : Cal P w K mg base 5 "_law_due" ["_law_first", "_law_second"] F__law_due) {f : Addr} {fd : FuncData} (F : FunD K "_law_alone" "_law_alone" (defArgs s__law_alone) (defBody s__law_alone) (defScope s__law_alone) [] [] f fd) : FnG P w K mg base 6 f fd ["_law_section_so"] (spF ⟨K, mg⟩ 1 F__law_alone) := by
  refine fok_of F sc__law_alone exitV_ok fun cdv A outer s H E hr => ?_
  have tk := takes_of (X := cxOf (L2.CX P w) P w K mg base ["_law_section_so"] "_law_alone" (defScope s__law_alone) f cdv A outer s H E) (E := E) rfl rfl rfl rfl
  have hp := passes_of (X := cxOf (L2.CX P w) P w K mg base ["_law_section_so"] "_law_alone" (defScope s__law_alone) f cdv A outer s H E) rfl
  exact (jb_one (js_ret (je_ix (je_call c__law_due (hr.mono (by decide)) tk (by rfl) (ja_cons (je_var 0) (ja_cons (je_var 0) ja_nil))) je_int)))
theorem cal__law_alone (h : Hd K mg) (c__law_due : Cal P w K mg base 5 "_law_due" ["_law_first", "_law_second"] F__law_due) : Cal P w K mg base 6 "_law_alone" ["_law_section_so"] F__law_alone := by
  obtain ⟨f, fd, hm, F⟩ := h.f__law_alone
  exact cal_of F hm (F.bindsN fun _ _ _ _ _ _ us hl => match us, hl with | [_], _ => rfl) (fok__law_alone h c__law_due F)
theorem fok__law_within (h : Hd K mg) {f : Addr} {fd : FuncData} (F : FunD K "_law_within" "_law_within" (defArgs s__law_within) (defBody s__law_within) (defScope s__law_within) [] [] f fd) : FnG P w K mg base 1 f fd ["_law_bounds_so", "_law_section_so"] (spF ⟨K, mg⟩ 2 F__law_within) := by
  have m_isinstance := h.m_isinstance
  have m_list := h.m_list
  have m_min := h.m_min
  have m_tuple := h.m_tuple
  have m_zip := h.m_zip
  refine fok_of F sc__law_within exitV_ok fun cdv A outer s H E hr => ?_
  have tk := takes_of (X := cxOf (L2.CX P w) P w K mg base ["_law_bounds_so", "_law_section_so", "_law_found", "_law_part", "_law_low", "_law_high", "_law_number"] "_law_within" (defScope s__law_within) f cdv A outer s H E) (E := E) rfl rfl rfl rfl
  have hp := passes_of (X := cxOf (L2.CX P w) P w K mg base ["_law_bounds_so", "_law_section_so", "_law_found", "_law_part", "_law_low", "_law_high", "_law_number"] "_law_within" (defScope s__law_within) f cdv A outer s H E) rfl
  exact (jb_cons (js_set 2 sc__law_within.nd (je_own ja_nil)) (jb_cons (js_for hp rfl (ji_zip2 (by rfl) m_zip (ja_cons (je_var 1) (ja_cons (je_var 0) ja_nil))) (jg_tup rfl (jgs_cons (jg_name (i := 3) sc__law_within.nd) (jgs_cons (jg_tup rfl (jgs_cons (jg_name (i := 4) sc__law_within.nd) (jgs_cons (jg_name (i := 5) sc__law_within.nd) jgs_nil))) jgs_nil))) (jb_one (js_append (je_var 2) (je_if (jt_val (je_isi tab_list (by rfl) m_isinstance (by rfl) m_list (by decide +kernel) (je_var 3))) (je_lc [("_law_number", 6)] rfl sc__law_within.nd (ji_seq (je_var 3)) (blkOk_by (by kernel_rfl)) (fun _ _ _ _ _ => (jg_name (i := 6) sc__law_within.nd)) (by decide) test_no (fun _ _ _ _ _ => (je_callB (jc_min2 rfl) (by rfl) m_min (by decide +kernel) (ja_cons (je_var 6) (ja_cons (je_var 5) ja_nil))))) (je_var 3))))) (jb_one (js_ret (je_callTy jc_tuple (by rfl) m_tuple (by decide +kernel) (ja_cons (je_var 2) ja_nil))))))
theorem cal__law_within (h : Hd K mg) : Cal P w K mg base 1 "_law_within" ["_law_bounds_so", "_law_section_so"] F__law_within := by
  obtain ⟨f, fd, hm, F⟩ := h.f__law_within
  exact cal_of F hm (F.bindsN fun _ _ _ _ _ _ us hl => match us, hl with | [_, _], _ => rfl) (fok__law_within h F)
theorem fok__law_judged (h : Hd K mg) (c_shared : Cal P w K mg base 7 "shared" ["bounds", "one", "other"] F_shared) (c_includes : Cal P w K mg base 7 "includes" ["bounds", "one", "other"] F_includes) (c_same_set : Cal P w K mg base 7 "same_set" ["bounds", "one", "other"] F_same_set) (c__law_due : Cal P w K mg base 5 "_law_due" ["_law_first", "_law_second"] F__law_due) (c__law_alone : Cal P w K mg base 6 "_law_alone" ["_law_section_so"] F__law_alone) (c__law_within : Cal P w K mg base 1 "_law_within" ["_law_bounds_so", "_law_section_so"] F__law_within) {f : Addr} {fd : FuncData} (F : FunD K "_law_judged" "_law_judged" (defArgs s__law_judged) (defBody s__law_judged) (defScope s__law_judged) [] [] f fd) : FnG P w K mg base 8 f fd ["_law_bounds_so", "_law_first", "_law_second"] (spF ⟨K, mg⟩ 3 F__law_judged) := by
  have m_repr := h.m_repr
  refine fok_of F sc__law_judged exitV_ok fun cdv A outer s H E hr => ?_
  have tk := takes_of (X := cxOf (L2.CX P w) P w K mg base ["_law_bounds_so", "_law_first", "_law_second", "_law_due_here", "_law_mine", "_law_its", "_law_told"] "_law_judged" (defScope s__law_judged) f cdv A outer s H E) (E := E) rfl rfl rfl rfl
  have hp := passes_of (X := cxOf (L2.CX P w) P w K mg base ["_law_bounds_so", "_law_first", "_law_second", "_law_due_here", "_law_mine", "_law_its", "_law_told"] "_law_judged" (defScope s__law_judged) f cdv A outer s H E) rfl
  exact (jb_cons (js_par 1 2 rfl sc__law_judged.nd (ja_cons (je_call c__law_within (hr.mono (by decide)) tk (by rfl) (ja_cons (je_var 0) (ja_cons (je_var 1) ja_nil))) (ja_cons (je_call c__law_within (hr.mono (by decide)) tk (by rfl) (ja_cons (je_var 0) (ja_cons (je_var 2) ja_nil))) ja_nil))) (jb_cons (js_set 3 sc__law_judged.nd (je_call c__law_due (hr.mono (by decide)) tk (by rfl) (ja_cons (je_var 1) (ja_cons (je_var 2) ja_nil)))) (jb_cons (js_if (JW.pt (jw_or (jt_cmp (jo_ne hr.units) (je_call c_shared (hr.mono (by decide)) tk (by rfl) (ja_cons (je_var 0) (ja_cons (je_var 1) (ja_cons (je_var 2) ja_nil)))) (je_var 3)) (jw_or1 (jt_cmp (jo_ne hr.units) (je_call c_shared (hr.mono (by decide)) tk (by rfl) (ja_cons (je_var 0) (ja_cons (je_var 2) (ja_cons (je_var 1) ja_nil)))) (je_var 3))))) (jb_one (js_ret je_bl)) jb_nil) (jb_cons (js_par 4 5 rfl sc__law_judged.nd (ja_cons (je_cmp (jo_eq hr.units) (je_ix (je_var 3) je_int) (je_call c__law_alone (hr.mono (by decide)) tk (by rfl) (ja_cons (je_var 2) ja_nil))) (ja_cons (je_cmp (jo_eq hr.units) (je_ix (je_var 3) je_int) (je_call c__law_alone (hr.mono (by decide)) tk (by rfl) (ja_cons (je_var 1) ja_nil))) ja_nil))) (jb_cons (js_set 6 sc__law_judged.nd (je_lst (ja_cons (je_call c_includes (hr.mono (by decide)) tk (by rfl) (ja_cons (je_var 0) (ja_cons (je_var 1) (ja_cons (je_var 2) ja_nil)))) (ja_cons (je_call c_includes (hr.mono (by decide)) tk (by rfl) (ja_cons (je_var 0) (ja_cons (je_var 2) (ja_cons (je_var 1) ja_nil)))) (ja_cons (je_call c_same_set (hr.mono (by decide)) tk (by rfl) (ja_cons (je_var 0) (ja_cons (je_var 1) (ja_cons (je_var 2) ja_nil)))) ja_nil))))) (jb_one (js_ret (je_cmp (jo_eq hr.units) (je_callB (jc_repr hr.gd hr.un66) (by rfl) m_repr (by decide +kernel) (ja_cons (je_var 6) ja_nil)) (je_callB (jc_repr hr.gd hr.un66) (by rfl) m_repr (by decide +kernel) (ja_cons (je_lst (ja_cons (je_var 4) (ja_cons (je_var 5) (ja_cons (je_and (je_var 4) (je_one (je_var 5))) ja_nil)))) ja_nil))))))))))
theorem cal__law_judged (h : Hd K mg) (c_shared : Cal P w K mg base 7 "shared" ["bounds", "one", "other"] F_shared) (c_includes : Cal P w K mg base 7 "includes" ["bounds", "one", "other"] F_includes) (c_same_set : Cal P w K mg base 7 "same_set" ["bounds", "one", "other"] F_same_set) (c__law_due : Cal P w K mg base 5 "_law_due" ["_law_first", "_law_second"] F__law_due) (c__law_alone : Cal P w K mg base 6 "_law_alone" ["_law_section_so"] F__law_alone) (c__law_within : Cal P w K mg base 1 "_law_within" ["_law_bounds_so", "_law_section_so"] F__law_within) : Cal P w K mg base 8 "_law_judged" ["_law_bounds_so", "_law_first", "_law_second"] F__law_judged := by
  obtain ⟨f, fd, hm, F⟩ := h.f__law_judged
  exact cal_of F hm (F.bindsN fun _ _ _ _ _ _ us hl => match us, hl with | [_, _, _], _ => rfl) (fok__law_judged h c_shared c_includes c_same_set c__law_due c__law_alone c__law_within F)
theorem fok__law_right (h : Hd K mg) (c__law_draw : Cal P w K mg base 2 "_law_draw" ["_law_well", "_law_many_here"] F__law_draw) (c__law_pick : Cal P w K mg base 3 "_law_pick" ["_law_well", "_law_some"] F__law_pick) (c__law_far_part : Cal P w K mg base 3 "_law_far_part" ["_law_well", "_law_low", "_law_high", "_law_unit"] F__law_far_part) (c__law_bent : Cal P w K mg base 4 "_law_bent" ["_law_well", "_law_part"] F__law_bent) (c__law_judged : Cal P w K mg base 8 "_law_judged" ["_law_bounds_so", "_law_first", "_law_second"] F__law_judged) {f : Addr} {fd : FuncData} (F : FunD K "_law_right" "_law_right" (defArgs s__law_right) (defBody s__law_right) (defScope s__law_right) [] [] f fd) : FnG P w K mg base 9 f fd ["_law_well"] (spF ⟨K, mg⟩ 1 F__law_right) := by
  have m_min := h.m_min
  have m_range := h.m_range
  have m_tuple := h.m_tuple
  refine fok_of F sc__law_right exitV_ok fun cdv A outer s H E hr => ?_
  have tk := takes_of (X := cxOf (L2.CX P w) P w K mg base ["_law_well", "_law_bounds_so", "_law_first", "_law_second", "_law_turn", "_law_unit", "_law_low", "_law_high", "_law_more_so"] "_law_right" (defScope s__law_right) f cdv A outer s H E) (E := E) rfl rfl rfl rfl
  have hp := passes_of (X := cxOf (L2.CX P w) P w K mg base ["_law_well", "_law_bounds_so", "_law_first", "_law_second", "_law_turn", "_law_unit", "_law_low", "_law_high", "_law_more_so"] "_law_right" (defScope s__law_right) f cdv A outer s H E) rfl
  exact (jb_cons (js_par3 1 2 3 rfl sc__law_right.nd (ja_cons (je_own ja_nil) (ja_cons (je_own ja_nil) (ja_cons (je_own ja_nil) ja_nil)))) (jb_cons (js_for hp rfl (ji_rng1 (by rfl) m_range (ja_cons (je_bin jo_add je_int (je_call c__law_draw (hr.mono (by decide)) tk (by rfl) (ja_cons (je_var 0) (ja_cons je_int ja_nil)))) ja_nil)) (jg_name (i := 4) sc__law_right.nd) (jb_cons (js_set 5 sc__law_right.nd (je_call c__law_pick (hr.mono (by decide)) tk (by rfl) (ja_cons (je_var 0) (ja_cons (je_lst (ja_cons je_int (ja_cons je_int (ja_cons je_int (ja_cons (je_bin jo_add (je_bin jo_pow je_int je_int) je_int) (ja_cons (je_bin jo_pow je_int je_int) ja_nil)))))) ja_nil)))) (jb_cons (js_set 6 sc__law_right.nd (je_bin jo_sub (je_call c__law_draw (hr.mono (by decide)) tk (by rfl) (ja_cons (je_var 0) (ja_cons (je_bin jo_mul je_int (je_bin jo_pow je_int je_int)) ja_nil))) (je_call c__law_pick (hr.mono (by decide)) tk (by rfl) (ja_cons (je_var 0) (ja_cons (je_lst (ja_cons je_int (ja_cons (je_bin jo_mul je_int (je_bin jo_pow je_int je_int)) ja_nil))) ja_nil))))) (jb_cons (js_set 7 sc__law_right.nd (je_callB (jc_min2 rfl) (by rfl) m_min (by decide +kernel) (ja_cons (je_bin jo_mul je_int (je_bin jo_pow je_int je_int)) (ja_cons (je_bin jo_add (je_var 6) (je_bin jo_mul (je_var 5) (je_bin jo_add je_int (je_call c__law_draw (hr.mono (by decide)) tk (by rfl) (ja_cons (je_var 0) (ja_cons (je_call c__law_pick (hr.mono (by decide)) tk (by rfl) (ja_cons (je_var 0) (ja_cons (je_lst (ja_cons je_int (ja_cons (je_bin jo_pow je_int je_int) ja_nil))) ja_nil))) ja_nil)))))) ja_nil)))) (jb_cons (js_append (je_var 1) (je_tup (ja_cons (je_var 6) (ja_cons (je_var 7) ja_nil)))) (jb_cons (js_append (je_var 2) (je_call c__law_far_part (hr.mono (by decide)) tk (by rfl) (ja_cons (je_var 0) (ja_cons (je_var 6) (ja_cons (je_var 7) (ja_cons (je_var 5) ja_nil)))))) (jb_cons (js_set 8 sc__law_right.nd (je_call c__law_far_part (hr.mono (by decide)) tk (by rfl) (ja_cons (je_var 0) (ja_cons (je_var 6) (ja_cons (je_var 7) (ja_cons (je_var 5) ja_nil)))))) (jb_one (js_append (je_var 3) (je_call c__law_pick (hr.mono (by decide)) tk (by rfl) (ja_cons (je_var 0) (ja_cons (je_lst (ja_cons (je_var 8) (ja_cons (je_var 8) (ja_cons (je_ix (je_var 2) (je_neg je_int)) (ja_cons (je_call c__law_bent (hr.mono (by decide)) tk (by rfl) (ja_cons (je_var 0) (ja_cons (je_ix (je_var 2) (je_neg je_int)) ja_nil))) ja_nil))))) ja_nil)))))))))))) (jb_one (js_ret (je_call c__law_judged (hr.mono (by decide)) tk (by rfl) (ja_cons (je_callTy jc_tuple (by rfl) m_tuple (by decide +kernel) (ja_cons (je_var 1) ja_nil)) (ja_cons (je_callTy jc_tuple (by rfl) m_tuple (by decide +kernel) (ja_cons (je_var 2) ja_nil)) (ja_cons (je_callTy jc_tuple (by rfl) m_tuple (by decide +kernel) (ja_cons (je_var 3) ja_nil)) ja_nil))))))))
theorem cal__law_right (h : Hd K mg) (c__law_draw : Cal P w K mg base 2 "_law_draw" ["_law_well", "_law_many_here"] F__law_draw) (c__law_pick : Cal P w K mg base 3 "_law_pick" ["_law_well", "_law_some"] F__law_pick) (c__law_far_part : Cal P w K mg base 3 "_law_far_part" ["_law_well", "_law_low", "_law_high", "_law_unit"] F__law_far_part) (c__law_bent : Cal P w K mg base 4 "_law_bent" ["_law_well", "_law_part"] F__law_bent) (c__law_judged : Cal P w K mg base 8 "_law_judged" ["_law_bounds_so", "_law_first", "_law_second"] F__law_judged) : Cal P w K mg base 9 "_law_right" ["_law_well"] F__law_right := by
  obtain ⟨f, fd, hm, F⟩ := h.f__law_right
  exact cal_of F hm (F.bindsN fun _ _ _ _ _ _ us hl => match us, hl with | [_], _ => rfl) (fok__law_right h c__law_draw c__law_pick c__law_far_part c__law_bent c__law_judged F)
theorem fok_law (h : Hd K mg) (c__law_source : Cal P w K mg base 1 "_law_source" ["_law_script", "_law_k"] F__law_source) (c__law_right : Cal P w K mg base 9 "_law_right" ["_law_well"] F__law_right) {f : Addr} {fd : FuncData} (F : FunD K "law" "law" (defArgs s_law) (defBody s_law) (defScope s_law) [] [] f fd) : FnG P w K mg base 10 f fd ["_law_script"] (spF ⟨K, mg⟩ 1 F_law) := by
  have m_len := h.m_len
  have m_max := h.m_max
  have m_min := h.m_min
  have m_range := h.m_range
  refine fok_of F sc_law exitV_ok fun cdv A outer s H E hr => ?_
  have tk := takes_of (X := cxOf (L2.CX P w) P w K mg base ["_law_script", "_law_k", "_law_well", "_law_turn"] "law" (defScope s_law) f cdv A outer s H E) (E := E) rfl rfl rfl rfl
  have hp := passes_of (X := cxOf (L2.CX P w) P w K mg base ["_law_script", "_law_k", "_law_well", "_law_turn"] "law" (defScope s_law) f cdv A outer s H E) rfl
  exact (jb_cons (js_for hp rfl (ji_rng1 (by rfl) m_range (ja_cons (je_callB (jc_max2 rfl) (by rfl) m_max (by decide +kernel) (ja_cons je_int (ja_cons (je_callB (jc_min2 rfl) (by rfl) m_min (by decide +kernel) (ja_cons je_int (ja_cons (je_callB jc_len (by rfl) m_len (by decide +kernel) (ja_cons (je_var 0) ja_nil)) ja_nil))) ja_nil))) ja_nil)) (jg_name (i := 1) sc_law.nd) (jb_cons (js_set 2 sc_law.nd (je_call c__law_source (hr.mono (by decide)) tk (by rfl) (ja_cons (je_var 0) (ja_cons (je_var 1) ja_nil)))) (jb_one (js_for hp rfl (ji_rng1 (by rfl) m_range (ja_cons je_int ja_nil)) (jg_name (i := 3) sc_law.nd) (jb_one (js_if (jt_not (jt_val (je_call c__law_right (hr.mono (by decide)) tk (by rfl) (ja_cons (je_var 2) ja_nil)))) (jb_one (js_ret je_bl)) jb_nil)))))) (jb_one (js_ret je_bl)))
theorem cal_all (h : Hd K mg) {f : Addr} {fd : FuncData} (F : FunD K "law" "law" (defArgs s_law) (defBody s_law) (defScope s_law) [] [] f fd) : FnG P w K mg base 10 f fd ["_law_script"] (spF ⟨K, mg⟩ 1 F_law) := by
  have c__law_source := cal__law_source (P := P) (w := w) (base := base) h
  have c__law_mix := cal__law_mix (P := P) (w := w) (base := base) h
  have c__law_draw := cal__law_draw (P := P) (w := w) (base := base) h c__law_mix
  have c__law_pick := cal__law_pick (P := P) (w := w) (base := base) h c__law_draw
  have c__law_far_part := cal__law_far_part (P := P) (w := w) (base := base) h c__law_draw
  have c__law_bent := cal__law_bent (P := P) (w := w) (base := base) h c__law_pick
  have c_is_row := cal_is_row (P := P) (w := w) (base := base) h
  have c_is_whole := cal_is_whole (P := P) (w := w) (base := base) h
  have c_is_between := cal_is_between (P := P) (w := w) (base := base) h c_is_whole
  have c_is_pair := cal_is_pair (P := P) (w := w) (base := base) h c_is_between
  have c_check_bounds := cal_check_bounds (P := P) (w := w) (base := base) h c_is_row c_is_pair
  have c_is_far := cal_is_far (P := P) (w := w) (base := base) h c_is_between
  have c_is_part := cal_is_part (P := P) (w := w) (base := base) h c_is_far
  have c_many_of := cal_many_of (P := P) (w := w) (base := base) h
  have c_at_part := cal_at_part (P := P) (w := w) (base := base) h
  have c_ends_of := cal_ends_of (P := P) (w := w) (base := base) h c_many_of c_at_part
  have c_is_empty := cal_is_empty (P := P) (w := w) (base := base) h c_many_of
  have c_check_section := cal_check_section (P := P) (w := w) (base := base) h c_is_part c_ends_of c_is_empty
  have c_check_pair := cal_check_pair (P := P) (w := w) (base := base) h c_check_bounds c_check_section
  have c_product := cal_product (P := P) (w := w) (base := base) h
  have c_gcd := cal_gcd (P := P) (w := w) (base := base) h
  have c_lcm := cal_lcm (P := P) (w := w) (base := base) h c_gcd
  have c_inverse := cal_inverse (P := P) (w := w) (base := base) h
  have c_meeting := cal_meeting (P := P) (w := w) (base := base) h c_gcd c_lcm c_inverse
  have c_few_of := cal_few_of (P := P) (w := w) (base := base) h c_many_of c_at_part
  have c_has_subscript := cal_has_subscript (P := P) (w := w) (base := base) h c_ends_of
  have c_shared_part := cal_shared_part (P := P) (w := w) (base := base) h c_meeting c_ends_of c_few_of c_has_subscript
  have c_shared_in := cal_shared_in (P := P) (w := w) (base := base) h c_product c_is_empty c_shared_part
  have c_shared := cal_shared (P := P) (w := w) (base := base) h c_check_pair c_shared_in
  have c_includes_in := cal_includes_in (P := P) (w := w) (base := base) h c_is_empty c_shared_in
  have c_includes := cal_includes (P := P) (w := w) (base := base) h c_check_pair c_includes_in
  have c_same_set := cal_same_set (P := P) (w := w) (base := base) h c_check_pair c_includes_in
  have c__law_many := cal__law_many (P := P) (w := w) (base := base) h
  have c__law_divisor := cal__law_divisor (P := P) (w := w) (base := base) h
  have c__law_span := cal__law_span (P := P) (w := w) (base := base) h c__law_many
  have c__law_has := cal__law_has (P := P) (w := w) (base := base) h c__law_span
  have c__law_few := cal__law_few (P := P) (w := w) (base := base) h c__law_many
  have c__law_met := cal__law_met (P := P) (w := w) (base := base) h c__law_divisor c__law_span c__law_has c__law_few
  have c__law_due := cal__law_due (P := P) (w := w) (base := base) h c__law_many c__law_met
  have c__law_alone := cal__law_alone (P := P) (w := w) (base := base) h c__law_due
  have c__law_within := cal__law_within (P := P) (w := w) (base := base) h
  have c__law_judged := cal__law_judged (P := P) (w := w) (base := base) h c_shared c_includes c_same_set c__law_due c__law_alone c__law_within
  have c__law_right := cal__law_right (P := P) (w := w) (base := base) h c__law_draw c__law_pick c__law_far_part c__law_bent c__law_judged
  exact fok_law h c__law_source c__law_right F
end
/-! ### the head -/
def d__law_source : He.DefD := ⟨("_law_source", none), "_law_source", "_law_source", defArgs s__law_source, defBody s__law_source, defScope s__law_source, [], []⟩
def d__law_mix : He.DefD := ⟨("_law_mix", none), "_law_mix", "_law_mix", defArgs s__law_mix, defBody s__law_mix, defScope s__law_mix, [], []⟩
def d__law_draw : He.DefD := ⟨("_law_draw", none), "_law_draw", "_law_draw", defArgs s__law_draw, defBody s__law_draw, defScope s__law_draw, [], []⟩
def d__law_pick : He.DefD := ⟨("_law_pick", none), "_law_pick", "_law_pick", defArgs s__law_pick, defBody s__law_pick, defScope s__law_pick, [], []⟩
def d__law_far_part : He.DefD := ⟨("_law_far_part", none), "_law_far_part", "_law_far_part", defArgs s__law_far_part, defBody s__law_far_part, defScope s__law_far_part, [], []⟩
def d__law_bent : He.DefD := ⟨("_law_bent", none), "_law_bent", "_law_bent", defArgs s__law_bent, defBody s__law_bent, defScope s__law_bent, [], []⟩
def d_is_row : He.DefD := ⟨("is_row", none), "is_row", "is_row", defArgs s_is_row, defBody s_is_row, defScope s_is_row, [], []⟩
def d_is_whole : He.DefD := ⟨("is_whole", none), "is_whole", "is_whole", defArgs s_is_whole, defBody s_is_whole, defScope s_is_whole, [], []⟩
def d_is_between : He.DefD := ⟨("is_between", none), "is_between", "is_between", defArgs s_is_between, defBody s_is_between, defScope s_is_between, [], []⟩
def d_is_pair : He.DefD := ⟨("is_pair", none), "is_pair", "is_pair", defArgs s_is_pair, defBody s_is_pair, defScope s_is_pair, [], []⟩
def d_check_bounds : He.DefD := ⟨("check_bounds", none), "check_bounds", "check_bounds", defArgs s_check_bounds, defBody s_check_bounds, defScope s_check_bounds, [], []⟩
def d_is_far : He.DefD := ⟨("is_far", none), "is_far", "is_far", defArgs s_is_far, defBody s_is_far, defScope s_is_far, [], []⟩
def d_is_part : He.DefD := ⟨("is_part", none), "is_part", "is_part", defArgs s_is_part, defBody s_is_part, defScope s_is_part, [], []⟩
def d_many_of : He.DefD := ⟨("many_of", none), "many_of", "many_of", defArgs s_many_of, defBody s_many_of, defScope s_many_of, [], []⟩
def d_at_part : He.DefD := ⟨("at_part", none), "at_part", "at_part", defArgs s_at_part, defBody s_at_part, defScope s_at_part, [], []⟩
def d_ends_of : He.DefD := ⟨("ends_of", none), "ends_of", "ends_of", defArgs s_ends_of, defBody s_ends_of, defScope s_ends_of, [], []⟩
def d_is_empty : He.DefD := ⟨("is_empty", none), "is_empty", "is_empty", defArgs s_is_empty, defBody s_is_empty, defScope s_is_empty, [], []⟩
def d_check_section : He.DefD := ⟨("check_section", none), "check_section", "check_section", defArgs s_check_section, defBody s_check_section, defScope s_check_section, [], []⟩
def d_check_pair : He.DefD := ⟨("check_pair", none), "check_pair", "check_pair", defArgs s_check_pair, defBody s_check_pair, defScope s_check_pair, [], []⟩
def d_product : He.DefD := ⟨("product", none), "product", "product", defArgs s_product, defBody s_product, defScope s_product, [], []⟩
def d_gcd : He.DefD := ⟨("gcd", none), "gcd", "gcd", defArgs s_gcd, defBody s_gcd, defScope s_gcd, [], []⟩
def d_lcm : He.DefD := ⟨("lcm", none), "lcm", "lcm", defArgs s_lcm, defBody s_lcm, defScope s_lcm, [], []⟩
def d_inverse : He.DefD := ⟨("inverse", none), "inverse", "inverse", defArgs s_inverse, defBody s_inverse, defScope s_inverse, [], []⟩
def d_meeting : He.DefD := ⟨("meeting", none), "meeting", "meeting", defArgs s_meeting, defBody s_meeting, defScope s_meeting, [], []⟩
def d_few_of : He.DefD := ⟨("few_of", none), "few_of", "few_of", defArgs s_few_of, defBody s_few_of, defScope s_few_of, [], []⟩
def d_has_subscript : He.DefD := ⟨("has_subscript", none), "has_subscript", "has_subscript", defArgs s_has_subscript, defBody s_has_subscript, defScope s_has_subscript, [], []⟩
def d_shared_part : He.DefD := ⟨("shared_part", none), "shared_part", "shared_part", defArgs s_shared_part, defBody s_shared_part, defScope s_shared_part, [], []⟩
def d_shared_in : He.DefD := ⟨("shared_in", none), "shared_in", "shared_in", defArgs s_shared_in, defBody s_shared_in, defScope s_shared_in, [], []⟩
def d_shared : He.DefD := ⟨("shared", none), "shared", "shared", defArgs s_shared, defBody s_shared, defScope s_shared, [], []⟩
def d_includes_in : He.DefD := ⟨("includes_in", none), "includes_in", "includes_in", defArgs s_includes_in, defBody s_includes_in, defScope s_includes_in, [], []⟩
def d_includes : He.DefD := ⟨("includes", none), "includes", "includes", defArgs s_includes, defBody s_includes, defScope s_includes, [], []⟩
def d_same_set : He.DefD := ⟨("same_set", none), "same_set", "same_set", defArgs s_same_set, defBody s_same_set, defScope s_same_set, [], []⟩
def d__law_many : He.DefD := ⟨("_law_many", none), "_law_many", "_law_many", defArgs s__law_many, defBody s__law_many, defScope s__law_many, [], []⟩
def d__law_divisor : He.DefD := ⟨("_law_divisor", none), "_law_divisor", "_law_divisor", defArgs s__law_divisor, defBody s__law_divisor, defScope s__law_divisor, [], []⟩
def d__law_span : He.DefD := ⟨("_law_span", none), "_law_span", "_law_span", defArgs s__law_span, defBody s__law_span, defScope s__law_span, [], []⟩
def d__law_has : He.DefD := ⟨("_law_has", none), "_law_has", "_law_has", defArgs s__law_has, defBody s__law_has, defScope s__law_has, [], []⟩
def d__law_few : He.DefD := ⟨("_law_few", none), "_law_few", "_law_few", defArgs s__law_few, defBody s__law_few, defScope s__law_few, [], []⟩
def d__law_met : He.DefD := ⟨("_law_met", none), "_law_met", "_law_met", defArgs s__law_met, defBody s__law_met, defScope s__law_met, [], []⟩
def d__law_due : He.DefD := ⟨("_law_due", none), "_law_due", "_law_due", defArgs s__law_due, defBody s__law_due, defScope s__law_due, [], []⟩
def d__law_alone : He.DefD := ⟨("_law_alone", none), "_law_alone", "_law_alone", defArgs s__law_alone, defBody s__law_alone, defScope s__law_alone, [], []⟩
def d__law_within : He.DefD := ⟨("_law_within", none), "_law_within", "_law_within", defArgs s__law_within, defBody s__law_within, defScope s__law_within, [], []⟩
def d__law_judged : He.DefD := ⟨("_law_judged", none), "_law_judged", "_law_judged", defArgs s__law_judged, defBody s__law_judged, defScope s__law_judged, [], []⟩
def d__law_right : He.DefD := ⟨("_law_right", none), "_law_right", "_law_right", defArgs s__law_right, defBody s__law_right, defScope s__law_right, [], []⟩
def d_law : He.DefD := ⟨("law", none), "law", "law", defArgs s_law, defBody s_law, defScope s_law, [], []⟩
def fn : List He.DefD := [d__law_source, d__law_mix, d__law_draw, d__law_pick, d__law_far_part, d__law_bent, d_is_row, d_is_whole, d_is_between, d_is_pair, d_check_bounds, d_is_far, d_is_part, d_many_of, d_at_part, d_ends_of, d_is_empty, d_check_section, d_check_pair, d_product, d_gcd, d_lcm, d_inverse, d_meeting, d_few_of, d_has_subscript, d_shared_part, d_shared_in, d_shared, d_includes_in, d_includes, d_same_set, d__law_many, d__law_divisor, d__law_span, d__law_has, d__law_few, d__law_met, d__law_due, d__law_alone, d__law_within, d__law_judged, d__law_right, d_law]
def fa0 : List He.Fa := [.glo "_law_source", .glo "_law_mix", .glo "_law_draw", .glo "_law_pick", .glo "_law_far_part", .glo "_law_bent", .glo "is_row", .glo "is_whole", .glo "is_between", .glo "is_pair", .glo "check_bounds", .glo "is_far", .glo "is_part", .glo "many_of", .glo "at_part", .glo "ends_of", .glo "is_empty", .glo "check_section", .glo "check_pair", .glo "product", .glo "gcd", .glo "lcm", .glo "inverse", .glo "meeting", .glo "few_of", .glo "has_subscript", .glo "shared_part", .glo "shared_in", .glo "shared", .glo "includes_in"]
def fa1 : List He.Fa := [.glo "includes", .glo "same_set", .glo "_law_many", .glo "_law_divisor", .glo "_law_span", .glo "_law_has", .glo "_law_few", .glo "_law_met", .glo "_law_due", .glo "_law_alone", .glo "_law_within", .glo "_law_judged", .glo "_law_right", .glo "law", .free "abs", .free "all", .free "bool", .free "int", .free "isinstance", .free "len", .free "list", .free "max", .free "min", .free "range", .free "repr", .free "set", .free "sorted", .free "tuple", .free "zip", .int "FAR" 1000000000000000000000000000000]
def fa2 : List He.Fa := [.int "MOST_DIMENSIONS" 7, .int "MOST_LIST" 64]
def fa : List He.Fa := fa0 ++ fa1 ++ fa2
abbrev Rw : PySem.W.OpenRow := PySem.W.OpenLaw.row PySem.Challenge.rw_sectionwise_k14_whole_far_sections_that
def exs : List (Str × List PL.D) := []
def exc (K : PySem.W.Frag) : List Bool := []
def ex (K : PySem.W.Frag) : Bool := (exs.all fun q => He.tupB K q.1 (q.2.map gvD)) && (exc K).all id
abbrev hk : PySem.W.Hook := PL.hookX 4 fa fn ex
def ob (s : PySem.W.SharedT) : He.AlD × Bool := PL.exG 4 fa fn ex (HandSHeadRun.getT s)
theorem ob_eq (s : PySem.W.SharedT) : ob s = hk.obs s.abs := PL.exG_eq (HandSHeadRun.getT_eq s)
def loose0 : List PySem.Str := ["SectionError", "InvalidSection", "FAR", "is_whole", "is_between", "is_row", "gcd", "lcm", "inverse", "meeting", "MOST_DIMENSIONS", "MOST_LIST", "is_far", "is_pair", "check_bounds", "product", "is_part", "many_of", "at_part", "ends_of", "is_empty", "check_section", "check_pair", "few_of", "has_subscript", "shared_part", "shared_in", "shared", "includes_in", "includes"]
def loose1 : List PySem.Str := ["same_set", "_law_mix", "_law_source", "_law_draw", "_law_pick", "_law_many", "_law_divisor", "_law_far_part", "_law_bent", "_law_span", "_law_has", "_law_few", "_law_met", "_law_due", "_law_alone", "_law_right", "_law_within", "_law_judged"]
def loose : List PySem.Str := loose0 ++ loose1
theorem run (w : World) : HandSHeadRun.RunEq Rw (PySem.W.view Rw.prog [52]) hk ob 4000 loose w := by
  intro os
  kernel_rfl
theorem hd_of {K : PySem.W.Frag} {h : Heap} {mg : Str → Option Value} (X : K.In h) (G : h.Ns mainGlobals mg) (c : He.SaysD fa fn K) (cx : ex K = true) : Hd K mg := by
  have cx1 := (Bool.and_eq_true_iff.mp cx).1
  have cx2 := (Bool.and_eq_true_iff.mp cx).2
  refine ⟨He.free_ok X G (c.fact 44 (f := .free "abs") rfl), He.free_ok X G (c.fact 45 (f := .free "all") rfl), He.free_ok X G (c.fact 46 (f := .free "bool") rfl), He.free_ok X G (c.fact 47 (f := .free "int") rfl), He.free_ok X G (c.fact 48 (f := .free "isinstance") rfl), He.free_ok X G (c.fact 49 (f := .free "len") rfl), He.free_ok X G (c.fact 50 (f := .free "list") rfl), He.free_ok X G (c.fact 51 (f := .free "max") rfl), He.free_ok X G (c.fact 52 (f := .free "min") rfl), He.free_ok X G (c.fact 53 (f := .free "range") rfl), He.free_ok X G (c.fact 54 (f := .free "repr") rfl), He.free_ok X G (c.fact 55 (f := .free "set") rfl), He.free_ok X G (c.fact 56 (f := .free "sorted") rfl), He.free_ok X G (c.fact 57 (f := .free "tuple") rfl), He.free_ok X G (c.fact 58 (f := .free "zip") rfl), He.int_ok X G (c.fact 59 (f := .int "FAR" 1000000000000000000000000000000) rfl), He.int_ok X G (c.fact 60 (f := .int "MOST_DIMENSIONS" 7) rfl), He.int_ok X G (c.fact 61 (f := .int "MOST_LIST" 64) rfl), (let ⟨fd, F⟩ := c.def_ 0 (d := d__law_source) rfl; ⟨_, fd, He.glo_ok X G (c.fact 0 (f := .glo "_law_source") rfl), F⟩), (let ⟨fd, F⟩ := c.def_ 1 (d := d__law_mix) rfl; ⟨_, fd, He.glo_ok X G (c.fact 1 (f := .glo "_law_mix") rfl), F⟩), (let ⟨fd, F⟩ := c.def_ 2 (d := d__law_draw) rfl; ⟨_, fd, He.glo_ok X G (c.fact 2 (f := .glo "_law_draw") rfl), F⟩), (let ⟨fd, F⟩ := c.def_ 3 (d := d__law_pick) rfl; ⟨_, fd, He.glo_ok X G (c.fact 3 (f := .glo "_law_pick") rfl), F⟩), (let ⟨fd, F⟩ := c.def_ 4 (d := d__law_far_part) rfl; ⟨_, fd, He.glo_ok X G (c.fact 4 (f := .glo "_law_far_part") rfl), F⟩), (let ⟨fd, F⟩ := c.def_ 5 (d := d__law_bent) rfl; ⟨_, fd, He.glo_ok X G (c.fact 5 (f := .glo "_law_bent") rfl), F⟩), (let ⟨fd, F⟩ := c.def_ 6 (d := d_is_row) rfl; ⟨_, fd, He.glo_ok X G (c.fact 6 (f := .glo "is_row") rfl), F⟩), (let ⟨fd, F⟩ := c.def_ 7 (d := d_is_whole) rfl; ⟨_, fd, He.glo_ok X G (c.fact 7 (f := .glo "is_whole") rfl), F⟩), (let ⟨fd, F⟩ := c.def_ 8 (d := d_is_between) rfl; ⟨_, fd, He.glo_ok X G (c.fact 8 (f := .glo "is_between") rfl), F⟩), (let ⟨fd, F⟩ := c.def_ 9 (d := d_is_pair) rfl; ⟨_, fd, He.glo_ok X G (c.fact 9 (f := .glo "is_pair") rfl), F⟩), (let ⟨fd, F⟩ := c.def_ 10 (d := d_check_bounds) rfl; ⟨_, fd, He.glo_ok X G (c.fact 10 (f := .glo "check_bounds") rfl), F⟩), (let ⟨fd, F⟩ := c.def_ 11 (d := d_is_far) rfl; ⟨_, fd, He.glo_ok X G (c.fact 11 (f := .glo "is_far") rfl), F⟩), (let ⟨fd, F⟩ := c.def_ 12 (d := d_is_part) rfl; ⟨_, fd, He.glo_ok X G (c.fact 12 (f := .glo "is_part") rfl), F⟩), (let ⟨fd, F⟩ := c.def_ 13 (d := d_many_of) rfl; ⟨_, fd, He.glo_ok X G (c.fact 13 (f := .glo "many_of") rfl), F⟩), (let ⟨fd, F⟩ := c.def_ 14 (d := d_at_part) rfl; ⟨_, fd, He.glo_ok X G (c.fact 14 (f := .glo "at_part") rfl), F⟩), (let ⟨fd, F⟩ := c.def_ 15 (d := d_ends_of) rfl; ⟨_, fd, He.glo_ok X G (c.fact 15 (f := .glo "ends_of") rfl), F⟩), (let ⟨fd, F⟩ := c.def_ 16 (d := d_is_empty) rfl; ⟨_, fd, He.glo_ok X G (c.fact 16 (f := .glo "is_empty") rfl), F⟩), (let ⟨fd, F⟩ := c.def_ 17 (d := d_check_section) rfl; ⟨_, fd, He.glo_ok X G (c.fact 17 (f := .glo "check_section") rfl), F⟩), (let ⟨fd, F⟩ := c.def_ 18 (d := d_check_pair) rfl; ⟨_, fd, He.glo_ok X G (c.fact 18 (f := .glo "check_pair") rfl), F⟩), (let ⟨fd, F⟩ := c.def_ 19 (d := d_product) rfl; ⟨_, fd, He.glo_ok X G (c.fact 19 (f := .glo "product") rfl), F⟩), (let ⟨fd, F⟩ := c.def_ 20 (d := d_gcd) rfl; ⟨_, fd, He.glo_ok X G (c.fact 20 (f := .glo "gcd") rfl), F⟩), (let ⟨fd, F⟩ := c.def_ 21 (d := d_lcm) rfl; ⟨_, fd, He.glo_ok X G (c.fact 21 (f := .glo "lcm") rfl), F⟩), (let ⟨fd, F⟩ := c.def_ 22 (d := d_inverse) rfl; ⟨_, fd, He.glo_ok X G (c.fact 22 (f := .glo "inverse") rfl), F⟩), (let ⟨fd, F⟩ := c.def_ 23 (d := d_meeting) rfl; ⟨_, fd, He.glo_ok X G (c.fact 23 (f := .glo "meeting") rfl), F⟩), (let ⟨fd, F⟩ := c.def_ 24 (d := d_few_of) rfl; ⟨_, fd, He.glo_ok X G (c.fact 24 (f := .glo "few_of") rfl), F⟩), (let ⟨fd, F⟩ := c.def_ 25 (d := d_has_subscript) rfl; ⟨_, fd, He.glo_ok X G (c.fact 25 (f := .glo "has_subscript") rfl), F⟩), (let ⟨fd, F⟩ := c.def_ 26 (d := d_shared_part) rfl; ⟨_, fd, He.glo_ok X G (c.fact 26 (f := .glo "shared_part") rfl), F⟩), (let ⟨fd, F⟩ := c.def_ 27 (d := d_shared_in) rfl; ⟨_, fd, He.glo_ok X G (c.fact 27 (f := .glo "shared_in") rfl), F⟩), (let ⟨fd, F⟩ := c.def_ 28 (d := d_shared) rfl; ⟨_, fd, He.glo_ok X G (c.fact 28 (f := .glo "shared") rfl), F⟩), (let ⟨fd, F⟩ := c.def_ 29 (d := d_includes_in) rfl; ⟨_, fd, He.glo_ok X G (c.fact 29 (f := .glo "includes_in") rfl), F⟩), (let ⟨fd, F⟩ := c.def_ 30 (d := d_includes) rfl; ⟨_, fd, He.glo_ok X G (c.fact 30 (f := .glo "includes") rfl), F⟩), (let ⟨fd, F⟩ := c.def_ 31 (d := d_same_set) rfl; ⟨_, fd, He.glo_ok X G (c.fact 31 (f := .glo "same_set") rfl), F⟩), (let ⟨fd, F⟩ := c.def_ 32 (d := d__law_many) rfl; ⟨_, fd, He.glo_ok X G (c.fact 32 (f := .glo "_law_many") rfl), F⟩), (let ⟨fd, F⟩ := c.def_ 33 (d := d__law_divisor) rfl; ⟨_, fd, He.glo_ok X G (c.fact 33 (f := .glo "_law_divisor") rfl), F⟩), (let ⟨fd, F⟩ := c.def_ 34 (d := d__law_span) rfl; ⟨_, fd, He.glo_ok X G (c.fact 34 (f := .glo "_law_span") rfl), F⟩), (let ⟨fd, F⟩ := c.def_ 35 (d := d__law_has) rfl; ⟨_, fd, He.glo_ok X G (c.fact 35 (f := .glo "_law_has") rfl), F⟩), (let ⟨fd, F⟩ := c.def_ 36 (d := d__law_few) rfl; ⟨_, fd, He.glo_ok X G (c.fact 36 (f := .glo "_law_few") rfl), F⟩), (let ⟨fd, F⟩ := c.def_ 37 (d := d__law_met) rfl; ⟨_, fd, He.glo_ok X G (c.fact 37 (f := .glo "_law_met") rfl), F⟩), (let ⟨fd, F⟩ := c.def_ 38 (d := d__law_due) rfl; ⟨_, fd, He.glo_ok X G (c.fact 38 (f := .glo "_law_due") rfl), F⟩), (let ⟨fd, F⟩ := c.def_ 39 (d := d__law_alone) rfl; ⟨_, fd, He.glo_ok X G (c.fact 39 (f := .glo "_law_alone") rfl), F⟩), (let ⟨fd, F⟩ := c.def_ 40 (d := d__law_within) rfl; ⟨_, fd, He.glo_ok X G (c.fact 40 (f := .glo "_law_within") rfl), F⟩), (let ⟨fd, F⟩ := c.def_ 41 (d := d__law_judged) rfl; ⟨_, fd, He.glo_ok X G (c.fact 41 (f := .glo "_law_judged") rfl), F⟩), (let ⟨fd, F⟩ := c.def_ 42 (d := d__law_right) rfl; ⟨_, fd, He.glo_ok X G (c.fact 42 (f := .glo "_law_right") rfl), F⟩), (let ⟨fd, F⟩ := c.def_ 43 (d := d_law) rfl; ⟨_, fd, He.glo_ok X G (c.fact 43 (f := .glo "law") rfl), F⟩)⟩
end G

open PySem PySem.W PySem.Calls PyProof.Rows
set_option maxRecDepth 100000 in
set_option maxHeartbeats 0 in
theorem PySem.Challenge.cw_sectionwise_k14_whole_far_sections_that_holds : PySem.Challenge.rw_sectionwise_k14_whole_far_sections_that.Holds := by
  w_on; o_law
  refine HandSHeadRun.head_any (r := OpenLaw.row PySem.Challenge.rw_sectionwise_k14_whole_far_sections_that) (q := view (OpenLaw.row PySem.Challenge.rw_sectionwise_k14_whole_far_sections_that).prog [52]) (H := G.hk) (ob := G.ob) (M := 4000) (loose := G.loose) (d := HandSHeadRun.topDef (OpenLaw.row PySem.Challenge.rw_sectionwise_k14_whole_far_sections_that).prog 52) (kwd := []) G.ob_eq
    (by kernel_rfl) (fun s => by kernel_rfl) G.run (by kernel_rfl) (by kernel_rfl) (by kernel_rfl) (by rfl) (by first | assumption | decide +kernel) (by decide +kernel) ⟨rfl, rfl, rfl, rfl, rfl, by decide +kernel⟩ ?hw ?hc
  case hw => w_witness2
  case hc =>
    refine PL.walk_law (l := PySem.Challenge.rw_sectionwise_k14_whole_far_sections_that) (n := 63) (k := 10) (x := "_law_script") (F := G.F_law) rfl (by decide) (by kernel_rfl) ⟨rfl, by decide, by decide⟩ ?F G.law_true
    intro w mg h Y G'
    obtain ⟨K, KX, c, cx⟩ := Y
    have hd := G.hd_of KX G' c cx
    obtain ⟨f, fd, hm, F⟩ := hd.f_law
    have b := L2.FunD.bindsA (ps := ["_law_script"]) F fun _ _ _ _ _ _ us hl => match us, hl with | [_], _ => rfl
    refine ⟨K, f, fd, KX, ?_, fun s u => b s [u] rfl, fun base => G.cal_all hd F⟩
    have e : (HandSHeadRun.topDef (OpenLaw.row PySem.Challenge.rw_sectionwise_k14_whole_far_sections_that).prog 52).name = ("law" : PySem.Str) := by kernel_rfl
    rw [e]
    exact hm

