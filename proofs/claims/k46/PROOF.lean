import PyProof.Rows.All
import Wide.All
import OpenK.AllK
import Wide.FinOn
import KE.KNest
import HandS.Lambda
import HandS.HeadHook1
import HandS.ForMost
import HandS.ForExc
import HandS.Wide
import HandS.IsInst
import HandS.CallSlots
import HandS.Dict
import HandS.TupAny
import HandS.Defaults
import HandS.SortInts
import HandS.Style
import HandS.HeadHook2
import KE.GoesZip
import KE.GoesMore
import KE.GoesEnum
import HandS.Iter
import HandS.Zip
import PyProof.ReprRoads
import HandS.ExcInit
import HandS.ExcField
import HandS.TryOnly
import KE.KExcInit
import HandS.Words
import HandS.SetFor
import HandS.Strs
import PyProof.Rows.SortShellAny
import HandS.Conv
import HandS.EndTab
import HandS.Codes
import HandS.Deep
import KE.DataMinMax
import KE.KDictSum
import KE.KDictPairs
import KE.SortData
import HandS.TupLen
import KE.KDictZip
import HandS.DictTup
import KE.KStateDown
import HandS.More
import HandS.Head0
import HandS.Head1
import HandS.Head2
import HandS.HeadEnd
import PySem.Challenge.RW_sectionwise_k46_whole_shifts
set_option Elab.async false
set_option linter.all false
set_option maxRecDepth 100000
set_option maxHeartbeats 4000000
set_option exponentiation.threshold 5000
/-! PL0: what a law's walk is set to (claim.py writes both rows anew for each law): the defs that make lambdas; whether repr is called. -/
namespace PL
open PySem PySem.Spec PyProof.Rows L2
def lamDefs : List Str := []
def reprs : Bool := true
/-- the name of a def's lambdas -/
def lamN (x : Str) : Str := x ++ ".<locals>." ++ "<lambda>"
def tabsK (K : PySem.W.Frag) : List (Addr × Str) := lamDefs.filterMap fun x => (PySem.W.tabIn K x).map fun q => (q.2, lamN x)
/-- tables of code objects: neither frozen nor guarded, and as they should be -/
structure TabR (K : PySem.W.Frag) (G S H : Hp) : Prop where
  st : ∀ a ps, S a ≠ some (.tbl ps)
  gt : ∀ a ps, G a ≠ some (.tbl ps)
  tb : LamX.Tabs (tabsK K) H
theorem tabS_upd {H : Hp} {P p : Addr} {q : Str} {u : HO} (t : LamX.TabS H P q) (hp : H p = none ∨ ∃ vs, H p = some (.lst vs)) : LamX.TabS (upd H p u) P q := by
  obtain ⟨ps, h1, h2, h3⟩ := t
  have ne : ∀ {b : Addr} {o : HO}, H b = some o → (∀ vs, o ≠ .lst vs) → b ≠ p := fun {b o} e n z => by
    rw [z] at e
    rcases hp with hp | ⟨vs, hp⟩
    · rw [hp] at e; cases e
    · rw [hp] at e; exact n vs (Option.some.inj e).symm
  refine ⟨ps, by rw [upd_ne (ne h1 fun vs z => by cases z)]; exact h1, h2, fun pos cv hc => ?_⟩
  obtain ⟨c, e1, e2⟩ := h3 pos cv hc
  exact ⟨c, e1, by rw [upd_ne (ne e2 fun vs z => by unfold LamX.CodeO at z; cases z)]; exact e2⟩
section
variable {K : PySem.W.Frag} {G S H : Hp} {p : Addr}
theorem TabR.h (t : TabR K G S H) (hp : H p = none ∨ ∃ vs, H p = some (.lst vs)) (u : HO) : TabR K G S (upd H p u) := ⟨t.st, t.gt, fun q hq => tabS_upd (t.tb q hq) hp⟩
theorem upd_nt {S : Hp} {o : HO} (t : ∀ a ps, S a ≠ some (.tbl ps)) (ho : ∀ ps, o ≠ .tbl ps) : ∀ a ps, upd S p o a ≠ some (.tbl ps) := fun a ps z => by
  by_cases e : a = p
  · subst e
    rw [upd_same] at z
    exact ho ps (Option.some.inj z)
  · rw [upd_ne e] at z
    exact t a ps z
theorem TabR.s (t : TabR K G S H) {o : HO} (ho : ∀ ps, o ≠ .tbl ps) : TabR K G (upd S p o) H := ⟨upd_nt t.st ho, t.gt, t.tb⟩
theorem TabR.g (t : TabR K G S H) {o : HO} (ho : ∀ ps, o ≠ .tbl ps) : TabR K (upd G p o) S H := ⟨t.st, upd_nt t.gt ho, t.tb⟩
theorem TabR.ung (t : TabR K (upd G p o) S H) (hg : G p = none) : TabR K G S H := ⟨t.st, fun a ps z => t.gt a ps (by rw [upd_ne (ne_of_none z hg)]; exact z), t.tb⟩
end
end PL

/-! PL1: the pure layer's core: data, memory, results, relations, judgements. -/
namespace PL
open PySem PySem.Spec PyProof.Rows L2
abbrev St := L2.St

/-! ### data -/
inductive D where
  | non | bl (b : Bool) | int (i : Int) | str (x : Str) | tup (xs : List D) | lst (xs : List D) | fn (x : Str) | ty (n : String) | scr (ns : List Int) | ks (ns : List Int) | dt (kss : List (List Int)) (ds : List D)
/-- what an expression gives: data, or an own list by its number -/
inductive SV where
  | dat (d : D) | ref (n : Nat)
inductive Cell where
  | lst (xs : List D) | dct (kvs : List (Key × D)) | dead | pair (d : D) (xs : List D) | dtc (kss : List (List Int)) (ds : List D)
abbrev Mem := List Cell
abbrev En := List (Option SV)
structure Exc where
  cls : Str
  fs : List (Str × D)
inductive R (α : Type) where
  | ok (a : α) (m : Mem) | exc (x : Exc) (m : Mem) | stuck
abbrev P (α : Type) := Mem → R α
def P.ret {α : Type} (a : α) : P α := fun m => .ok a m
def P.stk {α : Type} : P α := fun _ => .stuck
def R.bnd {α β : Type} (r : R α) (f : α → Mem → R β) : R β := match r with
  | .ok a m => f a m
  | .exc e m => .exc e m
  | .stuck => .stuck
def P.bnd {α β : Type} (x : P α) (f : α → P β) : P β := fun m => (x m).bnd f
def wpr {α : Type} (r : R α) (Q : α → Mem → Prop) (E : Exc → Mem → Prop) : Prop := match r with
  | .ok a m => Q a m
  | .exc x m => E x m
  | .stuck => False
theorem wpr_bnd {α β : Type} {x : P α} {f : α → P β} {m : Mem} {Q : β → Mem → Prop} {E : Exc → Mem → Prop} (h : wpr (P.bnd x f m) Q E) : wpr (x m) (fun a m' => wpr (f a m') Q E) E := by
  unfold P.bnd R.bnd at h
  cases e : x m with
  | ok a m' => rw [e] at h; exact h
  | exc y m' => rw [e] at h; exact h
  | stuck => rw [e] at h; exact h
theorem wpr_mono {α : Type} {r : R α} {Q Q' : α → Mem → Prop} {E E' : Exc → Mem → Prop} (h : wpr r Q E) (hQ : ∀ a m, Q a m → Q' a m) (hE : ∀ x m, E x m → E' x m) : wpr r Q' E' := by
  cases r with
  | ok a m => exact hQ a m h
  | exc x m => exact hE x m h
  | stuck => exact h
theorem wpr_monoQ {α : Type} {r : R α} {Q Q' : α → Mem → Prop} {E : Exc → Mem → Prop} (h : wpr r Q E) (hQ : ∀ a m, Q a m → Q' a m) : wpr r Q' E := wpr_mono h hQ fun _ _ x => x

/-! ### relations -/
structure Gd where
  K : PySem.W.Frag
  mg : Str → Option Value
abbrev gd (X : Cx) : Gd := ⟨X.K, X.mg⟩
/-- the entries of a dict whose keys are tuples of ints -/
inductive EntR (K : PySem.W.Frag) (S : Hp) : List DictEntry → List (List Int) → List V → Prop
  | nil : EntR K S [] [] []
  | cons {e : DictEntry} {es : List DictEntry} {b : Addr} {k : List Int} {kss : List (List Int)} {v : V} {vs : List V} : (∀ (P : Program) (w : World), e.hash = (tupleKind (mixKind P w)).hash (k.map Sum.inl)) → e.key = .ref b → SqT K S b (k.map V.int) → L2.RelV v e.val → EntR K S es kss vs → EntR K S (e :: es) (k :: kss) (v :: vs)
mutual
inductive Rp (Γ : Gd) (S : Hp) : V → D → Prop
  | non : Rp Γ S .non .non
  | bl (b : Bool) : Rp Γ S (.bl b) (.bl b)
  | int (i : Int) : Rp Γ S (.int i) (.int i)
  | str (x : Str) : Rp Γ S (.str x) (.str x)
  | ty (n : String) : Rp Γ S (.ty n) (.ty n)
  | lst {a : Addr} {vs : List V} {ds : List D} : S a = some (.lst vs) → RpAll Γ S vs ds → Rp Γ S (.ref a) (.lst ds)
  | scr {a : Addr} {ns : List Int} : SqL Γ.K S a (ns.map V.int) → Rp Γ S (.ref a) (.scr ns)
  | tup {a : Addr} {vs : List V} {ds : List D} : SqT Γ.K S a vs → RpAll Γ S vs ds → Rp Γ S (.ref a) (.tup ds)
  | fn {x : Str} {a : Addr} : Γ.mg x = some (.ref a) → Rp Γ S (.ref a) (.fn x)
  | ks {a : Addr} {o : Obj} {ns : List Int} : S a = some (.frz o (.dK (ns.map fun n => ((Sum.inl n : Key), V.bl true)))) → Rp Γ S (.ref a) (.ks ns)
  | dt {a : Addr} {o : Obj} {es : Array DictEntry} {ep : Nat} {kss : List (List Int)} {vs : List V} {ds : List D} : S a = some (.frz o (.ext fun _ => True)) → o.ExactDict → o.data = .dict es ep → (a == sysModules) = false → es.size ≤ sizeLine → kss.Nodup → EntR Γ.K S es.toList kss vs → RpAll Γ S vs ds → Rp Γ S (.ref a) (.dt kss ds)
inductive RpAll (Γ : Gd) (S : Hp) : List V → List D → Prop
  | nil : RpAll Γ S [] []
  | cons {v : V} {vs : List V} {d : D} {ds : List D} : Rp Γ S v d → RpAll Γ S vs ds → RpAll Γ S (v :: vs) (d :: ds)
end
theorem Same.seqT {K : PySem.W.Frag} {H H' : Hp} {a : Addr} {xs : List V} (e : Same H H') (h : SqT K H a xs) : SqT K H' a xs := by
  rcases h with (h | ⟨o, h⟩) | h
  · exact .inl (.inl (e _ _ h))
  · exact .inl (.inr ⟨o, e _ _ h⟩)
  · exact .inr h
theorem EntR.mono {K : PySem.W.Frag} {S S' : Hp} (e : Same S S') : ∀ {es : List DictEntry} {kss : List (List Int)} {vs : List V}, EntR K S es kss vs → EntR K S' es kss vs
  | _, _, _, .nil => .nil
  | _, _, _, .cons h1 h2 h3 h4 r => .cons h1 h2 (Same.seqT e h3) h4 (EntR.mono e r)
mutual
theorem Rp.mono {Γ : Gd} {S S' : Hp} (e : Same S S') : ∀ {v : V} {d : D}, Rp Γ S v d → Rp Γ S' v d
  | _, _, .non => .non
  | _, _, .bl b => .bl b
  | _, _, .int i => .int i
  | _, _, .str x => .str x
  | _, _, .ty n => .ty n
  | _, _, .lst h r => .lst (e _ _ h) (RpAll.mono e r)
  | _, _, .scr h => .scr (e.seq h)
  | _, _, .tup h r => .tup (Same.seqT e h) (RpAll.mono e r)
  | _, _, .fn h => .fn h
  | _, _, .ks h => .ks (e _ _ h)
  | _, _, .dt h h1 h2 h3 h4 h5 q r => .dt (e _ _ h) h1 h2 h3 h4 h5 (EntR.mono e q) (RpAll.mono e r)
theorem RpAll.mono {Γ : Gd} {S S' : Hp} (e : Same S S') : ∀ {vs : List V} {ds : List D}, RpAll Γ S vs ds → RpAll Γ S' vs ds
  | _, _, .nil => .nil
  | _, _, .cons h r => .cons (Rp.mono e h) (RpAll.mono e r)
end
theorem RpAll.length {Γ : Gd} {S : Hp} : ∀ {vs : List V} {ds : List D}, RpAll Γ S vs ds → vs.length = ds.length
  | _, _, .nil => rfl
  | _, _, .cons _ r => by rw [List.length_cons, List.length_cons, RpAll.length r]
theorem RpAll.get {Γ : Gd} {S : Hp} : ∀ {vs : List V} {ds : List D} {i : Nat} {d : D}, RpAll Γ S vs ds → ds[i]? = some d → ∃ v, vs[i]? = some v ∧ Rp Γ S v d
  | _, _, _, _, .nil, e => by simp at e
  | _, _, 0, _, .cons h _, e => by simp at e; subst e; exact ⟨_, rfl, h⟩
  | _, _, i + 1, d, .cons _ r, e => by
    obtain ⟨v, h1, h2⟩ := RpAll.get (i := i) (d := d) r (by simpa using e)
    exact ⟨v, by simpa using h1, h2⟩
theorem RpAll.get' {Γ : Gd} {S : Hp} : ∀ {vs : List V} {ds : List D} {i : Nat} {v : V}, RpAll Γ S vs ds → vs[i]? = some v → ∃ d, ds[i]? = some d ∧ Rp Γ S v d
  | _, _, _, _, .nil, e => by simp at e
  | _, _, 0, _, .cons h _, e => by simp at e; subst e; exact ⟨_, rfl, h⟩
  | _, _, i + 1, d, .cons _ r, e => by
    obtain ⟨v, h1, h2⟩ := RpAll.get' (i := i) (v := d) r (by simpa using e)
    exact ⟨v, by simpa using h1, h2⟩
theorem RpAll.append {Γ : Gd} {S : Hp} : ∀ {vs ws : List V} {ds es : List D}, RpAll Γ S vs ds → RpAll Γ S ws es → RpAll Γ S (vs ++ ws) (ds ++ es)
  | _, _, _, _, .nil, s => s
  | _, _, _, _, .cons h r, s => .cons h (RpAll.append r s)
theorem RpAll.take {Γ : Gd} {S : Hp} : ∀ {vs : List V} {ds : List D} (n : Nat), RpAll Γ S vs ds → RpAll Γ S (vs.take n) (ds.take n)
  | _, _, 0, _ => .nil
  | _, _, _ + 1, .nil => .nil
  | _, _, n + 1, .cons h r => .cons h (RpAll.take n r)
theorem RpAll.drop {Γ : Gd} {S : Hp} : ∀ {vs : List V} {ds : List D} (n : Nat), RpAll Γ S vs ds → RpAll Γ S (vs.drop n) (ds.drop n)
  | _, _, 0, r => r
  | _, _, _ + 1, .nil => .nil
  | _, _, n + 1, .cons _ r => RpAll.drop n r
theorem RpAll.set {Γ : Gd} {S : Hp} {v : V} {d : D} (h : Rp Γ S v d) : ∀ {vs : List V} {ds : List D} (i : Nat), RpAll Γ S vs ds → RpAll Γ S (vs.set i v) (ds.set i d)
  | _, _, _, .nil => .nil
  | _, _, 0, .cons _ r => .cons h r
  | _, _, i + 1, .cons q r => .cons q (RpAll.set h i r)

def RSV (Γ : Gd) (S : Hp) (ρ : List Addr) (v : V) : SV → Prop
  | .dat d => Rp Γ S v d
  | .ref n => ∃ a, ρ[n]? = some a ∧ v = .ref a
/-- later -/
structure Ext (S : Hp) (ρ : List Addr) (S' : Hp) (ρ' : List Addr) : Prop where
  s : Same S S'
  r : ∀ (i : Nat) (a : Addr), ρ[i]? = some a → ρ'[i]? = some a
theorem Ext.refl (S : Hp) (ρ : List Addr) : Ext S ρ S ρ := ⟨Same.refl S, fun _ _ h => h⟩
theorem Ext.trans {S S1 S2 : Hp} {ρ ρ1 ρ2 : List Addr} (a : Ext S ρ S1 ρ1) (b : Ext S1 ρ1 S2 ρ2) : Ext S ρ S2 ρ2 := ⟨a.s.trans b.s, fun i x h => b.r i x (a.r i x h)⟩
theorem RSV.mono {Γ : Gd} {S S' : Hp} {ρ ρ' : List Addr} (e : Ext S ρ S' ρ') {v : V} {x : SV} (h : RSV Γ S ρ v x) : RSV Γ S' ρ' v x := by
  cases x with
  | dat d => exact Rp.mono e.s h
  | ref n => obtain ⟨a, h1, h2⟩ := h; exact ⟨a, e.r n a h1, h2⟩

/-- the pairs of a dict whose keys are ints and texts -/
inductive KvR (Γ : Gd) (S : Hp) : List (Key × V) → List (Key × D) → Prop
  | nil : KvR Γ S [] []
  | cons {k : Key} {v : V} {d : D} {vs : List (Key × V)} {kvs : List (Key × D)} : Rp Γ S v d → KvR Γ S vs kvs → KvR Γ S ((k, v) :: vs) ((k, d) :: kvs)
theorem KvR.mono {Γ : Gd} {S S' : Hp} (e : Same S S') {vs : List (Key × V)} {kvs : List (Key × D)} (h : KvR Γ S vs kvs) : KvR Γ S' vs kvs := by
  induction h with
  | nil => exact .nil
  | cons r _ ih => exact .cons (r.mono e) ih
/-- own dicts -/
structure DicR (Γ : Gd) (G S H : Hp) (ρ : List Addr) (m : Mem) : Prop where
  cell : ∀ (i : Nat) (kvs : List (Key × D)), m[i]? = some (.dct kvs) → ∃ a vs, ρ[i]? = some a ∧ H a = some (.dK vs) ∧ KvR Γ S vs kvs ∧ S a = none ∧ G a = none
  inj : ∀ (i j : Nat) (xs ys : List (Key × D)) (a : Addr), m[i]? = some (.dct xs) → m[j]? = some (.dct ys) → ρ[i]? = some a → ρ[j]? = some a → i = j
section
variable {Γ : Gd} {G S S' H : Hp} {ρ : List Addr} {m : Mem} {p : Addr}
/-- another heap at an address that is no dict's -/
theorem DicR.h (t : DicR Γ G S H ρ m) (hp : H p = none ∨ ∃ vs, H p = some (.lst vs)) (u : HO) : DicR Γ G S (upd H p u) ρ m := ⟨fun i kvs q => by
  obtain ⟨a, vs, h1, h2, h3⟩ := t.cell i kvs q
  refine ⟨a, vs, h1, ?_, h3⟩
  rw [upd_ne (fun z => by
    rw [z] at h2
    rcases hp with hp | ⟨ws, hp⟩ <;> rw [hp] at h2 <;> cases h2)]
  exact h2, t.inj⟩
theorem DicR.s (t : DicR Γ G S H ρ m) (e : Same S S') (hs : ∀ a vs, H a = some (.dK vs) → S a = none → S' a = none) : DicR Γ G S' H ρ m := ⟨fun i kvs q => by
  obtain ⟨a, vs, h1, h2, h3, h4, h5⟩ := t.cell i kvs q
  exact ⟨a, vs, h1, h2, h3.mono e, hs a vs h2 h4, h5⟩, t.inj⟩
theorem DicR.g {G' : Hp} (t : DicR Γ G S H ρ m) (hg : ∀ a vs, H a = some (.dK vs) → G a = none → G' a = none) : DicR Γ G' S H ρ m := ⟨fun i kvs q => by
  obtain ⟨a, vs, h1, h2, h3, h4, h5⟩ := t.cell i kvs q
  exact ⟨a, vs, h1, h2, h3, h4, hg a vs h2 h5⟩, t.inj⟩
/-- one cell more, or another one, that is no dict -/
theorem DicR.cells {ρ' : List Addr} {m' : Mem} (t : DicR Γ G S H ρ m) (hm : ∀ (i : Nat) (kvs : List (Key × D)), m'[i]? = some (.dct kvs) → m[i]? = some (.dct kvs)) (hr : ∀ (i : Nat) (a : Addr) (kvs : List (Key × D)), m'[i]? = some (.dct kvs) → ρ[i]? = some a → ρ'[i]? = some a) : DicR Γ G S H ρ' m' := by
  refine ⟨fun i kvs q => ?_, fun i j xs ys a q1 q2 q3 q4 => ?_⟩
  · obtain ⟨a, vs, h1, h2⟩ := t.cell i kvs (hm i kvs q)
    exact ⟨a, vs, hr i a kvs q h1, h2⟩
  · obtain ⟨a1, _, g1, _⟩ := t.cell i xs (hm i xs q1)
    obtain ⟨a2, _, g2, _⟩ := t.cell j ys (hm j ys q2)
    have e1 := hr i a1 xs q1 g1
    have e2 := hr j a2 ys q2 g2
    rw [q3] at e1
    rw [q4] at e2
    cases e1
    cases e2
    exact t.inj i j xs ys _ (hm i xs q1) (hm j ys q2) g1 g2
theorem dct_app {m : Mem} {c : Cell} (hc : ∀ kvs, c ≠ .dct kvs) {i : Nat} {kvs : List (Key × D)} (h : (m ++ [c])[i]? = some (.dct kvs)) : m[i]? = some (.dct kvs) := by
  by_cases hi : i < m.length
  · rw [List.getElem?_append_left hi] at h; exact h
  · rw [List.getElem?_append_right (by omega)] at h
    have h0 : i - m.length = 0 := by
      have := (List.getElem?_eq_some_iff.mp h).1
      simp at this
      omega
    rw [h0] at h
    simp at h
    exact absurd h (hc kvs)
theorem dct_set {m : Mem} {c : Cell} (hc : ∀ kvs, c ≠ .dct kvs) {j i : Nat} {kvs : List (Key × D)} (h : (m.set j c)[i]? = some (.dct kvs)) : m[i]? = some (.dct kvs) := by
  by_cases e : j = i
  · subst e
    by_cases hl : j < m.length
    · rw [List.getElem?_set_self hl] at h
      exact absurd (Option.some.inj h) (hc kvs)
    · rw [List.getElem?_eq_none (by rw [List.length_set]; omega)] at h
      cases h
  · rw [List.getElem?_set_ne e] at h
    exact h
theorem r_app {ρ : List Addr} {p : Addr} {i : Nat} {a : Addr} (h : ρ[i]? = some a) : (ρ ++ [p])[i]? = some a := by
  rw [List.getElem?_append_left (List.getElem?_eq_some_iff.mp h).1]; exact h
theorem upd_free {S : Hp} {o : HO} {a p : Addr} (h : S a = none) (n : a ≠ p) : upd S p o a = none := by rw [upd_ne n]; exact h
end
/-! ### own pairs (data, own list), own dicts with tuples as keys -/
def Cell.mix : Cell → Bool
  | .pair _ _ => true
  | .dtc _ _ => true
  | _ => false
/-- an own dict whose keys are tuples of ints -/
def dtW (a : Addr) (es : List DictEntry) : HO := .ext fun h => ∃ o ep, h.get? a = some o ∧ o.ExactDict ∧ o.data = .dict es.toArray ep
def MixA (S : Hp) (ρ : List Addr) (m : Mem) (i : Nat) (b : Addr) : Prop :=
  (∃ d xs a v, m[i]? = some (.pair d xs) ∧ ρ[i]? = some a ∧ S a = some (.tup [v, .ref b])) ∨ ∃ kss ds, m[i]? = some (.dtc kss ds) ∧ ρ[i]? = some b
structure MixR (Γ : Gd) (G S H : Hp) (ρ : List Addr) (m : Mem) : Prop where
  pair : ∀ (i : Nat) (d : D) (xs : List D), m[i]? = some (.pair d xs) → ∃ a b v vs, ρ[i]? = some a ∧ S a = some (.tup [v, .ref b]) ∧ Rp Γ S v d ∧ H b = some (.lst vs) ∧ RpAll Γ S vs xs ∧ S b = none ∧ G b = none
  dtc : ∀ (i : Nat) (kss : List (List Int)) (ds : List D), m[i]? = some (.dtc kss ds) → ∃ a es vs, ρ[i]? = some a ∧ H a = some (dtW a es) ∧ (a == sysModules) = false ∧ es.length ≤ sizeLine ∧ kss.Nodup ∧ EntR Γ.K S es kss vs ∧ RpAll Γ S vs ds ∧ S a = none ∧ G a = none
  inj : ∀ (i j : Nat) (b : Addr), MixA S ρ m i b → MixA S ρ m j b → i = j
  crs : ∀ (i j : Nat) (b : Addr) (xs : List D), MixA S ρ m i b → m[j]? = some (.lst xs) → ρ[j]? ≠ some b
section
variable {Γ : Gd} {G G' S S' H H' : Hp} {ρ ρ' : List Addr} {m m' : Mem} {p : Addr}
theorem MixR.own (t : MixR Γ G S H ρ m) {i : Nat} {b : Addr} (h : MixA S ρ m i b) : S b = none ∧ G b = none ∧ ∃ o, H b = some o ∧ (∀ ps, o ≠ .tbl ps) ∧ ∀ vs, o ≠ .dK vs := by
  rcases h with ⟨d, xs, a, v, h1, h2, h3⟩ | ⟨kss, ds, h1, h2⟩
  · obtain ⟨a', b', v', vs, g1, g2, _, g4, _, g6, g7⟩ := t.pair i d xs h1
    rw [h2] at g1
    cases g1
    rw [h3] at g2
    cases g2
    exact ⟨g6, g7, _, g4, (fun _ z => by cases z), (fun _ z => by cases z)⟩
  · obtain ⟨a', es, vs, g1, g2, _, _, _, _, _, g6, g7⟩ := t.dtc i kss ds h1
    rw [h2] at g1
    cases g1
    exact ⟨g6, g7, _, g2, (fun _ z => by cases z), (fun _ z => by cases z)⟩
theorem MixR.ne (t : MixR Γ G S H ρ m) {i : Nat} {b : Addr} (h : MixA S ρ m i b) (hp : H p = none) : b ≠ p := by
  obtain ⟨_, _, o, h1, _⟩ := t.own h
  exact ne_of_none h1 hp
theorem MixR.step (t : MixR Γ G S H ρ m) (e : Same S S') (hb : ∀ (i : Nat) (b : Addr), MixA S ρ m i b → S' b = none ∧ G' b = none ∧ H' b = H b)
    (hm : ∀ (i : Nat) (c : Cell), m'[i]? = some c → c.mix = true → m[i]? = some c) (hr : ∀ (i : Nat) (a : Addr) (c : Cell), m'[i]? = some c → c.mix = true → ρ[i]? = some a → ρ'[i]? = some a)
    (hl : ∀ (i : Nat) (b : Addr) (j : Nat) (xs : List D), MixA S ρ m i b → m'[j]? = some (.lst xs) → ρ'[j]? ≠ some b) : MixR Γ G' S' H' ρ' m' := by
  have key : ∀ (i : Nat) (b : Addr), MixA S' ρ' m' i b → MixA S ρ m i b := fun i b h => by
    rcases h with ⟨d, xs, a, v, h1, h2, h3⟩ | ⟨kss, ds, h1, h2⟩
    · have q := hm i _ h1 rfl
      obtain ⟨a', b', v', vs, g1, g2, _⟩ := t.pair i d xs q
      have q2 := hr i a' _ h1 rfl g1
      rw [h2] at q2
      cases q2
      have q3 := e _ _ g2
      rw [h3] at q3
      cases q3
      exact .inl ⟨d, xs, a, v, q, g1, g2⟩
    · have q := hm i _ h1 rfl
      obtain ⟨a', es, vs, g1, _⟩ := t.dtc i kss ds q
      have q2 := hr i a' _ h1 rfl g1
      rw [h2] at q2
      cases q2
      exact .inr ⟨kss, ds, q, g1⟩
  refine ⟨fun i d xs h => ?_, fun i kss ds h => ?_, fun i j b h1 h2 => t.inj i j b (key i b h1) (key j b h2), fun i j b xs h1 h2 => hl i b j xs (key i b h1) h2⟩
  · have q := hm i _ h rfl
    obtain ⟨a, b, v, vs, g1, g2, g3, g4, g5, g6, g7⟩ := t.pair i d xs q
    obtain ⟨k1, k2, k3⟩ := hb i b (.inl ⟨d, xs, a, v, q, g1, g2⟩)
    exact ⟨a, b, v, vs, hr i a _ h rfl g1, e _ _ g2, g3.mono e, by rw [k3]; exact g4, g5.mono e, k1, k2⟩
  · have q := hm i _ h rfl
    obtain ⟨a, es, vs, g1, g2, g3, g4, g5, g6, g6', g7, g8⟩ := t.dtc i kss ds q
    obtain ⟨k1, k2, k3⟩ := hb i a (.inr ⟨kss, ds, q, g1⟩)
    exact ⟨a, es, vs, hr i a _ h rfl g1, by rw [k3]; exact g2, g3, g4, g5, g6.mono e, g6'.mono e, k1, k2⟩
theorem mix_app {m : Mem} {c : Cell} (hc : c.mix = false) {i : Nat} {c' : Cell} (h : (m ++ [c])[i]? = some c') (h' : c'.mix = true) : m[i]? = some c' := by
  by_cases hi : i < m.length
  · rw [List.getElem?_append_left hi] at h; exact h
  · rw [List.getElem?_append_right (by omega)] at h
    have h0 : i - m.length = 0 := by
      have := (List.getElem?_eq_some_iff.mp h).1
      simp at this
      omega
    rw [h0] at h
    simp at h
    subst h
    rw [hc] at h'
    cases h'
theorem mix_set {m : Mem} {c : Cell} (hc : c.mix = false) {j i : Nat} {c' : Cell} (h : (m.set j c)[i]? = some c') (h' : c'.mix = true) : m[i]? = some c' := by
  by_cases e : j = i
  · subst e
    by_cases hl : j < m.length
    · rw [List.getElem?_set_self hl] at h
      cases h
      rw [hc] at h'
      cases h'
    · rw [List.getElem?_eq_none (by rw [List.length_set]; omega)] at h
      cases h
  · rw [List.getElem?_set_ne e] at h
    exact h
theorem lst_app {m : Mem} {c : Cell} (hc : ∀ xs, c ≠ .lst xs) {i : Nat} {xs : List D} (h : (m ++ [c])[i]? = some (.lst xs)) : m[i]? = some (.lst xs) := by
  by_cases hi : i < m.length
  · rw [List.getElem?_append_left hi] at h; exact h
  · rw [List.getElem?_append_right (by omega)] at h
    have h0 : i - m.length = 0 := by
      have := (List.getElem?_eq_some_iff.mp h).1
      simp at this
      omega
    rw [h0] at h
    simp at h
    exact absurd h (hc xs)
theorem lst_set {m : Mem} {c : Cell} (hc : ∀ xs, c ≠ .lst xs) {j i : Nat} {xs : List D} (h : (m.set j c)[i]? = some (.lst xs)) : m[i]? = some (.lst xs) := by
  by_cases e : j = i
  · subst e
    by_cases hl : j < m.length
    · rw [List.getElem?_set_self hl] at h
      exact absurd (Option.some.inj h) (hc xs)
    · rw [List.getElem?_eq_none (by rw [List.length_set]; omega)] at h
      cases h
  · rw [List.getElem?_set_ne e] at h
    exact h
/-- a new cell at an address that is no other's -/
theorem MixR.push (t : MixR Γ G S H ρ m) (hl : ρ.length = m.length) (hb : ∀ (i : Nat) (b : Addr), MixA S ρ m i b → H' b = H b) {c : Cell} (hc : c.mix = false) (hp : (∃ xs, c = .lst xs) → ∀ (i : Nat) (b : Addr), MixA S ρ m i b → b ≠ p) : MixR Γ G S H' (ρ ++ [p]) (m ++ [c]) := by
  refine t.step (Same.refl S) (fun i b q => ⟨(t.own q).1, (t.own q).2.1, hb i b q⟩) (fun i c' q1 q2 => mix_app hc q1 q2) (fun i a c' _ _ q => r_app q) fun i b j xs q1 q2 q3 => ?_
  by_cases hj : j < m.length
  · rw [List.getElem?_append_left hj] at q2
    rw [List.getElem?_append_left (by omega)] at q3
    exact t.crs i j b xs q1 q2 q3
  · have e : j = m.length := by
      have := (List.getElem?_eq_some_iff.mp q2).1
      simp at this
      omega
    subst e
    have e1 : c = .lst xs := by simpa using q2
    rw [← hl] at q3
    have e2 : p = b := by simpa using q3
    exact hp ⟨xs, e1⟩ i b q1 e2.symm
/-- an own list written -/
theorem MixR.put (t : MixR Γ G S H ρ m) {i : Nat} {xs ys : List D} {a : Addr} (hm : m[i]? = some (.lst xs)) (ha : ρ[i]? = some a) (o : HO) : MixR Γ G S (upd H a o) ρ (m.set i (.lst ys)) := by
  refine t.step (Same.refl S) (fun j b q => ⟨(t.own q).1, (t.own q).2.1, upd_ne fun z => t.crs j i b xs q hm (by rw [z]; exact ha)⟩) (fun j c' q1 q2 => mix_set rfl q1 q2) (fun _ _ _ _ _ q => q) fun k b j zs q1 q2 q3 => ?_
  by_cases e : i = j
  · subst e
    exact t.crs k i b xs q1 hm q3
  · rw [List.getElem?_set_ne e] at q2
    exact t.crs k j b zs q1 q2 q3
/-- an own list frozen -/
theorem MixR.frz (t : MixR Γ G S H ρ m) {i : Nat} {xs : List D} {a : Addr} {o : HO} (hm : m[i]? = some (.lst xs)) (ha : ρ[i]? = some a) (e : Same S (upd S a o)) : MixR Γ G (upd S a o) H ρ (m.set i .dead) := by
  refine t.step e (fun j b q => ⟨upd_free (t.own q).1 fun z => t.crs j i b xs q hm (by rw [z]; exact ha), (t.own q).2.1, rfl⟩) (fun j c' q1 q2 => mix_set rfl q1 q2) (fun _ _ _ _ _ q => q) fun k b j zs q1 q2 q3 => t.crs k j b zs q1 (lst_set (fun _ z => by cases z) q2) q3
/-- no cell stands at p -/
def NoCell (S : Hp) (ρ : List Addr) (m : Mem) (p : Addr) : Prop := (∀ (i : Nat) (xs : List D), m[i]? = some (.lst xs) → ρ[i]? ≠ some p) ∧ ∀ (i : Nat), ¬ MixA S ρ m i p
/-- the memory as it was -/
theorem MixR.same (t : MixR Γ G S H ρ m) (e : Same S S') (hb : ∀ (i : Nat) (b : Addr), MixA S ρ m i b → S' b = none ∧ G' b = none ∧ H' b = H b) : MixR Γ G' S' H' ρ m :=
  t.step e hb (fun _ _ h _ => h) (fun _ _ _ _ _ h => h) fun i b j xs h1 h2 => t.crs i j b xs h1 h2
end
theorem MixR.none {Γ : Gd} {G S H : Hp} : MixR Γ G S H [] [] := ⟨(fun i d xs e => by simp at e), (fun i k d e => by simp at e), (fun i j b e => by rcases e with ⟨_, _, _, _, e, _⟩ | ⟨_, _, e, _⟩ <;> simp at e), (fun i j b xs e => by rcases e with ⟨_, _, _, _, e, _⟩ | ⟨_, _, e, _⟩ <;> simp at e)⟩
/-- the memory: S what is frozen, G what is guarded, H the heap -/
structure MR (Γ : Gd) (G S H : Hp) (ρ : List Addr) (m : Mem) : Prop where
  sub : Same S H
  gsub : Same G H
  dis : ∀ a o, G a = some o → S a = none
  len : ρ.length = m.length
  cell : ∀ (i : Nat) (xs : List D), m[i]? = some (.lst xs) → ∃ a vs, ρ[i]? = some a ∧ H a = some (.lst vs) ∧ RpAll Γ S vs xs ∧ S a = none ∧ G a = none
  inj : ∀ (i j : Nat) (xs ys : List D) (a : Addr), m[i]? = some (.lst xs) → m[j]? = some (.lst ys) → ρ[i]? = some a → ρ[j]? = some a → i = j
  tab : TabR Γ.K G S H
  dic : DicR Γ G S H ρ m
  mix : MixR Γ G S H ρ m
structure ER (Γ : Gd) (S : Hp) (ρ : List Addr) (env : En) (σ : St) : Prop where
  len : env.length = σ.length
  at_ : ∀ (i : Nat) (v : SV), env[i]? = some (some v) → ∃ vv, σ[i]? = some (some vv) ∧ RSV Γ S ρ vv v
theorem ER.mono {Γ : Gd} {S S' : Hp} {ρ ρ' : List Addr} {env : En} {σ : St} (e : Ext S ρ S' ρ') (h : ER Γ S ρ env σ) : ER Γ S' ρ' env σ :=
  ⟨h.len, fun i v q => let ⟨vv, a, b⟩ := h.at_ i v q; ⟨vv, a, b.mono e⟩⟩
theorem ER.set {Γ : Gd} {S : Hp} {ρ : List Addr} {env : En} {σ : St} (h : ER Γ S ρ env σ) (i : Nat) {v : SV} {vv : V} (r : RSV Γ S ρ vv v) : ER Γ S ρ (env.set i (some v)) (σ.set i (some vv)) := by
  refine ⟨by rw [List.length_set, List.length_set]; exact h.len, fun j x q => ?_⟩
  by_cases e : i = j
  · subst e
    by_cases hl : i < env.length
    · rw [List.getElem?_set_self hl] at q
      cases q
      exact ⟨vv, List.getElem?_set_self (by rw [← h.len]; exact hl), r⟩
    · rw [List.getElem?_eq_none (by rw [List.length_set]; omega)] at q
      cases q
  · rw [List.getElem?_set_ne e] at q
    obtain ⟨w, a, b⟩ := h.at_ j x q
    exact ⟨w, by rw [List.getElem?_set_ne e]; exact a, b⟩
theorem ER.clear {Γ : Gd} {S : Hp} {ρ : List Addr} {env : En} {σ : St} (h : ER Γ S ρ env σ) (i : Nat) : ER Γ S ρ (env.set i none) (σ.set i none) := by
  refine ⟨by rw [List.length_set, List.length_set]; exact h.len, fun j x q => ?_⟩
  by_cases e : i = j
  · subst e
    by_cases hl : i < env.length
    · rw [List.getElem?_set_self hl] at q
      cases q
    · rw [List.getElem?_eq_none (by rw [List.length_set]; omega)] at q
      cases q
  · rw [List.getElem?_set_ne e] at q
    obtain ⟨w, a, b⟩ := h.at_ j x q
    exact ⟨w, by rw [List.getElem?_set_ne e]; exact a, b⟩

section
variable {Γ : Gd} {G S H : Hp} {ρ : List Addr} {m : Mem} {p : Addr}
/-- a new thing, frozen -/
theorem MR.grow (M : MR Γ G S H ρ m) (hp : H p = none) (o : HO) (ho : ∀ ps, o ≠ .tbl ps := by intro _ z; cases z) (hk : ∀ vs, o ≠ .dK vs := by intro _ z; cases z) : Same S (upd S p o) ∧ MR Γ G (upd S p o) (upd H p o) ρ m := by
  have sp : S p = none := M.sub.free hp
  have gp : G p = none := M.gsub.free hp
  have s1 : Same S (upd S p o) := fun b x q => by rw [upd_ne (ne_of_none q sp)]; exact q
  refine ⟨s1, ⟨fun b x q => ?_, fun b x q => ?_, fun b x q => ?_, M.len, fun i xs q => ?_, M.inj, (M.tab.h (.inl hp) o).s ho, (M.dic.h (.inl hp) o).s s1 fun a vs q z => upd_free z fun e => by rw [e, upd_same] at q; cases q; exact hk _ rfl, M.mix.same s1 fun i b q => ⟨upd_free (M.mix.own q).1 (M.mix.ne q hp), (M.mix.own q).2.1, upd_ne (M.mix.ne q hp)⟩⟩⟩
  · by_cases e : b = p
    · subst e; rw [upd_same] at q ⊢; exact q
    · rw [upd_ne e] at q ⊢; exact M.sub b x q
  · rw [upd_ne (ne_of_none q gp)]; exact M.gsub b x q
  · rw [upd_ne (ne_of_none q gp)]; exact M.dis b x q
  · obtain ⟨a, vs, h1, h2, h3, h4, h5⟩ := M.cell i xs q
    have ne : a ≠ p := ne_of_none h2 hp
    exact ⟨a, vs, h1, by rw [upd_ne ne]; exact h2, h3.mono s1, by rw [upd_ne ne]; exact h4, h5⟩
/-- a new own list -/
theorem MR.alloc (M : MR Γ G S H ρ m) (hp : H p = none) {vs : List V} {xs : List D} (r : RpAll Γ S vs xs) :
    Ext S ρ S (ρ ++ [p]) ∧ MR Γ G S (upd H p (.lst vs)) (ρ ++ [p]) (m ++ [.lst xs]) := by
  have sp : S p = none := M.sub.free hp
  have gp : G p = none := M.gsub.free hp
  have pre : ∀ (i : Nat) (a : Addr), ρ[i]? = some a → (ρ ++ [p])[i]? = some a := fun i a q => by
    rw [List.getElem?_append_left (List.getElem?_eq_some_iff.mp q).1]; exact q
  have at_ : ∀ (i : Nat) (xs' : List D), (m ++ [Cell.lst xs])[i]? = some (.lst xs') → (m[i]? = some (.lst xs') ∧ i < m.length) ∨ (i = m.length ∧ xs' = xs) := fun i xs' q => by
    by_cases hi : i < m.length
    · rw [List.getElem?_append_left hi] at q; exact .inl ⟨q, hi⟩
    · rw [List.getElem?_append_right (by omega)] at q
      have h0 : i - m.length = 0 := by
        have := (List.getElem?_eq_some_iff.mp q).1
        simp at this
        omega
      rw [h0] at q
      simp at q
      exact .inr ⟨by omega, q.symm⟩
  refine ⟨⟨Same.refl S, pre⟩, ⟨fun b x q => ?_, fun b x q => ?_, M.dis, by rw [List.length_append, List.length_append, M.len]; rfl, fun i xs' q => ?_, fun i j xs' ys' a q1 q2 q3 q4 => ?_, M.tab.h (.inl hp) _, (M.dic.h (.inl hp) _).cells (fun i kvs q => dct_app (fun _ z => by cases z) q) fun i a kvs _ q => r_app q, M.mix.push M.len (fun i b q => upd_ne (M.mix.ne q hp)) rfl fun _ i b q => M.mix.ne q hp⟩⟩
  · rw [upd_ne (ne_of_none q sp)]; exact M.sub b x q
  · rw [upd_ne (ne_of_none q gp)]; exact M.gsub b x q
  · rcases at_ i xs' q with ⟨q1, _⟩ | ⟨q1, q2⟩
    · obtain ⟨a, vs', h1, h2, h3, h4, h5⟩ := M.cell i xs' q1
      exact ⟨a, vs', pre i a h1, by rw [upd_ne (ne_of_none h2 hp)]; exact h2, h3, h4, h5⟩
    · subst q1 q2
      exact ⟨p, vs, by rw [← M.len]; simp, upd_same, r, sp, gp⟩
  · have key : ∀ (i : Nat) (xs' : List D) (a : Addr), (m ++ [Cell.lst xs])[i]? = some (.lst xs') → (ρ ++ [p])[i]? = some a → (m[i]? = some (.lst xs') ∧ ρ[i]? = some a ∧ a ≠ p) ∨ (i = m.length ∧ a = p) := fun i xs' a q r => by
      rcases at_ i xs' q with ⟨q1, q2⟩ | ⟨q1, q2⟩
      · obtain ⟨a', vs', h1, h2, _⟩ := M.cell i xs' q1
        have e := pre i a' h1
        rw [r] at e
        cases e
        exact .inl ⟨q1, h1, ne_of_none h2 hp⟩
      · subst q1
        rw [← M.len] at r
        simp at r
        exact .inr ⟨rfl, r.symm⟩
    rcases key i xs' a q1 q3 with ⟨b1, b2, b3⟩ | ⟨b1, b2⟩
    · rcases key j ys' a q2 q4 with ⟨c1, c2, c3⟩ | ⟨c1, c2⟩
      · exact M.inj i j xs' ys' a b1 c1 b2 c2
      · exact absurd c2 b3
    · rcases key j ys' a q2 q4 with ⟨c1, c2, c3⟩ | ⟨c1, c2⟩
      · exact absurd b2 c3
      · rw [b1, c1]
/-- an own list written -/
theorem MR.write (M : MR Γ G S H ρ m) {i : Nat} {xs ys : List D} {a : Addr} {ws : List V} (hm : m[i]? = some (.lst xs)) (ha : ρ[i]? = some a) (r : RpAll Γ S ws ys) :
    MR Γ G S (upd H a (.lst ws)) ρ (m.set i (.lst ys)) := by
  have hi : i < m.length := (List.getElem?_eq_some_iff.mp hm).1
  obtain ⟨a', vs, h1, h2, h3, h4, h5⟩ := M.cell i xs hm
  rw [ha] at h1
  cases h1
  have at_ : ∀ (j : Nat) (zs : List D), (m.set i (Cell.lst ys))[j]? = some (.lst zs) → (j = i ∧ zs = ys) ∨ (j ≠ i ∧ m[j]? = some (.lst zs)) := fun j zs q => by
    by_cases e : i = j
    · subst e
      rw [List.getElem?_set_self hi] at q
      cases q
      exact .inl ⟨rfl, rfl⟩
    · rw [List.getElem?_set_ne e] at q
      exact .inr ⟨Ne.symm e, q⟩
  have live : ∀ (j : Nat) (zs : List D), (m.set i (Cell.lst ys))[j]? = some (.lst zs) → ∃ zs', m[j]? = some (.lst zs') := fun j zs q => by
    rcases at_ j zs q with ⟨rfl, _⟩ | ⟨_, q⟩
    · exact ⟨_, hm⟩
    · exact ⟨_, q⟩
  refine ⟨fun b x q => ?_, fun b x q => ?_, M.dis, by rw [List.length_set]; exact M.len, fun j zs q => ?_, fun j k zs ws' b q1 q2 q3 q4 => ?_, M.tab.h (.inr ⟨_, h2⟩) _, (M.dic.h (.inr ⟨_, h2⟩) _).cells (fun i kvs q => dct_set (fun _ z => by cases z) q) fun i a kvs _ q => q, M.mix.put hm ha _⟩
  · rw [upd_ne (ne_of_none q h4)]; exact M.sub b x q
  · rw [upd_ne (ne_of_none q h5)]; exact M.gsub b x q
  · rcases at_ j zs q with ⟨rfl, rfl⟩ | ⟨e, q⟩
    · exact ⟨a, ws, ha, upd_same, r, h4, h5⟩
    · obtain ⟨b, us, g1, g2, g3, g4, g5⟩ := M.cell j zs q
      refine ⟨b, us, g1, ?_, g3, g4, g5⟩
      rw [upd_ne (fun z => e (M.inj j i zs xs a q hm (by rw [← z]; exact g1) ha))]
      exact g2
  · obtain ⟨z1, l1⟩ := live j zs q1
    obtain ⟨z2, l2⟩ := live k ws' q2
    exact M.inj j k z1 z2 b l1 l2 q3 q4
/-- an own list frozen -/
theorem MR.freeze (M : MR Γ G S H ρ m) {i : Nat} {xs : List D} (hm : m[i]? = some (.lst xs)) :
    ∃ a vs, ρ[i]? = some a ∧ Ext S ρ (upd S a (.lst vs)) ρ ∧ MR Γ G (upd S a (.lst vs)) H ρ (m.set i .dead) ∧ Rp Γ (upd S a (.lst vs)) (.ref a) (.lst xs) := by
  have hi : i < m.length := (List.getElem?_eq_some_iff.mp hm).1
  obtain ⟨a, vs, h1, h2, h3, h4, h5⟩ := M.cell i xs hm
  have s1 : Same S (upd S a (.lst vs)) := fun b x q => by rw [upd_ne (ne_of_none q h4)]; exact q
  have at_ : ∀ (j : Nat) (zs : List D), (m.set i Cell.dead)[j]? = some (.lst zs) → j ≠ i ∧ m[j]? = some (.lst zs) := fun j zs q => by
    by_cases e : i = j
    · subst e
      rw [List.getElem?_set_self hi] at q
      cases q
    · rw [List.getElem?_set_ne e] at q
      exact ⟨Ne.symm e, q⟩
  refine ⟨a, vs, h1, ⟨s1, fun _ _ q => q⟩, ⟨fun b x q => ?_, M.gsub, fun b x q => ?_, by rw [List.length_set]; exact M.len, fun j zs q => ?_, fun j k zs ws b q1 q2 q3 q4 => ?_, M.tab.s (fun _ z => by cases z), (M.dic.s s1 fun b us q z => upd_free z fun e => by rw [e, h2] at q; cases q).cells (fun i kvs q => dct_set (fun _ z => by cases z) q) fun i a kvs _ q => q, M.mix.frz hm h1 s1⟩, .lst upd_same (h3.mono s1)⟩
  · by_cases e : b = a
    · subst e; rw [upd_same] at q; cases q; exact h2
    · rw [upd_ne e] at q; exact M.sub b x q
  · have ne : b ≠ a := fun z => by subst z; rw [q] at h5; cases h5
    rw [upd_ne ne]; exact M.dis b x q
  · obtain ⟨e, q⟩ := at_ j zs q
    obtain ⟨b, us, g1, g2, g3, g4, g5⟩ := M.cell j zs q
    refine ⟨b, us, g1, g2, g3.mono s1, ?_, g5⟩
    rw [upd_ne (fun z => e (M.inj j i zs xs a q hm (by rw [← z]; exact g1) h1))]
    exact g4
  · exact M.inj j k zs ws b (at_ j zs q1).2 (at_ k ws q2).2 q3 q4
/-- the last own lists forgotten -/
theorem MR.take (M : MR Γ G S H ρ m) (n : Nat) : MR Γ G S H (ρ.take n) (m.take n) := by
  have at_ : ∀ (j : Nat) (c : Cell), (m.take n)[j]? = some c → j < n ∧ m[j]? = some c := fun j c q => by
    have h := (List.getElem?_eq_some_iff.mp q).1
    rw [List.length_take] at h
    have hn : j < n := by omega
    rw [List.getElem?_take_of_lt hn] at q
    exact ⟨hn, q⟩
  refine ⟨M.sub, M.gsub, M.dis, by rw [List.length_take, List.length_take, M.len], fun i xs q => ?_, fun i j xs ys a q1 q2 q3 q4 => ?_, M.tab, M.dic.cells (fun i kvs q => (at_ i _ q).2) fun i a kvs q z => by rw [List.getElem?_take_of_lt (at_ i _ q).1]; exact z, M.mix.step (Same.refl S) (fun i b q => ⟨(M.mix.own q).1, (M.mix.own q).2.1, rfl⟩) (fun i c q _ => (at_ i _ q).2) (fun i a c q _ z => by rw [List.getElem?_take_of_lt (at_ i _ q).1]; exact z) fun i b j xs q1 q2 q3 => M.mix.crs i j b xs q1 (at_ j _ q2).2 (by rw [List.getElem?_take_of_lt (at_ j _ q2).1] at q3; exact q3)⟩
  · obtain ⟨hn, q⟩ := at_ i _ q
    obtain ⟨a, vs, h1, h2⟩ := M.cell i xs q
    exact ⟨a, vs, by rw [List.getElem?_take_of_lt hn]; exact h1, h2⟩
  · obtain ⟨hi, q1⟩ := at_ i _ q1
    obtain ⟨hj, q2⟩ := at_ j _ q2
    rw [List.getElem?_take_of_lt hi] at q3
    rw [List.getElem?_take_of_lt hj] at q4
    exact M.inj i j xs ys a q1 q2 q3 q4
/-- one thing more is guarded -/
theorem MR.guard (M : MR Γ G S H ρ m) {o : HO} (hp : H p = some o) (hs : S p = none) (hc : NoCell S ρ m p) (ho : ∀ ps, o ≠ .tbl ps := by intro _ z; cases z) (hk : ∀ vs, o ≠ .dK vs := by intro _ z; cases z) : MR Γ (upd G p o) S H ρ m := by
  refine ⟨M.sub, fun b x q => ?_, fun b x q => ?_, M.len, fun i xs q => ?_, M.inj, M.tab.g ho, M.dic.g fun a vs q z => upd_free z fun e => by rw [e, hp] at q; exact hk vs (Option.some.inj q), M.mix.same (Same.refl S) fun i b q => ⟨(M.mix.own q).1, upd_free (M.mix.own q).2.1 fun z => hc.2 i (by rw [← z]; exact q), rfl⟩⟩
  · by_cases e : b = p
    · subst e; rw [upd_same] at q; cases q; exact hp
    · rw [upd_ne e] at q; exact M.gsub b x q
  · by_cases e : b = p
    · subst e; exact hs
    · rw [upd_ne e] at q; exact M.dis b x q
  · obtain ⟨a, vs, h1, h2, h3, h4, h5⟩ := M.cell i xs q
    refine ⟨a, vs, h1, h2, h3, h4, ?_⟩
    rw [upd_ne (fun z => hc.1 i xs q (by rw [← z]; exact h1))]
    exact h5
/-- what was guarded is written, and guarded no more -/
theorem MR.unguard {G' : Hp} {o : HO} (M : MR Γ (upd G p o) S H ρ m) (hg : G p = none) (u : HO) (ho : ∃ vs, o = .lst vs := by exact ⟨_, rfl⟩) : MR Γ G S (upd H p u) ρ m ∧ S p = none ∧ NoCell S ρ m p := by
  have hs : S p = none := M.dis p o upd_same
  have hc : ∀ (i : Nat) (xs : List D), m[i]? = some (.lst xs) → ρ[i]? ≠ some p := fun i xs q z => by
    obtain ⟨a, vs, h1, _, _, _, h5⟩ := M.cell i xs q
    rw [z] at h1
    cases h1
    rw [upd_same] at h5
    cases h5
  have mx : ∀ (i : Nat) (b : Addr), MixA S ρ m i b → b ≠ p := fun i b q z => by
    have := (M.mix.own q).2.1
    rw [z, upd_same] at this
    cases this
  refine ⟨⟨fun b x q => ?_, fun b x q => ?_, fun b x q => ?_, M.len, fun i xs q => ?_, M.inj, (M.tab.ung hg).h (.inr (let ⟨vs, e⟩ := ho; ⟨vs, by rw [← e]; exact M.gsub p o upd_same⟩)) u, (M.dic.g fun a vs q z => by
    by_cases e : a = p
    · rw [e]; exact hg
    · rw [upd_ne e] at z; exact z).h (.inr (let ⟨vs, e⟩ := ho; ⟨vs, by rw [← e]; exact M.gsub p o upd_same⟩)) u, M.mix.same (Same.refl S) fun i b q => ⟨(M.mix.own q).1, by have := (M.mix.own q).2.1; rw [upd_ne (mx i b q)] at this; exact this, upd_ne (mx i b q)⟩⟩, hs, hc, fun i q => mx i p q rfl⟩
  · rw [upd_ne (ne_of_none q hs)]; exact M.sub b x q
  · rw [upd_ne (ne_of_none q hg)]; exact M.gsub b x (by rw [upd_ne (ne_of_none q hg)]; exact q)
  · exact M.dis b x (by rw [upd_ne (ne_of_none q hg)]; exact q)
  · obtain ⟨a, vs, h1, h2, h3, h4, h5⟩ := M.cell i xs q
    have ne : a ≠ p := fun z => hc i xs q (by rw [← z]; exact h1)
    exact ⟨a, vs, h1, by rw [upd_ne ne]; exact h2, h3, h4, by rw [upd_ne ne] at h5; exact h5⟩
end

/-! ### judgements -/
def WE (X : Cx) (e : Expr) (σ : St) (H : Hp) (Q : VK) : Prop :=
  ∀ (pins : List (Addr × Obj)) (s : Shared), Inv X pins σ H s → wpAny (model X.prog X.w) X.A (eval e X.env) (EP X pins σ Q) X.xe s
theorem pe_we {X : Cx} {e : Expr} : PE X e (WE X e) := ⟨fun pins s _ _ _ I h => h pins s I⟩
theorem we_of {X : Cx} {e : Expr} {t : TE} {σ : St} {H : Hp} {Q : VK} (h : PE X e t) (q : t σ H Q) : WE X e σ H Q := fun pins s I => h.run pins s σ H Q I q
def WT (X : Cx) (e : Expr) (σ : St) (H : Hp) (Q : Bool → Hp → Prop) : Prop :=
  ∀ (pins : List (Addr × Obj)) (s : Shared), Inv X pins σ H s → wpAny (model X.prog X.w) X.A (isTrue e X.env (eval e X.env)) (TP X pins σ Q) X.xe s
theorem pt_wt {X : Cx} {e : Expr} : PT X e (WT X e) := ⟨fun pins s _ _ _ I h => h pins s I⟩
theorem wt_of {X : Cx} {e : Expr} {t : TT} {σ : St} {H : Hp} {Q : Bool → Hp → Prop} (h : PT X e t) (q : t σ H Q) : WT X e σ H Q := fun pins s I => h.run pins s σ H Q I q
def WA (X : Cx) (es : List Expr) (σ : St) (H : Hp) (Q : List V → Hp → Prop) : Prop :=
  ∀ (pos : Pos) (pins : List (Addr × Obj)) (s : Shared), Inv X pins σ H s → wpAny (model X.prog X.w) X.A (spliced (backTo pos (starEach es X.env))) (AP X pins σ Q) X.xe s
theorem pa_wa {X : Cx} {es : List Expr} : PA X es (WA X es) := ⟨fun pos pins s _ _ _ I h => h pos pins s I⟩
theorem wa_of {X : Cx} {es : List Expr} {t : TA} {σ : St} {H : Hp} {Q : List V → Hp → Prop} (h : PA X es t) (q : t σ H Q) : WA X es σ H Q := fun pos pins s I => h.run pos pins s σ H Q I q
def WS (X : Cx) (st : Stmt) (D : Ends) (σ : St) (H : Hp) : Prop :=
  ∀ (pins : List (Addr × Obj)) (s : Shared), Inv X pins σ H s → wpAny (model X.prog X.w) X.A (exec st X.env) (SP X pins D) X.xe s
theorem ps_ws {X : Cx} {st : Stmt} : PS X st (WS X st) := ⟨fun pins s _ _ _ I h => h pins s I⟩
theorem ws_of {X : Cx} {st : Stmt} {t : TS} {σ : St} {H : Hp} {D : Ends} (h : PS X st t) (q : t D σ H) : WS X st D σ H := fun pins s I => h.run pins s σ H D I q
def WSs (X : Cx) (st : List Stmt) (D : Ends) (σ : St) (H : Hp) : Prop :=
  ∀ (pins : List (Addr × Obj)) (s : Shared), Inv X pins σ H s → wpAny (model X.prog X.w) X.A (execs st X.env) (SP X pins D) X.xe s
theorem pss_wss {X : Cx} {st : List Stmt} : PSs X st (WSs X st) := ⟨fun pins s _ _ _ I h => h pins s I⟩
theorem wss_of {X : Cx} {st : List Stmt} {t : TS} {σ : St} {H : Hp} {D : Ends} (h : PSs X st t) (q : t D σ H) : WSs X st D σ H := fun pins s I => h.run pins s σ H D I q
def WG (X : Cx) (tg : Expr) (v : V) (σ : St) (H : Hp) (Q : St → Hp → Prop) : Prop :=
  ∀ (pins : List (Addr × Obj)) (s : Shared) (u : Value), Inv X pins σ H s → RelV v u → wpAny (model X.prog X.w) X.A (assign tg X.env u) (fun _ s' => ∃ σ' H', Inv X pins σ' H' s' ∧ Q σ' H') X.xe s
theorem pg_wg {X : Cx} {tg : Expr} : PG X tg (WG X tg) := ⟨fun pins s _ _ _ u _ I r h => h pins s u I r⟩
theorem wg_of {X : Cx} {tg : Expr} {t : TG} {v : V} {σ : St} {H : Hp} {Q : St → Hp → Prop} (h : PG X tg t) (q : t v σ H Q) : WG X tg v σ H Q := fun pins s u I r => h.run pins s σ H v u Q I r q
def WI (X : Cx) (tg iter : Expr) (σ : St) (H : Hp) (Rr : It → Hp → Prop) : Prop :=
  ∀ (pins : List (Addr × Obj)) (s : Shared), Inv X pins σ H s → wpAny (model X.prog X.w) X.A (eval iter X.env) (fun v s1 => wpAny (model X.prog X.w) X.A (pyIter v) (PIE X pins σ tg Rr) X.xe s1) X.xe s
theorem pi_wi {X : Cx} {tg iter : Expr} : PI X tg iter (WI X tg iter) := ⟨fun pins s _ _ _ I h => h pins s I⟩
theorem wi_of {X : Cx} {tg iter : Expr} {t : TI} {σ : St} {H : Hp} {Rr : It → Hp → Prop} (h : PI X tg iter t) (q : t σ H Rr) : WI X tg iter σ H Rr := fun pins s I => h.run pins s σ H Rr I q
/-- a two-place operation at two values -/
def WO (X : Cx) (f : Value → Value → Sem Value) (x y : V) (σ : St) (H : Hp) (Q : VK) : Prop :=
  ∀ (pins : List (Addr × Obj)) (s : Shared) (v u : Value), Inv X pins σ H s → RelV x v → RelV y u → wpAny (model X.prog X.w) X.A (f v u) (EP X pins σ Q) X.xe s
theorem wo_of {X : Cx} {f : Value → Value → Sem Value} {r : R2} (h : OpR X f r) {x y : V} {σ : St} {H : Hp} {Q : VK} (q : r x y H Q) : WO X f x y σ H Q := fun pins s v u I rx ry => h pins s σ H x y v u Q I rx ry q
/-- a call of a known value -/
def WC (X : Cx) (f : Value) (xs : List V) (σ : St) (H : Hp) (Q : VK) : Prop :=
  ∀ (pins : List (Addr × Obj)) (s : Shared) (us : List Value), Inv X pins σ H s → Vals xs us → wpAny (model X.prog X.w) X.A (call f us) (EP X pins σ Q) X.xe s
theorem wc_of {X : Cx} {f : Value} {r : List V → Hp → VK → Prop} (h : CallR X f r) {xs : List V} {σ : St} {H : Hp} {Q : VK} (q : r xs H Q) : WC X f xs σ H Q := fun pins s us I rx => h pins s σ H xs us Q I rx q

/-- how an exception lies -/
def XR (Γ : Gd) (S H : Hp) (cls : Value) (d : Option Addr) (x : Exc) : Prop :=
  ∃ (C dd : Addr) (fs : List (Str × V)), Γ.mg x.cls = some (.ref C) ∧ cls = .ref C ∧ d = some dd ∧ H dd = some (.xd fs) ∧ fs.map (·.1) = x.fs.map (·.1) ∧ RpAll Γ S (fs.map (·.2)) (x.fs.map (·.2))

section
variable (X : Cx) (W : WX)
/-- what is wanted behind: of a value -/
def QV (G S : Hp) (ρ : List Addr) (Q : VK) : SV → Mem → Prop := fun v m' => ∀ S' H' ρ' vv, Ext S ρ S' ρ' → MR (gd X) G S' H' ρ' m' → RSV (gd X) S' ρ' vv v → Q vv H'
def QX (G S : Hp) (ρ : List Addr) (σ : St) : Exc → Mem → Prop := fun x m' => ∀ S' H' ρ' cls d, Ext S ρ S' ρ' → MR (gd X) G S' H' ρ' m' → XR (gd X) S' H' cls d x → W cls d σ H'
def QA (G S : Hp) (ρ : List Addr) (Q : List V → Hp → Prop) : List SV → Mem → Prop := fun v m' => ∀ S' H' ρ' vv, Ext S ρ S' ρ' → MR (gd X) G S' H' ρ' m' → Paired (RSV (gd X) S' ρ') vv v → Q vv H'
def QB (G S : Hp) (ρ : List Addr) (Q : Bool → Hp → Prop) : Bool → Mem → Prop := fun b m' => ∀ S' H' ρ', Ext S ρ S' ρ' → MR (gd X) G S' H' ρ' m' → Q b H'
structure JE (e : Expr) (f : En → P SV) : Prop where
  run : ∀ {G S H : Hp} {ρ : List Addr} {m : Mem} {env : En} {σ : St} {Q : VK}, MR (gd X) G S H ρ m → ER (gd X) S ρ env σ → wpr (f env m) (QV X G S ρ Q) (QX X W G S ρ σ) → WE X e σ H Q
structure JT (e : Expr) (f : En → P Bool) : Prop where
  run : ∀ {G S H : Hp} {ρ : List Addr} {m : Mem} {env : En} {σ : St} {Q : Bool → Hp → Prop}, MR (gd X) G S H ρ m → ER (gd X) S ρ env σ → wpr (f env m) (QB X G S ρ Q) (QX X W G S ρ σ) → WT X e σ H Q
structure JA (es : List Expr) (f : En → P (List SV)) : Prop where
  run : ∀ {G S H : Hp} {ρ : List Addr} {m : Mem} {env : En} {σ : St} {Q : List V → Hp → Prop}, MR (gd X) G S H ρ m → ER (gd X) S ρ env σ → wpr (f env m) (QA X G S ρ Q) (QX X W G S ρ σ) → WA X es σ H Q
/-- an operation at two values -/
structure JO (f : Value → Value → Sem Value) (g : SV → SV → P SV) : Prop where
  run : ∀ {G S H : Hp} {ρ : List Addr} {m : Mem} {σ : St} {x y : SV} {xv yv : V} {Q : VK}, MR (gd X) G S H ρ m → RSV (gd X) S ρ xv x → RSV (gd X) S ρ yv y → wpr (g x y m) (QV X G S ρ Q) (QX X W G S ρ σ) → WO X f xv yv σ H Q
/-- a call of a known value -/
structure JC (f : Value) (g : List SV → P SV) : Prop where
  run : ∀ {G S H : Hp} {ρ : List Addr} {m : Mem} {σ : St} {xs : List SV} {xvs : List V} {Q : VK}, MR (gd X) G S H ρ m → Paired (RSV (gd X) S ρ) xvs xs → wpr (g xs m) (QV X G S ρ Q) (QX X W G S ρ σ) → WC X f xvs σ H Q
end

inductive Out where
  | nx (env : En) | rt (v : SV) | bk (env : En) | ct (env : En)
abbrev DS := En → P Out
section
variable (X : Cx) (W : WX)
def QS (G S : Hp) (ρ : List Addr) (D : Ends) : Out → Mem → Prop := fun o m' => match o with
  | .nx env => ∀ S' H' ρ' σ', Ext S ρ S' ρ' → MR (gd X) G S' H' ρ' m' → ER (gd X) S' ρ' env σ' → D.nx σ' H'
  | .rt v => ∀ S' H' ρ' vv, Ext S ρ S' ρ' → MR (gd X) G S' H' ρ' m' → RSV (gd X) S' ρ' vv v → D.rt vv H'
  | .bk env => ∀ S' H' ρ' σ', Ext S ρ S' ρ' → MR (gd X) G S' H' ρ' m' → ER (gd X) S' ρ' env σ' → D.bk σ' H'
  | .ct env => ∀ S' H' ρ' σ', Ext S ρ S' ρ' → MR (gd X) G S' H' ρ' m' → ER (gd X) S' ρ' env σ' → D.ct σ' H'
def QXs (G S : Hp) (ρ : List Addr) : Exc → Mem → Prop := fun x m' => ∀ S' H' ρ' σ' cls d, Ext S ρ S' ρ' → MR (gd X) G S' H' ρ' m' → XR (gd X) S' H' cls d x → W cls d σ' H'
structure JS (st : Stmt) (f : DS) : Prop where
  run : ∀ {G S H : Hp} {ρ : List Addr} {m : Mem} {env : En} {σ : St} {D : Ends}, MR (gd X) G S H ρ m → ER (gd X) S ρ env σ → wpr (f env m) (QS X G S ρ D) (QXs X W G S ρ) → WS X st D σ H
structure JB (st : List Stmt) (f : DS) : Prop where
  run : ∀ {G S H : Hp} {ρ : List Addr} {m : Mem} {env : En} {σ : St} {D : Ends}, MR (gd X) G S H ρ m → ER (gd X) S ρ env σ → wpr (f env m) (QS X G S ρ D) (QXs X W G S ρ) → WSs X st D σ H
end
section
variable {X : Cx} {W : WX}
theorem qv_ext {G S S1 : Hp} {ρ ρ1 : List Addr} {Q : VK} (e : Ext S ρ S1 ρ1) {v : SV} {m : Mem} (h : QV X G S ρ Q v m) : QV X G S1 ρ1 Q v m := fun S' H' ρ' vv e' M r => h S' H' ρ' vv (e.trans e') M r
theorem qb_ext {G S S1 : Hp} {ρ ρ1 : List Addr} {Q : Bool → Hp → Prop} (e : Ext S ρ S1 ρ1) {v : Bool} {m : Mem} (h : QB X G S ρ Q v m) : QB X G S1 ρ1 Q v m := fun S' H' ρ' e' M => h S' H' ρ' (e.trans e') M
theorem qa_ext {G S S1 : Hp} {ρ ρ1 : List Addr} {Q : List V → Hp → Prop} (e : Ext S ρ S1 ρ1) {v : List SV} {m : Mem} (h : QA X G S ρ Q v m) : QA X G S1 ρ1 Q v m := fun S' H' ρ' vv e' M r => h S' H' ρ' vv (e.trans e') M r
theorem qx_ext {G S S1 : Hp} {ρ ρ1 : List Addr} {σ : St} (e : Ext S ρ S1 ρ1) {x : Exc} {m : Mem} (h : QX X W G S ρ σ x m) : QX X W G S1 ρ1 σ x m := fun S' H' ρ' c d e' M r => h S' H' ρ' c d (e.trans e') M r
theorem qxs_ext {G S S1 : Hp} {ρ ρ1 : List Addr} (e : Ext S ρ S1 ρ1) {x : Exc} {m : Mem} (h : QXs X W G S ρ x m) : QXs X W G S1 ρ1 x m := fun S' H' ρ' σ' c d e' M r => h S' H' ρ' σ' c d (e.trans e') M r
theorem qs_ext {G S S1 : Hp} {ρ ρ1 : List Addr} {D : Ends} (e : Ext S ρ S1 ρ1) {o : Out} {m : Mem} (h : QS X G S ρ D o m) : QS X G S1 ρ1 D o m := by
  cases o with
  | nx env => exact fun S' H' ρ' σ' e' M r => h S' H' ρ' σ' (e.trans e') M r
  | rt v => exact fun S' H' ρ' σ' e' M r => h S' H' ρ' σ' (e.trans e') M r
  | bk env => exact fun S' H' ρ' σ' e' M r => h S' H' ρ' σ' (e.trans e') M r
  | ct env => exact fun S' H' ρ' σ' e' M r => h S' H' ρ' σ' (e.trans e') M r
theorem qx_of {G S : Hp} {ρ : List Addr} {σ : St} {x : Exc} {m : Mem} (h : QXs X W G S ρ x m) : QX X W G S ρ σ x m := fun S' H' ρ' c d e' M r => h S' H' ρ' σ c d e' M r
end
end PL

/-! PL2: the pure layer's rules for expressions and tests. -/
namespace PL
open PySem PySem.Spec PyProof.Rows L2
section
variable {X : Cx} {W : WX} {a b c e : Expr} {es : List Expr} {pos : Pos} {σ : St} {H : Hp}

/-! ### closures of the layer's rules -/
theorem we_bin {op : Operator} {Q : VK} (h : WE X a σ H fun x H1 => WE X b σ H1 fun y H2 => WO X (binaryOp op) x y σ H2 Q) : WE X (.BinOp a op b pos) σ H Q := fun pins s I =>
  wpAny_BinOp (thn (h pins s I) fun v s1 ⟨x, H1, I1, r1, q1⟩ => thn (q1 pins s1 I1) fun u s2 ⟨y, H2, I2, r2, q2⟩ => q2 pins s2 v u I2 r1 r2)
theorem we_cmp {op : CmpOp} {Q : VK} (hm : behindInMarks op b = false) (h : WE X a σ H fun x H1 => WE X b σ H1 fun y H2 => WO X (compareOp op) x y σ H2 Q) : WE X (.Compare a [op] [b] pos) σ H Q := fun pins s I =>
  wpAny_Compare1 (thn (h pins s I) fun v s1 ⟨x, H1, I1, r1, q1⟩ => thn (q1 pins s1 I1) fun u s2 ⟨y, H2, I2, r2, q2⟩ => q2 pins s2 v u I2 r1 r2) hm
theorem wt_cmp {op : CmpOp} {Q : Bool → Hp → Prop} (hm : behindInMarks op b = false) (h : WE X a σ H fun x H1 => WE X b σ H1 fun y H2 => WO X (compareOp op) x y σ H2 fun z H3 => ∃ k, z = .bl k ∧ Q k H3) : WT X (.Compare a [op] [b] pos) σ H Q := fun pins s I => by
  refine wpAny_isTrue_Compare1 (thn (h pins s I) fun v s1 ⟨x, H1, I1, r1, q1⟩ => thn (q1 pins s1 I1) fun u s2 ⟨y, H2, I2, r2, q2⟩ => thn (q2 pins s2 v u I2 r1 r2) fun cc s3 ⟨z, H3, I3, r3, k, ez, q3⟩ => ?_) hm
  subst ez
  cases r3
  exact wpAny_truthy_bool ⟨H3, I3, q3⟩
theorem we_chain {op op' : CmpOp} {Q : VK} (hm : lastMarks [op, op'] [b, c] = false) (h : WE X a σ H fun x H1 => WE X b σ H1 fun y H2 => WO X (compareOp op) x y σ H2 fun z H3 => ∃ k, z = .bl k ∧
    (if k = true then WE X c σ H3 fun w' H4 => WO X (compareOp op') y w' σ H4 Q else Q (.bl false) H3)) : WE X (.Compare a [op, op'] [b, c] pos) σ H Q := fun pins s I => by
  refine Compare_chain (thn (h pins s I) fun v s1 ⟨x, H1, I1, r1, q1⟩ => chain_link (thn (q1 pins s1 I1) fun u s2 ⟨y, H2, I2, r2, q2⟩ =>
    thn (q2 pins s2 v u I2 r1 r2) fun d s3 ⟨z, H3, I3, r3, k, ez, q3⟩ => ?_)) hm
  subst ez
  cases r3
  refine wpAny_truthy_bool ?_
  cases k with
  | false => exact ite_ff ⟨.bl false, H3, I3, rfl, q3⟩
  | true => exact ite_tt (chain_last (thn (q3 pins s3 I3) fun w' s4 ⟨z', H4, I4, r4, q4⟩ => q4 pins s4 u w' I4 r2 r4))
theorem wt_chain {op op' : CmpOp} {Q : Bool → Hp → Prop} (hm : lastMarks [op, op'] [b, c] = false) (h : WE X a σ H fun x H1 => WE X b σ H1 fun y H2 => WO X (compareOp op) x y σ H2 fun z H3 => ∃ k, z = .bl k ∧
    (if k = true then WE X c σ H3 fun w' H4 => WO X (compareOp op') y w' σ H4 fun z H5 => ∃ k, z = .bl k ∧ Q k H5 else Q false H3)) : WT X (.Compare a [op, op'] [b, c] pos) σ H Q := fun pins s I => by
  refine isTrue_chain (thn (h pins s I) fun v s1 ⟨x, H1, I1, r1, q1⟩ => test_link (thn (q1 pins s1 I1) fun u s2 ⟨y, H2, I2, r2, q2⟩ =>
    thn (q2 pins s2 v u I2 r1 r2) fun d s3 ⟨z, H3, I3, r3, k, ez, q3⟩ => ?_)) hm
  subst ez
  cases r3
  refine wpAny_truthy_bool ?_
  cases k with
  | false => exact ite_ff ⟨H3, I3, q3⟩
  | true =>
    refine ite_tt (test_last (thn (q3 pins s3 I3) fun w' s4 ⟨z', H4, I4, r4, q4⟩ => thn (q4 pins s4 u w' I4 r2 r4) fun d' s5 ⟨z2, H5, I5, r5, k2, e2, q5⟩ => ?_))
    subst e2
    cases r5
    exact wpAny_truthy_bool ⟨H5, I5, q5⟩
theorem we_callB {id : String} {x : Str} {p : Pos} {Q : VK} (hg : Gl X x) (hm : X.mg x = none) (hv : bootBuiltins x = some (.builtin id)) (h : WA X (e :: es) σ H fun vs H1 => WC X (.builtin id) vs σ H1 Q) (hn : x ≠ "__name__" := by decide) (hdb : (x == ("__debug__" : Str)) = false := by decide)
    (he : starEach (e :: es) X.env = (false, eval e X.env) :: starEach es X.env := by rfl) (hpl : (backTo pos (starEach es X.env)).any (·.1) = false := by rfl) : WE X (.Call (.Name x p) (e :: es) [] pos) σ H Q := fun pins s I => by
  refine wpAny_Call_Name_kw (ld_blt I hg hm hv ?_ hn hdb)
  exact PyProof.Rows.callWith_builtin1 (thn (h pos pins s I) fun us s1 ⟨vs, H1, I1, r1, q1⟩ => q1 pins s1 us I1 r1) he hpl
theorem we_callTy {T : String} {x : Str} {p : Pos} {Q : VK} (hg : Gl X x) (hm : X.mg x = none) (hv : bootBuiltins x = some (.type T)) (h : WA X (e :: es) σ H fun vs H1 => WC X (.type T) vs σ H1 Q) (hn : x ≠ "__name__" := by decide) (hdb : (x == ("__debug__" : Str)) = false := by decide)
    (he : starEach (e :: es) X.env = (false, eval e X.env) :: starEach es X.env := by rfl) (hpl : (backTo pos (starEach es X.env)).any (·.1) = false := by rfl) : WE X (.Call (.Name x p) (e :: es) [] pos) σ H Q := fun pins s I => by
  refine wpAny_Call_Name_kw (ld_blt I hg hm hv ?_ hn hdb)
  exact PyProof.Rows.callWith_type1 (thn (h pos pins s I) fun us s1 ⟨vs, H1, I1, r1, q1⟩ => q1 pins s1 us I1 r1) he hpl

/-! ### names, constants -/
def dVar (i : Nat) : En → P SV := fun env m => match env[i]? with
  | some (some v) => .ok v m
  | _ => .stuck
def dC (d : D) : En → P SV := fun _ => P.ret (.dat d)
theorem je_var (i : Nat) {x : Str} {pos : Pos} (hN : X.N[i]? = some x := by rfl) (hv : Vis X.env.scope x := by first | exact Or.inl rfl | exact Or.inr (Or.inl rfl) | exact Or.inr (Or.inr rfl)) (hd : (x == ("__debug__" : Str)) = false := by decide)
    (hcd : (x == ("__classdict__" : Str)) = false := by decide) : JE X W (.Name x pos) (dVar i) := ⟨fun {G S H ρ m env σ Q} M E h => by
  unfold dVar at h
  split at h
  · rename_i v hv'
    obtain ⟨vv, h1, h2⟩ := E.at_ i v hv'
    exact we_of (pe_var hN hv hd hcd) ⟨vv, h1, h S H ρ vv (Ext.refl _ _) M h2⟩
  · exact h.elim⟩
theorem je_c {t : TE} {d : D} {v : V} (h : PE X e t) (ht : ∀ σ H Q, Q v H → t σ H Q) (r : ∀ S, Rp (gd X) S v d) : JE X W e (dC d) := ⟨fun {G S H ρ m env σ Q} M E q => we_of h (ht σ H Q (q S H ρ v (Ext.refl _ _) M (r S)))⟩
theorem je_int {i j pos} : JE X W (.Constant (.int i) j pos) (dC (.int i)) := je_c pe_int (fun _ _ _ h => h) fun _ => .int i
theorem je_bl {b j pos} : JE X W (.Constant (.bool b) j pos) (dC (.bl b)) := je_c pe_bl (fun _ _ _ h => h) fun _ => .bl b
theorem je_non {j pos} : JE X W (.Constant .none j pos) (dC .non) := je_c pe_non (fun _ _ _ h => h) fun _ => .non
theorem je_str {x j pos} : JE X W (.Constant (.str x) j pos) (dC (.str x)) := je_c pe_str (fun _ _ _ h => h) fun _ => .str x
/-- a module's int -/
theorem je_gint {x : Str} {i : Int} {pos : Pos} (hg : Gl X x) (hm : ∃ t, X.mg x = some (.int i t)) (hd : (x == ("__debug__" : Str)) = false := by decide) : JE X W (.Name x pos) (dC (.int i)) := by
  obtain ⟨t, hm⟩ := hm
  exact je_c (pe_glob (v := .int i) hg hm ⟨t, rfl⟩ hd) (fun _ _ _ h => h) fun _ => .int i
/-- a built-in type as a value -/
theorem je_ty {x : Str} {n : String} {pos : Pos} (hg : Gl X x) (hm : X.mg x = none) (hv : bootBuiltins x = some (.type n)) (hn : x ≠ "__name__" := by decide) (hd : (x == ("__debug__" : Str)) = false := by decide) : JE X W (.Name x pos) (dC (.ty n)) :=
  je_c (pe_bltn (v := .ty n) hg hm hv rfl hn hd) (fun _ _ _ h => h) fun _ => .ty n

/-! ### two-place operations -/
def d2 (g : SV → SV → P SV) (fa fb : En → P SV) : En → P SV := fun env => (fa env).bnd fun x => (fb env).bnd fun y => g x y
variable {fa fb fc : En → P SV}
theorem je_bin {op : Operator} {g : SV → SV → P SV} (jo : JO X W (binaryOp op) g) (ja : JE X W a fa) (jb : JE X W b fb) : JE X W (.BinOp a op b pos) (d2 g fa fb) := ⟨fun {G S H ρ m env σ Q} M E h => by
  refine we_bin (ja.run M E (wpr_monoQ (wpr_bnd h) fun x m1 hx => ?_))
  intro S1 H1 ρ1 xv e1 M1 rx
  refine jb.run M1 (E.mono e1) (wpr_mono (wpr_bnd hx) (fun y m2 hy => ?_) fun _ _ z => qx_ext e1 z)
  intro S2 H2 ρ2 yv e2 M2 ry
  exact jo.run M2 (rx.mono e2) ry (wpr_mono hy (fun _ _ z => qv_ext (e1.trans e2) z) fun _ _ z => qx_ext (e1.trans e2) z)⟩
theorem je_cmp {op : CmpOp} {g : SV → SV → P SV} (jo : JO X W (compareOp op) g) (ja : JE X W a fa) (jb : JE X W b fb) (hm : behindInMarks op b = false := by first | exact nomark _ | rfl) : JE X W (.Compare a [op] [b] pos) (d2 g fa fb) := ⟨fun {G S H ρ m env σ Q} M E h => by
  refine we_cmp hm (ja.run M E (wpr_monoQ (wpr_bnd h) fun x m1 hx => ?_))
  intro S1 H1 ρ1 xv e1 M1 rx
  refine jb.run M1 (E.mono e1) (wpr_mono (wpr_bnd hx) (fun y m2 hy => ?_) fun _ _ z => qx_ext e1 z)
  intro S2 H2 ρ2 yv e2 M2 ry
  exact jo.run M2 (rx.mono e2) ry (wpr_mono hy (fun _ _ z => qv_ext (e1.trans e2) z) fun _ _ z => qx_ext (e1.trans e2) z)⟩
/-- a value that is to be a truth -/
def asB (v : SV) : P Bool := match v with
  | .dat (.bl b) => P.ret b
  | _ => P.stk
def dB (f : En → P SV) : En → P Bool := fun env => (f env).bnd asB
theorem asB_ok {G S S' H' : Hp} {ρ ρ' : List Addr} {v : SV} {vv : V} {m' : Mem} {Q : Bool → Hp → Prop} {E : Exc → Mem → Prop} (e : Ext S ρ S' ρ') (M : MR (gd X) G S' H' ρ' m') (r : RSV (gd X) S' ρ' vv v)
    (h : wpr (asB v m') (QB X G S ρ Q) E) : ∃ k, vv = .bl k ∧ Q k H' := by
  cases v with
  | ref n => exact h.elim
  | dat d =>
    cases d with
    | bl b => cases r; exact ⟨b, rfl, h S' H' ρ' e M⟩
    | _ => exact h.elim
theorem jt_cmp {op : CmpOp} {g : SV → SV → P SV} (jo : JO X W (compareOp op) g) (ja : JE X W a fa) (jb : JE X W b fb) (hm : behindInMarks op b = false := by first | exact nomark _ | rfl) : JT X W (.Compare a [op] [b] pos) (dB (d2 g fa fb)) := ⟨fun {G S H ρ m env σ Q} M E h => by
  have h := wpr_bnd h
  refine wt_cmp hm (ja.run M E (wpr_monoQ (wpr_bnd h) fun x m1 hx => ?_))
  intro S1 H1 ρ1 xv e1 M1 rx
  refine jb.run M1 (E.mono e1) (wpr_mono (wpr_bnd hx) (fun y m2 hy => ?_) fun _ _ z => qx_ext e1 z)
  intro S2 H2 ρ2 yv e2 M2 ry
  refine jo.run M2 (rx.mono e2) ry (wpr_mono hy (fun z m3 hz => ?_) fun _ _ z => qx_ext (e1.trans e2) z)
  intro S3 H3 ρ3 zv e3 M3 rz
  exact asB_ok ((e1.trans e2).trans e3) M3 rz hz⟩
/-- a op b op' c -/
def dCh (g g' : SV → SV → P SV) (fa fb fc : En → P SV) : En → P SV := fun env => (fa env).bnd fun x => (fb env).bnd fun y => (g x y).bnd fun z => match z with
  | .dat (.bl true) => (fc env).bnd fun w => g' y w
  | .dat (.bl false) => P.ret (.dat (.bl false))
  | _ => P.stk
theorem je_chain {op op' : CmpOp} {g g' : SV → SV → P SV} (jo : JO X W (compareOp op) g) (jo' : JO X W (compareOp op') g') (ja : JE X W a fa) (jb : JE X W b fb) (jc : JE X W c fc)
    (hm : lastMarks [op, op'] [b, c] = false := by with_unfolding_all rfl) : JE X W (.Compare a [op, op'] [b, c] pos) (dCh g g' fa fb fc) := ⟨fun {G S H ρ m env σ Q} M E h => by
  refine we_chain hm (ja.run M E (wpr_monoQ (wpr_bnd h) fun x m1 hx => ?_))
  intro S1 H1 ρ1 xv e1 M1 rx
  refine jb.run M1 (E.mono e1) (wpr_mono (wpr_bnd hx) (fun y m2 hy => ?_) fun _ _ z => qx_ext e1 z)
  intro S2 H2 ρ2 yv e2 M2 ry
  refine jo.run M2 (rx.mono e2) ry (wpr_mono (wpr_bnd hy) (fun z m3 hz => ?_) fun _ _ z => qx_ext (e1.trans e2) z)
  intro S3 H3 ρ3 zv e3 M3 rz
  have e13 := (e1.trans e2).trans e3
  cases z with
  | ref n => exact hz.elim
  | dat d =>
    cases d with
    | bl k =>
      cases rz
      refine ⟨k, rfl, ?_⟩
      cases k with
      | true =>
        rw [if_pos rfl]
        refine jc.run M3 (E.mono e13) (wpr_mono (wpr_bnd hz) (fun w m4 hw => ?_) fun _ _ z => qx_ext e13 z)
        intro S4 H4 ρ4 wv e4 M4 rw'
        exact jo'.run M4 (ry.mono (e3.trans e4)) rw' (wpr_mono hw (fun _ _ z => qv_ext (e13.trans e4) z) fun _ _ z => qx_ext (e13.trans e4) z)
      | false =>
        rw [if_neg Bool.false_ne_true]
        exact hz S3 H3 ρ3 _ e13 M3 (.bl false)
    | _ => exact hz.elim⟩
theorem jt_chain {op op' : CmpOp} {g g' : SV → SV → P SV} (jo : JO X W (compareOp op) g) (jo' : JO X W (compareOp op') g') (ja : JE X W a fa) (jb : JE X W b fb) (jc : JE X W c fc)
    (hm : lastMarks [op, op'] [b, c] = false := by with_unfolding_all rfl) : JT X W (.Compare a [op, op'] [b, c] pos) (dB (dCh g g' fa fb fc)) := ⟨fun {G S H ρ m env σ Q} M E h => by
  have h := wpr_bnd h
  refine wt_chain hm (ja.run M E (wpr_monoQ (wpr_bnd h) fun x m1 hx => ?_))
  intro S1 H1 ρ1 xv e1 M1 rx
  refine jb.run M1 (E.mono e1) (wpr_mono (wpr_bnd hx) (fun y m2 hy => ?_) fun _ _ z => qx_ext e1 z)
  intro S2 H2 ρ2 yv e2 M2 ry
  refine jo.run M2 (rx.mono e2) ry (wpr_mono (wpr_bnd hy) (fun z m3 hz => ?_) fun _ _ z => qx_ext (e1.trans e2) z)
  intro S3 H3 ρ3 zv e3 M3 rz
  have e13 := (e1.trans e2).trans e3
  cases z with
  | ref n => exact hz.elim
  | dat d =>
    cases d with
    | bl k =>
      cases rz
      refine ⟨k, rfl, ?_⟩
      cases k with
      | true =>
        rw [if_pos rfl]
        refine jc.run M3 (E.mono e13) (wpr_mono (wpr_bnd hz) (fun w m4 hw => ?_) fun _ _ z => qx_ext e13 z)
        intro S4 H4 ρ4 wv e4 M4 rw'
        refine jo'.run M4 (ry.mono (e3.trans e4)) rw' (wpr_mono hw (fun z m5 hz5 => ?_) fun _ _ z => qx_ext (e13.trans e4) z)
        intro S5 H5 ρ5 zv5 e5 M5 rz5
        exact asB_ok ((e13.trans e4).trans e5) M5 rz5 hz5
      | false =>
        rw [if_neg Bool.false_ne_true]
        exact hz S3 H3 ρ3 e13 M3
    | _ => exact hz.elim⟩

/-! ### and, or, not, if -/
def dAndV (fa fb : En → P SV) : En → P SV := fun env => (fa env).bnd fun x => match x with
  | .dat (.bl true) => fb env
  | .dat (.bl false) => P.ret (.dat (.bl false))
  | _ => P.stk
def dOrV (fa fb : En → P SV) : En → P SV := fun env => (fa env).bnd fun x => match x with
  | .dat (.bl true) => P.ret (.dat (.bl true))
  | .dat (.bl false) => fb env
  | _ => P.stk
def dNotV (fa : En → P SV) : En → P SV := fun env => (fa env).bnd fun x => match x with
  | .dat (.bl k) => P.ret (.dat (.bl (!k)))
  | _ => P.stk
theorem je_one {op} (ja : JE X W a fa) : JE X W (.BoolOp op [a] pos) fa := ⟨fun {G S H ρ m env σ Q} M E h => we_of (pe_one pe_we) (ja.run M E h)⟩
variable {rest : List Expr}
theorem je_and (ja : JE X W a fa) (jb : JE X W (.BoolOp .And (b :: rest) pos) fb) : JE X W (.BoolOp .And (a :: b :: rest) pos) (dAndV fa fb) := ⟨fun {G S H ρ m env σ Q} M E h => by
  refine we_of (pe_and pe_we pe_we) (ja.run M E (wpr_monoQ (wpr_bnd h) fun x m1 hx => ?_))
  intro S1 H1 ρ1 xv e1 M1 rx
  cases x with
  | ref n => exact hx.elim
  | dat d =>
    cases d with
    | bl k =>
      cases rx
      refine ⟨k, rfl, ?_⟩
      cases k with
      | true =>
        rw [if_pos rfl]
        exact jb.run M1 (E.mono e1) (wpr_mono hx (fun _ _ z => qv_ext e1 z) fun _ _ z => qx_ext e1 z)
      | false =>
        rw [if_neg Bool.false_ne_true]
        exact hx S1 H1 ρ1 _ e1 M1 (.bl false)
    | _ => exact hx.elim⟩
theorem je_or (ja : JE X W a fa) (jb : JE X W (.BoolOp .Or (b :: rest) pos) fb) : JE X W (.BoolOp .Or (a :: b :: rest) pos) (dOrV fa fb) := ⟨fun {G S H ρ m env σ Q} M E h => by
  refine we_of (pe_or pe_we pe_we) (ja.run M E (wpr_monoQ (wpr_bnd h) fun x m1 hx => ?_))
  intro S1 H1 ρ1 xv e1 M1 rx
  cases x with
  | ref n => exact hx.elim
  | dat d =>
    cases d with
    | bl k =>
      cases rx
      refine ⟨k, rfl, ?_⟩
      cases k with
      | false =>
        rw [if_neg Bool.false_ne_true]
        exact jb.run M1 (E.mono e1) (wpr_mono hx (fun _ _ z => qv_ext e1 z) fun _ _ z => qx_ext e1 z)
      | true =>
        rw [if_pos rfl]
        exact hx S1 H1 ρ1 _ e1 M1 (.bl true)
    | _ => exact hx.elim⟩
theorem je_not (ja : JE X W a fa) : JE X W (.UnaryOp .Not a pos) (dNotV fa) := ⟨fun {G S H ρ m env σ Q} M E h => by
  refine we_of (pe_not pe_we) (ja.run M E (wpr_monoQ (wpr_bnd h) fun x m1 hx => ?_))
  intro S1 H1 ρ1 xv e1 M1 rx
  cases x with
  | ref n => exact hx.elim
  | dat d =>
    cases d with
    | bl k =>
      cases rx
      exact ⟨k, rfl, hx S1 H1 ρ1 _ e1 M1 (.bl _)⟩
    | _ => exact hx.elim⟩
variable {ta tb : En → P Bool}
def dAndT (ta tb : En → P Bool) : En → P Bool := fun env => (ta env).bnd fun k => match k with
  | true => tb env
  | false => P.ret false
def dOrT (ta tb : En → P Bool) : En → P Bool := fun env => (ta env).bnd fun k => match k with
  | true => P.ret true
  | false => tb env
def dNotT (ta : En → P Bool) : En → P Bool := fun env => (ta env).bnd fun k => P.ret (!k)
def dIf (t : En → P Bool) (fa fb : En → P SV) : En → P SV := fun env => (t env).bnd fun k => match k with
  | true => fa env
  | false => fb env
/-- a test whatever its whole is -/
structure JW (X : Cx) (W : WX) (e : Expr) (f : En → P Bool) : Prop where
  run : ∀ {G S H : Hp} {ρ : List Addr} {m : Mem} {env : En} {σ : St} {Q : Bool → Hp → Prop}, MR (gd X) G S H ρ m → ER (gd X) S ρ env σ → wpr (f env m) (QB X G S ρ Q) (QX X W G S ρ σ) →
    ∀ (whole : Sem Value) (pins : List (Addr × Obj)) (s : Shared), Inv X pins σ H s → wpAny (model X.prog X.w) X.A (isTrue e X.env whole) (TP X pins σ Q) X.xe s
theorem JW.pt (h : JW X W e ta) : JT X W e ta := ⟨fun M E q pins s I => h.run M E q _ pins s I⟩
theorem jw_and1 (ja : JT X W a ta) : JW X W (.BoolOp .And [a] pos) ta := ⟨fun M E h wh pins s I => (pw_and1 pt_wt).run wh pins s _ _ _ I (ja.run M E h)⟩
theorem jw_or1 (ja : JT X W a ta) : JW X W (.BoolOp .Or [a] pos) ta := ⟨fun M E h wh pins s I => (pw_or1 pt_wt).run wh pins s _ _ _ I (ja.run M E h)⟩
theorem jw_and (ja : JT X W a ta) (jb : JW X W (.BoolOp .And (b :: rest) pos) tb) : JW X W (.BoolOp .And (a :: b :: rest) pos) (dAndT ta tb) := ⟨fun {G S H ρ m env σ Q} M E h wh pins s I => by
  refine isTrue_and (thn (ja.run (Q := fun k H1 => if k = true then (∀ (wh : Sem Value) (pins : List (Addr × Obj)) (s : Shared), Inv X pins σ H1 s → wpAny (model X.prog X.w) X.A (isTrue (.BoolOp .And (b :: rest) pos) X.env wh) (TP X pins σ Q) X.xe s) else Q false H1) M E (wpr_monoQ (wpr_bnd h) fun k m1 hk => ?_) pins s I) fun k s1 ⟨H1, I1, q1⟩ => ?_)
  · intro S1 H1 ρ1 e1 M1
    cases k with
    | true =>
      rw [if_pos rfl]
      exact jb.run M1 (E.mono e1) (wpr_mono hk (fun _ _ z => qb_ext e1 z) fun _ _ z => qx_ext e1 z)
    | false =>
      rw [if_neg Bool.false_ne_true]
      exact hk S1 H1 ρ1 e1 M1
  · cases k with
    | true =>
      rw [if_pos rfl] at q1
      exact q1 wh pins s1 I1
    | false =>
      rw [if_neg Bool.false_ne_true] at q1
      exact ⟨H1, I1, q1⟩⟩
theorem jw_or (ja : JT X W a ta) (jb : JW X W (.BoolOp .Or (b :: rest) pos) tb) : JW X W (.BoolOp .Or (a :: b :: rest) pos) (dOrT ta tb) := ⟨fun {G S H ρ m env σ Q} M E h wh pins s I => by
  refine isTrue_or (thn (ja.run (Q := fun k H1 => if k = true then Q true H1 else (∀ (wh : Sem Value) (pins : List (Addr × Obj)) (s : Shared), Inv X pins σ H1 s → wpAny (model X.prog X.w) X.A (isTrue (.BoolOp .Or (b :: rest) pos) X.env wh) (TP X pins σ Q) X.xe s)) M E (wpr_monoQ (wpr_bnd h) fun k m1 hk => ?_) pins s I) fun k s1 ⟨H1, I1, q1⟩ => ?_)
  · intro S1 H1 ρ1 e1 M1
    cases k with
    | false =>
      rw [if_neg Bool.false_ne_true]
      exact jb.run M1 (E.mono e1) (wpr_mono hk (fun _ _ z => qb_ext e1 z) fun _ _ z => qx_ext e1 z)
    | true =>
      rw [if_pos rfl]
      exact hk S1 H1 ρ1 e1 M1
  · cases k with
    | true =>
      rw [if_pos rfl] at q1
      exact ⟨H1, I1, q1⟩
    | false =>
      rw [if_neg Bool.false_ne_true] at q1
      exact q1 wh pins s1 I1⟩
theorem jt_and1 (ja : JT X W a ta) : JT X W (.BoolOp .And [a] pos) ta := (jw_and1 ja).pt
theorem jt_not (ja : JT X W a ta) : JT X W (.UnaryOp .Not a pos) (dNotT ta) := ⟨fun {G S H ρ m env σ Q} M E h => by
  refine wt_of (pt_not pt_wt) (ja.run M E (wpr_monoQ (wpr_bnd h) fun k m1 hk => ?_))
  intro S1 H1 ρ1 e1 M1
  exact hk S1 H1 ρ1 e1 M1⟩
theorem je_if (jc : JT X W c ta) (ja : JE X W a fa) (jb : JE X W b fb) : JE X W (.IfExp c a b pos) (dIf ta fa fb) := ⟨fun {G S H ρ m env σ Q} M E h => by
  refine we_of (pe_ifExp pt_wt pe_we pe_we) (jc.run M E (wpr_monoQ (wpr_bnd h) fun k m1 hk => ?_))
  intro S1 H1 ρ1 e1 M1
  cases k with
  | true =>
    rw [if_pos rfl]
    exact ja.run M1 (E.mono e1) (wpr_mono hk (fun _ _ z => qv_ext e1 z) fun _ _ z => qx_ext e1 z)
  | false =>
    rw [if_neg Bool.false_ne_true]
    exact jb.run M1 (E.mono e1) (wpr_mono hk (fun _ _ z => qv_ext e1 z) fun _ _ z => qx_ext e1 z)⟩
/-- a value's truth -/
def truV (v : SV) : P Bool := fun m => match v with
  | .dat .non => .ok false m
  | .dat (.bl b) => .ok b m
  | .dat (.int i) => .ok (i != 0) m
  | .dat (.str y) => if y.length ≤ 16777216 then .ok ((y.length : Int) != 0) m else .stuck
  | .dat (.tup xs) => .ok (!xs.isEmpty) m
  | .dat (.lst xs) => .ok (!xs.isEmpty) m
  | .ref n => (match m[n]? with | some (.lst xs) => .ok (!xs.isEmpty) m | _ => .stuck)
  | _ => .stuck
def dTr (f : En → P SV) : En → P Bool := fun env => (f env).bnd truV
theorem rpAll_empty {Γ : Gd} {S : Hp} {vs : List V} {ds : List D} (r : RpAll Γ S vs ds) : vs.isEmpty = ds.isEmpty := by cases r <;> rfl
theorem truV_ok {G S S' H' : Hp} {ρ ρ' : List Addr} {v : SV} {vv : V} {m' : Mem} {Q : Bool → Hp → Prop} {E : Exc → Mem → Prop} (e : Ext S ρ S' ρ') (M : MR (gd X) G S' H' ρ' m') (r : RSV (gd X) S' ρ' vv v)
    (h : wpr (truV v m') (QB X G S ρ Q) E) : ∃ k, TruV X.K vv H' k ∧ Q k H' := by
  cases v with
  | ref n =>
    obtain ⟨a, h1, rfl⟩ := r
    unfold truV at h
    simp only at h
    split at h
    · rename_i xs hx
      obtain ⟨a', vs, g1, g2, g3, _⟩ := M.cell n xs hx
      rw [h1] at g1
      cases g1
      exact ⟨_, .inl ⟨vs, .inl (.inl g2), by rw [rpAll_empty g3]⟩, h S' H' ρ' e M⟩
    · exact h.elim
  | dat d =>
    cases d with
    | non => cases r; exact ⟨_, rfl, h S' H' ρ' e M⟩
    | bl b => cases r; exact ⟨_, rfl, h S' H' ρ' e M⟩
    | int i => cases r; exact ⟨_, rfl, h S' H' ρ' e M⟩
    | str y =>
      cases r
      unfold truV at h
      simp only at h
      split at h
      · rename_i hy
        exact ⟨_, ⟨by rw [sizeLine_eq]; exact hy, rfl⟩, h S' H' ρ' e M⟩
      · exact h.elim
    | tup xs =>
      cases r with
      | tup q z => exact ⟨_, .inr (.inl ⟨_, Same.seqT M.sub q, by rw [rpAll_empty z]⟩), h S' H' ρ' e M⟩
    | lst xs =>
      cases r with
      | lst q z => exact ⟨_, .inl ⟨_, .inl (.inl (M.sub _ _ q)), by rw [rpAll_empty z]⟩, h S' H' ρ' e M⟩
    | _ => exact h.elim
theorem jt_val (ja : JE X W a fa) (he : ∀ whole, isTrue a X.env whole = (do let v ← whole; standAt a.pos; holding [v] (truthy v)) := by intro _; rfl) : JT X W a (dTr fa) := ⟨fun {G S H ρ m env σ Q} M E h => by
  refine wt_of (pt_truth pe_we he) (ja.run M E (wpr_monoQ (wpr_bnd h) fun x m1 hx => ?_))
  intro S1 H1 ρ1 xv e1 M1 rx
  exact truV_ok e1 M1 rx hx⟩

/-! ### arguments, displays -/
def dNil : En → P (List SV) := fun _ => P.ret []
def dCons (f : En → P SV) (g : En → P (List SV)) : En → P (List SV) := fun env => (f env).bnd fun x => (g env).bnd fun xs => P.ret (x :: xs)
theorem paired_mono {Γ : Gd} {S S' : Hp} {ρ ρ' : List Addr} (e : Ext S ρ S' ρ') {vs : List V} {xs : List SV} (h : Paired (RSV Γ S ρ) vs xs) : Paired (RSV Γ S' ρ') vs xs := Paired.mapP h fun _ _ r => r.mono e
variable {fs : En → P (List SV)}
theorem ja_nil : JA X W [] dNil := ⟨fun {G S H ρ m env σ Q} M E h => wa_of pa_nil (h S H ρ [] (Ext.refl _ _) M .nil)⟩
theorem ja_cons (ja : JE X W a fa) (js : JA X W es fs) (hs : starEach (a :: es) X.env = (false, eval a X.env) :: starEach es X.env := by rfl) : JA X W (a :: es) (dCons fa fs) := ⟨fun {G S H ρ m env σ Q} M E h => by
  refine wa_of (pa_cons pe_we pa_wa hs) (ja.run M E (wpr_monoQ (wpr_bnd h) fun x m1 hx => ?_))
  intro S1 H1 ρ1 xv e1 M1 rx
  refine js.run M1 (E.mono e1) (wpr_mono (wpr_bnd hx) (fun xs m2 hxs => ?_) fun _ _ z => qx_ext e1 z)
  intro S2 H2 ρ2 xvs e2 M2 rxs
  exact hxs S2 H2 ρ2 _ (e1.trans e2) M2 (.cons (rx.mono e2) rxs)⟩
def allDat : List SV → Option (List D)
  | [] => some []
  | .dat d :: r => (match allDat r with | some ds => some (d :: ds) | none => none)
  | .ref _ :: _ => none
theorem allDat_ok {Γ : Gd} {S : Hp} {ρ : List Addr} : ∀ {vs : List V} {xs : List SV} {ds : List D}, Paired (RSV Γ S ρ) vs xs → allDat xs = some ds → RpAll Γ S vs ds
  | _, [], _, .nil, h => by cases h; exact .nil
  | _, .dat d :: r, ds, .cons q t, h => by
    unfold allDat at h
    split at h
    · rename_i ds' e
      cases h
      exact .cons q (allDat_ok t e)
    · cases h
  | _, .ref _ :: r, _, .cons _ _, h => by cases h
def mkTup (xs : List SV) : P SV := fun m => match allDat xs with
  | some ds => if ds.length ≤ 16777216 then .ok (.dat (.tup ds)) m else .stuck
  | none => .stuck
def mkLst (xs : List SV) : P SV := fun m => match allDat xs with
  | some ds => if ds.length ≤ 16777216 then .ok (.dat (.lst ds)) m else .stuck
  | none => .stuck
/-- an own list -/
def mkOwn (xs : List SV) : P SV := fun m => match allDat xs with
  | some ds => if ds.length ≤ 16777216 then .ok (.ref m.length) (m ++ [.lst ds]) else .stuck
  | none => .stuck
def dA (g : List SV → P SV) (fs : En → P (List SV)) : En → P SV := fun env => (fs env).bnd g
theorem je_tup {k} (js : JA X W es fs) : JE X W (.Tuple es k pos) (dA mkTup fs) := ⟨fun {G S H ρ m env σ Q} M E h => by
  refine we_of (pe_tup pa_wa) (js.run M E (wpr_monoQ (wpr_bnd h) fun xs m1 hx => ?_))
  intro S1 H1 ρ1 xv e1 M1 rx
  unfold mkTup at hx
  split at hx
  · rename_i ds eds
    have r := allDat_ok rx eds
    split at hx
    · rename_i hl
      refine ⟨by rw [r.length, sizeLine_eq]; exact hl, fun p hp => ?_⟩
      obtain ⟨s1, M2⟩ := M1.grow hp (.tup xv)
      exact hx _ _ ρ1 _ (e1.trans ⟨s1, fun _ _ q => q⟩) M2 (.tup (.inl (.inl upd_same)) (r.mono s1))
    · exact hx.elim
  · exact hx.elim⟩
theorem je_lst (js : JA X W es fs) : JE X W (.List es pos) (dA mkLst fs) := ⟨fun {G S H ρ m env σ Q} M E h => by
  refine we_of (pe_lst pa_wa) (js.run M E (wpr_monoQ (wpr_bnd h) fun xs m1 hx => ?_))
  intro S1 H1 ρ1 xv e1 M1 rx
  unfold mkLst at hx
  split at hx
  · rename_i ds eds
    have r := allDat_ok rx eds
    split at hx
    · rename_i hl
      refine ⟨by rw [r.length, sizeLine_eq]; exact hl, fun p hp => ?_⟩
      obtain ⟨s1, M2⟩ := M1.grow hp (.lst xv)
      exact hx _ _ ρ1 _ (e1.trans ⟨s1, fun _ _ q => q⟩) M2 (.lst upd_same (r.mono s1))
    · exact hx.elim
  · exact hx.elim⟩
theorem je_own (js : JA X W es fs) : JE X W (.List es pos) (dA mkOwn fs) := ⟨fun {G S H ρ m env σ Q} M E h => by
  refine we_of (pe_lst pa_wa) (js.run M E (wpr_monoQ (wpr_bnd h) fun xs m1 hx => ?_))
  intro S1 H1 ρ1 xv e1 M1 rx
  unfold mkOwn at hx
  split at hx
  · rename_i ds eds
    have r := allDat_ok rx eds
    split at hx
    · rename_i hl
      refine ⟨by rw [r.length, sizeLine_eq]; exact hl, fun p hp => ?_⟩
      obtain ⟨e2, M2⟩ := M1.alloc hp r
      refine hx _ _ _ _ (e1.trans e2) M2 ⟨p, ?_, rfl⟩
      rw [← M1.len]
      simp
    · exact hx.elim
  · exact hx.elim⟩

/-! ### calls of built-ins -/
theorem je_callB {id : String} {x : Str} {p : Pos} {g : List SV → P SV} (jc : JC X W (.builtin id) g) (hg : Gl X x) (hm : X.mg x = none) (hv : bootBuiltins x = some (.builtin id)) (js : JA X W (e :: es) fs) (hn : x ≠ "__name__" := by decide) (hdb : (x == ("__debug__" : Str)) = false := by decide)
    (he : starEach (e :: es) X.env = (false, eval e X.env) :: starEach es X.env := by rfl) (hpl : (backTo pos (starEach es X.env)).any (·.1) = false := by rfl) : JE X W (.Call (.Name x p) (e :: es) [] pos) (dA g fs) := ⟨fun {G S H ρ m env σ Q} M E h => by
  refine we_callB hg hm hv (js.run M E (wpr_monoQ (wpr_bnd h) fun xs m1 hx => ?_)) hn hdb he hpl
  intro S1 H1 ρ1 xv e1 M1 rx
  exact jc.run M1 rx (wpr_mono hx (fun _ _ z => qv_ext e1 z) fun _ _ z => qx_ext e1 z)⟩
theorem je_callTy {T : String} {x : Str} {p : Pos} {g : List SV → P SV} (jc : JC X W (.type T) g) (hg : Gl X x) (hm : X.mg x = none) (hv : bootBuiltins x = some (.type T)) (js : JA X W (e :: es) fs) (hn : x ≠ "__name__" := by decide) (hdb : (x == ("__debug__" : Str)) = false := by decide)
    (he : starEach (e :: es) X.env = (false, eval e X.env) :: starEach es X.env := by rfl) (hpl : (backTo pos (starEach es X.env)).any (·.1) = false := by rfl) : JE X W (.Call (.Name x p) (e :: es) [] pos) (dA g fs) := ⟨fun {G S H ρ m env σ Q} M E h => by
  refine we_callTy hg hm hv (js.run M E (wpr_monoQ (wpr_bnd h) fun xs m1 hx => ?_)) hn hdb he hpl
  intro S1 H1 ρ1 xv e1 M1 rx
  exact jc.run M1 rx (wpr_mono hx (fun _ _ z => qv_ext e1 z) fun _ _ z => qx_ext e1 z)⟩
end
end PL

/-! PL3: operations on values. -/
namespace PL
open PySem PySem.Spec PyProof.Rows L2

/-! ### reading sequences -/
def rdL (v : SV) (m : Mem) : Option (List D) := match v with
  | .dat (.lst xs) => some xs
  | .ref n => (match m[n]? with | some (.lst xs) => some xs | _ => none)
  | _ => none
/-- a list at its address -/
theorem rdL_ok {Γ : Gd} {G S H : Hp} {ρ : List Addr} {m : Mem} {v : SV} {vv : V} {xs : List D} (M : MR Γ G S H ρ m) (r : RSV Γ S ρ vv v) (h : rdL v m = some xs) :
    ∃ a vs, vv = .ref a ∧ H a = some (.lst vs) ∧ RpAll Γ S vs xs := by
  cases v with
  | ref n =>
    obtain ⟨a, h1, rfl⟩ := r
    unfold rdL at h
    simp only at h
    split at h
    · rename_i ys hy
      cases h
      obtain ⟨a', vs, g1, g2, g3, _⟩ := M.cell n _ hy
      rw [h1] at g1
      cases g1
      exact ⟨a, vs, rfl, g2, g3⟩
    · cases h
  | dat d =>
    cases d with
    | lst ys =>
      cases h
      cases r with
      | lst q z => exact ⟨_, _, rfl, M.sub _ _ q, z⟩
    | _ => cases h
def svD (v : SV) (m : Mem) : Option D := match v with
  | .dat d => some d
  | .ref n => (match m[n]? with | some (.lst xs) => some (.lst xs) | some (.pair d xs) => some (.tup [d, .lst xs]) | _ => none)
theorem svD_ok {Γ : Gd} {G S H : Hp} {ρ : List Addr} {m : Mem} {v : SV} {vv : V} {d : D} (M : MR Γ G S H ρ m) (r : RSV Γ S ρ vv v) (h : svD v m = some d) : Rp Γ H vv d := by
  cases v with
  | ref n =>
    obtain ⟨a, h1, rfl⟩ := r
    unfold svD at h
    simp only at h
    split at h
    · rename_i ys hy
      cases h
      obtain ⟨a', vs, g1, g2, g3, _⟩ := M.cell n _ hy
      rw [h1] at g1
      cases g1
      exact .lst g2 (g3.mono M.sub)
    · rename_i d' ys hy
      cases h
      obtain ⟨a', b, v, vs, g1, g2, g3, g4, g5, _⟩ := M.mix.pair n _ _ hy
      rw [h1] at g1
      cases g1
      exact .tup (.inl (.inl (M.sub _ _ g2))) (.cons (g3.mono M.sub) (.cons (.lst g4 (g5.mono M.sub)) .nil))
    · cases h
  | dat d' =>
    cases h
    exact Rp.mono M.sub r

/-! ### == -/
mutual
def toPy : D → PyData
  | .non => .none
  | .bl b => .bool b
  | .int i => .int i
  | .str x => .str x
  | .tup xs => .tuple (toPys xs)
  | .lst xs => .list (toPys xs)
  | .fn _ => .none
  | .ty _ => .none
  | .scr _ => .none
  | .ks _ => .none
  | .dt _ _ => .none
def toPys : List D → List PyData
  | [] => []
  | d :: r => toPy d :: toPys r
end
mutual
def plain : D → Bool
  | .non => true
  | .bl _ => true
  | .int _ => true
  | .str x => PyData.canLay0 (.str x)
  | .tup xs => plains xs
  | .lst xs => plains xs
  | .fn _ => false
  | .ty _ => false
  | .scr _ => false
  | .ks _ => false
  | .dt _ _ => false
def plains : List D → Bool
  | [] => true
  | d :: r => plain d && plains r
end
mutual
def dep : D → Nat
  | .tup xs => deps xs + 1
  | .lst xs => deps xs + 1
  | _ => 0
def deps : List D → Nat
  | [] => 0
  | d :: r => max (dep d) (deps r)
end
mutual
theorem toPy_lay : ∀ d, plain d = true → PyData.canLay0 (toPy d) = true
  | .non, _ => by simp [toPy, PyData.canLay0]
  | .bl _, _ => by simp [toPy, PyData.canLay0]
  | .int _, _ => by simp [toPy, PyData.canLay0]
  | .str x, h => by simpa [toPy, plain] using h
  | .tup xs, h => by
    simp only [toPy, PyData.canLay0]
    exact toPys_lay xs (by simpa [plain] using h)
  | .lst xs, h => by
    simp only [toPy, PyData.canLay0]
    exact toPys_lay xs (by simpa [plain] using h)
  | .fn _, h => by simp [plain] at h
  | .ty _, h => by simp [plain] at h
  | .scr _, h => by simp [plain] at h
  | .ks _, h => by simp [plain] at h
  | .dt _ _, h => by simp [plain] at h
theorem toPys_lay : ∀ ds, plains ds = true → PyData.canLayAll0 (toPys ds) = true
  | [], _ => by simp [toPys, PyData.canLayAll0]
  | d :: r, h => by
    simp only [plains, Bool.and_eq_true] at h
    simp only [toPys, PyData.canLayAll0, Bool.and_eq_true]
    exact ⟨toPy_lay d h.1, toPys_lay r h.2⟩
end
mutual
theorem toPy_dep : ∀ d, (toPy d).depth = dep d
  | .non => by simp [toPy, PyData.depth, dep]
  | .bl _ => by simp [toPy, PyData.depth, dep]
  | .int _ => by simp [toPy, PyData.depth, dep]
  | .str x => by simp [toPy, PyData.depth, dep]
  | .tup xs => by simp only [toPy, PyData.depth, dep, toPys_dep xs]
  | .lst xs => by simp only [toPy, PyData.depth, dep, toPys_dep xs]
  | .fn _ => by simp [toPy, PyData.depth, dep]
  | .ty _ => by simp [toPy, PyData.depth, dep]
  | .scr _ => by simp [toPy, PyData.depth, dep]
  | .ks _ => by simp [toPy, PyData.depth, dep]
  | .dt _ _ => by simp [toPy, PyData.depth, dep]
theorem toPys_dep : ∀ ds, PyData.depthAll (toPys ds) = deps ds
  | [] => by simp [toPys, PyData.depthAll, deps]
  | d :: r => by simp only [toPys, PyData.depthAll, deps, toPy_dep d, toPys_dep r]
end
mutual
theorem Rp.dp {Γ : Gd} {H : Hp} : ∀ {v : V} {d : D}, Rp Γ H v d → plain d = true → Dp Γ.K H v (toPy d)
  | _, _, .non, _ => by simp only [toPy]; exact .non
  | _, _, .bl b, _ => by simp only [toPy]; exact .bl b
  | _, _, .int i, _ => by simp only [toPy]; exact .int i
  | _, _, .str x, _ => by simp only [toPy]; exact .str x
  | _, _, .lst h r, p => by simp only [toPy]; exact .lst (.inl (.inl h)) (RpAll.dp r (by simpa [plain] using p))
  | _, _, .tup h r, p => by simp only [toPy]; exact .tup h (RpAll.dp r (by simpa [plain] using p))
  | _, _, .fn _, p => by simp [plain] at p
  | _, _, .ty _, p => by simp [plain] at p
  | _, _, .scr _, p => by simp [plain] at p
  | _, _, .ks _, p => by simp [plain] at p
  | _, _, .dt _ _ _ _ _ _ _ _, p => by simp [plain] at p
theorem RpAll.dp {Γ : Gd} {H : Hp} : ∀ {vs : List V} {ds : List D}, RpAll Γ H vs ds → plains ds = true → DpAll Γ.K H vs (toPys ds)
  | _, _, .nil, _ => by simp only [toPys]; exact .nil
  | _, _, .cons h r, p => by
    simp only [plains, Bool.and_eq_true] at p
    simp only [toPys]
    exact .cons (Rp.dp h p.1) (RpAll.dp r p.2)
end
def okD (d : D) : Bool := plain d && decide (dep d ≤ 64)
theorem okD_shaped {d : D} (h : okD d = true) : SeqAt.shaped (toPy d) = true := by
  simp only [okD, Bool.and_eq_true, decide_eq_true_eq] at h
  simp only [SeqAt.shaped, Bool.and_eq_true, decide_eq_true_eq, toPy_dep]
  exact ⟨toPy_lay d h.1, h.2⟩
theorem okD_plain {d : D} (h : okD d = true) : plain d = true := by
  simp only [okD, Bool.and_eq_true] at h
  exact h.1
def eqd (d e : D) : Bool := PyData.eqv (toPy d) (toPy e)
def eqV (x y : SV) : P SV := fun m => match svD x m, svD y m with
  | some d, some e => if okD d && okD e then .ok (.dat (.bl (eqd d e))) m else .stuck
  | _, _ => .stuck
def neV (x y : SV) : P SV := fun m => match svD x m, svD y m with
  | some d, some e => if okD d && okD e then .ok (.dat (.bl (!eqd d e))) m else .stuck
  | _, _ => .stuck
section
variable {X : Cx} {W : WX}
theorem jo_eq (hu : X.A.units + 64 < cLine) : JO X W (compareOp .Eq) eqV := ⟨fun {G S H ρ m σ x y xv yv Q} M rx ry h => by
  unfold eqV at h
  split at h
  · rename_i d e hd he
    split at h
    · rename_i ok
      rw [Bool.and_eq_true] at ok
      refine wo_of (op_eqD hu) ⟨toPy d, toPy e, (svD_ok M rx hd).dp (okD_plain ok.1), (svD_ok M ry he).dp (okD_plain ok.2), okD_shaped ok.1, okD_shaped ok.2, ?_⟩
      exact h S H ρ _ (Ext.refl _ _) M (.bl _)
    · exact h.elim
  · exact h.elim⟩
theorem jo_ne (hu : X.A.units + 64 < cLine) : JO X W (compareOp .NotEq) neV := ⟨fun {G S H ρ m σ x y xv yv Q} M rx ry h => by
  unfold neV at h
  split at h
  · rename_i d e hd he
    split at h
    · rename_i ok
      rw [Bool.and_eq_true] at ok
      refine wo_of (op_neD hu) ⟨toPy d, toPy e, (svD_ok M rx hd).dp (okD_plain ok.1), (svD_ok M ry he).dp (okD_plain ok.2), okD_shaped ok.1, okD_shaped ok.2, ?_⟩
      exact h S H ρ _ (Ext.refl _ _) M (.bl _)
    · exact h.elim
  · exact h.elim⟩

/-! ### ints -/
@[irreducible] def big : Nat := 2 ^ 4000
def mulOk (i j : Int) : Bool := (decide (i.natAbs < big) && decide (j.natAbs < big)) || decide (i.natAbs < 18446744073709551616) || decide (j.natAbs < 18446744073709551616)
theorem log_big {n : Nat} (h : n < big) : n.log2 < 4000 := by
  unfold big at h
  exact PySem.Flt.log2_lt_of (by decide) h
theorem big_of {n : Nat} (h : n < 2 ^ 1000) : n < big := by
  unfold big
  exact Nat.lt_trans h (by decide +kernel)
def intOp (g : Int → Int → R SV) (x y : SV) : R SV := match x, y with
  | .dat (.int i), .dat (.int j) => g i j
  | _, _ => .stuck
theorem jo_int {f : Value → Value → Sem Value} {g : Int → Int → Mem → R SV} (h : ∀ {G S H : Hp} {ρ : List Addr} {m : Mem} {σ : St} {i j : Int} {Q : VK}, MR (gd X) G S H ρ m → wpr (g i j m) (QV X G S ρ Q) (QX X W G S ρ σ) → WO X f (.int i) (.int j) σ H Q) :
    JO X W f (fun x y m => intOp (fun i j => g i j m) x y) := ⟨fun {G S H ρ m σ x y xv yv Q} M rx ry q => by
  unfold intOp at q
  split at q
  · cases rx
    cases ry
    exact h M q
  · exact q.elim⟩
def subV (x y : SV) : P SV := fun m => intOp (fun i j => .ok (.dat (.int (i - j))) m) x y
def mulV (x y : SV) : P SV := fun m => intOp (fun i j => if mulOk i j = true then .ok (.dat (.int (i * j))) m else .stuck) x y
def fdivV (x y : SV) : P SV := fun m => intOp (fun i j => if j ≠ 0 ∧ j.natAbs < big then .ok (.dat (.int (i.fdiv j))) m else .stuck) x y
def modV (x y : SV) : P SV := fun m => intOp (fun i j => if j ≠ 0 then .ok (.dat (.int (i.fmod j))) m else .stuck) x y
def powV (x y : SV) : P SV := fun m => intOp (fun i j => if 0 ≤ j ∧ j ≤ 1000000 ∧ i.natAbs < 2 ^ 64 then .ok (.dat (.int (i ^ j.toNat))) m else .stuck) x y
def ltV (x y : SV) : P SV := fun m => intOp (fun i j => .ok (.dat (.bl (decide (i < j)))) m) x y
def leV (x y : SV) : P SV := fun m => intOp (fun i j => .ok (.dat (.bl (decide (i ≤ j)))) m) x y
def gtV (x y : SV) : P SV := fun m => intOp (fun i j => .ok (.dat (.bl (decide (j < i)))) m) x y
def geV (x y : SV) : P SV := fun m => intOp (fun i j => .ok (.dat (.bl (decide (j ≤ i)))) m) x y
theorem jo_sub : JO X W (binaryOp .Sub) subV := jo_int fun {G S H ρ m σ i j Q} M q => wo_of op_sub ⟨i, j, rfl, rfl, q S H ρ _ (Ext.refl _ _) M (.int _)⟩
theorem mulOk_ok {i j : Int} (h : mulOk i j = true) : IntMulOk i j := by
  unfold mulOk at h
  rw [Bool.or_eq_true, Bool.or_eq_true, Bool.and_eq_true] at h
  rcases h with (⟨h1, h2⟩ | h) | h
  · have a := log_big (of_decide_eq_true h1)
    have b := log_big (of_decide_eq_true h2)
    exact CMulW.ok (show i.natAbs.log2 + j.natAbs.log2 < 1000000 by omega)
  · have := of_decide_eq_true h
    exact CMul.ok (.inl ⟨by omega, by omega⟩)
  · have := of_decide_eq_true h
    exact CMul.ok (.inr ⟨by omega, by omega⟩)
theorem op_mulX : OpR X (binaryOp .Mult) (rI (fun i j => IntMulOk i j) fun i j => .int (i * j)) := opI fun _ _ _ _ _ _ _ hc q => mul_int q hc
theorem jo_mul : JO X W (binaryOp .Mult) mulV := jo_int fun {G S H ρ m σ i j Q} M q => by
  split at q
  · rename_i hm
    exact wo_of op_mulX ⟨i, j, rfl, rfl, mulOk_ok hm, q S H ρ _ (Ext.refl _ _) M (.int _)⟩
  · exact q.elim
theorem op_fdivX : OpR X (binaryOp .FloorDiv) (rI (fun i j => j ≠ 0 ∧ j.natAbs.log2 < 9000) fun i j => .int (i.fdiv j)) := opI fun _ _ _ _ _ _ _ hc q => floordiv_int hc.1 q (.inl (PyProof.noPylong_of_log2 hc.2))
theorem jo_fdiv : JO X W (binaryOp .FloorDiv) fdivV := jo_int fun {G S H ρ m σ i j Q} M q => by
  split at q
  · rename_i hm
    exact wo_of op_fdivX ⟨i, j, rfl, rfl, ⟨hm.1, Nat.lt_trans (log_big hm.2) (by decide)⟩, q S H ρ _ (Ext.refl _ _) M (.int _)⟩
  · exact q.elim
theorem jo_mod : JO X W (binaryOp .Mod) modV := jo_int fun {G S H ρ m σ i j Q} M q => by
  split at q
  · rename_i hm
    exact wo_of op_modN ⟨i, j, rfl, rfl, hm, q S H ρ _ (Ext.refl _ _) M (.int _)⟩
  · exact q.elim
theorem jo_pow : JO X W (binaryOp .Pow) powV := jo_int fun {G S H ρ m σ i j Q} M q => by
  split at q
  · rename_i hm
    exact wo_of op_pow ⟨i, j, rfl, rfl, hm, q S H ρ _ (Ext.refl _ _) M (.int _)⟩
  · exact q.elim
theorem jo_lt : JO X W (compareOp .Lt) ltV := jo_int fun {G S H ρ m σ i j Q} M q => wo_of op_lt ⟨i, j, rfl, rfl, q S H ρ _ (Ext.refl _ _) M (.bl _)⟩
theorem jo_le : JO X W (compareOp .LtE) leV := jo_int fun {G S H ρ m σ i j Q} M q => wo_of op_le ⟨i, j, rfl, rfl, q S H ρ _ (Ext.refl _ _) M (.bl _)⟩
theorem jo_gt : JO X W (compareOp .Gt) gtV := jo_int fun {G S H ρ m σ i j Q} M q => wo_of op_gt ⟨i, j, rfl, rfl, q S H ρ _ (Ext.refl _ _) M (.bl _)⟩
theorem jo_ge : JO X W (compareOp .GtE) geV := jo_int fun {G S H ρ m σ i j Q} M q => wo_of op_ge ⟨i, j, rfl, rfl, q S H ρ _ (Ext.refl _ _) M (.bl _)⟩
/-- +: ints, tuples, lists, texts -/
def addV (x y : SV) : P SV := fun m => match x, y with
  | .dat (.int i), .dat (.int j) => .ok (.dat (.int (i + j))) m
  | .dat (.tup xs), .dat (.tup ys) => if xs.length + ys.length ≤ 16777216 then .ok (.dat (.tup (xs ++ ys))) m else .stuck
  | .dat (.str a), .dat (.str b) => if a.length + b.length ≤ 16777216 then .ok (.dat (.str (a ++ b))) m else .stuck
  | .dat (.scr ns), .dat (.lst ys) => if ns.length + ys.length ≤ 16777216 then .ok (.dat (.lst (ns.map D.int ++ ys))) m else .stuck
  | _, _ => (match rdL x m, rdL y m with
    | some xs, some ys => if xs.length + ys.length ≤ 16777216 then .ok (.dat (.lst (xs ++ ys))) m else .stuck
    | _, _ => .stuck)
theorem catL_ok {G S H : Hp} {ρ : List Addr} {m : Mem} {σ : St} {x y : SV} {xv yv : V} {Q : VK} {E : Exc → Mem → Prop} (M : MR (gd X) G S H ρ m) (rx : RSV (gd X) S ρ xv x) (ry : RSV (gd X) S ρ yv y)
    (q : wpr (match rdL x m, rdL y m with
    | some xs, some ys => if xs.length + ys.length ≤ 16777216 then R.ok (SV.dat (.lst (xs ++ ys))) m else .stuck
    | _, _ => .stuck) (QV X G S ρ Q) E) : WO X (binaryOp .Add) xv yv σ H Q := by
  split at q
  · rename_i xs ys hx hy
    split at q
    · rename_i hl
      obtain ⟨a, vs, rfl, h1, r1⟩ := rdL_ok M rx hx
      obtain ⟨b, ws, rfl, h2, r2⟩ := rdL_ok M ry hy
      refine wo_of op_cat ⟨a, b, vs, ws, rfl, rfl, h1, h2, by rw [r1.length, r2.length, sizeLine_eq]; exact hl, fun p hp => ?_⟩
      obtain ⟨s1, M2⟩ := M.grow hp (.lst (vs ++ ws))
      exact q _ _ ρ _ ⟨s1, fun _ _ z => z⟩ M2 (.lst upd_same ((r1.append r2).mono s1))
    · exact q.elim
  · exact q.elim
theorem op_catQ : OpR X (binaryOp .Add) (fun x y H Q => ∃ l b xs zs, x = .ref l ∧ y = .ref b ∧ SqL X.K H l xs ∧ SqL X.K H b zs ∧ xs.length + zs.length ≤ sizeLine ∧ ∀ p, H p = none → Q (.ref p) (upd H p (.lst (xs ++ zs)))) := by
  intro pins s σ H x y v u Q I rx ry h
  obtain ⟨l, b, xs, zs, rfl, rfl, hH, hB, hz, q⟩ := h
  cases rx
  cases ry
  obtain ⟨its, r, p, _⟩ := I.list hH
  obtain ⟨its2, r2, p2, _⟩ := I.list hB
  obtain ⟨⟨cls, dd, data, sl⟩, ho, hc, n, hd⟩ := p.isList
  obtain ⟨⟨cls2, dd2, data2, sl2⟩, ho2, hc2, n2, hd2⟩ := p2.isList
  simp only at hc hd hc2 hd2
  subst hc hd hc2 hd2
  have e1 := r.length
  have e2 := r2.length
  refine concat_meets ⟨_, ho, rfl⟩ ⟨_, ho2, rfl⟩ noFill_list_add seq_list_add PySem.F.slot_list_add PySem.F.entry_list_add (PySem.F.args_list_add_2 _ _)
    (list_addW l b its.toArray its2.toArray n n2 dd dd2 sl sl2 (by simp; omega)) ⟨ho, ho2, ?_⟩
  have ea : its.toArray ++ its2.toArray = (its ++ its2).toArray := by simp
  rw [ea]
  exact ⟨.ref _, _, I.lnew (t' := s.toks) (r.append r2) (by rw [List.length_append]; omega), rfl, q _ I.fresh⟩
theorem rpAll_int (Γ : Gd) (S : Hp) : ∀ ns : List Int, RpAll Γ S (ns.map V.int) (ns.map D.int)
  | [] => .nil
  | n :: r => .cons (.int n) (rpAll_int Γ S r)
theorem rpAll_nil {Γ : Gd} {S : Hp} {vs : List V} {ds : List D} (r : RpAll Γ S vs ds) (h : vs = []) : ds = [] := by subst h; cases r; rfl
theorem jo_add : JO X W (binaryOp .Add) addV := ⟨fun {G S H ρ m σ x y xv yv Q} M rx ry q => by
  unfold addV at q
  split at q
  · cases rx
    cases ry
    exact wo_of op_add ⟨_, _, rfl, rfl, q S H ρ _ (Ext.refl _ _) M (.int _)⟩
  · rename_i xs ys
    split at q
    · rename_i hl
      cases rx with
      | tup h1 r1 =>
        cases ry with
        | tup h2 r2 =>
          rename_i a vs b ws
          refine wo_of op_catA ⟨a, b, vs, ws, rfl, rfl, Same.seqT M.sub h1, Same.seqT M.sub h2, by rw [r1.length, r2.length, sizeLine_eq]; exact hl, fun e => ?_, fun e1 e2 => ?_, fun e1 e2 p hp => ?_⟩
          · have z := rpAll_nil r1 e
            subst z
            exact q S H ρ _ (Ext.refl _ _) M (.tup h2 r2)
          · have z := rpAll_nil r2 e2
            subst z
            rw [List.append_nil] at q
            exact q S H ρ _ (Ext.refl _ _) M (.tup h1 r1)
          · obtain ⟨s1, M2⟩ := M.grow hp (.tup (vs ++ ws))
            exact q _ _ ρ _ ⟨s1, fun _ _ z => z⟩ M2 (.tup (.inl (.inl upd_same)) ((r1.append r2).mono s1))
    · exact q.elim
  · split at q
    · rename_i hl
      cases rx
      cases ry
      exact wo_of op_add_str ⟨_, _, rfl, rfl, by rw [sizeLine_eq]; exact hl, q S H ρ _ (Ext.refl _ _) M (.str _)⟩
    · exact q.elim
  · rename_i ns ys
    split at q
    · rename_i hl
      cases rx with
      | scr h1 =>
        cases ry with
        | lst h2 r2 =>
          rename_i a b ws
          refine wo_of op_catQ ⟨a, b, ns.map V.int, ws, rfl, rfl, M.sub.seq h1, .inl (.inl (M.sub _ _ h2)), by rw [List.length_map, r2.length, sizeLine_eq]; exact hl, fun p hp => ?_⟩
          obtain ⟨s1, M2⟩ := M.grow hp (.lst (ns.map V.int ++ ws))
          exact q _ _ ρ _ ⟨s1, fun _ _ z => z⟩ M2 (.lst upd_same (((rpAll_int _ _ ns).append r2).mono s1))
    · exact q.elim
  · exact catL_ok M rx ry q⟩
/-- is None, is not None -/
def isNon : D → Bool
  | .non => true
  | _ => false
def isNV (x y : SV) : P SV := fun m => match x, y with
  | .dat d, .dat .non => .ok (.dat (.bl (isNon d))) m
  | .ref _, .dat .non => .ok (.dat (.bl false)) m
  | _, _ => .stuck
def notNV (x y : SV) : P SV := fun m => match x, y with
  | .dat d, .dat .non => .ok (.dat (.bl (!isNon d))) m
  | .ref _, .dat .non => .ok (.dat (.bl true)) m
  | _, _ => .stuck
theorem rp_non {Γ : Gd} {S : Hp} {v : V} {d : D} (r : Rp Γ S v d) : decide (v = .non) = isNon d := by
  cases r <;> simp [isNon]
theorem jo_isN : JO X W (compareOp .Is) isNV := ⟨fun {G S H ρ m σ x y xv yv Q} M rx ry q => by
  unfold isNV at q
  split at q
  · cases ry
    refine wo_of op_isN ⟨rfl, ?_⟩
    rw [rp_non rx]
    exact q S H ρ _ (Ext.refl _ _) M (.bl _)
  · cases ry
    obtain ⟨a, _, rfl⟩ := rx
    exact wo_of op_isN ⟨rfl, by simpa using q S H ρ _ (Ext.refl _ _) M (.bl _)⟩
  · exact q.elim⟩
theorem jo_notN : JO X W (compareOp .IsNot) notNV := ⟨fun {G S H ρ m σ x y xv yv Q} M rx ry q => by
  unfold notNV at q
  split at q
  · rename_i d
    cases ry
    refine wo_of op_notN ⟨rfl, ?_⟩
    rw [rp_non rx]
    exact q S H ρ _ (Ext.refl _ _) M (.bl _)
  · cases ry
    obtain ⟨a, _, rfl⟩ := rx
    exact wo_of op_notN ⟨rfl, by simpa using q S H ρ _ (Ext.refl _ _) M (.bl _)⟩
  · exact q.elim⟩

/-! ### in, not in: flat items -/
def flatD : D → Bool
  | .non => true
  | .bl _ => true
  | .int _ => true
  | .str _ => true
  | _ => false
def eqF : D → D → Bool
  | .non, .non => true
  | .bl a, .bl b => a == b
  | .bl a, .int b => (if a then 1 else 0) == b
  | .int a, .bl b => a == (if b then 1 else 0)
  | .int a, .int b => a == b
  | .str a, .str b => a == b
  | _, _ => false
theorem rp_flat {Γ : Gd} {S : Hp} {v : V} {d : D} (r : Rp Γ S v d) (f : flatD d = true) : flatV v = true := by
  cases r <;> first | rfl | (simp [flatD] at f)
theorem rp_eqF {Γ : Gd} {S : Hp} {v w : V} {d e : D} (r : Rp Γ S v d) (q : Rp Γ S w e) (f : flatD d = true) (g : flatD e = true) : L2.eqV v w = eqF d e := by
  cases r <;> first | (simp [flatD] at f; done) | (cases q <;> first | rfl | (simp [flatD] at g; done))
theorem rpAll_flat {Γ : Gd} {S : Hp} : ∀ {vs : List V} {ds : List D}, RpAll Γ S vs ds → ds.all flatD = true → vs.all flatV = true
  | _, _, .nil, _ => rfl
  | _, _, .cons h r, f => by
    rw [List.all_cons, Bool.and_eq_true] at f ⊢
    exact ⟨rp_flat h f.1, rpAll_flat r f.2⟩
theorem rpAll_in {Γ : Gd} {S : Hp} {x : V} {d : D} (rx : Rp Γ S x d) (fx : flatD d = true) : ∀ {vs : List V} {ds : List D}, RpAll Γ S vs ds → ds.all flatD = true → inV x vs = ds.any fun e => eqF e d
  | _, _, .nil, _ => rfl
  | _, _, .cons h r, f => by
    rw [List.all_cons, Bool.and_eq_true] at f
    have ih := rpAll_in rx fx r f.2
    unfold inV at ih ⊢
    rw [List.any_cons, List.any_cons, ih, rp_eqF h rx f.1 fx]
def rdSq (v : SV) (m : Mem) : Option (List D) := match v with
  | .dat (.tup xs) => some xs
  | _ => rdL v m
theorem rdSq_ok {Γ : Gd} {G S H : Hp} {ρ : List Addr} {m : Mem} {v : SV} {vv : V} {xs : List D} (M : MR Γ G S H ρ m) (r : RSV Γ S ρ vv v) (h : rdSq v m = some xs) :
    ∃ a vs, vv = .ref a ∧ (SqL Γ.K H a vs ∨ SqT Γ.K H a vs) ∧ RpAll Γ S vs xs := by
  unfold rdSq at h
  split at h
  · cases h
    cases r with
    | tup q z => exact ⟨_, _, rfl, .inr (Same.seqT M.sub q), z⟩
  · obtain ⟨a, vs, h1, h2, h3⟩ := rdL_ok M r h
    exact ⟨a, vs, h1, .inl (.inl (.inl h2)), h3⟩
def hasD (xs : List D) (d : D) : Bool := xs.any fun e => eqF e d
def flats (xs : List D) : Bool := xs.all flatD
def inSV (x y : SV) : P SV := fun m => match x, rdSq y m with
  | .dat d, some xs => if flatD d && flats xs then .ok (.dat (.bl (hasD xs d))) m else .stuck
  | _, _ => .stuck
def notInSV (x y : SV) : P SV := fun m => match x, rdSq y m with
  | .dat d, some xs => if flatD d && flats xs then .ok (.dat (.bl (!hasD xs d))) m else .stuck
  | _, _ => .stuck
theorem jo_in : JO X W (compareOp .In) inSV := ⟨fun {G S H ρ m σ x y xv yv Q} M rx ry q => by
  unfold inSV at q
  split at q
  · rename_i d xs hxs
    split at q
    · rename_i ok
      rw [Bool.and_eq_true] at ok
      obtain ⟨a, vs, rfl, h1, r⟩ := rdSq_ok M ry hxs
      refine wo_of op_in_seq ⟨a, vs, rfl, h1, rp_flat rx ok.1, rpAll_flat r ok.2, ?_⟩
      rw [if_neg Bool.false_ne_true, rpAll_in rx ok.1 r ok.2]
      exact q S H ρ _ (Ext.refl _ _) M (.bl _)
    · exact q.elim
  · exact q.elim⟩
theorem jo_notIn : JO X W (compareOp .NotIn) notInSV := ⟨fun {G S H ρ m σ x y xv yv Q} M rx ry q => by
  unfold notInSV at q
  split at q
  · rename_i d xs hxs
    split at q
    · rename_i ok
      rw [Bool.and_eq_true] at ok
      obtain ⟨a, vs, rfl, h1, r⟩ := rdSq_ok M ry hxs
      refine wo_of op_notIn_seq ⟨a, vs, rfl, h1, rp_flat rx ok.1, rpAll_flat r ok.2, ?_⟩
      rw [if_pos rfl, rpAll_in rx ok.1 r ok.2]
      exact q S H ρ _ (Ext.refl _ _) M (.bl _)
    · exact q.elim
  · exact q.elim⟩

/-! ### unary minus, subscripts -/
variable {a b e : Expr} {es : List Expr} {pos : Pos} {fa fb : En → P SV}
def negV (x : SV) : P SV := fun m => match x with
  | .dat (.int i) => .ok (.dat (.int (-i))) m
  | _ => .stuck
def d1 (g : SV → P SV) (fa : En → P SV) : En → P SV := fun env => (fa env).bnd g
theorem je_neg (ja : JE X W a fa) : JE X W (.UnaryOp .USub a pos) (d1 negV fa) := ⟨fun {G S H ρ m env σ Q} M E h => by
  refine we_of (pe_un un_neg pe_we) (ja.run M E (wpr_monoQ (wpr_bnd h) fun x m1 hx => ?_))
  intro S1 H1 ρ1 xv e1 M1 rx
  unfold negV at hx
  split at hx
  · cases rx
    exact ⟨_, rfl, hx S1 H1 ρ1 _ e1 M1 (.int _)⟩
  · exact hx.elim⟩
def ixV (x y : SV) : P SV := fun m => match y with
  | .dat (.int i) => (match x with
    | .dat (.scr ns) => (match atI ns i with | some n => .ok (.dat (.int n)) m | none => .stuck)
    | .dat (.str z) => if z.length ≤ 16777216 then (match atI z.cps.toList i with | some c => .ok (.dat (.str ⟨#[c]⟩)) m | none => .stuck) else .stuck
    | _ => (match rdSq x m with
      | some xs => (match atI xs i with | some d => .ok (.dat d) m | none => .stuck)
      | none => .stuck))
  | _ => .stuck
theorem atI_map {α β : Type} (f : α → β) (xs : List α) (i : Int) : atI (xs.map f) i = (atI xs i).map f := by
  unfold atI
  rw [List.length_map]
  cases ixN xs.length i with
  | none => rfl
  | some j => simp
theorem rpAll_atI {Γ : Gd} {S : Hp} {vs : List V} {ds : List D} {i : Int} {d : D} (r : RpAll Γ S vs ds) (h : atI ds i = some d) : ∃ v, atI vs i = some v ∧ Rp Γ S v d := by
  unfold atI at h ⊢
  rw [r.length]
  cases e : ixN ds.length i with
  | none => rw [e] at h; cases h
  | some j =>
    rw [e] at h
    exact r.get h
theorem je_ix (ja : JE X W a fa) (jb : JE X W b fb) (hs : PlainIx b := by exact fun _ _ => rfl) : JE X W (.Subscript a b pos) (d2 ixV fa fb) := ⟨fun {G S H ρ m env σ Q} M E h => by
  refine we_of (pe_ix ix_seq pe_we pe_we hs) (ja.run M E (wpr_monoQ (wpr_bnd h) fun x m1 hx => ?_))
  intro S1 H1 ρ1 xv e1 M1 rx
  refine jb.run M1 (E.mono e1) (wpr_mono (wpr_bnd hx) (fun y m2 hy => ?_) fun _ _ z => qx_ext e1 z)
  intro S2 H2 ρ2 yv e2 M2 ry
  have rx2 := rx.mono e2
  unfold ixV at hy
  split at hy
  · rename_i i
    cases ry
    split at hy
    · rename_i ns
      split at hy
      · rename_i n hn
        cases rx2 with
        | scr q =>
          refine .inl ⟨_, _, i, .int n, rfl, rfl, M2.sub.seq q, by rw [atI_map, hn]; rfl, ?_⟩
          exact hy S2 H2 ρ2 _ (e1.trans e2) M2 (.int n)
      · exact hy.elim
    · rename_i z
      split at hy
      · rename_i hl
        split at hy
        · rename_i c hc
          cases rx2
          exact .inr (.inr ⟨z, i, c, rfl, rfl, by rw [sizeLine_eq]; exact hl, hc, hy S2 H2 ρ2 _ (e1.trans e2) M2 (.str _)⟩)
        · exact hy.elim
      · exact hy.elim
    · split at hy
      · rename_i xs hxs
        split at hy
        · rename_i d hd
          obtain ⟨p, vs, rfl, h1, r⟩ := rdSq_ok M2 rx2 hxs
          obtain ⟨v, hv, rv⟩ := rpAll_atI r hd
          rcases h1 with h1 | h1
          · exact .inl ⟨p, vs, i, v, rfl, rfl, h1, hv, hy S2 H2 ρ2 _ (e1.trans e2) M2 rv⟩
          · exact .inr (.inl ⟨p, vs, i, v, rfl, rfl, h1, hv, hy S2 H2 ρ2 _ (e1.trans e2) M2 rv⟩)
        · exact hy.elim
      · exact hy.elim
  · exact hy.elim⟩

/-! ### built-in calls -/
theorem paired1 {α β : Type} {F : α → β → Prop} {vs : List α} {x : β} (h : Paired F vs [x]) : ∃ v, vs = [v] ∧ F v x := by
  cases h with
  | cons r t => cases t; exact ⟨_, rfl, r⟩
theorem paired2 {α β : Type} {F : α → β → Prop} {vs : List α} {x y : β} (h : Paired F vs [x, y]) : ∃ v w, vs = [v, w] ∧ F v x ∧ F w y := by
  cases h with
  | cons r t => cases t with | cons r' t' => cases t'; exact ⟨_, _, rfl, r, r'⟩
def lenV (xs : List SV) : P SV := fun m => match xs with
  | [.dat (.scr ns)] => .ok (.dat (.int ns.length)) m
  | [.dat (.str z)] => if z.length ≤ 16777216 then .ok (.dat (.int z.length)) m else .stuck
  | [x] => (match rdSq x m with | some ys => .ok (.dat (.int ys.length)) m | none => .stuck)
  | _ => .stuck
theorem jc_len : JC X W (.builtin "len") lenV := ⟨fun {G S H ρ m σ xs xvs Q} M rx q => by
  unfold lenV at q
  split at q
  · rename_i ns
    obtain ⟨v, rfl, r⟩ := paired1 rx
    cases r with
    | scr h =>
      refine wc_of call_len ⟨_, ns.length, rfl, .inl ⟨_, M.sub.seq h, by rw [List.length_map]⟩, ?_⟩
      exact q S H ρ _ (Ext.refl _ _) M (.int _)
  · rename_i z
    obtain ⟨v, rfl, r⟩ := paired1 rx
    cases r
    split at q
    · rename_i hl
      exact wc_of call_len ⟨_, z.length, rfl, ⟨by rw [sizeLine_eq]; exact hl, rfl⟩, q S H ρ _ (Ext.refl _ _) M (.int _)⟩
    · exact q.elim
  · rename_i x _ _
    obtain ⟨v, rfl, r⟩ := paired1 rx
    split at q
    · rename_i ys hys
      obtain ⟨a, vs, rfl, h1, r1⟩ := rdSq_ok M r hys
      refine wc_of call_len ⟨_, ys.length, rfl, ?_, q S H ρ _ (Ext.refl _ _) M (.int _)⟩
      rcases h1 with h1 | h1
      · exact .inl ⟨vs, h1, r1.length.symm⟩
      · exact .inr ⟨vs, h1, r1.length.symm⟩
    · exact q.elim
  · exact q.elim⟩
def absV' (xs : List SV) : P SV := fun m => match xs with
  | [.dat (.int i)] => .ok (.dat (.int i.natAbs)) m
  | _ => .stuck
theorem jc_abs : JC X W (.builtin "abs") absV' := ⟨fun {G S H ρ m σ xs xvs Q} M rx q => by
  unfold absV' at q
  split at q
  · rename_i i
    obtain ⟨v, rfl, r⟩ := paired1 rx
    cases r
    refine wc_of call_abs ⟨i, rfl, ?_⟩
    have e : (if i < 0 then -i else i) = (i.natAbs : Int) := by omega
    rw [e]
    exact q S H ρ _ (Ext.refl _ _) M (.int _)
  · exact q.elim⟩
/-- max, min of two ints -/
def max2V (xs : List SV) : P SV := fun m => match xs with
  | [.dat (.int i), .dat (.int j)] => .ok (.dat (.int (max i j))) m
  | _ => .stuck
def min2V (xs : List SV) : P SV := fun m => match xs with
  | [.dat (.int i), .dat (.int j)] => .ok (.dat (.int (min i j))) m
  | _ => .stuck
theorem jc_max2 (hc : X.calm = true) : JC X W (.builtin "max") max2V := ⟨fun {G S H ρ m σ xs xvs Q} M rx q => by
  unfold max2V at q
  split at q
  · rename_i i j
    obtain ⟨v, w', rfl, r1, r2⟩ := paired2 rx
    cases r1
    cases r2
    refine wc_of (call_max2 hc) ⟨i, j, rfl, ?_⟩
    have e : (if j > i then j else i) = max i j := by omega
    rw [e]
    exact q S H ρ _ (Ext.refl _ _) M (.int _)
  · exact q.elim⟩
theorem jc_min2 (hc : X.calm = true) : JC X W (.builtin "min") min2V := ⟨fun {G S H ρ m σ xs xvs Q} M rx q => by
  unfold min2V at q
  split at q
  · rename_i i j
    obtain ⟨v, w', rfl, r1, r2⟩ := paired2 rx
    cases r1
    cases r2
    refine wc_of (call_min2 hc) ⟨i, j, rfl, ?_⟩
    have e : (if j < i then j else i) = min i j := by omega
    rw [e]
    exact q S H ρ _ (Ext.refl _ _) M (.int _)
  · exact q.elim⟩
def intV (xs : List SV) : P SV := fun m => match xs with
  | [.dat (.int i)] => .ok (.dat (.int i)) m
  | [.dat (.bl k)] => .ok (.dat (.int (if k then 1 else 0))) m
  | _ => .stuck
theorem jc_int : JC X W (.type "int") intV := ⟨fun {G S H ρ m σ xs xvs Q} M rx q => by
  unfold intV at q
  split at q
  · obtain ⟨v, rfl, r⟩ := paired1 rx
    cases r
    exact wc_of call_int1 (.inl ⟨_, rfl, q S H ρ _ (Ext.refl _ _) M (.int _)⟩)
  · obtain ⟨v, rfl, r⟩ := paired1 rx
    cases r
    exact wc_of call_int1 (.inr ⟨_, rfl, q S H ρ _ (Ext.refl _ _) M (.int _)⟩)
  · exact q.elim⟩
def asBs : List D → Option (List Bool)
  | [] => some []
  | .bl b :: r => (match asBs r with | some bs => some (b :: bs) | none => none)
  | _ => none
def asIs : List D → Option (List Int)
  | [] => some []
  | .int i :: r => (match asIs r with | some is => some (i :: is) | none => none)
  | _ => none
theorem rpAll_bs {Γ : Gd} {S : Hp} : ∀ {vs : List V} {ds : List D} {bs : List Bool}, RpAll Γ S vs ds → asBs ds = some bs → vs = bs.map V.bl
  | _, _, bs, .nil, h => by cases h; rfl
  | _, _, bs, .cons h0 r, h => by
    cases h0 <;> first | (simp [asBs] at h; done) | skip
    unfold asBs at h
    split at h
    · rename_i bs' e
      cases h
      rw [rpAll_bs r e]
      rfl
    · cases h
theorem rpAll_is {Γ : Gd} {S : Hp} : ∀ {vs : List V} {ds : List D} {is : List Int}, RpAll Γ S vs ds → asIs ds = some is → vs = is.map V.int
  | _, _, bs, .nil, h => by cases h; rfl
  | _, _, bs, .cons h0 r, h => by
    cases h0 <;> first | (simp [asIs] at h; done) | skip
    unfold asIs at h
    split at h
    · rename_i bs' e
      cases h
      rw [rpAll_is r e]
      rfl
    · cases h
def allV (xs : List SV) : P SV := fun m => match xs with
  | [x] => (match rdL x m with | some ds => (match asBs ds with | some bs => .ok (.dat (.bl (bs.all id))) m | none => .stuck) | none => .stuck)
  | _ => .stuck
def anyV (xs : List SV) : P SV := fun m => match xs with
  | [x] => (match rdL x m with | some ds => (match asBs ds with | some bs => .ok (.dat (.bl (bs.any id))) m | none => .stuck) | none => .stuck)
  | _ => .stuck
def sumV (xs : List SV) : P SV := fun m => match xs with
  | [x] => (match rdL x m with | some ds => (match asIs ds with | some is => .ok (.dat (.int is.sum)) m | none => .stuck) | none => .stuck)
  | _ => .stuck
theorem jc_all (hc : X.calm = true) : JC X W (.builtin "all") allV := ⟨fun {G S H ρ m σ xs xvs Q} M rx q => by
  unfold allV at q
  split at q
  · obtain ⟨v, rfl, r⟩ := paired1 rx
    split at q
    · rename_i ds hd
      split at q
      · rename_i bs hb
        obtain ⟨a, vs, rfl, h1, r1⟩ := rdL_ok M r hd
        have e := rpAll_bs r1 hb
        subst e
        exact wc_of (cr_all hc) ⟨a, bs, rfl, .inl (.inl h1), q S H ρ _ (Ext.refl _ _) M (.bl _)⟩
      · exact q.elim
    · exact q.elim
  · exact q.elim⟩
theorem jc_any (hc : X.calm = true) : JC X W (.builtin "any") anyV := ⟨fun {G S H ρ m σ xs xvs Q} M rx q => by
  unfold anyV at q
  split at q
  · obtain ⟨v, rfl, r⟩ := paired1 rx
    split at q
    · rename_i ds hd
      split at q
      · rename_i bs hb
        obtain ⟨a, vs, rfl, h1, r1⟩ := rdL_ok M r hd
        have e := rpAll_bs r1 hb
        subst e
        exact wc_of (cr_any hc) ⟨a, bs, rfl, .inl (.inl h1), q S H ρ _ (Ext.refl _ _) M (.bl _)⟩
      · exact q.elim
    · exact q.elim
  · exact q.elim⟩
theorem jc_sum (hc : X.calm = true) : JC X W (.builtin "sum") sumV := ⟨fun {G S H ρ m σ xs xvs Q} M rx q => by
  unfold sumV at q
  split at q
  · obtain ⟨v, rfl, r⟩ := paired1 rx
    split at q
    · rename_i ds hd
      split at q
      · rename_i bs hb
        obtain ⟨a, vs, rfl, h1, r1⟩ := rdL_ok M r hd
        have e := rpAll_is r1 hb
        subst e
        exact wc_of (cr_sum hc) ⟨a, bs, rfl, .inl (.inl h1), q S H ρ _ (Ext.refl _ _) M (.int _)⟩
      · exact q.elim
    · exact q.elim
  · exact q.elim⟩
/-- tuple(xs), list(xs) -/
def tupleV (xs : List SV) : P SV := fun m => match xs with
  | [x] => (match rdSq x m with | some ds => .ok (.dat (.tup ds)) m | none => .stuck)
  | _ => .stuck
def listV (xs : List SV) : P SV := fun m => match xs with
  | [x] => (match rdSq x m with | some ds => .ok (.dat (.lst ds)) m | none => .stuck)
  | _ => .stuck
/-- list(xs), an own list -/
def listOV (xs : List SV) : P SV := fun m => match xs with
  | [x] => (match rdSq x m with | some ds => .ok (.ref m.length) (m ++ [.lst ds]) | none => .stuck)
  | _ => .stuck
theorem jc_tuple : JC X W (.type "tuple") tupleV := ⟨fun {G S H ρ m σ xs xvs Q} M rx q => by
  unfold tupleV at q
  split at q
  · rename_i x
    obtain ⟨v, rfl, r⟩ := paired1 rx
    split at q
    · rename_i ds hd
      unfold rdSq at hd
      split at hd
      · cases hd
        cases r with
        | tup h1 z => exact wc_of call_tuple_of ⟨_, _, rfl, .inr ⟨Same.seqT M.sub h1, q S H ρ _ (Ext.refl _ _) M (.tup h1 z)⟩⟩
      · obtain ⟨a, vs, rfl, h1, r1⟩ := rdL_ok M r hd
        refine wc_of call_tuple_of ⟨a, vs, rfl, .inl ⟨.inl (.inl h1), fun l hl => ?_⟩⟩
        obtain ⟨s1, M2⟩ := M.grow hl (.tup vs)
        exact q _ _ ρ _ ⟨s1, fun _ _ z => z⟩ M2 (.tup (.inl (.inl upd_same)) (r1.mono s1))
    · exact q.elim
  · exact q.elim⟩
theorem jc_list : JC X W (.type "list") listV := ⟨fun {G S H ρ m σ xs xvs Q} M rx q => by
  unfold listV at q
  split at q
  · obtain ⟨v, rfl, r⟩ := paired1 rx
    split at q
    · rename_i ds hd
      obtain ⟨a, vs, rfl, h1, r1⟩ := rdSq_ok M r hd
      refine wc_of call_list_of ⟨a, vs, rfl, h1, fun l hl => ?_⟩
      obtain ⟨s1, M2⟩ := M.grow hl (.lst vs)
      exact q _ _ ρ _ ⟨s1, fun _ _ z => z⟩ M2 (.lst upd_same (r1.mono s1))
    · exact q.elim
  · exact q.elim⟩
theorem jc_listO : JC X W (.type "list") listOV := ⟨fun {G S H ρ m σ xs xvs Q} M rx q => by
  unfold listOV at q
  split at q
  · obtain ⟨v, rfl, r⟩ := paired1 rx
    split at q
    · rename_i ds hd
      obtain ⟨a, vs, rfl, h1, r1⟩ := rdSq_ok M r hd
      refine wc_of call_list_of ⟨a, vs, rfl, h1, fun l hl => ?_⟩
      obtain ⟨e2, M2⟩ := M.alloc hl r1
      refine q _ _ _ _ e2 M2 ⟨l, ?_, rfl⟩
      rw [← M.len]
      simp
    · exact q.elim
  · exact q.elim⟩

/-! ### isinstance -/
def tyName (v : SV) (m : Mem) : Option String := match v with
  | .dat .non => some "NoneType"
  | .dat (.bl _) => some "bool"
  | .dat (.int _) => some "int"
  | .dat (.str _) => some "str"
  | .dat (.tup _) => some "tuple"
  | .dat (.lst _) => some "list"
  | .dat (.scr _) => some "list"
  | .ref n => (match m[n]? with | some (.lst _) => some "list" | _ => none)
  | _ => none
def tyIs (a b : String) : Bool := a == b || (a == "bool" && b == "int")
def tyNames : List String := ["NoneType", "bool", "int", "str", "tuple", "list"]
theorem tyName_ok {G S H : Hp} {ρ : List Addr} {m : Mem} {v : SV} {vv : V} {n : String} (M : MR (gd X) G S H ρ m) (r : RSV (gd X) S ρ vv v) (h : tyName v m = some n) : TyX X.K H vv (.type n) ∧ n ∈ tyNames := by
  cases v with
  | ref k =>
    unfold tyName at h
    simp only at h
    split at h
    · rename_i ys hy
      cases h
      obtain ⟨a, vs, rfl, g2, g3⟩ := rdL_ok (v := .ref k) (xs := ys) M r (by unfold rdL; simp only [hy])
      exact ⟨.base (.lst g2), by simp [tyNames]⟩
    · cases h
  | dat d =>
    cases d with
    | non => cases h; cases r; exact ⟨.base .non, by simp [tyNames]⟩
    | bl b => cases h; cases r; exact ⟨.base (.bl b), by simp [tyNames]⟩
    | int i => cases h; cases r; exact ⟨.base (.int i), by simp [tyNames]⟩
    | str x => cases h; cases r; exact ⟨.base (.str x), by simp [tyNames]⟩
    | tup xs =>
      cases h
      cases r with
      | tup q z =>
        refine ⟨?_, by simp [tyNames]⟩
        rcases Same.seqT M.sub q with (q | ⟨o, q⟩) | ⟨o, its, n, q, c, _⟩
        · exact .base (.tup q)
        · exact .fTuple q
        · exact .kTuple q c
    | lst xs =>
      cases h
      cases r with
      | lst q z => exact ⟨.base (.lst (M.sub _ _ q)), by simp [tyNames]⟩
    | scr ns =>
      cases h
      cases r with
      | scr q =>
        refine ⟨?_, by simp [tyNames]⟩
        rcases M.sub.seq q with (q | ⟨o, q⟩) | ⟨o, its, n, q, c, _⟩
        · exact .base (.lst q)
        · exact .base (.frz q)
        · exact .kList q c
    | _ => cases h
/-- isinstance(x, T) -/
def isiV (ts : List String) (v : SV) : P SV := fun m => match tyName v m with
  | some n => .ok (.dat (.bl (ts.any fun t => tyIs n t))) m
  | none => .stuck
def TyTab (t : String) : Prop := ∀ n ∈ tyNames, kitB n t = some (tyIs n t)
theorem je_isi {t : String} {x : Str} {p p2 : Pos} (ht : TyTab t) (hg : Gl X "isinstance") (hm : X.mg "isinstance" = none) (hgx : Gl X x) (hmx : X.mg x = none) (hvx : bootBuiltins x = some (.type t)) (ja : JE X W a fa) (hnx : x ≠ "__name__" := by decide) (hdx : (x == ("__debug__" : Str)) = false := by decide)
    (he : starEach (a :: [Expr.Name x p2]) X.env = (false, eval a X.env) :: starEach [Expr.Name x p2] X.env := by rfl) (hpl : (backTo pos (starEach [Expr.Name x p2] X.env)).any (·.1) = false := by rfl) : JE X W (.Call (.Name "isinstance" p) [a, .Name x p2] [] pos) (d1 (isiV [t]) fa) := ⟨fun {G S H ρ m env σ Q} M E h => by
  refine we_of (pe_callB call_isi hg hm (by decide +kernel) (pa_cons pe_we (pa_cons (pe_bltn (v := .ty t) hgx hmx hvx rfl hnx hdx) pa_nil) he) (by decide) (by decide) he hpl) (ja.run M E (wpr_monoQ (wpr_bnd h) fun v m1 hv => ?_))
  intro S1 H1 ρ1 xv e1 M1 rx
  unfold isiV at hv
  split at hv
  · rename_i n hn
    obtain ⟨ty, mem⟩ := tyName_ok M1 rx hn
    refine ⟨xv, .ty t, .type n, .type t, tyIs n t, rfl, .ty t, ty, kit_ty (ht n mem), ?_⟩
    have q := hv S1 H1 ρ1 _ e1 M1 (.bl _)
    simpa using q
  · exact hv.elim⟩
theorem je_isi2 {t u : String} {x y : Str} {k : Nat} {p p2 p3 p4 : Pos} (ht : TyTab t) (hu : TyTab u) (hg : Gl X "isinstance") (hm : X.mg "isinstance" = none) (hgx : Gl X x) (hmx : X.mg x = none) (hvx : bootBuiltins x = some (.type t)) (hgy : Gl X y) (hmy : X.mg y = none) (hvy : bootBuiltins y = some (.type u)) (ja : JE X W a fa)
    (hnx : x ≠ "__name__" := by decide) (hdx : (x == ("__debug__" : Str)) = false := by decide) (hny : y ≠ "__name__" := by decide) (hdy : (y == ("__debug__" : Str)) = false := by decide)
    (he : starEach (a :: [Expr.Tuple [.Name x p2, .Name y p3] k p4]) X.env = (false, eval a X.env) :: starEach [Expr.Tuple [.Name x p2, .Name y p3] k p4] X.env := by rfl) (hpl : (backTo pos (starEach [Expr.Tuple [.Name x p2, .Name y p3] k p4] X.env)).any (·.1) = false := by rfl) :
    JE X W (.Call (.Name "isinstance" p) [a, .Tuple [.Name x p2, .Name y p3] k p4] [] pos) (d1 (isiV [t, u]) fa) := ⟨fun {G S H ρ m env σ Q} M E h => by
  refine we_of (pe_callB call_isiT hg hm (by decide +kernel) (pa_cons pe_we (pa_cons (pe_tup (pa_cons (pe_bltn (v := .ty t) hgx hmx hvx rfl hnx hdx) (pa_cons (pe_bltn (v := .ty u) hgy hmy hvy rfl hny hdy) pa_nil))) pa_nil) he) (by decide) (by decide) he hpl) (ja.run M E (wpr_monoQ (wpr_bnd h) fun v m1 hv => ?_))
  intro S1 H1 ρ1 xv e1 M1 rx
  refine ⟨by show 2 ≤ sizeLine; decide, fun tp htp => ?_⟩
  obtain ⟨s2, M2⟩ := M1.grow htp (.tup [.ty t, .ty u])
  unfold isiV at hv
  split at hv
  · rename_i n hn
    obtain ⟨ty, mem⟩ := tyName_ok M2 (rx.mono ⟨s2, fun _ _ z => z⟩) hn
    refine ⟨xv, tp, [.ty t, .ty u], .type n, [.type t, .type u], tyIs n t || tyIs n u, rfl, upd_same, .cons (.ty t) (.cons (.ty u) .nil), ty, kitAny_cons (kit_ty (ht n mem)) (fun h1 => ?_) (fun h1 => by rw [h1]; rfl), ?_⟩
    · rw [h1, Bool.false_or]
      exact kitAny_cons (kit_ty (hu n mem)) (fun h2 => by rw [h2]; exact kitAny_nil) fun h2 => h2
    · have q := hv (upd S1 tp (.tup [.ty t, .ty u])) _ ρ1 _ (e1.trans ⟨s2, fun _ _ z => z⟩) M2 (.bl _)
      simpa using q
  · exact hv.elim⟩
end
theorem tab_int : TyTab "int" := by unfold TyTab tyNames; decide +kernel
theorem tab_bool : TyTab "bool" := by unfold TyTab tyNames; decide +kernel
theorem tab_tuple : TyTab "tuple" := by unfold TyTab tyNames; decide +kernel
theorem tab_list : TyTab "list" := by unfold TyTab tyNames; decide +kernel
theorem tab_str : TyTab "str" := by unfold TyTab tyNames; decide +kernel
end PL

/-! PL4: targets, walks, statements, comprehensions, defs and their calls. -/
namespace PL
open PySem PySem.Spec PyProof.Rows L2

/-! ### targets -/
structure Sm (ts : List Nat) (σ σ' : St) : Prop where
  len : σ'.length = σ.length
  out : ∀ j, j ∉ ts → σ'[j]? = σ[j]?
theorem Sm.refl (ts : List Nat) (σ : St) : Sm ts σ σ := ⟨rfl, fun _ _ => rfl⟩
theorem Sm.trans {ts us : List Nat} {σ σ1 σ2 : St} (a : Sm ts σ σ1) (b : Sm us σ1 σ2) : Sm (ts ++ us) σ σ2 :=
  ⟨b.len.trans a.len, fun j h => (b.out j fun z => h (List.mem_append_right _ z)).trans (a.out j fun z => h (List.mem_append_left _ z))⟩
theorem wipe_in {σ : St} {i : Nat} : ∀ {vs : List Nat}, i ∈ vs → i < σ.length → (wipe σ vs)[i]? = some none
  | [], h, _ => by cases h
  | v :: vs, h, hl => by
    unfold wipe
    by_cases e : v = i
    · subst e
      exact List.getElem?_set_self (by rw [wipe_length]; exact hl)
    · rw [List.getElem?_set_ne e]
      exact wipe_in ((List.mem_cons.mp h).resolve_left fun z => e z.symm) hl
theorem Sm.wipe {ts vs : List Nat} {σ σ' : St} (h : Sm ts σ σ') (sub : ∀ t ∈ ts, t ∈ vs) : wipe σ' vs = wipe σ vs := by
  apply List.ext_getElem?
  intro i
  by_cases hi : i ∈ vs
  · by_cases hl : i < σ.length
    · rw [wipe_in hi hl, wipe_in hi (by rw [h.len]; exact hl)]
    · rw [List.getElem?_eq_none (by rw [wipe_length, h.len]; omega), List.getElem?_eq_none (by rw [wipe_length]; omega)]
  · rw [wipe_out hi, wipe_out hi]
    exact h.out i fun z => hi (sub i z)
def wipeE (env : En) : List Nat → En
  | [] => env
  | v :: vs => (wipeE env vs).set v none
theorem ER.wipe {Γ : Gd} {S : Hp} {ρ : List Addr} {env : En} {σ : St} (h : ER Γ S ρ env σ) : ∀ vs : List Nat, ER Γ S ρ (wipeE env vs) (wipe σ vs)
  | [] => h
  | v :: vs => (ER.wipe h vs).clear v
structure JG (X : Cx) (tg : Expr) (ts : List Nat) (g : D → En → Option En) : Prop where
  run : ∀ {G S H : Hp} {ρ : List Addr} {m : Mem} {env env' : En} {σ : St} {v : V} {d : D} {Q : St → Hp → Prop}, MR (gd X) G S H ρ m → ER (gd X) S ρ env σ → Rp (gd X) S v d → g d env = some env' →
    (∀ σ', ER (gd X) S ρ env' σ' → Sm ts σ σ' → Q σ' H) → WG X tg v σ H Q
structure JGs (X : Cx) (es : List Expr) (ts : List Nat) (g : List D → En → Option En) : Prop where
  run : ∀ {G S H : Hp} {ρ : List Addr} {m : Mem} {env env' : En} {σ : St} {vs : List V} {ds : List D} {Q : St → Hp → Prop}, MR (gd X) G S H ρ m → ER (gd X) S ρ env σ → RpAll (gd X) S vs ds → g ds env = some env' →
    (∀ σ', ER (gd X) S ρ env' σ' → Sm ts σ σ' → Q σ' H) →
    ∀ (pins : List (Addr × Obj)) (s : Shared) (us : List Value), Inv X pins σ H s → Vals vs us → wpAny (model X.prog X.w) X.A (assignInOrder ((assignEach es X.env).map (·.2)) us) (fun _ s' => ∃ σ' H', Inv X pins σ' H' s' ∧ Q σ' H') X.xe s
def gN (i : Nat) : D → En → Option En := fun d env => some (env.set i (some (.dat d)))
def gsN : List D → En → Option En := fun ds env => match ds with
  | [] => some env
  | _ => none
def gsC (g : D → En → Option En) (gs : List D → En → Option En) : List D → En → Option En := fun ds env => match ds with
  | d :: r => (match g d env with | some env' => gs r env' | none => none)
  | [] => none
def gT (n : Nat) (gs : List D → En → Option En) : D → En → Option En := fun d env => match d with
  | .tup xs => if xs.length = n then gs xs env else none
  | _ => none
section
variable {X : Cx} {W : WX} {pos : Pos}
theorem jg_name {i : Nat} {x : Str} (hN : X.N.Nodup) (hi : X.N[i]? = some x := by rfl) (hx : Loc X.env.scope x := by first | exact Or.inl rfl | exact Or.inr rfl) (hf : X.fn x = true ∨ X.env.scope.names.lookup x = some .local := by first | exact .inl rfl | exact .inr rfl | assumption) : JG X (.Name x pos) [i] (gN i) :=
  ⟨fun {G S H ρ m env env' σ v d Q} M E r hg h => by
    cases hg
    refine wg_of (pg_name hN hi hx hf) (h _ (E.set i (v := .dat d) r) ⟨List.length_set, fun j hj => ?_⟩)
    rw [List.getElem?_set_ne (fun z => hj (by simp [z]))]⟩
theorem jgs_nil : JGs X [] [] gsN := ⟨fun {G S H ρ m env env' σ vs ds Q} M E r hg h pins s us I rv => by
  cases r with
  | nil =>
    cases hg
    cases rv
    exact assignInOrder_nil ⟨σ, H, I, h σ E (Sm.refl _ _)⟩
  | cons _ _ => cases hg⟩
theorem jgs_cons {e : Expr} {es : List Expr} {ts us : List Nat} {g : D → En → Option En} {gs : List D → En → Option En} (j1 : JG X e ts g) (j2 : JGs X es us gs) (hs : (assignEach (e :: es) X.env).map (·.2) = assign e X.env :: (assignEach es X.env).map (·.2) := by rfl) : JGs X (e :: es) (ts ++ us) (gsC g gs) :=
  ⟨fun {G S H ρ m env env' σ vs ds Q} M E r hg h pins s uv I rv => by
    cases r with
    | nil => cases hg
    | cons r1 r2 =>
      unfold gsC at hg
      simp only at hg
      split at hg
      · rename_i env1 h1
        cases rv with
        | cons q1 q2 =>
          rw [hs]
          refine assignInOrder_cons (thn (j1.run (Q := fun σ1 H1 => H1 = H ∧ ER (gd X) S ρ env1 σ1 ∧ Sm ts σ σ1) M E r1 h1 (fun σ' e' s' => ⟨rfl, e', s'⟩) pins s _ I q1) fun _ s1 ⟨σ1, H1, I1, e1, er1, sm1⟩ => ?_)
          subst e1
          exact j2.run M er1 r2 hg (fun σ' e' s' => h σ' e' (sm1.trans s')) pins s1 _ I1 q2
      · cases hg⟩
theorem jg_tup {es : List Expr} {k : Nat} {ts : List Nat} {n : Nat} {gs : List D → En → Option En} (hc : X.calm = true) (j : JGs X es ts gs) (hn : (assignEach es X.env).length = n := by rfl) (hst : (assignEach es X.env).findIdx? (·.1) = none := by rfl) : JG X (.Tuple es k pos) ts (gT n gs) :=
  ⟨fun {G S H ρ m env env' σ v d Q} M E r hg h => by
    unfold gT at hg
    split at hg
    · split at hg
      · rename_i xs hl
        cases r with
        | tup hq hr =>
          refine wg_of (pg_tup (n := n) (t := fun vs σ H Q => ∀ (pins : List (Addr × Obj)) (s : Shared) (us : List Value), Inv X pins σ H s → Vals vs us → wpAny (model X.prog X.w) X.A (assignInOrder ((assignEach es X.env).map (·.2)) us) (fun _ s' => ∃ σ' H', Inv X pins σ' H' s' ∧ Q σ' H') X.xe s) hc ⟨fun pins s σ H vs us Q I rv q => q pins s us I rv⟩ hn hst) ⟨_, _, rfl, Same.seqT M.sub hq, by rw [hr.length]; exact hl, ?_⟩
          exact j.run M E hr hg h
      · cases hg
    · cases hg⟩
end

/-! ### what is walked -/
def ItS (Γ : Gd) (S0 : Hp) (J : It) (items : List D) : Prop := ∀ (i : Nat) {G S H : Hp} {ρ : List Addr} {m : Mem}, Same S0 S → MR Γ G S H ρ m →
  (items.length = i → J.stop i H) ∧ (∀ d, items[i]? = some d → J.go i H ∧ ∀ x H', J.yld i H x H' → ∃ S', Ext S ρ S' ρ ∧ MR Γ G S' H' ρ m ∧ Rp Γ S' x d)
theorem rpAll_ge {Γ : Gd} {S : Hp} {vs : List V} {ds : List D} (r : RpAll Γ S vs ds) {i : Nat} (h : ds.length ≤ i) : vs.length ≤ i := by rw [r.length]; exact h
theorem itS_list {Γ : Gd} {S0 : Hp} {a : Addr} {vs : List V} {ds : List D} (h : SqL Γ.K S0 a vs) (r : RpAll Γ S0 vs ds) : ItS Γ S0 (Itl Γ.K a) ds := fun i {G S H ρ m} s M => by
  have hl : SqL Γ.K H a vs := M.sub.seq (s.seq h)
  refine ⟨fun hi => ⟨vs, hl, rpAll_ge r (Nat.le_of_eq hi)⟩, fun d hd => ?_⟩
  obtain ⟨v, hv, rv⟩ := r.get hd
  refine ⟨⟨vs, v, hl, hv⟩, fun x H' y => ?_⟩
  obtain ⟨e, y⟩ := y
  subst e
  have e2 := y vs hl
  rw [hv] at e2
  cases e2
  exact ⟨S, Ext.refl _ _, M, rv.mono s⟩
theorem itS_tup {Γ : Gd} {S0 : Hp} {a : Addr} {vs : List V} {ds : List D} (h : SqT Γ.K S0 a vs) (r : RpAll Γ S0 vs ds) : ItS Γ S0 (Itt Γ.K a) ds := fun i {G S H ρ m} s M => by
  have hl : SqT Γ.K H a vs := Same.seqT M.sub (Same.seqT s h)
  refine ⟨fun hi => ⟨vs, hl, rpAll_ge r (Nat.le_of_eq hi)⟩, fun d hd => ?_⟩
  obtain ⟨v, hv, rv⟩ := r.get hd
  refine ⟨⟨vs, v, hl, hv⟩, fun x H' y => ?_⟩
  obtain ⟨e, y⟩ := y
  subst e
  have e2 := y vs hl
  rw [hv] at e2
  cases e2
  exact ⟨S, Ext.refl _ _, M, rv.mono s⟩
def rngD (lo : Int) (n : Nat) : List D := (List.range n).map fun (i : Nat) => .int (lo + (i : Int))
theorem itS_rng {Γ : Gd} {S0 : Hp} (lo : Int) (n : Nat) : ItS Γ S0 (Itr lo n) (rngD lo n) := fun i {G S H ρ m} s M => by
  refine ⟨fun hi => (by show n ≤ i; have : n = i := (by simpa [rngD] using hi); omega), fun d hd => ?_⟩
  unfold rngD at hd
  rw [List.getElem?_map] at hd
  by_cases hi : i < n
  · rw [List.getElem?_range hi] at hd
    cases hd
    refine ⟨hi, fun x H' y => ?_⟩
    obtain ⟨e, y⟩ := y
    subst e
    subst y
    exact ⟨S, Ext.refl _ _, M, .int _⟩
  · rw [List.getElem?_eq_none (by simpa using hi)] at hd
    cases hd
section
variable (X : Cx) (W : WX)
def QI (G S : Hp) (ρ : List Addr) (Rr : It → Hp → Prop) : List D → Mem → Prop := fun items m' => ∀ S' H' ρ' J, Ext S ρ S' ρ' → MR (gd X) G S' H' ρ' m' → ItS (gd X) S' J items → Rr J H'
structure JI (tg iter : Expr) (f : En → P (List D)) : Prop where
  run : ∀ {G S H : Hp} {ρ : List Addr} {m : Mem} {env : En} {σ : St} {Rr : It → Hp → Prop}, MR (gd X) G S H ρ m → ER (gd X) S ρ env σ → wpr (f env m) (QI X G S ρ Rr) (QX X W G S ρ σ) → WI X tg iter σ H Rr
end
section
variable {X : Cx} {W : WX} {pos p : Pos} {tg a b : Expr} {fa fb : En → P SV}
theorem iter_list {pins : List (Addr × Obj)} {σ : St} {H : Hp} {s : Shared} {Rr : It → Hp → Prop} {q : Addr} {xs : List V} (I : Inv X pins σ H s) (h : SqL X.K H q xs) (r : Rr (Itl X.K q) H) : wpAny (model X.prog X.w) X.A (pyIter (.ref q)) (PIE X pins σ tg Rr) X.xe s := by
  obtain ⟨its, rv, p, hz⟩ := I.list h
  refine wpAny_pyIter_list p.isList ?_
  refine ⟨s.heap.objs.size, [s.heap.objs.size], _, _, H, rfl, I.kept (t' := s.toks) fun b o e => Heap.get?_push_of_some _ e, turn_list q _, ⟨_, Heap.get?_push_size _ rfl, rfl, rfl⟩, fun b hb => ?_, r⟩
  have e : b = s.heap.objs.size := by simpa using hb
  subst e
  exact I.fpOk (Nat.le_refl _) (I.hok.fresh (Nat.le_refl _))
theorem iter_tup {pins : List (Addr × Obj)} {σ : St} {H : Hp} {s : Shared} {Rr : It → Hp → Prop} {q : Addr} {xs : List V} (I : Inv X pins σ H s) (h : SqT X.K H q xs) (r : Rr (Itt X.K q) H) : wpAny (model X.prog X.w) X.A (pyIter (.ref q)) (PIE X pins σ tg Rr) X.xe s := by
  obtain ⟨its, rv, p, hz⟩ := I.tuple h
  refine wpAny_pyIter_tuple (show s.heap.IsTuple q its.toArray from p) ?_
  refine ⟨s.heap.objs.size, [s.heap.objs.size], _, _, H, rfl, I.kept (t' := s.toks) fun b o e => Heap.get?_push_of_some _ e, turn_tuple q _, ⟨_, Heap.get?_push_size _ rfl, rfl, rfl⟩, fun b hb => ?_, r⟩
  have e : b = s.heap.objs.size := by simpa using hb
  subst e
  exact I.fpOk (Nat.le_refl _) (I.hok.fresh (Nat.le_refl _))
/-- a list or a tuple that stands still -/
def itemsV (v : SV) : P (List D) := fun m => match v with
  | .dat (.lst xs) => .ok xs m
  | .dat (.tup xs) => .ok xs m
  | .dat (.scr ns) => .ok (ns.map D.int) m
  | _ => .stuck
def dIt (f : En → P SV) : En → P (List D) := fun env => (f env).bnd itemsV
theorem rpAll_ints {Γ : Gd} {S : Hp} : ∀ ns : List Int, RpAll Γ S (ns.map V.int) (ns.map D.int)
  | [] => .nil
  | n :: r => .cons (.int n) (rpAll_ints r)
theorem ji_seq (ja : JE X W a fa) : JI X W tg a (dIt fa) := ⟨fun {G S H ρ m env σ Rr} M E h pins s I => by
  refine thn (ja.run (Q := fun x H1 => (∃ q xs, x = .ref q ∧ SqL X.K H1 q xs ∧ Rr (Itl X.K q) H1) ∨ (∃ q xs, x = .ref q ∧ SqT X.K H1 q xs ∧ Rr (Itt X.K q) H1)) M E (wpr_monoQ (wpr_bnd h) fun x m1 hx => ?_) pins s I) fun v s1 ⟨x, H1, I1, r1, q1⟩ => ?_
  · intro S1 H1 ρ1 xv e1 M1 rx
    unfold itemsV at hx
    split at hx
    · cases rx with
      | lst q z => exact .inl ⟨_, _, rfl, .inl (.inl (M1.sub _ _ q)), hx S1 H1 ρ1 _ e1 M1 (itS_list (.inl (.inl q)) z)⟩
    · cases rx with
      | tup q z => exact .inr ⟨_, _, rfl, Same.seqT M1.sub q, hx S1 H1 ρ1 _ e1 M1 (itS_tup q z)⟩
    · cases rx with
      | scr q => exact .inl ⟨_, _, rfl, M1.sub.seq q, hx S1 H1 ρ1 _ e1 M1 (itS_list q (rpAll_ints _))⟩
    · exact hx.elim
  · rcases q1 with ⟨q, xs, rfl, h1, h2⟩ | ⟨q, xs, rfl, h1, h2⟩
    · cases r1
      exact iter_list I1 h1 h2
    · cases r1
      exact iter_tup I1 h1 h2⟩
/-- range(n), range(a, b) -/
def rng1V (xs : List SV) : P (List D) := fun m => match xs with
  | [.dat (.int j)] => if -(2 ^ 62) ≤ j ∧ j < 2 ^ 62 then .ok (rngD 0 j.toNat) m else .stuck
  | _ => .stuck
def rng2V (xs : List SV) : P (List D) := fun m => match xs with
  | [.dat (.int i), .dat (.int j)] => if -(2 ^ 62) ≤ i ∧ i < 2 ^ 62 ∧ -(2 ^ 62) ≤ j ∧ j < 2 ^ 62 then .ok (rngD i (j - i).toNat) m else .stuck
  | _ => .stuck
def dAI (g : List SV → P (List D)) (fs : En → P (List SV)) : En → P (List D) := fun env => (fs env).bnd g
variable {fs : En → P (List SV)}
theorem ji_rng1 (hg : Gl X "range") (hm : X.mg "range" = none) (ja : JA X W [a] fs) (hs : starEach [a] X.env = [(false, eval a X.env)] := by rfl) : JI X W tg (.Call (.Name "range" p) [a] [] pos) (dAI rng1V fs) := ⟨fun {G S H ρ m env σ Rr} M E h => by
  refine wi_of (pi_range1 hg hm pa_wa hs) (ja.run M E (wpr_monoQ (wpr_bnd h) fun xs m1 hx => ?_))
  intro S1 H1 ρ1 xv e1 M1 rx
  unfold rng1V at hx
  split at hx
  · rename_i j
    obtain ⟨v, rfl, r⟩ := paired1 rx
    cases r
    split at hx
    · rename_i hb
      exact ⟨j, rfl, hb.1, hb.2, hx S1 H1 ρ1 _ e1 M1 (itS_rng 0 _)⟩
    · exact hx.elim
  · exact hx.elim⟩
theorem ji_rng2 (hg : Gl X "range") (hm : X.mg "range" = none) (ja : JA X W [a, b] fs) (hs : starEach [a, b] X.env = [(false, eval a X.env), (false, eval b X.env)] := by rfl) (hs2 : starEach [b] X.env = [(false, eval b X.env)] := by rfl) : JI X W tg (.Call (.Name "range" p) [a, b] [] pos) (dAI rng2V fs) := ⟨fun {G S H ρ m env σ Rr} M E h => by
  refine wi_of (pi_range2 hg hm pa_wa hs hs2) (ja.run M E (wpr_monoQ (wpr_bnd h) fun xs m1 hx => ?_))
  intro S1 H1 ρ1 xv e1 M1 rx
  unfold rng2V at hx
  split at hx
  · rename_i i j
    obtain ⟨v, w', rfl, r, r'⟩ := paired2 rx
    cases r
    cases r'
    split at hx
    · rename_i hb
      exact ⟨i, j, rfl, hb, hx S1 H1 ρ1 _ e1 M1 (itS_rng i _)⟩
    · exact hx.elim
  · exact hx.elim⟩

/-! ### statements -/
variable {st : Stmt} {sts : List Stmt} {f g : DS} {t : En → P Bool} {e : Expr} {es : List Expr}
def dNx : DS := fun env => P.ret (.nx env)
def dSeq (f g : DS) : DS := fun env => (f env).bnd fun o => match o with
  | .nx env' => g env'
  | o => P.ret o
theorem jb_nil : JB X W [] dNx := ⟨fun {G S H ρ m env σ D} M E h => wss_of pss_nil (h S H ρ σ (Ext.refl _ _) M E)⟩
theorem jb_one (j : JS X W st f) : JB X W [st] f := ⟨fun {G S H ρ m env σ D} M E h => wss_of (pss_one ps_ws) (j.run M E h)⟩
theorem jb_cons (j1 : JS X W st f) (j2 : JB X W sts g) : JB X W (st :: sts) (dSeq f g) := ⟨fun {G S H ρ m env σ D} M E h => by
  refine wss_of (pss_cons ps_ws pss_wss) (j1.run M E (wpr_monoQ (wpr_bnd h) fun o m1 ho => ?_))
  cases o with
  | nx env' =>
    intro S1 H1 ρ1 σ1 e1 M1 E1
    exact j2.run M1 E1 (wpr_mono ho (fun _ _ z => qs_ext e1 z) fun _ _ z => qxs_ext e1 z)
  | rt v => exact ho
  | bk env' => exact ho
  | ct env' => exact ho⟩
theorem js_pass : JS X W (.Pass pos) dNx := ⟨fun {G S H ρ m env σ D} M E h => ws_of ps_pass (h S H ρ σ (Ext.refl _ _) M E)⟩
def dBk : DS := fun env => P.ret (.bk env)
def dCt : DS := fun env => P.ret (.ct env)
def dNever : DS := fun _ => P.stk
theorem js_break : JS X W (.Break pos) dBk := ⟨fun {G S H ρ m env σ D} M E h => ws_of ps_break (h S H ρ σ (Ext.refl _ _) M E)⟩
theorem js_continue : JS X W (.Continue pos) dCt := ⟨fun {G S H ρ m env σ D} M E h => ws_of ps_continue (h S H ρ σ (Ext.refl _ _) M E)⟩
theorem js_never : JS X W st dNever := ⟨fun {G S H ρ m env σ D} M E h => h.elim⟩
def dRet (fa : En → P SV) : DS := fun env => (fa env).bnd fun v => P.ret (.rt v)
theorem js_ret (ja : JE X W a fa) : JS X W (.Return (some a) pos) (dRet fa) := ⟨fun {G S H ρ m env σ D} M E h => by
  refine ws_of (ps_ret pe_we) (ja.run M E (wpr_mono (wpr_bnd h) (fun v m1 hv => ?_) fun _ _ z => qx_of z))
  intro S1 H1 ρ1 xv e1 M1 rx
  exact hv S1 H1 ρ1 xv e1 M1 rx⟩
theorem js_retN : JS X W (.Return none pos) (fun _ => P.ret (.rt (.dat .non))) := ⟨fun {G S H ρ m env σ D} M E h => ws_of ps_retN (h S H ρ .non (Ext.refl _ _) M .non)⟩
def dIfS (t : En → P Bool) (f g : DS) : DS := fun env => (t env).bnd fun k => match k with
  | true => f env
  | false => g env
theorem js_if {c : Expr} {A B : List Stmt} (jc : JT X W c t) (ja : JB X W A f) (jb : JB X W B g) : JS X W (.If c A B pos) (dIfS t f g) := ⟨fun {G S H ρ m env σ D} M E h => by
  refine ws_of (ps_if pt_wt pss_wss pss_wss) (jc.run M E (wpr_mono (wpr_bnd h) (fun k m1 hk => ?_) fun _ _ z => qx_of z))
  intro S1 H1 ρ1 e1 M1
  cases k with
  | true =>
    rw [if_pos rfl]
    exact ja.run M1 (E.mono e1) (wpr_mono hk (fun _ _ z => qs_ext e1 z) fun _ _ z => qxs_ext e1 z)
  | false =>
    rw [if_neg Bool.false_ne_true]
    exact jb.run M1 (E.mono e1) (wpr_mono hk (fun _ _ z => qs_ext e1 z) fun _ _ z => qxs_ext e1 z)⟩
def dSet (i : Nat) (fa : En → P SV) : DS := fun env => (fa env).bnd fun v => P.ret (.nx (env.set i (some v)))
theorem js_set (i : Nat) {x : Str} {pos' : Pos} (hN : X.N.Nodup) (ja : JE X W a fa) (hi : X.N[i]? = some x := by rfl) (hx : Loc X.env.scope x := by first | exact Or.inl rfl | exact Or.inr rfl) (hs : swapsWith a (some (.Name x pos')) pos.line X.env = pure false := by rfl) (hf : X.fn x = true ∨ X.env.scope.names.lookup x = some .local := by first | exact .inl rfl | exact .inr rfl | assumption) :
    JS X W (.Assign [.Name x pos'] a pos) (dSet i fa) := ⟨fun {G S H ρ m env σ D} M E h => by
  refine ws_of (ps_set hN hi hx pe_we hs hf) (ja.run M E (wpr_mono (wpr_bnd h) (fun v m1 hv => ?_) fun _ _ z => qx_of z))
  intro S1 H1 ρ1 xv e1 M1 rx
  exact hv S1 H1 ρ1 _ e1 M1 ((E.mono e1).set i rx)⟩
/-- target = value -/
def dAsg (fa : En → P SV) (g : D → En → Option En) : DS := fun env => (fa env).bnd fun v m => match v with
  | .dat d => (match g d env with | some env' => .ok (.nx env') m | none => .stuck)
  | .ref _ => .stuck
theorem js_asg {ts : List Nat} {gg : D → En → Option En} (ja : JE X W a fa) (jg : JG X tg ts gg) (hs : swapsWithSole [tg] a pos.line X.env = pure false := by rfl) (hw : swappedStores [tg] a X.env = pure none := by rfl)
    (h1 : (assignEach [tg] X.env).map (·.2) = [assign tg X.env] := by rfl) : JS X W (.Assign [tg] a pos) (dAsg fa gg) := ⟨fun {G S H ρ m env σ D} M E h => by
  refine ws_of (ps_asg pe_we pg_wg hs hw h1) (ja.run M E (wpr_mono (wpr_bnd h) (fun v m1 hv => ?_) fun _ _ z => qx_of z))
  intro S1 H1 ρ1 xv e1 M1 rx
  cases v with
  | ref n => exact hv.elim
  | dat d =>
    simp only at hv
    split at hv
    · rename_i env' he
      exact jg.run M1 (E.mono e1) rx he fun σ' E' _ => hv S1 H1 ρ1 σ' e1 M1 E'
    · exact hv.elim⟩
/-- a, b = x, y -/
def dPar (i j : Nat) (fs : En → P (List SV)) : DS := fun env => (fs env).bnd fun vs m => match vs with
  | [v, w] => .ok (.nx ((env.set i (some v)).set j (some w))) m
  | _ => .stuck
theorem js_par (i j : Nat) {x y : Str} {px py pt : Pos} {kt k2 pt2} (hc : X.calm = true) (hN : X.N.Nodup) (ja : JA X W [a, b] fs)
    (hi : X.N[i]? = some x := by rfl) (hj : X.N[j]? = some y := by rfl) (hij : i ≠ j := by decide)
    (hx : X.env.scope.names.lookup x = some .local := by rfl) (hy : X.env.scope.names.lookup y = some .local := by rfl)
    (hw : swappedStores [.Tuple [.Name x px, .Name y py] kt pt] (.Tuple [a, b] k2 pt2) X.env = pure (some [x, y]) := by rfl)
    (hs : swapsWithSole [.Tuple [.Name x px, .Name y py] kt pt] (.Tuple [a, b] k2 pt2) pos.line X.env = pure false := by rfl) :
    JS X W (.Assign [.Tuple [.Name x px, .Name y py] kt pt] (.Tuple [a, b] k2 pt2) pos) (dPar i j fs) := ⟨fun {G S H ρ m env σ D} M E h => by
  refine ws_of (ps_par hc hN hi hj hij hx hy pa_wa hw hs) (ja.run M E (wpr_mono (wpr_bnd h) (fun vs m1 hv => ?_) fun _ _ z => qx_of z))
  intro S1 H1 ρ1 xv e1 M1 rx
  split at hv
  · rename_i v w'
    obtain ⟨v1, w1, rfl, r1, r2⟩ := paired2 rx
    exact ⟨v1, w1, rfl, hv S1 H1 ρ1 _ e1 M1 (((E.mono e1).set i r1).set j r2)⟩
  · exact hv.elim⟩
def dDrop (fa : En → P SV) : DS := fun env => (fa env).bnd fun _ => P.ret (.nx env)
theorem js_expr (ja : JE X W a fa) (hs : swapsWith a none pos.line X.env = pure false := by rfl) : JS X W (.Expr a pos) (dDrop fa) := ⟨fun {G S H ρ m env σ D} M E h => by
  refine ws_of (ps_expr pe_we hs) (ja.run M E (wpr_mono (wpr_bnd h) (fun v m1 hv => ?_) fun _ _ z => qx_of z))
  intro S1 H1 ρ1 xv e1 M1 rx
  exact hv S1 H1 ρ1 _ e1 M1 (E.mono e1)⟩
/-- x op= e (ints) -/
def dAug (i : Nat) (gg : SV → SV → P SV) (fa : En → P SV) : DS := fun env => (dVar i env).bnd fun v => (fa env).bnd fun y => (gg v y).bnd fun z => P.ret (.nx (env.set i (some z)))
def intAdd (x y : SV) : P SV := fun m => intOp (fun i j => .ok (.dat (.int (i + j))) m) x y
theorem js_augI (i : Nat) {x : Str} {op : Operator} {pos' : Pos} {C : Int → Int → Prop} {gi : Int → Int → Int} {gg : SV → SV → P SV} (hN : X.N.Nodup) (ho : OpR X (inplaceOp op) (rI C fun i j => .int (gi i j)))
    (hgg : ∀ (u y : SV) (m : Mem) (Q : SV → Mem → Prop) (E : Exc → Mem → Prop), wpr (gg u y m) Q E → ∃ i j, u = .dat (.int i) ∧ y = .dat (.int j) ∧ C i j ∧ Q (.dat (.int (gi i j))) m) (ja : JE X W a fa)
    (hi : X.N[i]? = some x := by rfl) (hx : Loc X.env.scope x := by first | exact Or.inl rfl | exact Or.inr rfl) (hf : X.fn x = true ∨ X.env.scope.names.lookup x = some .local := by first | exact .inl rfl | exact .inr rfl | assumption) :
    JS X W (.AugAssign (.Name x pos') op a pos) (dAug i gg fa) := ⟨fun {G S H ρ m env σ D} M E h => by
  have h := wpr_bnd h
  unfold dVar at h
  split at h
  · rename_i v hv
    obtain ⟨vv, h1, h2⟩ := E.at_ i v hv
    refine ws_of (ps_aug hN hi hx pe_we ho hf) ⟨vv, h1, ja.run M E (wpr_mono (wpr_bnd h) (fun y m1 hy => ?_) fun _ _ z => qx_of z)⟩
    intro S1 H1 ρ1 yv e1 M1 ry
    obtain ⟨i1, j1, rfl, rfl, hc, hq⟩ := hgg _ _ _ _ _ (wpr_bnd hy)
    cases h2
    cases ry
    exact ⟨i1, j1, rfl, rfl, hc, hq S1 H1 ρ1 _ e1 M1 ((E.mono e1).set i (v := .dat (.int _)) (.int _))⟩
  · exact h.elim⟩
theorem iop_add' : OpR X (inplaceOp .Add) (rI (fun _ _ => True) fun i j => .int (i + j)) := fun pins s σ H x y v u Q I rx ry ⟨i, j, h1, h2, _, q⟩ => iop_add pins s σ H x y v u Q I rx ry ⟨i, j, h1, h2, q⟩
theorem iop_sub' : OpR X (inplaceOp .Sub) (rI (fun _ _ => True) fun i j => .int (i - j)) := fun pins s σ H x y v u Q I rx ry ⟨i, j, h1, h2, _, q⟩ => iop_sub pins s σ H x y v u Q I rx ry ⟨i, j, h1, h2, q⟩
theorem js_augAdd (i : Nat) {x : Str} {pos' : Pos} (hN : X.N.Nodup) (ja : JE X W a fa) (hi : X.N[i]? = some x := by rfl) (hx : Loc X.env.scope x := by first | exact Or.inl rfl | exact Or.inr rfl) (hf : X.fn x = true ∨ X.env.scope.names.lookup x = some .local := by first | exact .inl rfl | exact .inr rfl | assumption) :
    JS X W (.AugAssign (.Name x pos') .Add a pos) (dAug i intAdd fa) := js_augI i hN iop_add' (fun u y m Q E h => by
  unfold intAdd intOp at h
  split at h
  · exact ⟨_, _, rfl, rfl, trivial, h⟩
  · exact h.elim) ja hi hx hf
theorem js_augSub (i : Nat) {x : Str} {pos' : Pos} (hN : X.N.Nodup) (ja : JE X W a fa) (hi : X.N[i]? = some x := by rfl) (hx : Loc X.env.scope x := by first | exact Or.inl rfl | exact Or.inr rfl) (hf : X.fn x = true ∨ X.env.scope.names.lookup x = some .local := by first | exact .inl rfl | exact .inr rfl | assumption) :
    JS X W (.AugAssign (.Name x pos') .Sub a pos) (dAug i subV fa) := js_augI i hN iop_sub' (fun u y m Q E h => by
  unfold subV intOp at h
  split at h
  · exact ⟨_, _, rfl, rfl, trivial, h⟩
  · exact h.elim) ja hi hx hf
/-- x.append(e) of an own list -/
def dApp (fa fb : En → P SV) : DS := fun env => (fa env).bnd fun x m => match rdL x m with
  | some _ => ((fb env).bnd fun y m1 => match x, y with
    | .ref n, .dat d => (match m1[n]? with
      | some (.lst xs) => if xs.length < 16777216 then .ok (.nx env) (m1.set n (.lst (xs ++ [d]))) else .stuck
      | _ => .stuck)
    | _, _ => .stuck) m
  | none => .stuck
theorem js_append {apos cpos : Pos} (ja : JE X W a fa) (jb : JE X W b fb) (hbase : attributeBase a "append" X.env (eval a X.env) = eval a X.env := by rfl)
    (hfew : ((backTo cpos (starEach [b] X.env)).all (fun x => !x.1) && (backToKw cpos (keywordEach [] X.env)).all (fun x => x.1.isSome)
      && decide ([b].length + ([] : List Keyword).length + (if ([] : List Keyword).isEmpty then 0 else 1) < 30)) = true := by rfl)
    (hline : (apos.endLine == cpos.line) = true := by rfl) (hs1 : starEach [b] X.env = (false, eval b X.env) :: starEach [] X.env := by rfl) (hplain : (backTo cpos (starEach [] X.env)).any (·.1) = false := by rfl)
    (hs : swapsWith (.Call (.Attribute a "append" apos) [b] [] cpos) none pos.line X.env = pure false := by rfl) : JS X W (.Expr (.Call (.Attribute a "append" apos) [b] [] cpos) pos) (dApp fa fb) := ⟨fun {G S H ρ m env σ D} M E h => by
  refine ws_of (ps_expr (pe_bm PySem.F.plainAttrs_list PySem.F.slot_list_append PySem.F.type_list_append mt_append pe_we (pa_cons pe_we pa_nil hs1) hbase hfew hline hs1 hplain) hs) (ja.run M E (wpr_mono (wpr_bnd h) (fun x m1 hx => ?_) fun _ _ z => qx_of z))
  intro S1 H1 ρ1 xv e1 M1 rx
  split at hx
  · rename_i ys hys
    obtain ⟨p, vs, rfl, g1, _⟩ := rdL_ok M1 rx hys
    refine ⟨.inl ⟨rfl, vs, .inl (.inl g1)⟩, jb.run M1 (E.mono e1) (wpr_mono (wpr_bnd hx) (fun y m2 hy => ?_) fun _ _ z => qx_ext e1 (qx_of z))⟩
    intro S2 H2 ρ2 yv e2 M2 ry
    split at hy
    · rename_i n d
      split at hy
      · rename_i xs hxs
        split at hy
        · rename_i hl
          obtain ⟨q, ws, k1, k2, k3, k4, k5⟩ := M2.cell n xs hxs
          obtain ⟨p', z1, z2⟩ := rx
          cases z2
          have e3 := e2.r n _ z1
          rw [k1] at e3
          cases e3
          refine ⟨p, ws, yv, rfl, rfl, k2, by rw [k3.length, sizeLine_eq]; exact hl, ?_⟩
          exact hy S2 _ ρ2 σ (e1.trans e2) (M2.write hxs k1 (k3.append (.cons ry .nil))) ((E.mono e1).mono e2)
        · exact hy.elim
      · exact hy.elim
    · exact hy.elim
  · exact hx.elim⟩
/-- o[i] = e of an own list -/
def dSetIx (fo fi fv : En → P SV) : DS := fun env => (fv env).bnd fun v => (fo env).bnd fun o => (fi env).bnd fun i m => match o, i, v with
  | .ref n, .dat (.int k), .dat d => (match m[n]? with
    | some (.lst xs) => (match ixN xs.length k with
      | some j => .ok (.nx env) (m.set n (.lst (xs.set j d)))
      | none => .stuck)
    | _ => .stuck)
  | _, _, _ => .stuck
theorem js_setIx {o i : Expr} {fo fi fv : En → P SV} {pos' : Pos} (jo : JE X W o fo) (ji : JE X W i fi) (jv : JE X W e fv) (ha : ∀ v, assign (.Subscript o i pos') X.env v = (do
      let ov ← holding [v] (eval o X.env)
      let iv ← holding [v, ov] (eval i X.env)
      standAt pos'
      holding [v, ov, iv] (setItem ov iv v)
      release [v, ov, iv] []) := by intro _; rfl) (hs : swapsWithSole [.Subscript o i pos'] e pos.line X.env = pure false := by rfl) (hw : swappedStores [.Subscript o i pos'] e X.env = pure none := by rfl)
    (h1 : (assignEach [.Subscript o i pos'] X.env).map (·.2) = [assign (.Subscript o i pos') X.env] := by rfl) : JS X W (.Assign [.Subscript o i pos'] e pos) (dSetIx fo fi fv) := ⟨fun {G S H ρ m env σ D} M E h => by
  refine ws_of (ps_asg pe_we (pg_sub pe_we pe_we set_list ha) hs hw h1) (jv.run M E (wpr_mono (wpr_bnd h) (fun v m1 hv => ?_) fun _ _ z => qx_of z))
  intro S1 H1 ρ1 vv e1 M1 rv
  refine jo.run M1 (E.mono e1) (wpr_mono (wpr_bnd hv) (fun ov m2 ho => ?_) fun _ _ z => qx_ext e1 (qx_of z))
  intro S2 H2 ρ2 ovv e2 M2 ro
  refine ji.run M2 ((E.mono e1).mono e2) (wpr_mono (wpr_bnd ho) (fun iv m3 hi => ?_) fun _ _ z => qx_ext (e1.trans e2) (qx_of z))
  intro S3 H3 ρ3 ivv e3 M3 ri
  split at hi
  · rename_i n k d
    split at hi
    · rename_i xs hxs
      split at hi
      · rename_i j hj
        obtain ⟨q, ws, k1, k2, k3, k4, k5⟩ := M3.cell n xs hxs
        obtain ⟨p', z1, rfl⟩ := ro
        have e4 := e3.r n _ z1
        rw [k1] at e4
        cases e4
        cases ri
        refine ⟨q, ws, k, j, rfl, rfl, k2, by rw [k3.length]; exact hj, ?_⟩
        exact hi S3 _ ρ3 σ ((e1.trans e2).trans e3) (M3.write hxs k1 (RpAll.set (rv.mono (e2.trans e3)) j k3)) (((E.mono e1).mono e2).mono e3)
      · exact hi.elim
    · exact hi.elim
  · exact hi.elim⟩

/-! ### for -/
def loopF (g : D → En → Option En) (body : DS) : List D → En → P Out
  | [], env => P.ret (.nx env)
  | d :: r, env => fun m => match g d env with
    | none => .stuck
    | some env1 => ((body env1).bnd fun o => match o with
      | .nx e => loopF g body r e
      | .ct e => loopF g body r e
      | .bk e => P.ret (.nx e)
      | .rt v => P.ret (.rt v)) m
def dFor (fi : En → P (List D)) (g : D → En → Option En) (body : DS) : DS := fun env => (fi env).bnd fun items => loopF g body items env
theorem js_for {iter : Expr} {body : List Stmt} {ts : List Nat} {gg : D → En → Option En} {fi : En → P (List D)} (hp : PassesOwn (model X.prog X.w) X.A X.env X.xe) (hc : X.calm = true) (ji : JI X W tg iter fi) (jg : JG X tg ts gg) (jb : JB X W body f)
    (hs : ∀ x, foldedSetIterable iter X.env x = pure x := by intro _; rfl) : JS X W (.For tg iter body [] pos) (dFor fi gg f) := ⟨fun {G S H ρ m env σ D} M E h => by
  refine ws_of (ps_for hp hc pi_wi pg_wg pss_wss hs) (ji.run M E (wpr_mono (wpr_bnd h) (fun items m1 hi => ?_) fun _ _ z => qx_of z))
  intro S1 H1 ρ1 J e1 M1 its
  refine ⟨fun i k σ' H' => ∃ S' ρ' m' env', Ext S1 ρ1 S' ρ' ∧ MR (gd X) G S' H' ρ' m' ∧ ER (gd X) S' ρ' env' σ' ∧ i + k = items.length ∧ wpr (loopF gg f (items.drop i) env' m') (QS X G S ρ D) (QXs X W G S ρ),
    ⟨items.length, S1, ρ1, m1, env, Ext.refl _ _, M1, E.mono e1, Nat.zero_add _, by rw [List.drop_zero]; exact hi⟩, ?_⟩
  rintro i k σ' H' ⟨S', ρ', m', env', x1, x2, x3, x4, x5⟩
  obtain ⟨t1, t2⟩ := its i x1.s x2
  cases hd : items[i]? with
  | none =>
    have hge : items.length ≤ i := List.getElem?_eq_none_iff.mp hd
    rw [List.drop_of_length_le hge] at x5
    exact .inl ⟨t1 (by omega), x5 S' H' ρ' σ' (e1.trans x1) x2 x3⟩
  | some d =>
    obtain ⟨go, yl⟩ := t2 d hd
    obtain ⟨hlt, hdd⟩ := List.getElem?_eq_some_iff.mp hd
    rw [List.drop_eq_getElem_cons hlt, hdd] at x5
    refine .inr ⟨go, fun σ2 H2 => ∃ S2 ρ2 m2 env2, Ext S1 ρ1 S2 ρ2 ∧ MR (gd X) G S2 H2 ρ2 m2 ∧ ER (gd X) S2 ρ2 env2 σ2 ∧ wpr (loopF gg f (items.drop (i + 1)) env2 m2) (QS X G S ρ D) (QXs X W G S ρ), fun σ2 H2 hN => ?_, fun x H2 hy => ?_⟩
    · obtain ⟨S2, ρ2, m2, env2, y1, y2, y3, y4⟩ := hN
      exact ⟨k - 1, by omega, S2, ρ2, m2, env2, y1, y2, y3, by omega, y4⟩
    · obtain ⟨S2, e2, M2, rx⟩ := yl x H2 hy
      unfold loopF at x5
      split at x5
      · exact x5.elim
      · rename_i env1 hg
        refine jg.run M2 (x3.mono e2) rx hg fun σ3 E3 _ => jb.run M2 E3 ?_
        have e02 : Ext S ρ S2 ρ' := (e1.trans x1).trans e2
        refine wpr_mono (wpr_bnd x5) (fun o m3 ho => ?_) fun _ _ z => qxs_ext e02 z
        cases o with
        | nx env4 => exact fun S4 H4 ρ4 σ4 e4 M4 E4 => ⟨S4, ρ4, m3, env4, (x1.trans e2).trans e4, M4, E4, ho⟩
        | ct env4 => exact fun S4 H4 ρ4 σ4 e4 M4 E4 => ⟨S4, ρ4, m3, env4, (x1.trans e2).trans e4, M4, E4, ho⟩
        | bk env4 => exact fun S4 H4 ρ4 σ4 e4 M4 E4 => ho S4 H4 ρ4 σ4 (e02.trans e4) M4 E4
        | rt v => exact fun S4 H4 ρ4 σ4 e4 M4 E4 => ho S4 H4 ρ4 σ4 (e02.trans e4) M4 E4⟩

/-! ### while -/
def loopW (t : En → P Bool) (body : DS) : Nat → En → P Out
  | 0, _ => P.stk
  | n + 1, env => (t env).bnd fun k => match k with
    | true => (body env).bnd fun o => (match o with
      | .nx e => loopW t body n e
      | .ct e => loopW t body n e
      | .bk e => P.ret (.nx e)
      | .rt v => P.ret (.rt v))
    | false => P.ret (.nx env)
def dWhile (n : Nat) (t : En → P Bool) (body : DS) : DS := fun env => loopW t body n env
theorem js_while {c : Expr} {body : List Stmt} {n : Nat} (hp : PassesOwn (model X.prog X.w) X.A X.env X.xe) (jc : JT X W c t) (jb : JB X W body f) : JS X W (.While c body [] pos) (dWhile n t f) := ⟨fun {G S H ρ m env σ D} M E h => by
  refine ws_of (ps_while hp pt_wt pss_wss) ?_
  refine ⟨fun k σ' H' => ∃ S' ρ' m' env', Ext S ρ S' ρ' ∧ MR (gd X) G S' H' ρ' m' ∧ ER (gd X) S' ρ' env' σ' ∧ wpr (loopW t f k env' m') (QS X G S ρ D) (QXs X W G S ρ), ⟨n, S, ρ, m, env, Ext.refl _ _, M, E, h⟩, ?_⟩
  rintro k σ' H' ⟨S', ρ', m', env', x1, x2, x3, x5⟩
  cases k with
  | zero => exact x5.elim
  | succ k =>
    unfold loopW at x5
    refine jc.run x2 x3 (wpr_mono (wpr_bnd x5) (fun b m1 hb => ?_) fun _ _ z => qx_ext x1 (qx_of z))
    intro S1 H1 ρ1 e1 M1
    cases b with
    | false =>
      rw [if_neg Bool.false_ne_true]
      exact hb S1 H1 ρ1 σ' (x1.trans e1) M1 (x3.mono e1)
    | true =>
      rw [if_pos rfl]
      refine ⟨fun σ2 H2 => ∃ S2 ρ2 m2 env2, Ext S ρ S2 ρ2 ∧ MR (gd X) G S2 H2 ρ2 m2 ∧ ER (gd X) S2 ρ2 env2 σ2 ∧ wpr (loopW t f k env2 m2) (QS X G S ρ D) (QXs X W G S ρ), fun σ2 H2 hN => ⟨k, Nat.lt_succ_self k, hN⟩, ?_⟩
      refine jb.run M1 (x3.mono e1) (wpr_mono (wpr_bnd hb) (fun o m3 ho => ?_) fun _ _ z => qxs_ext (x1.trans e1) z)
      have e02 := x1.trans e1
      cases o with
      | nx env4 => exact fun S4 H4 ρ4 σ4 e4 M4 E4 => ⟨S4, ρ4, m3, env4, e02.trans e4, M4, E4, ho⟩
      | ct env4 => exact fun S4 H4 ρ4 σ4 e4 M4 E4 => ⟨S4, ρ4, m3, env4, e02.trans e4, M4, E4, ho⟩
      | bk env4 => exact fun S4 H4 ρ4 σ4 e4 M4 E4 => ho S4 H4 ρ4 σ4 (e02.trans e4) M4 E4
      | rt v => exact fun S4 H4 ρ4 σ4 e4 M4 E4 => ho S4 H4 ρ4 σ4 (e02.trans e4) M4 E4⟩
end
end PL

/-! PL5: comprehensions, list.index, defs and their calls. -/
namespace PL
open PySem PySem.Spec PyProof.Rows L2

/-! ### comprehensions -/
abbrev W0 : WX := fun _ _ _ _ => False
def dYes : En → P Bool := fun _ => P.ret true
/-- the fold of a comprehension -/
def loopC (g : D → En → Option En) (t : En → P Bool) (f : En → P SV) (env : En) : List D → List D → P (List D)
  | [], acc => P.ret acc
  | d :: r, acc => fun m => match g d env with
    | none => .stuck
    | some env1 => ((t env1).bnd fun k => match k with
      | true => (f env1).bnd fun v m1 => (match v with
        | .dat y => if acc.length < 16777216 then loopC g t f env r (acc ++ [y]) m1 else .stuck
        | .ref _ => .stuck)
      | false => loopC g t f env r acc) m
def noX {α : Type} (x : P α) : P α := fun m => match x m with
  | .ok a m' => .ok a m'
  | _ => .stuck
theorem wpr_noX {α : Type} {x : P α} {m : Mem} {Q : α → Mem → Prop} {E E' : Exc → Mem → Prop} (h : wpr (noX x m) Q E) : wpr (x m) Q E' := by
  unfold noX at h
  cases e : x m with
  | ok a m' => rw [e] at h; exact h
  | exc y m' => rw [e] at h; exact h.elim
  | stuck => rw [e] at h; exact h
def dLc (vs : List Nat) (fi : En → P (List D)) (g : D → En → Option En) (t : En → P Bool) (f : En → P SV) : En → P SV :=
  fun env => (fi env).bnd fun items => (noX (loopC g t f (wipeE env vs) items [])).bnd fun acc => P.ret (.dat (.lst acc))
/-- .. as an own list -/
def dLcO (vs : List Nat) (fi : En → P (List D)) (g : D → En → Option En) (t : En → P Bool) (f : En → P SV) : En → P SV :=
  fun env => (fi env).bnd fun items => (noX (loopC g t f (wipeE env vs) items [])).bnd fun acc m => .ok (.ref m.length) (m ++ [.lst acc])
section
variable {X : Cx} {W : WX} {pos : Pos} {tg iter elt : Expr} {ifs : List Expr} {scope : Scope} {own : List (Str × Nat)}
abbrev Bk (X : Cx) (scope : Scope) (s : Shared) (H : Hp) (C : Addr) (cl : List (Str × Addr)) (fp : List Addr) : Cx := X.blk s H scope (compEnvC scope cl C X.env) fp
def gAll (X : Cx) (scope : Scope) (tg : Expr) : TG := fun v σ H Q => ∀ (s0 : Shared) (H0 : Hp) (C : Addr) (cl : List (Str × Addr)) (fp : List Addr), WG (Bk X scope s0 H0 C cl fp) tg v σ H Q
def eAll (X : Cx) (scope : Scope) (e : Expr) : TE := fun σ H Q => ∀ (s0 : Shared) (H0 : Hp) (C : Addr) (cl : List (Str × Addr)) (fp : List Addr), WE (Bk X scope s0 H0 C cl fp) e σ H Q
def tAll (X : Cx) (scope : Scope) (e : Expr) : TT := fun σ H Q => ∀ (s0 : Shared) (H0 : Hp) (C : Addr) (cl : List (Str × Addr)) (fp : List Addr), WT (Bk X scope s0 H0 C cl fp) e σ H Q
/-- one turn's test, of a comprehension without or with one if -/
structure TestOk (X : Cx) (scope : Scope) (ifs : List Expr) (tt : TT) (t : En → P Bool) : Prop where
  pts : ∀ (s : Shared) (H : Hp) (C : Addr) (cl : List (Str × Addr)) (fp : List Addr), PTs (Bk X scope s H C cl fp) ifs tt
  run : ∀ {G S H : Hp} {ρ : List Addr} {m : Mem} {env : En} {σ : St} {Q : Bool → Hp → Prop}, MR (gd X) G S H ρ m → ER (gd X) S ρ env σ → wpr (t env m) (QB X G S ρ Q) (fun _ _ => False) → tt σ H Q
theorem test_no : TestOk X scope [] tYes dYes := ⟨fun _ _ _ _ _ => pts_nil, fun M E h => h _ _ _ (Ext.refl _ _) M⟩
theorem test_one {c : Expr} {t : En → P Bool} (j : ∀ (s : Shared) (H : Hp) (C : Addr) (cl : List (Str × Addr)) (fp : List Addr), JT (Bk X scope s H C cl fp) W0 c t) : TestOk X scope [c] (tAll X scope c) t :=
  ⟨fun s H C cl fp => pts_one ⟨fun pins s σ H Q I h => h _ _ _ _ _ pins s I⟩, fun M E h s H C cl fp => (j s H C cl fp).run M E (wpr_mono h (fun _ _ z => z) fun _ _ z => z.elim)⟩
/-- the reading of a comprehension -/
theorem lc_ok {fi : En → P (List D)} {ts : List Nat} {g : D → En → Option En} {tt : TT} {t : En → P Bool} {f : En → P SV} (ji : JI X W tg iter fi)
    (jg : ∀ (s : Shared) (H : Hp) (C : Addr) (cl : List (Str × Addr)) (fp : List Addr), JG (Bk X scope s H C cl fp) tg ts g) (hts : ∀ t ∈ ts, t ∈ own.map (·.2)) (jt : TestOk X scope ifs tt t)
    (je : ∀ (s : Shared) (H : Hp) (C : Addr) (cl : List (Str × Addr)) (fp : List Addr), JE (Bk X scope s H C cl fp) W0 elt f)
    {G S H : Hp} {ρ : List Addr} {m : Mem} {env : En} {σ : St} {Q : VK} (M : MR (gd X) G S H ρ m) (E : ER (gd X) S ρ env σ)
    (h : wpr (((fi env).bnd fun items => noX (loopC g t f (wipeE env (own.map (·.2))) items [])) m) (fun acc m' => ∀ S' H' ρ' D ws, Ext S ρ S' ρ' → MR (gd X) G S' H' ρ' m' → H' D = some (.lst ws) → RpAll (gd X) S' ws acc → S' D = none → G D = none → NoCell S' ρ' m' D → Q (.ref D) H') (QX X W G S ρ σ)) :
    tLc (WI X tg iter) (gAll X scope tg) tt (eAll X scope elt) (own.map (·.2)) σ H Q := by
  refine ji.run M E (wpr_mono (wpr_bnd h) (fun items m1 hi => ?_) fun _ _ z => z)
  intro S1 H1 ρ1 J e1 M1 its D hD
  have hi := wpr_noX (E' := fun _ _ => False) hi
  have sD : S1 D = none := M1.sub.free hD
  have gD : G D = none := M1.gsub.free hD
  generalize hvs : own.map (·.2) = vs at *
  have E1 := (E.mono e1).wipe vs
  -- the state between two turns
  refine ⟨fun i k H' => ∃ S' ρ' m' acc ws, Ext S1 ρ1 S' ρ' ∧ MR (gd X) (upd G D (.lst ws)) S' H' ρ' m' ∧ RpAll (gd X) S' ws acc ∧ i + k = items.length ∧
      wpr (loopC g t f (wipeE env vs) (items.drop i) acc m') (fun acc m' => ∀ S' H' ρ' D ws, Ext S ρ S' ρ' → MR (gd X) G S' H' ρ' m' → H' D = some (.lst ws) → RpAll (gd X) S' ws acc → S' D = none → G D = none → NoCell S' ρ' m' D → Q (.ref D) H') (fun _ _ => False), ⟨items.length, ?_⟩, ?_⟩
  · have M2 : MR (gd X) (upd G D (.lst [])) S1 (upd H1 D (.lst [])) ρ1 m1 := by
      have Mw : MR (gd X) G S1 (upd H1 D (.lst [])) ρ1 m1 := by
        refine ⟨fun b x q => ?_, fun b x q => ?_, M1.dis, M1.len, fun i xs q => ?_, M1.inj, M1.tab.h (.inl hD) _, M1.dic.h (.inl hD) _, M1.mix.same (Same.refl _) fun i b q => ⟨(M1.mix.own q).1, (M1.mix.own q).2.1, upd_ne (M1.mix.ne q hD)⟩⟩
        · rw [upd_ne (ne_of_none q sD)]; exact M1.sub b x q
        · rw [upd_ne (ne_of_none q gD)]; exact M1.gsub b x q
        · obtain ⟨a, us, h1, h2, h3, h4, h5⟩ := M1.cell i xs q
          exact ⟨a, us, h1, by rw [upd_ne (ne_of_none h2 hD)]; exact h2, h3, h4, h5⟩
      refine Mw.guard upd_same sD ⟨fun i xs q z => ?_, fun i q => M1.mix.ne q hD rfl⟩
      obtain ⟨a, us, h1, h2, _⟩ := M1.cell i xs q
      rw [z] at h1
      cases h1
      rw [hD] at h2
      cases h2
    exact ⟨S1, ρ1, m1, [], [], Ext.refl _ _, M2, .nil, Nat.zero_add _, by rw [List.drop_zero]; exact hi⟩
  · rintro i k H' ⟨S', ρ', m', acc, ws, x1, x2, x3, x4, x5⟩
    obtain ⟨t1, t2⟩ := its i x1.s x2
    have hDD : H' D = some (.lst ws) := x2.gsub D _ upd_same
    cases hd : items[i]? with
    | none =>
      have hge : items.length ≤ i := List.getElem?_eq_none_iff.mp hd
      rw [List.drop_of_length_le hge] at x5
      obtain ⟨u1, u2, u3⟩ := x2.unguard (G' := G) gD (.lst ws)
      have eH : upd H' D (.lst ws) = H' := by
        funext b
        by_cases e : b = D
        · subst e; rw [upd_same, hDD]
        · rw [upd_ne e]
      rw [eH] at u1
      exact .inl ⟨t1 (by omega), x5 S' H' ρ' D ws (e1.trans x1) u1 hDD x3 u2 gD u3⟩
    | some d =>
      obtain ⟨go, yl⟩ := t2 d hd
      obtain ⟨hlt, hdd⟩ := List.getElem?_eq_some_iff.mp hd
      rw [List.drop_eq_getElem_cons hlt, hdd] at x5
      refine .inr ⟨go, fun H2 => ∃ S2 ρ2 m2 acc2 ws2, Ext S1 ρ1 S2 ρ2 ∧ MR (gd X) (upd G D (.lst ws2)) S2 H2 ρ2 m2 ∧ RpAll (gd X) S2 ws2 acc2 ∧
        wpr (loopC g t f (wipeE env vs) (items.drop (i + 1)) acc2 m2) (fun acc m' => ∀ S' H' ρ' D ws, Ext S ρ S' ρ' → MR (gd X) G S' H' ρ' m' → H' D = some (.lst ws) → RpAll (gd X) S' ws acc → S' D = none → G D = none → NoCell S' ρ' m' D → Q (.ref D) H') (fun _ _ => False), fun H2 hN => ?_, fun x H2 hy => ?_⟩
      · obtain ⟨S2, ρ2, m2, acc2, ws2, y1, y2, y3, y4⟩ := hN
        exact ⟨k - 1, by omega, S2, ρ2, m2, acc2, ws2, y1, y2, y3, by omega, y4⟩
      · obtain ⟨S2, e2, M2, rx⟩ := yl x H2 hy
        unfold loopC at x5
        split at x5
        · exact x5.elim
        · rename_i env1 hg
          have E2 : ER (gd X) S2 ρ' (wipeE env vs) (wipe σ vs) := (E1.mono x1).mono e2
          intro s0 H0 C cl fp
          refine (jg s0 H0 C cl fp).run M2 E2 rx hg fun σ3 E3 sm => ⟨?_, ?_⟩
          · have z := sm.wipe (vs := vs) hts
            rw [z]
            -- wiping twice is wiping once
            apply List.ext_getElem?
            intro j
            by_cases hj : j ∈ vs
            · by_cases hl : j < σ.length
              · rw [wipe_in hj (by rw [wipe_length]; exact hl), wipe_in hj hl]
              · rw [List.getElem?_eq_none (by rw [wipe_length, wipe_length]; omega), List.getElem?_eq_none (by rw [wipe_length]; omega)]
            · rw [wipe_out hj]
          · refine jt.run M2 E3 (wpr_mono (wpr_bnd x5) (fun b m3 hb => ?_) fun _ _ z => z)
            intro S3 H3 ρ3 e3 M3
            cases b with
            | false =>
              rw [if_neg Bool.false_ne_true]
              exact ⟨S3, ρ3, m3, acc, ws, (x1.trans e2).trans e3, M3, x3.mono (e2.trans e3).s, hb⟩
            | true =>
              rw [if_pos rfl]
              intro s1 H01 C1 cl1 fp1
              refine (je s1 H01 C1 cl1 fp1).run M3 (E3.mono e3) (wpr_mono (wpr_bnd hb) (fun v m4 hv => ?_) fun _ _ z => z.elim)
              intro S4 H4 ρ4 vv e4 M4 rv
              cases v with
              | ref n => exact hv.elim
              | dat y =>
                simp only at hv
                split at hv
                · rename_i hl
                  have e24 := (e2.trans e3).trans e4
                  have h4 : H4 D = some (.lst ws) := M4.gsub D _ upd_same
                  refine ⟨ws, h4, by rw [x3.length, sizeLine_eq]; exact hl, S4, ρ4, m4, acc ++ [y], ws ++ [vv], x1.trans e24, ?_, (x3.mono e24.s).append (.cons rv .nil), hv⟩
                  obtain ⟨u1, u2, u3⟩ := M4.unguard (G' := G) gD (.lst (ws ++ [vv]))
                  exact u1.guard upd_same u2 u3
                · exact hv.elim
theorem MR.adopt {Γ : Gd} {G S H : Hp} {ρ : List Addr} {m : Mem} {p : Addr} {o : HO} (M : MR Γ G S H ρ m) (hp : H p = some o) (hs : S p = none) (hg : G p = none) (hc : NoCell S ρ m p) (ho : ∀ ps, o ≠ .tbl ps := by intro _ z; cases z) (hk : ∀ vs, o ≠ .dK vs := by intro _ z; cases z) :
    Same S (upd S p o) ∧ MR Γ G (upd S p o) H ρ m := by
  have s1 : Same S (upd S p o) := fun b x q => by rw [upd_ne (ne_of_none q hs)]; exact q
  refine ⟨s1, ⟨fun b x q => ?_, M.gsub, fun b x q => ?_, M.len, fun i xs q => ?_, M.inj, M.tab.s ho, M.dic.s s1 fun a vs q z => upd_free z fun e => by rw [e, hp] at q; exact hk vs (Option.some.inj q), M.mix.same s1 fun i b q => ⟨upd_free (M.mix.own q).1 fun z => hc.2 i (by rw [← z]; exact q), (M.mix.own q).2.1, rfl⟩⟩⟩
  · by_cases e : b = p
    · subst e; rw [upd_same] at q; cases q; exact hp
    · rw [upd_ne e] at q; exact M.sub b x q
  · rw [upd_ne (ne_of_none q hg)]; exact M.dis b x q
  · obtain ⟨a, vs, h1, h2, h3, h4, h5⟩ := M.cell i xs q
    exact ⟨a, vs, h1, h2, h3.mono s1, by rw [upd_ne (fun z => hc.1 i xs q (by rw [← z]; exact h1))]; exact h4, h5⟩
theorem MR.take_own {Γ : Gd} {G S H : Hp} {ρ : List Addr} {m : Mem} {p : Addr} {vs : List V} {xs : List PL.D} (M : MR Γ G S H ρ m) (hp : H p = some (.lst vs)) (hs : S p = none) (hg : G p = none) (hc : NoCell S ρ m p) (r : RpAll Γ S vs xs) :
    Ext S ρ S (ρ ++ [p]) ∧ MR Γ G S H (ρ ++ [p]) (m ++ [.lst xs]) := by
  have pre : ∀ (i : Nat) (a : Addr), ρ[i]? = some a → (ρ ++ [p])[i]? = some a := fun i a q => by
    rw [List.getElem?_append_left (List.getElem?_eq_some_iff.mp q).1]; exact q
  have at_ : ∀ (i : Nat) (xs' : List PL.D), (m ++ [Cell.lst xs])[i]? = some (.lst xs') → (m[i]? = some (.lst xs') ∧ i < m.length) ∨ (i = m.length ∧ xs' = xs) := fun i xs' q => by
    by_cases hi : i < m.length
    · rw [List.getElem?_append_left hi] at q; exact .inl ⟨q, hi⟩
    · rw [List.getElem?_append_right (by omega)] at q
      have h0 : i - m.length = 0 := by
        have := (List.getElem?_eq_some_iff.mp q).1
        simp at this
        omega
      rw [h0] at q
      simp at q
      exact .inr ⟨by omega, q.symm⟩
  refine ⟨⟨Same.refl S, pre⟩, ⟨M.sub, M.gsub, M.dis, by rw [List.length_append, List.length_append, M.len]; rfl, fun i xs' q => ?_, fun i j xs' ys' a q1 q2 q3 q4 => ?_, M.tab, M.dic.cells (fun i kvs q => dct_app (fun _ z => by cases z) q) fun i a kvs _ q => r_app q, M.mix.push M.len (fun i b q => rfl) rfl fun _ i b q z => hc.2 i (by rw [← z]; exact q)⟩⟩
  · rcases at_ i xs' q with ⟨q1, _⟩ | ⟨q1, q2⟩
    · obtain ⟨a, vs', h1, h2⟩ := M.cell i xs' q1
      exact ⟨a, vs', pre i a h1, h2⟩
    · subst q1 q2
      exact ⟨p, vs, by rw [← M.len]; simp, hp, r, hs, hg⟩
  · have key : ∀ (i : Nat) (xs' : List PL.D) (a : Addr), (m ++ [Cell.lst xs])[i]? = some (.lst xs') → (ρ ++ [p])[i]? = some a → (m[i]? = some (.lst xs') ∧ ρ[i]? = some a ∧ a ≠ p) ∨ (i = m.length ∧ a = p) := fun i xs' a q r => by
      rcases at_ i xs' q with ⟨q1, q2⟩ | ⟨q1, q2⟩
      · obtain ⟨a', vs', h1, h2, _⟩ := M.cell i xs' q1
        have e := pre i a' h1
        rw [r] at e
        cases e
        exact .inl ⟨q1, h1, fun z => hc.1 i xs' q1 (by rw [← z]; exact h1)⟩
      · subst q1
        rw [← M.len] at r
        simp at r
        exact .inr ⟨rfl, r.symm⟩
    rcases key i xs' a q1 q3 with ⟨b1, b2, b3⟩ | ⟨b1, b2⟩
    · rcases key j ys' a q2 q4 with ⟨c1, c2, c3⟩ | ⟨c1, c2⟩
      · exact M.inj i j xs' ys' a b1 c1 b2 c2
      · exact absurd c2 b3
    · rcases key j ys' a q2 q4 with ⟨c1, c2, c3⟩ | ⟨c1, c2⟩
      · exact absurd b2 c3
      · rw [b1, c1]
theorem bnd_assoc {α β γ : Type} (x : P α) (f : α → P β) (g : β → P γ) : (x.bnd f).bnd g = x.bnd fun a => (f a).bnd g := by
  funext m
  unfold P.bnd R.bnd
  cases x m <;> rfl
section
variable {fi : En → P (List PL.D)} {ts : List Nat} {g : PL.D → En → Option En} {tt : TT} {t : En → P Bool} {f : En → P SV}
theorem lc_frozen {G S : Hp} {ρ : List Addr} {Q : VK} {vs : List Nat} {env : En} {m : Mem} {E : Exc → Mem → Prop} (h : wpr (dLc vs fi g t f env m) (QV X G S ρ Q) E) :
    wpr (((fi env).bnd fun items => noX (loopC g t f (wipeE env vs) items [])) m) (fun acc m' => ∀ S' H' ρ' D ws, Ext S ρ S' ρ' → MR (gd X) G S' H' ρ' m' → H' D = some (.lst ws) → RpAll (gd X) S' ws acc → S' D = none → G D = none → NoCell S' ρ' m' D → Q (.ref D) H') E := by
  unfold dLc at h
  rw [← bnd_assoc] at h
  refine wpr_monoQ (wpr_bnd h) fun acc m1 ha S' H' ρ' D ws e M hD r sD gD nD => ?_
  obtain ⟨s1, M1⟩ := M.adopt hD sD gD nD
  exact ha _ H' ρ' _ (e.trans ⟨s1, fun _ _ z => z⟩) M1 (.lst upd_same (r.mono s1))
theorem lc_owned {G S : Hp} {ρ : List Addr} {Q : VK} {vs : List Nat} {env : En} {m : Mem} {E : Exc → Mem → Prop} (h : wpr (dLcO vs fi g t f env m) (QV X G S ρ Q) E) :
    wpr (((fi env).bnd fun items => noX (loopC g t f (wipeE env vs) items [])) m) (fun acc m' => ∀ S' H' ρ' D ws, Ext S ρ S' ρ' → MR (gd X) G S' H' ρ' m' → H' D = some (.lst ws) → RpAll (gd X) S' ws acc → S' D = none → G D = none → NoCell S' ρ' m' D → Q (.ref D) H') E := by
  unfold dLcO at h
  rw [← bnd_assoc] at h
  refine wpr_monoQ (wpr_bnd h) fun acc m1 ha S' H' ρ' D ws e M hD r sD gD nD => ?_
  obtain ⟨e1, M1⟩ := M.take_own hD sD gD nD r
  refine ha _ H' _ _ (e.trans e1) M1 ⟨D, ?_, rfl⟩
  rw [← M.len]
  simp
theorem pg_gAll (s : Shared) (H : Hp) (C : Addr) (cl : List (Str × Addr)) (fp : List Addr) : PG (Bk X scope s H C cl fp) tg (gAll X scope tg) := ⟨fun pins s σ H v u Q I r h => h _ _ _ _ _ pins s u I r⟩
theorem pe_eAll (s : Shared) (H : Hp) (C : Addr) (cl : List (Str × Addr)) (fp : List Addr) : PE (Bk X scope s H C cl fp) elt (eAll X scope elt) := ⟨fun pins s σ H Q I h => h _ _ _ _ _ pins s I⟩
theorem je_lc {vs : List Nat} (own : List (Str × Nat)) (hc : X.calm = true) (hN : X.N.Nodup) (ji : JI X W tg iter fi) (ok : BlkOk X.N X.env.scope scope own)
    (jg : ∀ (s : Shared) (H : Hp) (C : Addr) (cl : List (Str × Addr)) (fp : List Addr), JG (Bk X scope s H C cl fp) tg ts g) (hts : ∀ t ∈ ts, t ∈ vs) (jt : TestOk X scope ifs tt t)
    (je : ∀ (s : Shared) (H : Hp) (C : Addr) (cl : List (Str × Addr)) (fp : List Addr), JE (Bk X scope s H C cl fp) W0 elt f) (hs : ∀ x, foldedSetIterable iter X.env x = pure x := by intro _; rfl) (hvs : own.map (·.2) = vs := by rfl) :
    JE X W (.ListComp elt [⟨tg, iter, ifs, 0⟩] scope pos) (dLc vs fi g t f) := by
  subst hvs
  exact ⟨fun {G S H ρ m env σ Q} M E h =>
  we_of (pe_lc hc hN pi_wi ok pg_gAll jt.pts pe_eAll hs) (lc_ok ji jg hts jt je M E (lc_frozen h))⟩
theorem je_lcO {vs : List Nat} (own : List (Str × Nat)) (hc : X.calm = true) (hN : X.N.Nodup) (ji : JI X W tg iter fi) (ok : BlkOk X.N X.env.scope scope own)
    (jg : ∀ (s : Shared) (H : Hp) (C : Addr) (cl : List (Str × Addr)) (fp : List Addr), JG (Bk X scope s H C cl fp) tg ts g) (hts : ∀ t ∈ ts, t ∈ vs) (jt : TestOk X scope ifs tt t)
    (je : ∀ (s : Shared) (H : Hp) (C : Addr) (cl : List (Str × Addr)) (fp : List Addr), JE (Bk X scope s H C cl fp) W0 elt f) (hs : ∀ x, foldedSetIterable iter X.env x = pure x := by intro _; rfl) (hvs : own.map (·.2) = vs := by rfl) :
    JE X W (.ListComp elt [⟨tg, iter, ifs, 0⟩] scope pos) (dLcO vs fi g t f) := by
  subst hvs
  exact ⟨fun {G S H ρ m env σ Q} M E h =>
  we_of (pe_lc hc hN pi_wi ok pg_gAll jt.pts pe_eAll hs) (lc_ok ji jg hts jt je M E (lc_owned h))⟩
/-- y = [..] -/
theorem js_setLc {vs : List Nat} (i : Nat) {y : Str} {py spos : Pos} (own : List (Str × Nat)) (hc : X.calm = true) (hN : X.N.Nodup) (ji : JI X W tg iter fi) (ok : BlkOk X.N X.env.scope scope own)
    (jg : ∀ (s : Shared) (H : Hp) (C : Addr) (cl : List (Str × Addr)) (fp : List Addr), JG (Bk X scope s H C cl fp) tg ts g) (hts : ∀ t ∈ ts, t ∈ vs) (jt : TestOk X scope ifs tt t)
    (je : ∀ (s : Shared) (H : Hp) (C : Addr) (cl : List (Str × Addr)) (fp : List Addr), JE (Bk X scope s H C cl fp) W0 elt f) 
    (hsw : swapsWith (.ListComp elt [⟨tg, iter, ifs, 0⟩] scope pos) (some (.Name y py)) spos.line X.env = pure true) (hy : X.N[i]? = some y := by rfl) (hyl : X.env.scope.names.lookup y = some .local := by rfl) (hs : ∀ x, foldedSetIterable iter X.env x = pure x := by intro _; rfl) (hvs : own.map (·.2) = vs := by rfl) :
    JS X W (.Assign [.Name y py] (.ListComp elt [⟨tg, iter, ifs, 0⟩] scope pos) spos) (dSet i (dLc vs fi g t f)) := by
  subst hvs
  refine ⟨fun {G S H ρ m env σ D} M E h => ?_⟩
  have h2 : wpr (dLc (own.map (·.2)) fi g t f env m) (QV X G S ρ fun v H1 => gName i v σ H1 D.nx) (QX X W G S ρ σ) := by
    refine wpr_mono (wpr_bnd h) (fun v m1 hv => ?_) fun _ _ z => qx_of z
    intro S1 H1 ρ1 xv e1 M1 rx
    exact hv S1 H1 ρ1 _ e1 M1 ((E.mono e1).set i rx)
  exact ws_of (ps_setLc hc hN hy hyl hsw pi_wi ok pg_gAll jt.pts pe_eAll hs) (lc_ok ji jg hts jt je M E (lc_frozen h2))
theorem js_setLcO {vs : List Nat} (i : Nat) {y : Str} {py spos : Pos} (own : List (Str × Nat)) (hc : X.calm = true) (hN : X.N.Nodup) (ji : JI X W tg iter fi) (ok : BlkOk X.N X.env.scope scope own)
    (jg : ∀ (s : Shared) (H : Hp) (C : Addr) (cl : List (Str × Addr)) (fp : List Addr), JG (Bk X scope s H C cl fp) tg ts g) (hts : ∀ t ∈ ts, t ∈ vs) (jt : TestOk X scope ifs tt t)
    (je : ∀ (s : Shared) (H : Hp) (C : Addr) (cl : List (Str × Addr)) (fp : List Addr), JE (Bk X scope s H C cl fp) W0 elt f) 
    (hsw : swapsWith (.ListComp elt [⟨tg, iter, ifs, 0⟩] scope pos) (some (.Name y py)) spos.line X.env = pure true) (hy : X.N[i]? = some y := by rfl) (hyl : X.env.scope.names.lookup y = some .local := by rfl) (hs : ∀ x, foldedSetIterable iter X.env x = pure x := by intro _; rfl) (hvs : own.map (·.2) = vs := by rfl) :
    JS X W (.Assign [.Name y py] (.ListComp elt [⟨tg, iter, ifs, 0⟩] scope pos) spos) (dSet i (dLcO vs fi g t f)) := by
  subst hvs
  refine ⟨fun {G S H ρ m env σ D} M E h => ?_⟩
  have h2 : wpr (dLcO (own.map (·.2)) fi g t f env m) (QV X G S ρ fun v H1 => gName i v σ H1 D.nx) (QX X W G S ρ σ) := by
    refine wpr_mono (wpr_bnd h) (fun v m1 hv => ?_) fun _ _ z => qx_of z
    intro S1 H1 ρ1 xv e1 M1 rx
    exact hv S1 H1 ρ1 _ e1 M1 ((E.mono e1).set i rx)
  exact ws_of (ps_setLc hc hN hy hyl hsw pi_wi ok pg_gAll jt.pts pe_eAll hs) (lc_ok ji jg hts jt je M E (lc_owned h2))
end

/-! ### list.index -/
def idxOf (d : PL.D) : List PL.D → Option Nat
  | [] => none
  | e :: r => if eqF e d = true then some 0 else (match idxOf d r with | some k => some (k + 1) | none => none)
theorem idxOf_ok {d : PL.D} : ∀ {xs : List PL.D} {j : Nat}, idxOf d xs = some j → (∃ z, xs[j]? = some z ∧ eqF z d = true) ∧ ∀ (m : Nat) (z : PL.D), m < j → xs[m]? = some z → eqF z d = false
  | [], _, h => by cases h
  | e :: r, j, h => by
    unfold idxOf at h
    split at h
    · rename_i he
      cases h
      exact ⟨⟨e, rfl, he⟩, fun m z hm => by omega⟩
    · rename_i he
      split at h
      · rename_i k hk
        cases h
        obtain ⟨⟨z, h1, h2⟩, h3⟩ := idxOf_ok hk
        refine ⟨⟨z, by simpa using h1, h2⟩, fun m z' hm hz => ?_⟩
        cases m with
        | zero =>
          simp at hz
          subst hz
          exact Bool.not_eq_true _ ▸ he
        | succ m => exact h3 m z' (by omega) (by simpa using hz)
      · cases h
def indexV (x y : SV) : P SV := fun m => match rdL x m, y with
  | some xs, .dat d => if flatD d && flats xs then (match idxOf d xs with | some j => .ok (.dat (.int (j : Nat))) m | none => .stuck) else .stuck
  | _, _ => .stuck
/-- x.index(y): the list is looked at ahead of the argument, too -/
def dIndex (fa fb : En → P SV) : En → P SV := fun env => (fa env).bnd fun x m => match rdL x m with
  | some _ => ((fb env).bnd fun y => indexV x y) m
  | none => .stuck
theorem je_index {a b : Expr} {fa fb : En → P SV} {apos cpos : Pos} (ja : JE X W a fa) (jb : JE X W b fb) (hbase : attributeBase a "index" X.env (eval a X.env) = eval a X.env := by rfl)
    (hfew : ((backTo cpos (starEach [b] X.env)).all (fun x => !x.1) && (backToKw cpos (keywordEach [] X.env)).all (fun x => x.1.isSome)
      && decide ([b].length + ([] : List Keyword).length + (if ([] : List Keyword).isEmpty then 0 else 1) < 30)) = true := by rfl)
    (hline : (apos.endLine == cpos.line) = true := by rfl) (hs1 : starEach [b] X.env = (false, eval b X.env) :: starEach [] X.env := by rfl) (hplain : (backTo cpos (starEach [] X.env)).any (·.1) = false := by rfl) :
    JE X W (.Call (.Attribute a "index" apos) [b] [] cpos) (dIndex fa fb) := ⟨fun {G S H ρ m env σ Q} M E h => by
  refine we_of (pe_bm PySem.F.plainAttrs_list PySem.F.slot_list_index PySem.F.type_list_index mt_index pe_we (pa_cons pe_we pa_nil hs1) hbase hfew hline hs1 hplain) (ja.run M E (wpr_monoQ (wpr_bnd h) fun x m1 hx => ?_))
  intro S1 H1 ρ1 xv e1 M1 rx
  split at hx
  · rename_i ys hys
    obtain ⟨p, vs, rfl, g1, _⟩ := rdL_ok M1 rx hys
    refine ⟨.inl ⟨rfl, vs, .inl (.inl g1)⟩, jb.run M1 (E.mono e1) (wpr_mono (wpr_bnd hx) (fun y m2 hy => ?_) fun _ _ z => qx_ext e1 z)⟩
    intro S2 H2 ρ2 yv e2 M2 ry
    unfold indexV at hy
    split at hy
    · rename_i xs d hxs
      split at hy
      · rename_i ok
        rw [Bool.and_eq_true] at ok
        split at hy
        · rename_i j hj
          obtain ⟨p', ws, z1, z2, z3⟩ := rdL_ok M2 (rx.mono e2) hxs
          cases z1
          obtain ⟨⟨z, i1, i2⟩, i3⟩ := idxOf_ok hj
          obtain ⟨zv, j1, j2⟩ := z3.get i1
          have fz : flatD z = true := List.all_eq_true.mp ok.2 z (List.mem_of_getElem? i1)
          refine ⟨p, ws, yv, j, zv, rfl, rfl, .inl (.inl z2), rp_flat ry ok.1, rpAll_flat z3 ok.2, j1, by rw [rp_eqF j2 ry fz ok.1]; exact i2, fun k zv' hk hz => ?_, hy S2 H2 ρ2 _ (e1.trans e2) M2 (.int _)⟩
          obtain ⟨z', k1, k2⟩ := z3.get' hz
          have fz' : flatD z' = true := List.all_eq_true.mp ok.2 z' (List.mem_of_getElem? k1)
          rw [rp_eqF k2 ry fz' ok.1]
          exact i3 k z' hk k1
        · exact hy.elim
      · exact hy.elim
    · exact hy.elim
  · exact hx.elim⟩
end

/-! ### defs and their calls -/
/-- leaving a def: what was its own alone is frozen or forgotten -/
def exitV (k : Nat) (v : SV) (m : Mem) : R SV := match v with
  | .dat d => .ok (.dat d) (m.take k)
  | .ref i => if i < k then .ok (.ref i) (m.take k) else (match m[i]? with | some (.lst xs) => .ok (.dat (.lst xs)) (m.take k) | _ => .stuck)
/-- .. an own list handed out -/
def exitO (k : Nat) (v : SV) (m : Mem) : R SV := match v with
  | .dat _ => .stuck
  | .ref i => if i < k then .stuck else (match m[i]? with | some (.lst xs) => .ok (.ref k) (m.take k ++ [.lst xs]) | _ => .stuck)
def enter (n : Nat) (xs : List SV) : En := xs.map some ++ List.replicate (n - xs.length) none
def fnRun (n : Nat) (ex : Nat → SV → Mem → R SV) (fb : DS) : List SV → P SV := fun xs m => match fb (enter n xs) m with
  | .ok (.nx _) m' => .ok (.dat .non) (m'.take m.length)
  | .ok (.rt v) m' => ex m.length v m'
  | .ok _ _ => .stuck
  | .exc x m' => .exc x (m'.take m.length)
  | .stuck => .stuck
def spF (Γ : Gd) (n : Nat) (F : List SV → P SV) : Sp := fun vs H Q E => vs.length = n ∧ ∃ G S ρ m xs, MR Γ G S H ρ m ∧ Paired (RSV Γ S ρ) vs xs ∧
  wpr (F xs m) (fun v m' => ∀ S' H' ρ' vv, Ext S ρ S' ρ' → MR Γ G S' H' ρ' m' → RSV Γ S' ρ' vv v → Q vv H') (fun x m' => ∀ S' H' ρ' cls d, Ext S ρ S' ρ' → MR Γ G S' H' ρ' m' → XR Γ S' H' cls d x → E cls d H')
/-- how a value leaves -/
def ExitOk (ex : Nat → SV → Mem → R SV) : Prop := ∀ {Γ : Gd} {G S H : Hp} {ρ : List Addr} {m : Mem} {k : Nat} {v : SV} {vv : V} {Q : SV → Mem → Prop} {E : Exc → Mem → Prop}, MR Γ G S H ρ m → RSV Γ S ρ vv v → k ≤ m.length → wpr (ex k v m) Q E →
  ∃ S' ρ' w m', Q w m' ∧ Same S S' ∧ (∀ (i : Nat) (a : Addr), i < k → ρ[i]? = some a → ρ'[i]? = some a) ∧ MR Γ G S' H ρ' m' ∧ RSV Γ S' ρ' vv w
theorem take_get {ρ : List Addr} {k i : Nat} {a : Addr} (h : i < k) (q : ρ[i]? = some a) : (ρ.take k)[i]? = some a := by rw [List.getElem?_take_of_lt h]; exact q
theorem exitV_ok : ExitOk exitV := by
  intro Γ G S H ρ m k v vv Q E M r hk h
  unfold exitV at h
  split at h
  · exact ⟨S, ρ.take k, _, _, h, Same.refl _, fun i a hi q => take_get hi q, M.take k, r⟩
  · rename_i i
    split at h
    · rename_i hi
      obtain ⟨a, h1, h2⟩ := r
      exact ⟨S, ρ.take k, _, _, h, Same.refl _, fun i a hi q => take_get hi q, M.take k, a, take_get hi h1, h2⟩
    · rename_i hi
      split at h
      · rename_i xs hx
        obtain ⟨a, vs, h1, h2, h3, h4⟩ := M.freeze hx
        obtain ⟨a', z1, z2⟩ := r
        rw [h1] at z1
        cases z1
        have e : (m.set i Cell.dead).take k = m.take k := by
          rw [List.take_set_of_le (by omega)]
        have M2 := h3.take k
        rw [e] at M2
        exact ⟨_, ρ.take k, _, _, h, h2.s, fun i a hi q => take_get hi q, M2, by subst z2; exact h4⟩
      · exact h.elim
theorem exitO_ok : ExitOk exitO := by
  intro Γ G S H ρ m k v vv Q E M r hk h
  unfold exitO at h
  split at h
  · exact h.elim
  · rename_i i
    split at h
    · exact h.elim
    · rename_i hi
      split at h
      · rename_i xs hx
        obtain ⟨a, z1, rfl⟩ := r
        obtain ⟨a', vs, h1, h2, h3, h4, h5⟩ := M.cell i xs hx
        rw [z1] at h1
        cases h1
        have M2 := M.take k
        have hc : ∀ (j : Nat) (ys : List D), (m.take k)[j]? = some (.lst ys) → (ρ.take k)[j]? ≠ some a := fun j ys q z => by
          have hj : j < k := by
            have := (List.getElem?_eq_some_iff.mp q).1
            rw [List.length_take] at this
            omega
          rw [List.getElem?_take_of_lt hj] at q z
          have := M.inj j i ys xs a q hx z z1
          omega
        have hx2 : ∀ j, ¬ MixA S (ρ.take k) (m.take k) j a := fun j q => by
          have q' : MixA S ρ m j a := by
            have low : ∀ {c : Cell}, (m.take k)[j]? = some c → j < k := fun {c} q => by
              have := (List.getElem?_eq_some_iff.mp q).1
              rw [List.length_take] at this
              omega
            rcases q with ⟨d, xs, a', v, g1, g2, g3⟩ | ⟨kss, ds, g1, g2⟩
            · have hj := low g1
              rw [List.getElem?_take_of_lt hj] at g1 g2
              exact .inl ⟨d, xs, a', v, g1, g2, g3⟩
            · have hj := low g1
              rw [List.getElem?_take_of_lt hj] at g1 g2
              exact .inr ⟨kss, ds, g1, g2⟩
          exact M.mix.crs j i a xs q' hx z1
        obtain ⟨e1, M3⟩ := M2.take_own h2 h4 h5 ⟨hc, hx2⟩ h3
        refine ⟨S, _, _, _, h, Same.refl _, fun i a hi q => e1.r i a (take_get hi q), M3, a, ?_, rfl⟩
        have e : (ρ.take k).length = k := by rw [List.length_take, M.len]; omega
        rw [List.getElem?_append_right (by omega), e]
        simp
      · exact h.elim
theorem er_enter {Γ : Gd} {S : Hp} {ρ : List Addr} {N : List Str} {vs : List V} {xs : List SV} (r : Paired (RSV Γ S ρ) vs xs) : ER Γ S ρ (enter N.length xs) (L2.start N vs) := by
  have hl : vs.length = xs.length := Paired.length r
  have get : ∀ {vs : List V} {xs : List SV} (i : Nat) (v : SV), Paired (RSV Γ S ρ) vs xs → xs[i]? = some v → ∃ vv, vs[i]? = some vv ∧ RSV Γ S ρ vv v := by
    intro vs xs i v r
    induction r generalizing i with
    | nil => intro h; simp at h
    | cons h t ih =>
      intro q
      cases i with
      | zero => simp at q; subst q; exact ⟨_, rfl, h⟩
      | succ i =>
        obtain ⟨vv, a, b⟩ := ih i (by simpa using q)
        exact ⟨vv, by simpa using a, b⟩
  refine ⟨?_, fun i v q => ?_⟩
  · unfold enter L2.start
    rw [List.length_append, List.length_append, List.length_map, List.length_map, List.length_replicate, List.length_replicate, hl]
  · unfold enter at q
    unfold L2.start
    by_cases hi : i < xs.length
    · rw [List.getElem?_append_left (by simpa using hi), List.getElem?_map] at q
      cases e : xs[i]? with
      | none => rw [e] at q; cases q
      | some x =>
        rw [e] at q
        cases q
        obtain ⟨vv, h1, h2⟩ := get i v r e
        refine ⟨vv, ?_, h2⟩
        rw [List.getElem?_append_left (by rw [List.length_map, hl]; exact hi), List.getElem?_map, h1]
        rfl
    · rw [List.getElem?_append_right (by simpa using hi), List.getElem?_replicate] at q
      split at q <;> cases q
/-! ### rooms with no repr under way -/
structure RoomG (k : Nat) (A : Around) : Prop where
  rm : Room k A
  gd : reprs = true → A.guards = some []
theorem RoomG.mono {j k : Nat} {A : Around} (r : RoomG k A) (h : j ≤ k) : RoomG j A := ⟨r.rm.mono h, r.gd⟩
theorem RoomG.units {k : Nat} {A : Around} (r : RoomG k A) : A.units + 64 < cLine := r.rm.units
structure FnG (P : Program) (w : World) (K : PySem.W.Frag) (mg : Str → Option Value) (base : Heap) (k : Nat) (f : Addr) (fd : FuncData) (ps : List Str) (sp : Sp) : Prop where
  ln : ∀ vs H Q E, sp vs H Q E → vs.length = ps.length
  go : ∀ (A : Around) (outer : List Env) (s : Shared) (H : Hp) (args : Args) (us : List Value) (vs : List V) (Q : VK) (E : XK), RoomG k A → Env0 P w K mg base A outer s H → BindsTo s fd args (ps.zip us) → Vals vs us → sp vs H Q E →
    codeAny (model P w) A (.call (.ref f) args) (CR (L2.CX P w) outer P w H s Q E) s
theorem FnG.mono {P : Program} {w : World} {K : PySem.W.Frag} {mg : Str → Option Value} {base : Heap} {j k : Nat} {f : Addr} {fd : FuncData} {ps : List Str} {sp : Sp} (F : FnG P w K mg base j f fd ps sp) (h : j ≤ k) : FnG P w K mg base k f fd ps sp :=
  ⟨F.ln, fun A o s H args us vs Q E r => F.go A o s H args us vs Q E (r.mono h)⟩
theorem FnG.imp {P : Program} {w : World} {K : PySem.W.Frag} {mg : Str → Option Value} {base : Heap} {k : Nat} {f : Addr} {fd : FuncData} {ps : List Str} {sp sp' : Sp} (F : FnG P w K mg base k f fd ps sp) (h : ∀ vs H Q E, sp' vs H Q E → sp vs H Q E) : FnG P w K mg base k f fd ps sp' :=
  ⟨fun vs H Q E q => F.ln vs H Q E (h _ _ _ _ q), fun A o s H args us vs Q E r e b v q => F.go A o s H args us vs Q E r e b v (h _ _ _ _ q)⟩
/-- a def by its body -/
theorem fng_of {P : Program} {w : World} {K : PySem.W.Frag} {mg : Str → Option Value} {base : Heap} {k : Nat} {x qual : Str} {N ps : List Str} {params : Arguments} {body : List Stmt} {scope : Scope} {f : Addr} {fd : FuncData} {dvs : List V} {kws : List (Str × V)} {sp : Sp}
    (F : FunD K x qual params body scope dvs kws f fd) (S : FnScope N ps scope) (ln : ∀ vs H Q E, sp vs H Q E → vs.length = ps.length)
    (hbody : ∀ (cdv : Value) (A : Around) (outer : List Env) (s : Shared) (H : Hp) (vs : List V) (Q : VK) (E : XK), fd.code = cdv → RoomG k (A.deeper (envOfC qual scope s.heap.objs.size f cdv)) → sp vs H Q E →
      ∃ t, PSs (cxOf (L2.CX P w) P w K mg base N qual scope f cdv A outer s H E) body t ∧ t { nx := fun _ H' => Q .non H', rt := Q } (start N vs) H) : FnG P w K mg base (k + 1) f fd ps sp := by
  obtain ⟨oc, od, dV, kV, doc, pm, an, cdv, ct, osl, rfl, lk, hcd, _, _⟩ := F.ex
  refine ⟨ln, fun A outer s H args us vs Q E R e0 hb rv hsp => ?_⟩
  have stays : ∀ b o, base.get? b = some o → s.heap.get? b = some o := fun b o q => (e0.bs b o q).1
  have kin : K.In s.heap := e0.mod.kin.keeps stays
  have par : ∀ y ∈ ps.zip us, scope.names.lookup y.1 = some .local ∨ (scope.names.lookup y.1 = some .cell ∧
      ((cellsFrom (s.heap.objs.size + 1) scope.names []).lookup y.1).isSome = true) := by
    rintro ⟨n, v⟩ hy
    exact (S.par n (List.of_mem_zip hy).1).elim .inl fun q => .inr ⟨q, PySem.W.cellsFrom_some _ _ _ (.inl q)⟩
  refine codeAny_call_function R.rm.depth (kin _ _ lk) rfl S.co S.gen rfl (PySem.W.codeRec_of kin hcd) (hb _ _ _ _ ?_)
  refine wpAny_newFunctionEnv_cells S.kind par fun env he s1 x1 => ?_
  subst he
  refine ⟨(e0.mod.nolimit.keeps stays).keeps x1.toInCall.keep, codeAny_func ?_⟩
  obtain ⟨t, ht, hq⟩ := hbody cdv A outer s H vs Q E rfl ⟨R.rm.deeper _, R.gd⟩ hsp
  have I := inv_start (CX := L2.CX P w) (E := E) S R.rm.hd e0 (ln _ _ _ _ hsp) rv x1
  refine wpAny_mono (ht.run [] s1 (start N vs) H _ I hq) (fun fl s' hs => ?_) (fun _ _ z => z)
  cases fl with
  | ret u => obtain ⟨v, _, H', J, r1, q⟩ := hs; exact ⟨v, H', J.os, J.bare, J.base, J.hok, r1, q⟩
  | next => obtain ⟨_, H', J, q⟩ := hs; exact ⟨.non, H', J.os, J.bare, J.base, J.hok, rfl, q⟩
  | brk => obtain ⟨_, _, _, q⟩ := hs; exact q.elim
  | cont => obtain ⟨_, _, _, q⟩ := hs; exact q.elim
def AfterR (X : Cx) (pins : List (Addr × Obj)) (σ : St) (Q : VK) (rr : Result) (s' : Shared) : Prop := match rr with
  | .ok (.ret u) => EP X pins σ Q u s'
  | .ok _ => False
  | .error e => X.xe e s'
/-- a call's end, seen by the caller -/
theorem after_go {X : Cx} {W : WX} {pins : List (Addr × Obj)} {σ : St} {H : Hp} {s s' : Shared} {Q : VK} {rr : Result} (tk : Takes X W) (I : Inv X pins σ H s) (hq : CR (L2.CX X.prog X.w) X.stack X.prog X.w H s Q (fun cls d H => W cls d σ H) rr s') :
    AfterR X pins σ Q rr s' := by
  cases rr with
  | error e => exact passAt tk σ pins H s e s' I hq
  | ok fl =>
    cases fl with
    | ret u => exact I.after hq
    | next => exact hq
    | brk => exact hq
    | cont => exact hq
/-- the law's call -/
theorem law_callG {P : Program} {w : World} {K : PySem.W.Frag} {mg mb : Str → Option Value} {k : Nat} {fa a : Addr} {fd : FuncData} {x : Str} {sp : Sp} {s₁ : Shared} {vs : List Value} {ns : List Int}
    (KX : K.In s₁.heap) (hns : s₁.heap.Ns mainGlobals mg) (hb : s₁.heap.Ns builtinsNs mb) (hbb : ∀ x : Str, x ≠ "__name__" → mb x = bootBuiltins x) (hlim : s₁.heap.NoLimit) (hg : s₁.gens = #[])
    (ha : s₁.heap.get? a = some { cls := .type "list", data := .seq vs.toArray }) (hi : IntsAre vs ns) (hl : ns.length ≤ sizeLine) (hr : Room k callerA)
    (F : ∀ base : Heap, FnG P w K mg base k fa fd [x] sp) (hbind : ∀ (s : Shared) (u : Value), BindsTo s fd ⟨[u], []⟩ [(x, u)])
    (hsp : ∀ H : Hp, SqL K H a (ns.map V.int) → sp [.ref a] H (fun v _ => v = .bl true) fun _ _ _ => False)
    (hCX : ∀ H e s', L2.CX P w [] H s₁ (fun _ _ _ => False) e s' → False) :
    codeAny (model P w) callerA (.call (.ref fa) ⟨[.ref a], []⟩) (fun r s' => r = .ok (.ret (.bool true)) ∧ OldK s₁.heap s'.heap ∧ s'.os = s₁.os ∧ AllBare s'.gens) s₁ := by
  have go : ∀ H : Hp, L2.Only H → SqL K H a (ns.map V.int) → HOk P w H s₁.heap → (∀ b u, H b = some u → b = a ∧ K.lookup a = none) →
      codeAny (model P w) callerA (.call (.ref fa) ⟨[.ref a], []⟩) (fun r s' => r = .ok (.ret (.bool true)) ∧ OldK s₁.heap s'.heap ∧ s'.os = s₁.os ∧ AllBare s'.gens) s₁ := by
    intro H hO hS hok hA
    have none_at : ∀ {b : Addr}, b ≠ a → H b = none := fun {b} ne => by
      cases q : H b with
      | none => rfl
      | some u => exact absurd (hA b u q).1 ne
    have dict_ne : ∀ {b : Addr} {o : Obj} {es : Array DictEntry} {ep : Nat}, s₁.heap.get? b = some o → o.data = .dict es ep → b ≠ a := by
      rintro b o es ep e d rfl
      rw [ha] at e
      cases e
      exact nomatch d
    have nsK : ∀ {b : Addr} {m : Str → Option Value}, s₁.heap.Ns b m → (hidT s₁.heap H).Ns b m := by
      rintro b m ⟨o, es, ep, e, d, r⟩
      exact ⟨o, es, ep, hidT_get e (none_at (dict_ne e d)), d, r⟩
    have kb : K.In (hidT s₁.heap H) := fun b o e => by
      refine hidT_get (KX b o e) ?_
      cases q : H b with
      | none => rfl
      | some u =>
        obtain ⟨z1, z2⟩ := hA b u q
        subst z1
        rw [z2] at e
        cases e
    obtain ⟨mc, l1, l2⟩ := hlim
    have md : Mod K mg (hidT s₁.heap H) := ⟨kb, nsK hns, ⟨mb, nsK hb, hbb⟩, mc, nsK l1, l2⟩
    have e0 : Env0 P w K mg (hidT s₁.heap H) callerA [] s₁ H := ⟨rfl, md, fun b o e => of_hidT e, Nat.le_of_eq (hidT_size _ _), trivial, (by intro b z; cases z), hok, .of_eq hg⟩
    refine codeAny_mono ((F _).go callerA [] s₁ H _ [.ref a] [.ref a] _ _ ⟨hr, fun _ => rfl⟩ e0 (hbind s₁ (.ref a)) (.cons rfl .nil) (hsp H hS)) fun r s' h => ?_
    cases r with
    | error e => exact (hCX H e s' h).elim
    | ok fl =>
      cases fl with
      | next => exact h.elim
      | brk => exact h.elim
      | cont => exact h.elim
      | ret u =>
        obtain ⟨v, H', os, bare, un, hok', r', q⟩ := h
        obtain rfl : v = .bl true := q
        obtain rfl : u = Value.bool true := r'
        refine ⟨rfl, OldK.of_keep fun b o e => ?_, os, bare⟩
        rcases hO b with z | ⟨ob, xs, z⟩
        · exact un.keep b o e z (by intro z; cases z) (by simp)
        · obtain ⟨e1, _⟩ := hok b _ z
          obtain ⟨e2, _⟩ := hok' b _ (un.frzs b ob _ z)
          rw [e] at e1
          cases e1
          exact e2
  have rv := vals_ints hi
  cases hk : K.lookup a with
  | some o =>
    have e := KX a o hk
    rw [ha] at e
    cases e
    exact go (fun _ => none) (fun _ => .inl rfl) (.inr ⟨_, vs.toArray, _, hk, rfl, rfl, rfl, by rw [List.size_toArray, hi.length]; exact hl, by simpa using rv⟩) (fun b u z => nomatch z) (fun b u z => nomatch z)
  | none =>
    have at_ : ∀ {b : Addr} {u : HO}, (if b = a then some (HO.frz { cls := .type "list", data := .seq vs.toArray } (.lst (ns.map V.int))) else none) = some u → b = a ∧ u = HO.frz { cls := .type "list", data := .seq vs.toArray } (.lst (ns.map V.int)) := fun {b u} z => by
      by_cases h : b = a
      · rw [if_pos h] at z
        exact ⟨h, (Option.some.inj z).symm⟩
      · rw [if_neg h] at z
        cases z
    refine go (fun b => if b = a then some (.frz { cls := .type "list", data := .seq vs.toArray } (.lst (ns.map V.int))) else none) (fun b => ?_) (.inl (.inr ⟨_, if_pos rfl⟩)) (fun b u z => ?_) fun b u z => ⟨(at_ z).1, hk⟩
    · by_cases h : b = a
      · exact .inr ⟨_, _, if_pos h⟩
      · exact .inl (if_neg h)
    · obtain ⟨z1, z2⟩ := at_ z
      subst z1 z2
      exact ⟨ha, by rw [List.length_map]; exact hl, vs, _, rv, ha⟩
/-- a def that stands in the module, by its name -/
structure Cal (P : Program) (w : World) (K : PySem.W.Frag) (mg : Str → Option Value) (base : Heap) (k : Nat) (x : Str) (ps : List Str) (F : List SV → PL.P SV) : Prop where
  ex : ∃ f fd, mg x = some (.ref f) ∧ PySem.W.keepIn K (.ref f) = true ∧ Binds K fd ps [] ∧ FnG P w K mg base k f fd ps (spF ⟨K, mg⟩ ps.length F)
def chk (n : Nat) (F : List SV → P SV) : List SV → P SV := fun xs => if xs.length = n then F xs else P.stk
section
variable {X : Cx} {W : WX} {e : Expr} {es : List Expr} {pos p : Pos} {fs : En → P (List SV)}
theorem je_call {k n : Nat} {x : Str} {ps : List Str} {F : List SV → PL.P SV} (C : Cal X.prog X.w X.K X.mg X.base k x ps F) (hr : RoomG k X.A) (tk : Takes X W) (hg : Gl X x) (js : JA X W (e :: es) fs)
    (hdb : (x == ("__debug__" : Str)) = false := by decide) (he : starEach (e :: es) X.env = (false, eval e X.env) :: starEach es X.env := by rfl) (hpl : (backTo pos (starEach es X.env)).any (·.1) = false := by rfl) (hn : ps.length = n := by rfl) :
    JE X W (.Call (.Name x p) (e :: es) [] pos) (dA (chk n F) fs) := by
  subst hn
  obtain ⟨f, fd, hm, hk, hb, hF⟩ := C.ex
  refine ⟨fun {G S H ρ m env σ Q} M E h pins s I => ?_⟩
  refine wpAny_Call_Name_kw (ld_glob I hg hm ?_ hdb)
  refine PySem.W.callWith_K (h₀ := X.base) I.ok.mod.kin hk (thn (js.run (Q := fun vs H1 => spF ⟨X.K, X.mg⟩ ps.length F vs H1 Q fun cls d H => W cls d σ H) M E (wpr_monoQ (wpr_bnd h) fun xs m1 hx => ?_) pos pins s I) fun us s1 ⟨vs, H1, I1, r, q⟩ => ⟨I1.kIn, ?_⟩) he hpl
  · intro S1 H1 ρ1 xv e1 M1 rx
    unfold chk at hx
    split at hx
    · rename_i hl
      exact ⟨by rw [Paired.length rx]; exact hl, G, S1, ρ1, m1, xs, M1, rx, wpr_mono hx (fun v m2 hv => qv_ext e1 hv) fun x m2 hv => qx_ext e1 hv⟩
    · exact hx.elim
  · have hl : us.length = ps.length := by rw [← r.length]; exact hF.ln _ _ _ _ q
    have b := hb s1 us I1.kIn (by rw [List.append_nil]; exact hl)
    rw [List.append_nil] at b
    exact wpAny_call (codeAny_mono (hF.go X.A X.stack s1 H1 _ us vs Q _ hr I1.env0 b r q) fun rr s' hq => after_go tk I1 hq)
end
/-- THE RULE for a def -/
theorem fok_of {P : Program} {w : World} {K : PySem.W.Frag} {mg : Str → Option Value} {base : Heap} {k : Nat} {x : Str} {N ps : List Str} {st : Stmt} {f : Addr} {fd : FuncData} {ex : Nat → SV → Mem → R SV} {fb : DS} {dvs : List V} {kws : List (Str × V)}
    (F : FunD K x x (defArgs st) (defBody st) (defScope st) dvs kws f fd) (S : FnScope N ps (defScope st)) (hex : ExitOk ex)
    (j : ∀ (cdv : Value) (A : Around) (outer : List Env) (s : Shared) (H : Hp) (E : XK), fd.code = cdv → RoomG k (A.deeper (envOfC x (defScope st) s.heap.objs.size f cdv)) →
      JB (cxOf (L2.CX P w) P w K mg base N x (defScope st) f cdv A outer s H E) (fun cls d _ H => E cls d H) (defBody st) fb) :
    FnG P w K mg base (k + 1) f fd ps (spF ⟨K, mg⟩ ps.length (fnRun N.length ex fb)) := by
  refine fng_of F S (fun vs H Q E h => h.1) fun cdv A outer s H vs Q E hcd hr h => ?_
  obtain ⟨hl, G, S0, ρ, m, xs, M, r, h⟩ := h
  refine ⟨_, pss_wss, (j cdv A outer s H E hcd hr).run (env := enter N.length xs) (σ := L2.start N vs) M (er_enter r) ?_⟩
  have kept : ∀ {S' : Hp} {ρ' : List Addr}, Ext S0 ρ S' ρ' → Ext S0 ρ S' (ρ'.take m.length) := fun {S' ρ'} e => ⟨e.s, fun i a q => take_get (by rw [← M.len]; exact (List.getElem?_eq_some_iff.mp q).1) (e.r i a q)⟩
  have more : ∀ {S' : Hp} {ρ' : List Addr} {H' : Hp} {m' : Mem}, Ext S0 ρ S' ρ' → MR ⟨K, mg⟩ G S' H' ρ' m' → m.length ≤ m'.length := fun {S' ρ' H' m'} e M' => by
    rw [← M.len, ← M'.len]
    by_cases h0 : ρ.length ≤ ρ'.length
    · exact h0
    · have hlt : ρ'.length < ρ.length := by omega
      have q := e.r ρ'.length ρ[ρ'.length] (List.getElem?_eq_getElem hlt)
      rw [List.getElem?_eq_none (Nat.le_refl _)] at q
      cases q
  unfold fnRun at h
  cases e : fb (enter N.length xs) m with
  | stuck => rw [e] at h; exact h.elim
  | exc y m' =>
    rw [e] at h
    exact fun S' H' ρ' σ' cls d e' M' x' => h S' H' (ρ'.take m.length) cls d (kept e') (M'.take _) x'
  | ok o m' =>
    rw [e] at h
    cases o with
    | nx env' => exact fun S' H' ρ' σ' e' M' E' => h S' H' (ρ'.take m.length) .non (kept e') (M'.take _) .non
    | rt v =>
      intro S' H' ρ' vv e' M' rv
      obtain ⟨S2, ρ2, w2, m2, q, s2, r2, M2, rv2⟩ := hex M' rv (more e' M') h
      exact q S2 H' ρ2 vv ⟨e'.s.trans s2, fun i a z => r2 i a (by rw [← M.len]; exact (List.getElem?_eq_some_iff.mp z).1) (e'.r i a z)⟩ M2 rv2
    | bk _ => exact h.elim
    | ct _ => exact h.elim
theorem cal_of {P : Program} {w : World} {K : PySem.W.Frag} {mg : Str → Option Value} {base : Heap} {k : Nat} {x : Str} {ps : List Str} {f : Addr} {fd : FuncData} {params : Arguments} {body : List Stmt} {scope : Scope} {dvs : List V} {kws : List (Str × V)} {F0 : List SV → PL.P SV}
    (F : FunD K x x params body scope dvs kws f fd) (hm : mg x = some (.ref f)) (hb : Binds K fd ps []) (h : FnG P w K mg base k f fd ps (spF ⟨K, mg⟩ ps.length F0)) : Cal P w K mg base k x ps F0 := ⟨f, fd, hm, F.kp, hb, h⟩
/-- a plainer function in its place -/
theorem Cal.by {P : Program} {w : World} {K : PySem.W.Frag} {mg : Str → Option Value} {base : Heap} {k : Nat} {x : Str} {ps : List Str} {F F' : List SV → PL.P SV} (C : Cal P w K mg base k x ps F) (h : ∀ xs m, F' xs m ≠ .stuck → F xs m = F' xs m) : Cal P w K mg base k x ps F' := by
  obtain ⟨f, fd, hm, hk, hb, hF⟩ := C.ex
  refine ⟨f, fd, hm, hk, hb, hF.imp fun vs H Q E q => ?_⟩
  obtain ⟨hl, G, S, ρ, m, xs, M, r, q⟩ := q
  refine ⟨hl, G, S, ρ, m, xs, M, r, ?_⟩
  rw [h xs m fun z => by rw [z] at q; exact q]
  exact q
/-- a heap without its tables -/
def noTab (H : Hp) : Hp := fun a => match H a with
  | some (.tbl _) => none
  | o => o
theorem noTab_of {H : Hp} {a : Addr} {o : HO} (h : H a = some o) (n : ∀ ps, o ≠ .tbl ps) : noTab H a = some o := by
  unfold noTab
  rw [h]
  split
  · rename_i z
    exact absurd (Option.some.inj z) (n _)
  · rfl
theorem noTab_sub (H : Hp) : Same (noTab H) H := fun b x q => by
  unfold noTab at q
  split at q
  · cases q
  · exact q
theorem noTab_nt (H : Hp) : ∀ a ps, noTab H a ≠ some (.tbl ps) := fun a ps z => by
  unfold noTab at z
  split at z
  · cases z
  · rename_i h
    exact h ps z
theorem noTab_seq {K : PySem.W.Frag} {H : Hp} {a : Addr} {xs : List V} (h : SqL K H a xs) : SqL K (noTab H) a xs := by
  rcases h with (h | ⟨o, h⟩) | h
  · exact .inl (.inl (noTab_of h fun _ z => by cases z))
  · exact .inl (.inr ⟨o, noTab_of h fun _ z => by cases z⟩)
  · exact .inr h
/-- the law itself -/
theorem walk_law {l : PySem.W.OpenLaw} {n k : Nat} {q : Program} {loose : List Str} {XP : (Str → Option Value) → Heap → Prop} {YP : World → Heap → Prop} {d : DefRec} {x : Str} {F : List SV → PL.P SV}
    (hlam : lamDefs = []) (hn : l.most = some n) (hn2 : n ≤ sizeLine) (hdf : d.params.defaults = []) (hr : Room k callerA)
    (hF : ∀ (w : World) (mg : Str → Option Value) (h : Heap), YP w h → h.Ns mainGlobals mg → ∃ (K : PySem.W.Frag) (f : Addr) (fd : FuncData), K.In h ∧ mg d.name = some (.ref f) ∧ (∀ (s : Shared) (u : Value), BindsTo s fd ⟨[u], []⟩ [(x, u)]) ∧
      ∀ base : Heap, FnG l.prog w K mg base k f fd [x] (spF ⟨K, mg⟩ 1 F))
    (hl : ∀ ns : List Int, ns.length ≤ n → ∃ m', F [.dat (.scr ns)] [] = .ok (.dat (.bl true)) m') :
    PySem.W.WalkO q loose XP YP l.row.toRowW d [] (fun f vs => PySem.call f vs) := by
  refine Att.attach_call hn hdf fun w s₀ s₁ mg mb fa o pm cd doc a vs ns G Y ho hd hcd hmg hobj hints hlen hg => ?_
  obtain ⟨K, f, fd, KX, hm, hb, hok⟩ := hF w mg _ Y G.T.g
  rw [hmg] at hm
  cases hm
  refine law_callG (sp := spF ⟨K, mg⟩ 1 F) KX G.T.g G.T.b G.T.builtins G.T.nolimit hg hobj hints (Nat.le_trans hlen hn2) hr hok hb (fun H hS => ?_) fun H e s' hx => ?_
  · obtain ⟨m', e⟩ := hl ns hlen
    refine ⟨rfl, fun _ => none, noTab H, [], [], [.dat (.scr ns)], ⟨noTab_sub H, (fun b o e => by cases e), (fun b o e => by cases e), rfl, (fun i xs e => by simp at e), (fun i j xs ys a e => by simp at e), ⟨noTab_nt H, (fun b o e => by cases e), ?_⟩, ⟨(fun i kvs e => by simp at e), (fun i j xs ys a e => by simp at e)⟩, MixR.none⟩, .cons (.scr (noTab_seq hS)) .nil, ?_⟩
    · intro p hp
      simp [tabsK, hlam] at hp
    rw [e]
    intro S' H' ρ' vv _ _ r
    cases r
    rfl
  · obtain ⟨_, _, _, _, _, _, _, _, _, _, _, _, z⟩ := hx
    exact z
theorem Cal.mono {P : Program} {w : World} {K : PySem.W.Frag} {mg : Str → Option Value} {base : Heap} {j k : Nat} {x : Str} {ps : List Str} {F : List SV → PL.P SV} (C : Cal P w K mg base j x ps F) (h : j ≤ k) : Cal P w K mg base k x ps F := by
  obtain ⟨f, fd, hm, hk, hb, hF⟩ := C.ex
  exact ⟨f, fd, hm, hk, hb, hF.mono h⟩
end PL

/-! PL6: evaluating denotations: simp lemmas. -/
namespace PL
open PySem PySem.Spec PyProof.Rows L2
section
variable {α β : Type}
@[simp] theorem ret_ap (a : α) (m : Mem) : P.ret a m = .ok a m := (rfl)
@[simp] theorem stk_ap (m : Mem) : (P.stk m : R α) = .stuck := (rfl)
@[simp] theorem bnd_ap (x : P α) (f : α → P β) (m : Mem) : P.bnd x f m = R.bnd (x m) f := (rfl)
@[simp] theorem bnd_ok (a : α) (m : Mem) (f : α → Mem → R β) : R.bnd (.ok a m) f = f a m := (rfl)
@[simp] theorem bnd_exc (x : Exc) (m : Mem) (f : α → Mem → R β) : R.bnd (.exc x m) f = .exc x m := (rfl)
@[simp] theorem bnd_stuck (f : α → Mem → R β) : R.bnd (.stuck : R α) f = .stuck := (rfl)
end
/-! continuations by names, so that simp does not go into them -/
def look (o : Option (Option SV)) (m : Mem) : R SV := match o with
  | some (some v) => .ok v m
  | _ => .stuck
@[simp] theorem look_some (v : SV) (m : Mem) : look (some (some v)) m = .ok v m := (rfl)
@[simp] theorem look_none (m : Mem) : look (some none) m = .stuck := (rfl)
@[simp] theorem dVar_ap (i : Nat) (env : En) (m : Mem) : dVar i env m = look env[i]? m := by
  unfold dVar look
  split <;> simp_all
@[simp] theorem dC_ap (d : D) (env : En) (m : Mem) : dC d env m = .ok (.dat d) m := (rfl)
def k2 (g : SV → SV → P SV) (fb : En → P SV) (env : En) (x : SV) (m : Mem) : R SV := (fb env m).bnd (g x)
@[simp] theorem k2_ap (g : SV → SV → P SV) (fb : En → P SV) (env : En) (x : SV) (m : Mem) : k2 g fb env x m = (fb env m).bnd (g x) := (rfl)
@[simp] theorem d2_ap (g : SV → SV → P SV) (fa fb : En → P SV) (env : En) (m : Mem) : d2 g fa fb env m = (fa env m).bnd (k2 g fb env) := (rfl)
@[simp] theorem d1_ap (g : SV → P SV) (fa : En → P SV) (env : En) (m : Mem) : d1 g fa env m = (fa env m).bnd g := (rfl)
@[simp] theorem dA_ap (g : List SV → P SV) (fs : En → P (List SV)) (env : En) (m : Mem) : dA g fs env m = (fs env m).bnd g := (rfl)
@[simp] theorem dNil_ap (env : En) (m : Mem) : dNil env m = .ok [] m := (rfl)
def kCons2 (x : SV) (xs : List SV) (m : Mem) : R (List SV) := .ok (x :: xs) m
@[simp] theorem kCons2_ap (x : SV) (xs : List SV) (m : Mem) : kCons2 x xs m = .ok (x :: xs) m := (rfl)
def kCons (g : En → P (List SV)) (env : En) (x : SV) (m : Mem) : R (List SV) := (g env m).bnd (kCons2 x)
@[simp] theorem kCons_ap (g : En → P (List SV)) (env : En) (x : SV) (m : Mem) : kCons g env x m = (g env m).bnd (kCons2 x) := (rfl)
@[simp] theorem dCons_ap (f : En → P SV) (g : En → P (List SV)) (env : En) (m : Mem) : dCons f g env m = (f env m).bnd (kCons g env) := (rfl)
@[simp] theorem chk_ap (n : Nat) (F : List SV → P SV) (xs : List SV) (m : Mem) : chk n F xs m = if xs.length = n then F xs m else .stuck := by
  unfold chk
  split <;> rfl
@[simp] theorem dB_ap (f : En → P SV) (env : En) (m : Mem) : dB f env m = (f env m).bnd asB := (rfl)
@[simp] theorem asB_bl (b : Bool) (m : Mem) : asB (.dat (.bl b)) m = .ok b m := (rfl)
def onB (v : SV) (a b : R SV) : R SV := match v with
  | .dat (.bl true) => a
  | .dat (.bl false) => b
  | _ => .stuck
@[simp] theorem onB_bl (k : Bool) (a b : R SV) : onB (.dat (.bl k)) a b = if k = true then a else b := by cases k <;> rfl
def kCh2 (g' : SV → SV → P SV) (fc : En → P SV) (env : En) (y z : SV) (m : Mem) : R SV := onB z ((fc env m).bnd (g' y)) (.ok (.dat (.bl false)) m)
@[simp] theorem kCh2_ap (g' : SV → SV → P SV) (fc : En → P SV) (env : En) (y z : SV) (m : Mem) : kCh2 g' fc env y z m = onB z ((fc env m).bnd (g' y)) (.ok (.dat (.bl false)) m) := (rfl)
def kCh1 (g g' : SV → SV → P SV) (fc : En → P SV) (env : En) (x y : SV) (m : Mem) : R SV := (g x y m).bnd (kCh2 g' fc env y)
@[simp] theorem kCh1_ap (g g' : SV → SV → P SV) (fc : En → P SV) (env : En) (x y : SV) (m : Mem) : kCh1 g g' fc env x y m = (g x y m).bnd (kCh2 g' fc env y) := (rfl)
def kCh0 (g g' : SV → SV → P SV) (fb fc : En → P SV) (env : En) (x : SV) (m : Mem) : R SV := (fb env m).bnd (kCh1 g g' fc env x)
@[simp] theorem kCh0_ap (g g' : SV → SV → P SV) (fb fc : En → P SV) (env : En) (x : SV) (m : Mem) : kCh0 g g' fb fc env x m = (fb env m).bnd (kCh1 g g' fc env x) := (rfl)
theorem onB_ap (z : SV) (a b : P SV) (m : Mem) : (match z with
  | .dat (.bl true) => a
  | .dat (.bl false) => b
  | _ => P.stk) m = onB z (a m) (b m) := by
  unfold onB
  split <;> simp_all
@[simp] theorem dCh_ap (g g' : SV → SV → P SV) (fa fb fc : En → P SV) (env : En) (m : Mem) : dCh g g' fa fb fc env m = (fa env m).bnd (kCh0 g g' fb fc env) := by
  unfold dCh P.bnd
  congr 1
  funext x m1
  show R.bnd _ _ = R.bnd _ _
  congr 1
  funext y m2
  show R.bnd _ _ = R.bnd _ _
  congr 1
  funext z m3
  exact onB_ap z _ _ m3
def kAnd (fb : En → P SV) (env : En) (x : SV) (m : Mem) : R SV := onB x (fb env m) (.ok (.dat (.bl false)) m)
def kOr (fb : En → P SV) (env : En) (x : SV) (m : Mem) : R SV := onB x (.ok (.dat (.bl true)) m) (fb env m)
@[simp] theorem kAnd_ap (fb : En → P SV) (env : En) (x : SV) (m : Mem) : kAnd fb env x m = onB x (fb env m) (.ok (.dat (.bl false)) m) := (rfl)
@[simp] theorem kOr_ap (fb : En → P SV) (env : En) (x : SV) (m : Mem) : kOr fb env x m = onB x (.ok (.dat (.bl true)) m) (fb env m) := (rfl)
@[simp] theorem dAndV_ap (fa fb : En → P SV) (env : En) (m : Mem) : dAndV fa fb env m = (fa env m).bnd (kAnd fb env) := by
  unfold dAndV P.bnd
  congr 1
  funext x m1
  exact onB_ap x _ _ m1
@[simp] theorem dOrV_ap (fa fb : En → P SV) (env : En) (m : Mem) : dOrV fa fb env m = (fa env m).bnd (kOr fb env) := by
  unfold dOrV P.bnd
  congr 1
  funext x m1
  exact onB_ap x _ _ m1
def kNot (x : SV) (m : Mem) : R SV := match x with
  | .dat (.bl k) => .ok (.dat (.bl (!k))) m
  | _ => .stuck
@[simp] theorem kNot_bl (k : Bool) (m : Mem) : kNot (.dat (.bl k)) m = .ok (.dat (.bl (!k))) m := (rfl)
@[simp] theorem dNotV_ap (fa : En → P SV) (env : En) (m : Mem) : dNotV fa env m = (fa env m).bnd kNot := by
  unfold dNotV P.bnd
  congr 1
  funext x m1
  unfold kNot
  split <;> simp_all
def kAndT (tb : En → P Bool) (env : En) (k : Bool) (m : Mem) : R Bool := if k = true then tb env m else .ok false m
def kOrT (tb : En → P Bool) (env : En) (k : Bool) (m : Mem) : R Bool := if k = true then .ok true m else tb env m
@[simp] theorem kAndT_ap (tb : En → P Bool) (env : En) (k : Bool) (m : Mem) : kAndT tb env k m = if k = true then tb env m else .ok false m := (rfl)
@[simp] theorem kOrT_ap (tb : En → P Bool) (env : En) (k : Bool) (m : Mem) : kOrT tb env k m = if k = true then .ok true m else tb env m := (rfl)
@[simp] theorem dAndT_ap (ta tb : En → P Bool) (env : En) (m : Mem) : dAndT ta tb env m = (ta env m).bnd (kAndT tb env) := by
  unfold dAndT P.bnd
  congr 1
  funext k m1
  cases k <;> rfl
@[simp] theorem dOrT_ap (ta tb : En → P Bool) (env : En) (m : Mem) : dOrT ta tb env m = (ta env m).bnd (kOrT tb env) := by
  unfold dOrT P.bnd
  congr 1
  funext k m1
  cases k <;> rfl
def kNotT (k : Bool) (m : Mem) : R Bool := .ok (!k) m
@[simp] theorem kNotT_ap (k : Bool) (m : Mem) : kNotT k m = .ok (!k) m := (rfl)
@[simp] theorem dNotT_ap (ta : En → P Bool) (env : En) (m : Mem) : dNotT ta env m = (ta env m).bnd kNotT := (rfl)
def kIf (fa fb : En → P SV) (env : En) (k : Bool) (m : Mem) : R SV := if k = true then fa env m else fb env m
@[simp] theorem kIf_ap (fa fb : En → P SV) (env : En) (k : Bool) (m : Mem) : kIf fa fb env k m = if k = true then fa env m else fb env m := (rfl)
@[simp] theorem dIf_ap (t : En → P Bool) (fa fb : En → P SV) (env : En) (m : Mem) : dIf t fa fb env m = (t env m).bnd (kIf fa fb env) := by
  unfold dIf P.bnd
  congr 1
  funext k m1
  cases k <;> rfl
@[simp] theorem dTr_ap (f : En → P SV) (env : En) (m : Mem) : dTr f env m = (f env m).bnd truV := (rfl)
@[simp] theorem truV_bl (b : Bool) (m : Mem) : truV (.dat (.bl b)) m = .ok b m := (rfl)
/-! ### statements -/
@[simp] theorem dNx_ap (env : En) (m : Mem) : dNx env m = .ok (.nx env) m := (rfl)
@[simp] theorem dBk_ap (env : En) (m : Mem) : dBk env m = .ok (.bk env) m := (rfl)
@[simp] theorem dCt_ap (env : En) (m : Mem) : dCt env m = .ok (.ct env) m := (rfl)
@[simp] theorem dNever_ap (env : En) (m : Mem) : dNever env m = .stuck := (rfl)
def kSeq (g : DS) (o : Out) (m : Mem) : R Out := match o with
  | .nx env' => g env' m
  | o => .ok o m
@[simp] theorem kSeq_nx (g : DS) (env : En) (m : Mem) : kSeq g (.nx env) m = g env m := (rfl)
@[simp] theorem kSeq_rt (g : DS) (v : SV) (m : Mem) : kSeq g (.rt v) m = .ok (.rt v) m := (rfl)
@[simp] theorem kSeq_bk (g : DS) (env : En) (m : Mem) : kSeq g (.bk env) m = .ok (.bk env) m := (rfl)
@[simp] theorem kSeq_ct (g : DS) (env : En) (m : Mem) : kSeq g (.ct env) m = .ok (.ct env) m := (rfl)
@[simp] theorem dSeq_ap (f g : DS) (env : En) (m : Mem) : dSeq f g env m = (f env m).bnd (kSeq g) := by
  unfold dSeq P.bnd
  congr 1
  funext o m1
  cases o <;> rfl
def kRt (v : SV) (m : Mem) : R Out := .ok (.rt v) m
@[simp] theorem kRt_ap (v : SV) (m : Mem) : kRt v m = .ok (.rt v) m := (rfl)
@[simp] theorem dRet_ap (fa : En → P SV) (env : En) (m : Mem) : dRet fa env m = (fa env m).bnd kRt := (rfl)
def kIfS (f g : DS) (env : En) (k : Bool) (m : Mem) : R Out := if k = true then f env m else g env m
@[simp] theorem kIfS_ap (f g : DS) (env : En) (k : Bool) (m : Mem) : kIfS f g env k m = if k = true then f env m else g env m := (rfl)
@[simp] theorem dIfS_ap (t : En → P Bool) (f g : DS) (env : En) (m : Mem) : dIfS t f g env m = (t env m).bnd (kIfS f g env) := by
  unfold dIfS P.bnd
  congr 1
  funext k m1
  cases k <;> rfl
def kSet (i : Nat) (env : En) (v : SV) (m : Mem) : R Out := .ok (.nx (env.set i (some v))) m
@[simp] theorem kSet_ap (i : Nat) (env : En) (v : SV) (m : Mem) : kSet i env v m = .ok (.nx (env.set i (some v))) m := (rfl)
@[simp] theorem dSet_ap (i : Nat) (fa : En → P SV) (env : En) (m : Mem) : dSet i fa env m = (fa env m).bnd (kSet i env) := (rfl)
def kDrop (env : En) (v : SV) (m : Mem) : R Out := .ok (.nx env) m
@[simp] theorem kDrop_ap (env : En) (v : SV) (m : Mem) : kDrop env v m = .ok (.nx env) m := (rfl)
@[simp] theorem dDrop_ap (fa : En → P SV) (env : En) (m : Mem) : dDrop fa env m = (fa env m).bnd (kDrop env) := (rfl)
def kPar (i j : Nat) (env : En) (vs : List SV) (m : Mem) : R Out := match vs with
  | [v, w] => .ok (.nx ((env.set i (some v)).set j (some w))) m
  | _ => .stuck
@[simp] theorem kPar_ap (i j : Nat) (env : En) (v w : SV) (m : Mem) : kPar i j env [v, w] m = .ok (.nx ((env.set i (some v)).set j (some w))) m := (rfl)
@[simp] theorem dPar_ap (i j : Nat) (fs : En → P (List SV)) (env : En) (m : Mem) : dPar i j fs env m = (fs env m).bnd (kPar i j env) := (rfl)
def kFor (g : D → En → Option En) (body : DS) (env : En) (items : List D) (m : Mem) : R Out := loopF g body items env m
@[simp] theorem kFor_ap (g : D → En → Option En) (body : DS) (env : En) (items : List D) (m : Mem) : kFor g body env items m = loopF g body items env m := (rfl)
@[simp] theorem dFor_ap (fi : En → P (List D)) (g : D → En → Option En) (body : DS) (env : En) (m : Mem) : dFor fi g body env m = (fi env m).bnd (kFor g body env) := (rfl)
@[simp] theorem dWhile_ap (n : Nat) (t : En → P Bool) (body : DS) (env : En) (m : Mem) : dWhile n t body env m = loopW t body n env m := (rfl)
@[simp] theorem dIt_ap (f : En → P SV) (env : En) (m : Mem) : dIt f env m = (f env m).bnd itemsV := (rfl)
@[simp] theorem dAI_ap (g : List SV → P (List D)) (fs : En → P (List SV)) (env : En) (m : Mem) : dAI g fs env m = (fs env m).bnd g := (rfl)
def ofEn (o : Option En) (m : Mem) : R Out := match o with
  | some env => .ok (.nx env) m
  | none => .stuck
@[simp] theorem ofEn_some (env : En) (m : Mem) : ofEn (some env) m = .ok (.nx env) m := (rfl)
def kAsg (g : D → En → Option En) (env : En) (v : SV) (m : Mem) : R Out := match v with
  | .dat d => ofEn (g d env) m
  | .ref _ => .stuck
@[simp] theorem kAsg_dat (g : D → En → Option En) (env : En) (d : D) (m : Mem) : kAsg g env (.dat d) m = ofEn (g d env) m := (rfl)
@[simp] theorem dAsg_ap (fa : En → P SV) (g : D → En → Option En) (env : En) (m : Mem) : dAsg fa g env m = (fa env m).bnd (kAsg g env) := by
  unfold dAsg P.bnd
  congr 1
def nox {α : Type} (r : R α) : R α := match r with
  | .ok a m => .ok a m
  | _ => .stuck
@[simp] theorem nox_ok {α : Type} (a : α) (m : Mem) : nox (.ok a m) = .ok a m := (rfl)
theorem noX_ap {α : Type} (x : P α) (m : Mem) : noX x m = nox (x m) := (rfl)
def kLc2 (acc : List D) (m : Mem) : R SV := .ok (.dat (.lst acc)) m
@[simp] theorem kLc2_ap (acc : List D) (m : Mem) : kLc2 acc m = .ok (.dat (.lst acc)) m := (rfl)
def kLc (g : D → En → Option En) (t : En → P Bool) (f : En → P SV) (env : En) (items : List D) (m : Mem) : R SV := (noX (loopC g t f env items []) m).bnd kLc2
@[simp] theorem kLc_ap (g : D → En → Option En) (t : En → P Bool) (f : En → P SV) (env : En) (items : List D) (m : Mem) : kLc g t f env items m = (noX (loopC g t f env items []) m).bnd kLc2 := (rfl)
@[simp] theorem dLc_ap (vs : List Nat) (fi : En → P (List D)) (g : D → En → Option En) (t : En → P Bool) (f : En → P SV) (env : En) (m : Mem) : dLc vs fi g t f env m = (fi env m).bnd (kLc g t f (wipeE env vs)) := (rfl)
def kLcO2 (acc : List D) (m : Mem) : R SV := .ok (.ref m.length) (m ++ [.lst acc])
@[simp] theorem kLcO2_ap (acc : List D) (m : Mem) : kLcO2 acc m = .ok (.ref m.length) (m ++ [.lst acc]) := (rfl)
def kLcO (g : D → En → Option En) (t : En → P Bool) (f : En → P SV) (env : En) (items : List D) (m : Mem) : R SV := (noX (loopC g t f env items []) m).bnd kLcO2
@[simp] theorem kLcO_ap (g : D → En → Option En) (t : En → P Bool) (f : En → P SV) (env : En) (items : List D) (m : Mem) : kLcO g t f env items m = (noX (loopC g t f env items []) m).bnd kLcO2 := (rfl)
@[simp] theorem dLcO_ap (vs : List Nat) (fi : En → P (List D)) (g : D → En → Option En) (t : En → P Bool) (f : En → P SV) (env : En) (m : Mem) : dLcO vs fi g t f env m = (fi env m).bnd (kLcO g t f (wipeE env vs)) := (rfl)
def kAug2 (i : Nat) (env : En) (z : SV) (m : Mem) : R Out := .ok (.nx (env.set i (some z))) m
@[simp] theorem kAug2_ap (i : Nat) (env : En) (z : SV) (m : Mem) : kAug2 i env z m = .ok (.nx (env.set i (some z))) m := (rfl)
def kAug1 (i : Nat) (gg : SV → SV → P SV) (env : En) (v y : SV) (m : Mem) : R Out := (gg v y m).bnd (kAug2 i env)
@[simp] theorem kAug1_ap (i : Nat) (gg : SV → SV → P SV) (env : En) (v y : SV) (m : Mem) : kAug1 i gg env v y m = (gg v y m).bnd (kAug2 i env) := (rfl)
def kAug (i : Nat) (gg : SV → SV → P SV) (fa : En → P SV) (env : En) (v : SV) (m : Mem) : R Out := (fa env m).bnd (kAug1 i gg env v)
@[simp] theorem kAug_ap (i : Nat) (gg : SV → SV → P SV) (fa : En → P SV) (env : En) (v : SV) (m : Mem) : kAug i gg fa env v m = (fa env m).bnd (kAug1 i gg env v) := (rfl)
@[simp] theorem dAug_ap (i : Nat) (gg : SV → SV → P SV) (fa : En → P SV) (env : En) (m : Mem) : dAug i gg fa env m = (dVar i env m).bnd (kAug i gg fa env) := (rfl)
@[simp] theorem intAdd_int (i j : Int) (m : Mem) : intAdd (.dat (.int i)) (.dat (.int j)) m = .ok (.dat (.int (i + j))) m := (rfl)
/-- xs[k] = d -/
def setC (o : Option Cell) (env : En) (n : Nat) (k : Int) (d : D) (m : Mem) : R Out := match o with
  | some (.lst xs) => (match ixN xs.length k with
    | some j => .ok (.nx env) (m.set n (.lst (xs.set j d)))
    | none => .stuck)
  | _ => .stuck
theorem setC_lst (xs : List D) (env : En) (n : Nat) (k : Int) (d : D) (m : Mem) {j : Nat} (h : ixN xs.length k = some j) : setC (some (.lst xs)) env n k d m = .ok (.nx env) (m.set n (.lst (xs.set j d))) := by
  simp [setC, h]
def kSx2 (env : En) (v o i : SV) (m : Mem) : R Out := match o, i, v with
  | .ref n, .dat (.int k), .dat d => setC m[n]? env n k d m
  | _, _, _ => .stuck
@[simp] theorem kSx2_ap (env : En) (n : Nat) (k : Int) (d : D) (m : Mem) : kSx2 env (.dat d) (.ref n) (.dat (.int k)) m = setC m[n]? env n k d m := (rfl)
def kSx1 (fi : En → P SV) (env : En) (v o : SV) (m : Mem) : R Out := (fi env m).bnd (kSx2 env v o)
@[simp] theorem kSx1_ap (fi : En → P SV) (env : En) (v o : SV) (m : Mem) : kSx1 fi env v o m = (fi env m).bnd (kSx2 env v o) := (rfl)
def kSx (fo fi : En → P SV) (env : En) (v : SV) (m : Mem) : R Out := (fo env m).bnd (kSx1 fi env v)
@[simp] theorem kSx_ap (fo fi : En → P SV) (env : En) (v : SV) (m : Mem) : kSx fo fi env v m = (fo env m).bnd (kSx1 fi env v) := (rfl)
@[simp] theorem dSetIx_ap (fo fi fv : En → P SV) (env : En) (m : Mem) : dSetIx fo fi fv env m = (fv env m).bnd (kSx fo fi env) := (rfl)
/-- xs.append(d) -/
def appC (o : Option Cell) (env : En) (n : Nat) (d : D) (m : Mem) : R Out := match o with
  | some (.lst xs) => if xs.length < 16777216 then .ok (.nx env) (m.set n (.lst (xs ++ [d]))) else .stuck
  | _ => .stuck
@[simp] theorem appC_lst (xs : List D) (env : En) (n : Nat) (d : D) (m : Mem) : appC (some (.lst xs)) env n d m = if xs.length < 16777216 then .ok (.nx env) (m.set n (.lst (xs ++ [d]))) else .stuck := (rfl)
def kApp1 (env : En) (x y : SV) (m : Mem) : R Out := match x, y with
  | .ref n, .dat d => appC m[n]? env n d m
  | _, _ => .stuck
@[simp] theorem kApp1_ap (env : En) (n : Nat) (d : D) (m : Mem) : kApp1 env (.ref n) (.dat d) m = appC m[n]? env n d m := (rfl)
def ifL (o : Option (List D)) (r : R Out) : R Out := match o with
  | some _ => r
  | none => .stuck
@[simp] theorem ifL_some (xs : List D) (r : R Out) : ifL (some xs) r = r := (rfl)
def kApp (fb : En → P SV) (env : En) (x : SV) (m : Mem) : R Out := ifL (rdL x m) ((fb env m).bnd (kApp1 env x))
@[simp] theorem kApp_ap (fb : En → P SV) (env : En) (x : SV) (m : Mem) : kApp fb env x m = ifL (rdL x m) ((fb env m).bnd (kApp1 env x)) := (rfl)
@[simp] theorem dApp_ap (fa fb : En → P SV) (env : En) (m : Mem) : dApp fa fb env m = (fa env m).bnd (kApp fb env) := by
  unfold dApp P.bnd
  congr 1
/-! ### a def -/
@[simp] theorem set_app_len (m : Mem) (c c' : Cell) : (m ++ [c]).set m.length c' = m ++ [c'] := by
  rw [List.set_append_right _ _ (Nat.le_refl _)]
  simp
@[simp] theorem get_app_len (m : Mem) (c : Cell) : (m ++ [c])[m.length]? = some c := by simp
@[simp] theorem take_app_len (m : Mem) (c : Cell) : (m ++ [c]).take m.length = m := by simp
@[simp] theorem take_set_len (m : Mem) (k : Nat) (c : Cell) : (m.set k c).take m.length = m.set k c := List.take_of_length_le (by simp)
@[simp] theorem exitV_dat (k : Nat) (d : D) (m : Mem) : exitV k (.dat d) m = .ok (.dat d) (m.take k) := (rfl)
def fin (ex : Nat → SV → Mem → R SV) (k : Nat) (r : R Out) : R SV := match r with
  | .ok (.nx _) m' => .ok (.dat .non) (m'.take k)
  | .ok (.rt v) m' => ex k v m'
  | .ok _ _ => .stuck
  | .exc x m' => .exc x (m'.take k)
  | .stuck => .stuck
@[simp] theorem fin_nx (ex : Nat → SV → Mem → R SV) (k : Nat) (env : En) (m : Mem) : fin ex k (.ok (.nx env) m) = .ok (.dat .non) (m.take k) := (rfl)
@[simp] theorem fin_rt (ex : Nat → SV → Mem → R SV) (k : Nat) (v : SV) (m : Mem) : fin ex k (.ok (.rt v) m) = ex k v m := (rfl)
@[simp] theorem fin_exc (ex : Nat → SV → Mem → R SV) (k : Nat) (x : Exc) (m : Mem) : fin ex k (.exc x m) = .exc x (m.take k) := (rfl)
theorem fnRun_ap (n : Nat) (ex : Nat → SV → Mem → R SV) (fb : DS) (xs : List SV) (m : Mem) : fnRun n ex fb xs m = fin ex m.length (fb (enter n xs) m) := (rfl)
/-! ### values -/
@[simp] theorem addV_int (i j : Int) (m : Mem) : addV (.dat (.int i)) (.dat (.int j)) m = .ok (.dat (.int (i + j))) m := (rfl)
@[simp] theorem subV_int (i j : Int) (m : Mem) : subV (.dat (.int i)) (.dat (.int j)) m = .ok (.dat (.int (i - j))) m := (rfl)
@[simp] theorem mulV_int (i j : Int) (m : Mem) : mulV (.dat (.int i)) (.dat (.int j)) m = if mulOk i j = true then .ok (.dat (.int (i * j))) m else .stuck := (rfl)
@[simp] theorem fdivV_int (i j : Int) (m : Mem) : fdivV (.dat (.int i)) (.dat (.int j)) m = if j ≠ 0 ∧ j.natAbs < big then .ok (.dat (.int (i.fdiv j))) m else .stuck := (rfl)
@[simp] theorem modV_int (i j : Int) (m : Mem) : modV (.dat (.int i)) (.dat (.int j)) m = if j ≠ 0 then .ok (.dat (.int (i.fmod j))) m else .stuck := (rfl)
@[simp] theorem powV_int (i j : Int) (m : Mem) : powV (.dat (.int i)) (.dat (.int j)) m = if 0 ≤ j ∧ j ≤ 1000000 ∧ i.natAbs < 2 ^ 64 then .ok (.dat (.int (i ^ j.toNat))) m else .stuck := (rfl)
@[simp] theorem ltV_int (i j : Int) (m : Mem) : ltV (.dat (.int i)) (.dat (.int j)) m = .ok (.dat (.bl (decide (i < j)))) m := (rfl)
@[simp] theorem leV_int (i j : Int) (m : Mem) : leV (.dat (.int i)) (.dat (.int j)) m = .ok (.dat (.bl (decide (i ≤ j)))) m := (rfl)
@[simp] theorem gtV_int (i j : Int) (m : Mem) : gtV (.dat (.int i)) (.dat (.int j)) m = .ok (.dat (.bl (decide (j < i)))) m := (rfl)
@[simp] theorem geV_int (i j : Int) (m : Mem) : geV (.dat (.int i)) (.dat (.int j)) m = .ok (.dat (.bl (decide (j ≤ i)))) m := (rfl)
@[simp] theorem negV_int (i : Int) (m : Mem) : negV (.dat (.int i)) m = .ok (.dat (.int (-i))) m := (rfl)
@[simp] theorem max2V_int (i j : Int) (m : Mem) : max2V [.dat (.int i), .dat (.int j)] m = .ok (.dat (.int (max i j))) m := (rfl)
@[simp] theorem min2V_int (i j : Int) (m : Mem) : min2V [.dat (.int i), .dat (.int j)] m = .ok (.dat (.int (min i j))) m := (rfl)
@[simp] theorem absV_int (i : Int) (m : Mem) : absV' [.dat (.int i)] m = .ok (.dat (.int i.natAbs)) m := (rfl)
@[simp] theorem intV_int (i : Int) (m : Mem) : intV [.dat (.int i)] m = .ok (.dat (.int i)) m := (rfl)
@[simp] theorem intV_bl (k : Bool) (m : Mem) : intV [.dat (.bl k)] m = .ok (.dat (.int (if k then 1 else 0))) m := (rfl)
@[simp] theorem isNV_dat (d : D) (m : Mem) : isNV (.dat d) (.dat .non) m = .ok (.dat (.bl (isNon d))) m := (rfl)
@[simp] theorem notNV_dat (d : D) (m : Mem) : notNV (.dat d) (.dat .non) m = .ok (.dat (.bl (!isNon d))) m := (rfl)
@[simp] theorem isNon_non : isNon .non = true := (rfl)
@[simp] theorem isNon_int (i : Int) : isNon (.int i) = false := (rfl)
@[simp] theorem isNon_tup (xs : List D) : isNon (.tup xs) = false := (rfl)
@[simp] theorem isNon_lst (xs : List D) : isNon (.lst xs) = false := (rfl)
@[simp] theorem isNon_bl (b : Bool) : isNon (.bl b) = false := (rfl)
@[simp] theorem isNon_str (x : Str) : isNon (.str x) = false := (rfl)
/-! ### == of ints and None -/
theorem okD_int (i : Int) : okD (.int i) = true := by simp [okD, plain, dep]
theorem okD_non : okD .non = true := by simp [okD, plain, dep]
theorem okD_bl (b : Bool) : okD (.bl b) = true := by simp [okD, plain, dep]
theorem eqd_int (i j : Int) : eqd (.int i) (.int j) = decide (i = j) := by
  simp only [eqd, toPy, PyData.eqv]
  by_cases h : i = j <;> simp [h]
@[simp] theorem eqV_int (i j : Int) (m : Mem) : eqV (.dat (.int i)) (.dat (.int j)) m = .ok (.dat (.bl (decide (i = j)))) m := by
  simp [eqV, svD, okD_int, eqd_int]
@[simp] theorem neV_int (i j : Int) (m : Mem) : neV (.dat (.int i)) (.dat (.int j)) m = .ok (.dat (.bl (!decide (i = j)))) m := by
  simp [neV, svD, okD_int, eqd_int]
@[simp] theorem eqV_int_non (i : Int) (m : Mem) : eqV (.dat (.int i)) (.dat .non) m = .ok (.dat (.bl false)) m := by
  simp [eqV, svD, okD_int, okD_non, eqd, toPy, PyData.eqv]
@[simp] theorem eqV_non_int (i : Int) (m : Mem) : eqV (.dat .non) (.dat (.int i)) m = .ok (.dat (.bl false)) m := by
  simp [eqV, svD, okD_int, okD_non, eqd, toPy, PyData.eqv]
@[simp] theorem eqV_non (m : Mem) : eqV (.dat .non) (.dat .non) m = .ok (.dat (.bl true)) m := by
  simp [eqV, svD, okD_non, eqd, toPy, PyData.eqv]
@[simp] theorem neV_int_non (i : Int) (m : Mem) : neV (.dat (.int i)) (.dat .non) m = .ok (.dat (.bl true)) m := by
  simp [neV, svD, okD_int, okD_non, eqd, toPy, PyData.eqv]
@[simp] theorem neV_non_int (i : Int) (m : Mem) : neV (.dat .non) (.dat (.int i)) m = .ok (.dat (.bl true)) m := by
  simp [neV, svD, okD_int, okD_non, eqd, toPy, PyData.eqv]
@[simp] theorem neV_non (m : Mem) : neV (.dat .non) (.dat .non) m = .ok (.dat (.bl false)) m := by
  simp [neV, svD, okD_non, eqd, toPy, PyData.eqv]
/-! ### lists of ints -/
theorem plains_ints (ns : List Int) : plains (ns.map D.int) = true := by
  induction ns with
  | nil => rfl
  | cons n r ih => simp [plains, plain, ih]
theorem deps_ints (ns : List Int) : deps (ns.map D.int) = 0 := by
  induction ns with
  | nil => rfl
  | cons n r ih => simp [deps, dep, ih]
theorem okD_ints (ns : List Int) : okD (.lst (ns.map D.int)) = true := by simp [okD, plain, dep, plains_ints, deps_ints]
theorem okD_intsT (ns : List Int) : okD (.tup (ns.map D.int)) = true := by simp [okD, plain, dep, plains_ints, deps_ints]
theorem eqvAll_ints : ∀ ns ms : List Int, PyData.eqvAll (toPys (ns.map D.int)) (toPys (ms.map D.int)) = decide (ns = ms)
  | [], [] => by simp [toPys, PyData.eqvAll]
  | [], m :: ms => by simp [toPys, PyData.eqvAll]
  | n :: ns, [] => by simp [toPys, PyData.eqvAll]
  | n :: ns, m :: ms => by
    simp only [List.map_cons, toPys, toPy, PyData.eqvAll, PyData.eqv, eqvAll_ints ns ms]
    by_cases h : n = m <;> by_cases h2 : ns = ms <;> simp [h, h2]
theorem eqd_ints (ns ms : List Int) : eqd (.lst (ns.map D.int)) (.lst (ms.map D.int)) = decide (ns = ms) := by
  simp only [eqd, toPy, PyData.eqv, eqvAll_ints]
theorem eqd_intsT (ns ms : List Int) : eqd (.tup (ns.map D.int)) (.tup (ms.map D.int)) = decide (ns = ms) := by
  simp only [eqd, toPy, PyData.eqv, eqvAll_ints]
@[simp] theorem flatD_int (i : Int) : flatD (.int i) = true := (rfl)
@[simp] theorem flats_ints (xs : List Int) : flats (xs.map D.int) = true := by
  unfold flats
  induction xs with
  | nil => rfl
  | cons y r ih => simp [flatD]
theorem hasD_ints (x : Int) (xs : List Int) : hasD (xs.map D.int) (.int x) = decide (x ∈ xs) := by
  unfold hasD
  induction xs with
  | nil => rfl
  | cons y r ih =>
    rw [List.map_cons, List.any_cons, ih]
    by_cases h : y = x
    · subst h; simp [eqF]
    · have h' : ¬ x = y := fun e => h e.symm
      simp [eqF, h, h']
theorem rngD_get {lo : Int} {n i : Nat} {d : D} (h : (rngD lo n)[i]? = some d) : i < n ∧ d = .int (lo + (i : Int)) := by
  unfold rngD at h
  rw [List.getElem?_map] at h
  by_cases hi : i < n
  · rw [List.getElem?_range hi] at h
    exact ⟨hi, (Option.some.inj h).symm⟩
  · rw [List.getElem?_eq_none (by simpa using hi)] at h
    cases h
theorem rngD_mem {lo : Int} {n : Nat} {d : D} (h : d ∈ rngD lo n) : ∃ i : Nat, i < n ∧ d = .int (lo + (i : Int)) := by
  unfold rngD at h
  rw [List.mem_map] at h
  obtain ⟨i, hi, e⟩ := h
  exact ⟨i, List.mem_range.mp hi, e.symm⟩
@[simp] theorem rngD_length (lo : Int) (n : Nat) : (rngD lo n).length = n := by simp [rngD]
/-! ### loops -/
section
variable {g : D → En → Option En} {body : DS} {d : D} {r : List D} {env env1 env2 : En} {m m2 : Mem}
theorem loopF_nil : loopF g body [] env m = .ok (.nx env) m := (rfl)
theorem loopF_nx (hg : g d env = some env1) (hb : body env1 m = .ok (.nx env2) m2) : loopF g body (d :: r) env m = loopF g body r env2 m2 := by
  simp [loopF, hg, hb]
theorem loopF_ct (hg : g d env = some env1) (hb : body env1 m = .ok (.ct env2) m2) : loopF g body (d :: r) env m = loopF g body r env2 m2 := by
  simp [loopF, hg, hb]
theorem loopF_rt {v : SV} (hg : g d env = some env1) (hb : body env1 m = .ok (.rt v) m2) : loopF g body (d :: r) env m = .ok (.rt v) m2 := by
  simp [loopF, hg, hb]
theorem loopF_bk (hg : g d env = some env1) (hb : body env1 m = .ok (.bk env2) m2) : loopF g body (d :: r) env m = .ok (.nx env2) m2 := by
  simp [loopF, hg, hb]
/-- a loop that comes to its end -/
theorem loopF_inv (I : Nat → En → Mem → Prop) : ∀ (items : List D) (j : Nat) (env : En) (m : Mem), I j env m →
    (∀ i d env m, items[i]? = some d → I (j + i) env m → ∃ env1 env2 m2, g d env = some env1 ∧ (body env1 m = .ok (.nx env2) m2 ∨ body env1 m = .ok (.ct env2) m2) ∧ I (j + i + 1) env2 m2) →
    ∃ env' m', loopF g body items env m = .ok (.nx env') m' ∧ I (j + items.length) env' m'
  | [], j, env, m, h0, _ => ⟨env, m, rfl, h0⟩
  | d :: r, j, env, m, h0, hs => by
    obtain ⟨env1, env2, m2, hg, hb, h1⟩ := hs 0 d env m rfl h0
    obtain ⟨env', m', q, h2⟩ := loopF_inv I r (j + 1) env2 m2 h1 fun i d env m hi hI => by
      have := hs (i + 1) d env m (by simpa using hi) (by rw [show j + (i + 1) = j + 1 + i by omega]; exact hI)
      rw [show j + (i + 1) + 1 = j + 1 + i + 1 by omega] at this
      exact this
    refine ⟨env', m', ?_, by rw [List.length_cons, show j + (r.length + 1) = j + 1 + r.length by omega]; exact h2⟩
    rcases hb with hb | hb
    · rw [loopF_nx hg hb]; exact q
    · rw [loopF_ct hg hb]; exact q
/-- a comprehension whose element is a function of the item -/
theorem loopC_map {t : En → P Bool} {f : En → P SV} {env : En} {m : Mem} (p : D → Bool) (h : D → D) : ∀ (items acc : List D), (∀ d ∈ items, ∃ env1, g d env = some env1 ∧ t env1 m = .ok (p d) m ∧ (p d = true → f env1 m = .ok (.dat (h d)) m)) → acc.length + items.length ≤ 16777216 →
    loopC g t f env items acc m = .ok (acc ++ (items.filter p).map h) m
  | [], acc, _, _ => by simp [loopC]
  | d :: r, acc, hs, hl => by
    obtain ⟨env1, hg, ht, hf⟩ := hs d List.mem_cons_self
    have hr := fun d hd => hs d (List.mem_cons_of_mem _ hd)
    rw [List.length_cons] at hl
    by_cases hp : p d = true
    · have ih := loopC_map (t := t) (f := f) (env := env) (m := m) p h r (acc ++ [h d]) hr (by simp; omega)
      simp [loopC, hg, ht, hp, hf hp, show acc.length < 16777216 by omega, ih]
    · have hp' : p d = false := by simpa using hp
      have ih := loopC_map (t := t) (f := f) (env := env) (m := m) p h r acc hr (by omega)
      simp [loopC, hg, ht, hp', ih]
theorem loopC_all {f : En → P SV} {env : En} {m : Mem} (h : D → D) (items : List D) (hs : ∀ d ∈ items, ∃ env1, g d env = some env1 ∧ f env1 m = .ok (.dat (h d)) m) (hl : items.length ≤ 16777216) :
    noX (loopC g dYes f env items []) m = .ok (items.map h) m := by
  have e := loopC_map (g := g) (t := dYes) (f := f) (env := env) (m := m) (fun _ => true) h items [] (fun d hd => let ⟨e1, a, b⟩ := hs d hd; ⟨e1, a, rfl, fun _ => b⟩) (by simpa using hl)
  rw [List.filter_eq_self.mpr (fun _ _ => rfl)] at e
  simp [noX, e]
end
end PL

/-! PL7: more values: sorted, max, min, slices, repetition, module tuples. -/
namespace PL
open PySem PySem.Spec PyProof.Rows L2
/-- a new list: frozen, or an own one -/
def frs (own : Bool) (xs : List D) : P SV := fun m => if own then .ok (.ref m.length) (m ++ [.lst xs]) else .ok (.dat (.lst xs)) m
@[simp] theorem frs_false (xs : List D) (m : Mem) : frs false xs m = .ok (.dat (.lst xs)) m := (rfl)
@[simp] theorem frs_true (xs : List D) (m : Mem) : frs true xs m = .ok (.ref m.length) (m ++ [.lst xs]) := (rfl)
section
variable {X : Cx} {W : WX}
theorem frs_ok {own : Bool} {G S0 S H : Hp} {ρ0 ρ : List Addr} {m : Mem} {Q : VK} {E : Exc → Mem → Prop} {vs : List V} {xs : List D} (M : MR (gd X) G S H ρ m) (r : RpAll (gd X) S vs xs) (e : Ext S0 ρ0 S ρ)
    (q : wpr (frs own xs m) (QV X G S0 ρ0 Q) E) (p : Addr) (hp : H p = none) : Q (.ref p) (upd H p (.lst vs)) := by
  cases own with
  | false =>
    obtain ⟨s1, M2⟩ := M.grow hp (.lst vs)
    exact q _ _ ρ _ (e.trans ⟨s1, fun _ _ z => z⟩) M2 (.lst upd_same (r.mono s1))
  | true =>
    obtain ⟨e2, M2⟩ := M.alloc hp r
    refine q _ _ _ _ (e.trans e2) M2 ⟨p, ?_, rfl⟩
    rw [← M.len]
    simp
/-! ### sorted, max, min -/
def sortI (ns : List Int) : List Int := ns.mergeSort fun a b => decide (a ≤ b)
theorem sortI_perm (ns : List Int) : (sortI ns).Perm ns := List.mergeSort_perm ..
theorem sortI_up (ns : List Int) : (sortI ns).Pairwise (· ≤ ·) := by
  have h := List.pairwise_mergeSort (le := fun a b : Int => decide (a ≤ b)) (fun a b c h1 h2 => by simp at *; omega) (fun a b => by simp; omega) ns
  exact h.imp fun h => of_decide_eq_true h
theorem up_unique : ∀ {xs ys : List Int}, xs.Perm ys → xs.Pairwise (· ≤ ·) → ys.Pairwise (· ≤ ·) → xs = ys
  | [], ys, p, _, _ => (List.nil_perm.mp p).symm
  | x :: xs, [], p, _, _ => by simpa using p.length_eq
  | x :: xs, y :: ys, p, hx, hy => by
    have h1 : x = y := by
      have a : x ∈ y :: ys := p.subset List.mem_cons_self
      have b : y ∈ x :: xs := p.symm.subset List.mem_cons_self
      rw [List.pairwise_cons] at hx hy
      rcases List.mem_cons.mp a with a | a
      · exact a
      · rcases List.mem_cons.mp b with b | b
        · exact b.symm
        · have := hx.1 y b
          have := hy.1 x a
          omega
    subst h1
    rw [up_unique (List.Perm.cons_inv p) (List.pairwise_cons.mp hx).2 (List.pairwise_cons.mp hy).2]
theorem sortI_eq {xs ys : List Int} (p : xs.Perm ys) (h : xs.Pairwise (· ≤ ·)) : xs = sortI ys := up_unique (p.trans (sortI_perm ys).symm) h (sortI_up ys)
def sortedV (own : Bool) (xs : List SV) : P SV := fun m => match xs with
  | [x] => (match rdL x m with | some ds => (match asIs ds with | some is => frs own ((sortI is).map D.int) m | none => .stuck) | none => .stuck)
  | _ => .stuck
theorem jc_sorted {own : Bool} : JC X W (.builtin "sorted") (sortedV own) := ⟨fun {G S H ρ m σ xs xvs Q} M rx q => by
  unfold sortedV at q
  split at q
  · obtain ⟨v, rfl, r⟩ := paired1 rx
    split at q
    · rename_i ds hd
      split at q
      · rename_i bs hb
        obtain ⟨a, vs, rfl, h1, r1⟩ := rdL_ok M r hd
        have e := rpAll_is r1 hb
        subst e
        refine wc_of cr_sortedI ⟨a, bs, rfl, .inl (.inl h1), fun ns' p hp hu hn => ?_⟩
        rw [sortI_eq hp hu]
        exact frs_ok M (rpAll_ints _) (Ext.refl _ _) q p hn
      · exact q.elim
    · exact q.elim
  · exact q.elim⟩
def maxL : List Int → Option Int
  | [] => none
  | [a] => some a
  | a :: r => (match maxL r with | some b => some (max a b) | none => some a)
def minL : List Int → Option Int
  | [] => none
  | [a] => some a
  | a :: r => (match minL r with | some b => some (min a b) | none => some a)
theorem maxL_ok : ∀ {ns : List Int} {k : Int}, maxL ns = some k → k ∈ ns ∧ ∀ y ∈ ns, y ≤ k
  | [], _, h => by simp [maxL] at h
  | [a], k, h => by simp [maxL] at h; subst h; simp
  | a :: b :: r, k, h => by
    unfold maxL at h
    split at h
    · rename_i c hc
      obtain ⟨i1, i2⟩ := maxL_ok hc
      have e : max a c = k := Option.some.inj h
      refine ⟨?_, fun y hy => ?_⟩
      · by_cases hac : a ≤ c
        · rw [← e, Int.max_eq_right hac]; exact List.mem_cons_of_mem _ i1
        · rw [← e, Int.max_eq_left (by omega)]; exact List.mem_cons_self
      · rcases List.mem_cons.mp hy with rfl | hy
        · omega
        · have := i2 y hy
          omega
    · rename_i hc
      exfalso
      unfold maxL at hc
      split at hc <;> first | contradiction | cases hc | (split at hc <;> cases hc)
theorem minL_ok : ∀ {ns : List Int} {k : Int}, minL ns = some k → k ∈ ns ∧ ∀ y ∈ ns, k ≤ y
  | [], _, h => by simp [minL] at h
  | [a], k, h => by simp [minL] at h; subst h; simp
  | a :: b :: r, k, h => by
    unfold minL at h
    split at h
    · rename_i c hc
      obtain ⟨i1, i2⟩ := minL_ok hc
      have e : min a c = k := Option.some.inj h
      refine ⟨?_, fun y hy => ?_⟩
      · by_cases hac : a ≤ c
        · rw [← e, Int.min_eq_left hac]; exact List.mem_cons_self
        · rw [← e, Int.min_eq_right (by omega)]; exact List.mem_cons_of_mem _ i1
      · rcases List.mem_cons.mp hy with rfl | hy
        · omega
        · have := i2 y hy
          omega
    · rename_i hc
      exfalso
      unfold minL at hc
      split at hc <;> first | contradiction | cases hc | (split at hc <;> cases hc)
def max1V (xs : List SV) : P SV := fun m => match xs with
  | [x] => (match rdL x m with | some ds => (match asIs ds with | some is => (match maxL is with | some k => .ok (.dat (.int k)) m | none => .stuck) | none => .stuck) | none => .stuck)
  | _ => .stuck
def min1V (xs : List SV) : P SV := fun m => match xs with
  | [x] => (match rdL x m with | some ds => (match asIs ds with | some is => (match minL is with | some k => .ok (.dat (.int k)) m | none => .stuck) | none => .stuck) | none => .stuck)
  | _ => .stuck
theorem jc_max1 (hc : X.calm = true) : JC X W (.builtin "max") max1V := ⟨fun {G S H ρ m σ xs xvs Q} M rx q => by
  unfold max1V at q
  split at q
  · obtain ⟨v, rfl, r⟩ := paired1 rx
    split at q
    · rename_i ds hd
      split at q
      · rename_i bs hb
        split at q
        · rename_i k hk
          obtain ⟨a, vs, rfl, h1, r1⟩ := rdL_ok M r hd
          have e := rpAll_is r1 hb
          subst e
          obtain ⟨k1, k2⟩ := maxL_ok hk
          refine wc_of (cr_max hc) ⟨a, bs, rfl, .inl (.inl h1), List.length_pos_of_mem k1, fun m' hm hle => ?_⟩
          have e : m' = k := Int.le_antisymm (k2 m' hm) (hle k k1)
          subst e
          exact q S H ρ _ (Ext.refl _ _) M (.int _)
        · exact q.elim
      · exact q.elim
    · exact q.elim
  · exact q.elim⟩
theorem jc_min1 (hc : X.calm = true) : JC X W (.builtin "min") min1V := ⟨fun {G S H ρ m σ xs xvs Q} M rx q => by
  unfold min1V at q
  split at q
  · obtain ⟨v, rfl, r⟩ := paired1 rx
    split at q
    · rename_i ds hd
      split at q
      · rename_i bs hb
        split at q
        · rename_i k hk
          obtain ⟨a, vs, rfl, h1, r1⟩ := rdL_ok M r hd
          have e := rpAll_is r1 hb
          subst e
          obtain ⟨k1, k2⟩ := minL_ok hk
          refine wc_of (cr_min hc) ⟨a, bs, rfl, .inl (.inl h1), List.length_pos_of_mem k1, fun m' hm hle => ?_⟩
          have e : m' = k := Int.le_antisymm (hle k k1) (k2 m' hm)
          subst e
          exact q S H ρ _ (Ext.refl _ _) M (.int _)
        · exact q.elim
      · exact q.elim
    · exact q.elim
  · exact q.elim⟩
/-! ### xs * n -/
def repV (own : Bool) (x y : SV) : P SV := fun m => match rdL x m, y with
  | some xs, .dat (.int k) => if -(2 ^ 63) ≤ k ∧ k < 2 ^ 63 ∧ xs.length * k.toNat ≤ 16777216 then frs own (List.replicate k.toNat xs).flatten m else .stuck
  | _, _ => .stuck
theorem rpAll_rep {Γ : Gd} {S : Hp} {vs : List V} {ds : List D} (r : RpAll Γ S vs ds) : ∀ n : Nat, RpAll Γ S (List.replicate n vs).flatten (List.replicate n ds).flatten
  | 0 => .nil
  | n + 1 => by
    rw [List.replicate_succ, List.replicate_succ, List.flatten_cons, List.flatten_cons]
    exact r.append (rpAll_rep r n)
theorem jo_rep {own : Bool} : JO X W (binaryOp .Mult) (repV own) := ⟨fun {G S H ρ m σ x y xv yv Q} M rx ry q => by
  unfold repV at q
  split at q
  · rename_i xs k hx
    split at q
    · rename_i hk
      obtain ⟨a, vs, rfl, h1, r1⟩ := rdL_ok M rx hx
      cases ry
      refine wo_of op_rep ⟨a, k, vs, rfl, rfl, h1, hk.1, hk.2.1, by rw [r1.length, sizeLine_eq]; exact hk.2.2, fun p hp => ?_⟩
      exact frs_ok M (rpAll_rep r1 _) (Ext.refl _ _) q p hp
    · exact q.elim
  · exact q.elim⟩
/-- xs + ys as an own list -/
def catO (x y : SV) : P SV := fun m => match rdL x m, rdL y m with
  | some xs, some ys => if xs.length + ys.length ≤ 16777216 then frs true (xs ++ ys) m else .stuck
  | _, _ => .stuck
theorem jo_catO : JO X W (binaryOp .Add) catO := ⟨fun {G S H ρ m σ x y xv yv Q} M rx ry q => by
  unfold catO at q
  split at q
  · rename_i xs ys hx hy
    split at q
    · rename_i hl
      obtain ⟨a, vs, rfl, h1, r1⟩ := rdL_ok M rx hx
      obtain ⟨b, ws, rfl, h2, r2⟩ := rdL_ok M ry hy
      refine wo_of op_cat ⟨a, b, vs, ws, rfl, rfl, h1, h2, by rw [r1.length, r2.length, sizeLine_eq]; exact hl, fun p hp => ?_⟩
      exact frs_ok M (r1.append r2) (Ext.refl _ _) q p hp
    · exact q.elim
  · exact q.elim⟩
/-! ### slices -/
variable {a e : Expr} {lo hi : Option Expr} {pos p2 : Pos} {fa : En → P SV}
def cutD (xs : List D) (lo hi : Option Int) : List D := (xs.drop (HT.sIx xs.length 0 lo)).take (HT.sIx xs.length xs.length hi - HT.sIx xs.length 0 lo)
theorem rpAll_cut {Γ : Gd} {S : Hp} {vs : List V} {ds : List D} (r : RpAll Γ S vs ds) (lo hi : Option Int) : RpAll Γ S (cutV vs lo hi) (cutD ds lo hi) := by
  unfold cutV cutD
  rw [r.length]
  exact (r.drop _).take _
/-- a part of a slice -/
structure JPt (X : Cx) (W : WX) (lo : Option Expr) (f : En → P (Option Int)) : Prop where
  run : ∀ {G S H : Hp} {ρ : List Addr} {m : Mem} {env : En} {σ : St} {Q : Option Int → Hp → Prop}, MR (gd X) G S H ρ m → ER (gd X) S ρ env σ →
    wpr (f env m) (fun o m' => ∀ S' H' ρ', Ext S ρ S' ρ' → MR (gd X) G S' H' ρ' m' → Q o H') (QX X W G S ρ σ) →
    ∀ (pins : List (Addr × Obj)) (s : Shared), Inv X pins σ H s → wpAny (model X.prog X.w) X.A (evalPart lo X.env) (fun u s' => ∃ o H', Inv X pins σ H' s' ∧ IsPart u o ∧ Q o H') X.xe s
def dNoPt : En → P (Option Int) := fun _ => P.ret none
def dPt (f : En → P SV) : En → P (Option Int) := fun env => (f env).bnd fun v => match v with
  | .dat (.int i) => P.ret (some i)
  | _ => P.stk
theorem jp_none : JPt X W none dNoPt := ⟨fun {G S H ρ m env σ Q} M E h pins s I => po_none.run pins s σ H Q I (h S H ρ (Ext.refl _ _) M)⟩
theorem jp_some (ja : JE X W e fa) : JPt X W (some e) (dPt fa) := ⟨fun {G S H ρ m env σ Q} M E h pins s I => by
  refine (po_some (pe_we (X := X) (e := e))).run pins s σ H Q I (ja.run M E (wpr_monoQ (wpr_bnd h) fun v m1 hv => ?_))
  intro S1 H1 ρ1 xv e1 M1 rx
  split at hv
  · rename_i i
    cases rx
    exact ⟨i, rfl, hv S1 H1 ρ1 e1 M1⟩
  · exact hv.elim⟩
def cutVl (own : Bool) (v : SV) (lo hi : Option Int) : P SV := fun m => match v with
  | .dat (.tup xs) => .ok (.dat (.tup (cutD xs lo hi))) m
  | .dat (.scr _) => .stuck
  | v => (match rdL v m with | some xs => frs own (cutD xs lo hi) m | none => .stuck)
def dSl (own : Bool) (fa : En → P SV) (fl fh : En → P (Option Int)) : En → P SV := fun env => (fa env).bnd fun v => (fl env).bnd fun l => (fh env).bnd fun h => cutVl own v l h
theorem cutV_whole (xs : List V) (lo hi : Option Int) (h : HT.sIx xs.length 0 lo = 0 ∧ HT.sIx xs.length xs.length hi = xs.length) : cutV xs lo hi = xs := by
  unfold cutV
  rw [h.1, h.2]
  simp
theorem cutD_whole (xs : List D) (lo hi : Option Int) (h : HT.sIx xs.length 0 lo = 0 ∧ HT.sIx xs.length xs.length hi = xs.length) : cutD xs lo hi = xs := by
  unfold cutD
  rw [h.1, h.2]
  simp
theorem je_slice {own : Bool} {fl fh : En → P (Option Int)} (ja : JE X W a fa) (jl : JPt X W lo fl) (jh : JPt X W hi fh) : JE X W (.Subscript a (.Slice lo hi none p2) pos) (dSl own fa fl fh) := ⟨fun {G S H ρ m env σ Q} M E h => by
  refine we_of (pe_slice (SlR.or sl_tupA sl_list) pe_we
    (tl := fun σ H Q => ∀ (pins : List (Addr × Obj)) (s : Shared), Inv X pins σ H s → wpAny (model X.prog X.w) X.A (evalPart lo X.env) (fun u s' => ∃ o H', Inv X pins σ H' s' ∧ IsPart u o ∧ Q o H') X.xe s) ⟨fun pins s σ H Q I q => q pins s I⟩
    (th := fun σ H Q => ∀ (pins : List (Addr × Obj)) (s : Shared), Inv X pins σ H s → wpAny (model X.prog X.w) X.A (evalPart hi X.env) (fun u s' => ∃ o H', Inv X pins σ H' s' ∧ IsPart u o ∧ Q o H') X.xe s) ⟨fun pins s σ H Q I q => q pins s I⟩) ?_
  refine ja.run M E (wpr_monoQ (wpr_bnd h) fun v m1 hv => ?_)
  intro S1 H1 ρ1 xv e1 M1 rx
  refine jl.run M1 (E.mono e1) (wpr_mono (wpr_bnd hv) (fun l m2 hl => ?_) fun _ _ z => qx_ext e1 z)
  intro S2 H2 ρ2 e2 M2
  refine jh.run M2 ((E.mono e1).mono e2) (wpr_mono (wpr_bnd hl) (fun u m3 hu => ?_) fun _ _ z => qx_ext (e1.trans e2) z)
  intro S3 H3 ρ3 e3 M3
  have e03 := (e1.trans e2).trans e3
  have rx3 := rx.mono (e2.trans e3)
  unfold cutVl at hu
  split at hu
  · cases rx3 with
    | tup hq hr =>
      rename_i ad vs
      refine .inl ⟨ad, vs, rfl, Same.seqT M3.sub hq, fun hw => ?_, fun hw p hp => ?_⟩
      · rw [cutD_whole _ _ _ (by rw [← hr.length]; exact hw)] at hu
        exact hu S3 H3 ρ3 _ e03 M3 (.tup hq hr)
      · obtain ⟨s1, M4⟩ := M3.grow hp (.tup (cutV vs l u))
        exact hu _ _ ρ3 _ (e03.trans ⟨s1, fun _ _ z => z⟩) M4 (.tup (.inl (.inl upd_same)) ((rpAll_cut hr l u).mono s1))
  · exact hu.elim
  · split at hu
    · rename_i xs hx
      obtain ⟨ad, vs, rfl, h1, r1⟩ := rdL_ok M3 rx3 hx
      exact .inr ⟨ad, vs, rfl, .inl (.inl h1), fun p hp => frs_ok M3 (rpAll_cut r1 l u) e03 hu p hp⟩
    · exact hu.elim⟩
/-- xs[::-1], a list -/
def revVl (own : Bool) (v : SV) : P SV := fun m => match rdL v m with
  | some xs => frs own xs.reverse m
  | none => .stuck
theorem rpAll_rev {Γ : Gd} {S : Hp} : ∀ {vs : List V} {ds : List D}, RpAll Γ S vs ds → RpAll Γ S vs.reverse ds.reverse
  | _, _, .nil => .nil
  | _, _, .cons h r => by
    rw [List.reverse_cons, List.reverse_cons]
    exact (rpAll_rev r).append (.cons h .nil)
theorem je_revL {own : Bool} {k : Nat} {p1 p3 : Pos} (ja : JE X W a fa) : JE X W (.Subscript a (.Slice none none (some (.UnaryOp .USub (.Constant (.int 1) k p1) p2)) p3) pos) (d1 (revVl own) fa) := ⟨fun {G S H ρ m env σ Q} M E h => by
  refine we_of (pe_revL pe_we) (ja.run M E (wpr_monoQ (wpr_bnd h) fun v m1 hv => ?_))
  intro S1 H1 ρ1 xv e1 M1 rx
  unfold revVl at hv
  split at hv
  · rename_i xs hx
    obtain ⟨ad, vs, rfl, h1, r1⟩ := rdL_ok M1 rx hx
    exact ⟨ad, vs, rfl, .inl (.inl h1), fun p hp => frs_ok M1 (rpAll_rev r1) e1 hv p hp⟩
  · exact hv.elim⟩
/-! ### a module's tuple -/
/-- what a module's name holds: a tuple of plain things -/
inductive Gk (K : PySem.W.Frag) : V → D → Prop
  | non : Gk K .non .non
  | bl (b : Bool) : Gk K (.bl b) (.bl b)
  | int (i : Int) : Gk K (.int i) (.int i)
  | str (x : Str) : Gk K (.str x) (.str x)
inductive GkAll (K : PySem.W.Frag) : List V → List D → Prop
  | nil : GkAll K [] []
  | cons {v : V} {vs : List V} {d : D} {ds : List D} : Gk K v d → GkAll K vs ds → GkAll K (v :: vs) (d :: ds)
theorem GkAll.rp {Γ : Gd} {S : Hp} {K : PySem.W.Frag} : ∀ {vs : List V} {ds : List D}, GkAll K vs ds → RpAll Γ S vs ds
  | _, _, .nil => .nil
  | _, _, .cons h r => .cons (by cases h <;> constructor) (GkAll.rp r)
def gvD : D → He.Dv
  | .bl b => .bl b
  | .int i => .int i
  | .str x => .str x
  | _ => .non
def gvOk : List D → Bool
  | [] => true
  | .non :: r => gvOk r
  | .bl _ :: r => gvOk r
  | .int _ :: r => gvOk r
  | .str _ :: r => gvOk r
  | _ :: _ => false
theorem gvAll (K : PySem.W.Frag) : ∀ {ds : List D}, gvOk ds = true → GkAll K ((ds.map gvD).map (He.Dv.v K)) ds
  | [], _ => .nil
  | .non :: r, h => .cons .non (gvAll K (by simpa [gvOk] using h))
  | .bl b :: r, h => .cons (.bl b) (gvAll K (by simpa [gvOk] using h))
  | .int i :: r, h => .cons (.int i) (gvAll K (by simpa [gvOk] using h))
  | .str x :: r, h => .cons (.str x) (gvAll K (by simpa [gvOk] using h))
/-- the module's name x is this tuple -/
def GT (K : PySem.W.Frag) (mg : Str → Option Value) (x : Str) (ds : List D) : Prop := mg x = some (.ref (He.ga K x)) ∧ He.tupB K x (ds.map gvD) = true ∧ gvOk ds = true
theorem je_gtup {x : Str} {ds : List D} (hg : Gl X x) (hm : GT X.K X.mg x ds) (hd : (x == ("__debug__" : Str)) = false := by decide) : JE X W (.Name x pos) (dC (.tup ds)) :=
  je_c (pe_glob (v := .ref (He.ga X.K x)) hg hm.1 rfl hd) (fun _ _ _ h => h) fun S => .tup (He.tupB_ok hm.2.1 S) (gvAll X.K hm.2.2).rp
end
/-! ### the head's facts, and more -/
def exG (n : Nat) (fa : List He.Fa) (fn : List He.DefD) (ex : PySem.W.Frag → Bool) (g : Addr → Option Obj) : He.AlD × Bool := (He.obsDG n fa fn g, ex (He.frG g (He.asD g n)))
def hookX (n : Nat) (fa : List He.Fa) (fn : List He.DefD) (ex : PySem.W.Frag → Bool) : PySem.W.Hook where
  α := He.AlD × Bool
  obs := fun s => exG n fa fn ex s.heap.get?
  val := fun _ => (He.valD fn, true)
  says := fun _ h => ∃ K : PySem.W.Frag, K.In h ∧ He.SaysD fa fn K ∧ ex K = true
  of := fun _ _ e => ⟨_, He.frG_in, congrArg Prod.fst e, congrArg Prod.snd e⟩
  keeps := fun _ _ _ ⟨K, hK, c⟩ k => ⟨K, PySem.W.Frag.In.keeps hK k, c⟩
theorem exG_eq {n : Nat} {fa : List He.Fa} {fn : List He.DefD} {ex : PySem.W.Frag → Bool} {g : Addr → Option Obj} {s : Shared} (h : ∀ a, g a = s.heap.get? a) : exG n fa fn ex g = (hookX n fa fn ex).obs s := by
  have e : g = s.heap.get? := funext h
  rw [e] <;> rfl
/-! ### simp lemmas -/
@[simp] theorem asIs_ints : ∀ xs : List Int, asIs (xs.map D.int) = some xs
  | [] => rfl
  | x :: r => by simp [asIs, asIs_ints r]
@[simp] theorem asBs_bls : ∀ xs : List Bool, asBs (xs.map D.bl) = some xs
  | [] => rfl
  | x :: r => by simp [asBs, asBs_bls r]
@[simp] theorem sortedV_ints (own : Bool) (xs : List Int) (m : Mem) : sortedV own [.dat (.lst (xs.map D.int))] m = frs own ((sortI xs).map D.int) m := by simp [sortedV, rdL]
@[simp] theorem revVl_lst (own : Bool) (xs : List D) (m : Mem) : revVl own (.dat (.lst xs)) m = frs own xs.reverse m := (rfl)
@[simp] theorem repV_lst (own : Bool) (xs : List D) (k : Int) (m : Mem) : repV own (.dat (.lst xs)) (.dat (.int k)) m = if -(2 ^ 63) ≤ k ∧ k < 2 ^ 63 ∧ xs.length * k.toNat ≤ 16777216 then frs own (List.replicate k.toNat xs).flatten m else .stuck := (rfl)
@[simp] theorem eqV_lstI (xs ys : List Int) (m : Mem) : PL.eqV (.dat (.lst (xs.map D.int))) (.dat (.lst (ys.map D.int))) m = .ok (.dat (.bl (decide (xs = ys)))) m := by simp [PL.eqV, svD, okD_ints, eqd_ints]
@[simp] theorem neV_lstI (xs ys : List Int) (m : Mem) : PL.neV (.dat (.lst (xs.map D.int))) (.dat (.lst (ys.map D.int))) m = .ok (.dat (.bl (!decide (xs = ys)))) m := by simp [PL.neV, svD, okD_ints, eqd_ints]
theorem eqd_bl (a b : Bool) : eqd (.bl a) (.bl b) = (a == b) := by simp [eqd, toPy, PyData.eqv]
theorem eqv_num (a b : PyData) : True := trivial
theorem eqd_lst_cons (x y : D) (xs ys : List D) : eqd (.lst (x :: xs)) (.lst (y :: ys)) = (eqd x y && eqd (.lst xs) (.lst ys)) := by simp [eqd, toPy, toPys, PyData.eqv, PyData.eqvAll]
theorem eqd_lst_nil : eqd (.lst []) (.lst []) = true := by simp [eqd, toPy, toPys, PyData.eqv, PyData.eqvAll]
theorem eqd_tup_cons (x y : D) (xs ys : List D) : eqd (.tup (x :: xs)) (.tup (y :: ys)) = (eqd x y && eqd (.tup xs) (.tup ys)) := by simp [eqd, toPy, toPys, PyData.eqv, PyData.eqvAll]
theorem eqd_tup_nil : eqd (.tup []) (.tup []) = true := by simp [eqd, toPy, toPys, PyData.eqv, PyData.eqvAll]
theorem plains_cons (x : D) (xs : List D) : plains (x :: xs) = (plain x && plains xs) := by simp [plains]
/-- small things that may be compared -/
def ok1 (d : D) : Bool := plain d && decide (dep d ≤ 63)
theorem okD_lst1 (xs : List D) (h : ∀ x ∈ xs, ok1 x = true) : okD (.lst xs) = true := by
  have a : plains xs = true ∧ deps xs ≤ 63 := by
    induction xs with
    | nil => simp [plains, deps]
    | cons x r ih =>
      obtain ⟨i1, i2⟩ := ih fun y hy => h y (List.mem_cons_of_mem _ hy)
      have h1 := h x List.mem_cons_self
      simp [ok1] at h1
      simp [plains, deps, i1, h1.1]
      omega
  simp [okD, plain, dep, a.1]
  omega
end PL

/-! PL8: zip, enumerate of lists and tuples, ranges with a step, calls by keyword. -/
namespace PL
open PySem PySem.Spec PyProof.Rows L2
/-! ### sources: a tuple (true), a list (false) -/
def SqK (k : Bool) (K : PySem.W.Frag) (H : Hp) (a : Addr) (xs : List V) : Prop := match k with
  | true => SqT K H a xs
  | false => SqL K H a xs
def ItK (k : Bool) (h : Heap) (it l : Addr) (i : Nat) : Prop := match k with
  | true => h.IsTupleIter it l i
  | false => h.IsListIter it l i
def IsK (k : Bool) (h : Heap) (l : Addr) (its : Array Value) : Prop := match k with
  | true => h.IsTuple l its
  | false => h.IsList l its
def itO (k : Bool) (l : Addr) : Obj := match k with
  | true => { cls := .type "tuple_iterator", data := .fields #[.ref l, .int 0 0] }
  | false => { cls := .type "list_iterator", data := .fields #[.ref l, .int 0 0] }
theorem ItK.at {k : Bool} {h h' : Heap} {it l : Addr} {i : Nat} (x : ItK k h it l i) (f : ∀ o, h.get? it = some o → h'.get? it = some o) : ItK k h' it l i := by
  cases k with
  | true => exact Heap.IsTupleIter.at x f
  | false => exact Heap.IsListIter.at x f
theorem ItK.obj {k : Bool} {h : Heap} {it l : Addr} {i : Nat} (x : ItK k h it l i) : ∃ o, h.get? it = some o ∧ ∀ v, o.data ≠ .cell v := by
  cases k with
  | true => obtain ⟨o, e, _, d⟩ := x; exact ⟨o, e, fun v q => by rw [d] at q; cases q⟩
  | false => obtain ⟨o, e, _, d⟩ := x; exact ⟨o, e, fun v q => by rw [d] at q; cases q⟩
theorem ItK.new {k : Bool} {h : Heap} {it l : Addr} (e : h.get? it = some (itO k l)) : ItK k h it l 0 := by
  cases k with
  | true => exact ⟨_, e, rfl, rfl⟩
  | false => exact ⟨_, e, rfl, rfl⟩
theorem drawsK {prog : Program} {w : World} {A : Around} (hh : A.handled = none) (k : Bool) (it l : Addr) (hne : l ≠ it) (items : Array Value) :
    Draws prog w A it [it, l] items.size (fun i v => items[i]? = some v) (fun i h => ItK k h it l i ∧ IsK k h l items) := by
  cases k with
  | true => exact Draws.tuple hh it l hne items
  | false => exact Draws.list hh it l hne items
theorem beginsK (k : Bool) (l : Addr) (items : Array Value) : Begins (.ref l) (itO k l) fun h => IsK k h l items := by
  cases k with
  | true => exact begins_tuple l items
  | false => exact begins_list l items
theorem Inv.seqK {X : Cx} {pins : List (Addr × Obj)} {σ : St} {H : Hp} {s : Shared} {k : Bool} {a : Addr} {xs : List V} (I : Inv X pins σ H s) (h : SqK k X.K H a xs) : ∃ its, Vals xs its ∧ IsK k s.heap a its.toArray ∧ a < s.heap.objs.size := by
  cases k with
  | true => obtain ⟨its, rv, p, _⟩ := I.tuple h; exact ⟨its, rv, p, by obtain ⟨_, e, _⟩ := p; exact Heap.lt_size e⟩
  | false => obtain ⟨its, rv, p, _⟩ := I.list h; exact ⟨its, rv, p.isList, p.lt⟩
theorem Inv.seqK_inj {X : Cx} {pins : List (Addr × Obj)} {σ : St} {H : Hp} {s : Shared} {k : Bool} {a : Addr} {xs ys : List V} (I : Inv X pins σ H s) (h : SqK k X.K H a xs) (h' : SqK k X.K H a ys) : xs = ys := by
  cases k with
  | true => exact I.tuple_inj h h'
  | false => exact I.list_inj h h'
/-- zip of two -/
def ItZ2 (K : PySem.W.Frag) (k1 k2 : Bool) (a b : Addr) : It :=
  ⟨fun i H => ∃ (xs ys : List V) (x y : V), SqK k1 K H a xs ∧ SqK k2 K H b ys ∧ xs[i]? = some x ∧ ys[i]? = some y,
    fun i H v H' => ∃ T x y, v = .ref T ∧ H T = none ∧ H' = upd H T (.tup [x, y]) ∧ (∀ xs, SqK k1 K H a xs → xs[i]? = some x) ∧ ∀ ys, SqK k2 K H b ys → ys[i]? = some y,
    fun i H => ∃ xs ys : List V, SqK k1 K H a xs ∧ SqK k2 K H b ys ∧ i ≤ xs.length ∧ i ≤ ys.length ∧ (i = xs.length ∨ i = ys.length)⟩
theorem turn_Z2 {P : Program} {w : World} {K : PySem.W.Frag} {elts : List Expr} {kk : Nat} {tpos : Pos} {k1 k2 : Bool} {a b z TI TO i1 i2 : Addr} (D : ZipSep2 z TI TO i1 i2 [i1, a] [i2, b]) (n1 : a ≠ i1) (n2 : b ≠ i2) :
    Turn P w K (.Tuple elts kk tpos) (ItZ2 K k1 k2 a b) [z, TI, TO, i1, i2] z (fun i h => IsZip h z TI TO .none ∧ IsTupOf2 h TI (.ref i1) (.ref i2) ∧ (∃ x y, IsTupOf2 h TO x y) ∧ ItK k1 h i1 a i ∧ ItK k2 h i2 b i) where
  mem := by simp
  obj := fun i h st c hc => by
    obtain ⟨hz, hTI, ⟨x, y, hTO⟩, h1, h2⟩ := st
    have e' : c = z ∨ c = TI ∨ c = TO ∨ c = i1 ∨ c = i2 := by simpa using hc
    rcases e' with q | q | q | q | q
    · rw [q]; exact ⟨_, hz, fun v q => nomatch q⟩
    · rw [q]; exact ⟨_, hTI, fun v q => nomatch q⟩
    · rw [q]; exact ⟨_, hTO, fun v q => nomatch q⟩
    · rw [q]; exact h1.obj
    · rw [q]; exact h2.obj
  keep := fun i h h' st k => by
    obtain ⟨hz, hTI, ⟨x, y, hTO⟩, h1, h2⟩ := st
    exact ⟨k z (by simp) _ hz, k TI (by simp) _ hTI, ⟨x, y, k TO (by simp) _ hTO⟩, h1.at fun o q => k i1 (by simp) o q, h2.at fun o q => k i2 (by simp) o q⟩
  item := by
    intro X hP hw hK hc i pins s σ H E I hf st hg
    subst hP hw hK
    obtain ⟨hz, hTI, ⟨x0, y0, hTO⟩, h1, h2⟩ := st
    obtain ⟨xs, ys, x, y, hqx, hqy, hx, hy⟩ := hg
    obtain ⟨its, rv, p, _⟩ := Inv.seqK I hqx
    obtain ⟨its2, rv2, p2, _⟩ := Inv.seqK I hqy
    obtain ⟨u, hu, ru⟩ := rv.get hx
    obtain ⟨u2, hu2, ru2⟩ := rv2.get hy
    have hzl : z < s.heap.objs.size := Heap.lt_size hz
    have hh : X.A.in1.handled = none := I.ok.hd hc
    have lt1 : i < its.toArray.size := by have := (List.getElem?_eq_some_iff.mp hu).1; simpa using this
    have lt2 : i < its2.toArray.size := by have := (List.getElem?_eq_some_iff.mp hu2).1; simpa using this
    refine wpAny_pyNext_zipD2_item D (drawsK hh k1 i1 a n1 its.toArray) (drawsK hh k2 i2 b n2 its2.toArray) hz hTI hTO ⟨h1, p⟩ ⟨h2, p2⟩ lt1 lt2 fun v1 v2 h' tk q1 q2 z' TO' h1' h2' hT hsz hk => ?_
    have e1 : v1 = u := by
      have : its[i]? = some v1 := by simpa using q1
      rw [hu] at this
      exact (Option.some.inj this).symm
    have e2 : v2 = u2 := by
      have : its2[i]? = some v2 := by simpa using q2
      rw [hu2] at this
      exact (Option.some.inj this).symm
    subst e1 e2
    refine ⟨_, rfl, wpAny_letOwnedTupleGo_zip (s := { s with heap := h', toks := tk }) z' fun h'' z'' sb => ?_⟩
    have hT2 : h''.get? s.heap.objs.size = some { cls := .type "tuple", data := .seq #[v1, v2] } := (sb.2 _ (Nat.ne_of_gt hzl)).trans hT
    have new : ObjOk X.prog X.w (upd H s.heap.objs.size (.tup [x, y])) h'' s.heap.objs.size (.tup [x, y]) :=
      ⟨by show 2 ≤ sizeLine; decide, [v1, v2], .cons ru (.cons ru2 .nil), ⟨_, hT2, rfl, _, rfl⟩⟩
    have I1 : Inv X pins σ (upd H s.heap.objs.size (.tup [x, y])) { s with heap := h'', toks := tk } :=
      I.turnedNew (ch := [z, TI, TO, i1, i2]) (fun c o hb q => (sb.2 c (fun q' => hb (by simp [q']))).trans (hk c o (fun q' => hb (by simp [q'])) (fun q' => hb (by simp [q'])) (fun q' => hb (by simp [q'])) (fun q' => hb (by simp [q'])) q)) hf (Nat.le_refl _) new
    refine ⟨.ref s.heap.objs.size, _, I1, rfl, ⟨_, x, y, rfl, I.hok.fresh (Nat.le_refl _), rfl, fun l hl => by rw [Inv.seqK_inj I hl hqx]; exact hx, fun l hl => by rw [Inv.seqK_inj I hl hqy]; exact hy⟩, ⟨z'', ?_, ⟨v1, v2, ?_⟩, ?_, ?_⟩, fun c hcm => ?_⟩
    · exact (sb.2 _ D.TIz).trans (hk _ _ D.TIz D.TITO D.TIi1 D.TIi2 hTI)
    · exact (sb.2 _ D.TOz).trans TO'
    · exact h1'.1.at fun o q => (sb.2 _ (Ne.symm D.zi1)).trans q
    · exact h2'.1.at fun o q => (sb.2 _ (Ne.symm D.zi2)).trans q
    · have hlt : c < s.heap.objs.size := by
        have e' : c = z ∨ c = TI ∨ c = TO ∨ c = i1 ∨ c = i2 := by simpa using hcm
        rcases e' with q | q | q | q | q
        · rw [q]; exact hzl
        · rw [q]; exact Heap.lt_size hTI
        · rw [q]; exact Heap.lt_size hTO
        · rw [q]; obtain ⟨_, e1, _⟩ := h1.obj; exact Heap.lt_size e1
        · rw [q]; obtain ⟨_, e2, _⟩ := h2.obj; exact Heap.lt_size e2
      rw [upd_ne (Nat.ne_of_lt hlt)]
      exact (hf c hcm).1
  done := by
    intro X hP hw hK hc i pins s σ H E I hf st hg
    subst hP hw hK
    obtain ⟨hz, hTI, ⟨x0, y0, hTO⟩, h1, h2⟩ := st
    obtain ⟨xs, ys, hqx, hqy, le1, le2, hend⟩ := hg
    obtain ⟨its, rv, p, _⟩ := Inv.seqK I hqx
    obtain ⟨its2, rv2, p2, _⟩ := Inv.seqK I hqy
    have l1 := rv.length
    have l2 := rv2.length
    have hh : X.A.in1.handled = none := I.ok.hd hc
    exact wpAny_pyNext_zipD2_end D (drawsK hh k1 i1 a n1 its.toArray) (drawsK hh k2 i2 b n2 its2.toArray) hz hTI hTO ⟨h1, p⟩ ⟨h2, p2⟩ (by simp; omega) (by simp; omega) (by simp; omega) fun h' tk hk => ⟨rfl, I.turnedL (ch := [z, TI, TO, i1, i2]) (fun c o hb q =>
      hk c o (fun q' => hb (by simp [q'])) (fun q' => hb (by simp [q'])) (fun q' => hb (by simp [q'])) (fun q' => hb (by simp [q'])) q) hf⟩
  self := fun A i s Q E st h => wpAny_pyIter_zip st.1 h
/-- zip of three -/
def ItZ3 (K : PySem.W.Frag) (k1 k2 k3 : Bool) (a b c3 : Addr) : It :=
  ⟨fun i H => ∃ (xs ys zs : List V) (x y t : V), SqK k1 K H a xs ∧ SqK k2 K H b ys ∧ SqK k3 K H c3 zs ∧ xs[i]? = some x ∧ ys[i]? = some y ∧ zs[i]? = some t,
    fun i H v H' => ∃ T x y t, v = .ref T ∧ H T = none ∧ H' = upd H T (.tup [x, y, t]) ∧ (∀ xs, SqK k1 K H a xs → xs[i]? = some x) ∧ (∀ ys, SqK k2 K H b ys → ys[i]? = some y) ∧ ∀ zs, SqK k3 K H c3 zs → zs[i]? = some t,
    fun i H => ∃ xs ys zs : List V, SqK k1 K H a xs ∧ SqK k2 K H b ys ∧ SqK k3 K H c3 zs ∧ i ≤ xs.length ∧ i ≤ ys.length ∧ i ≤ zs.length ∧ (i = xs.length ∨ i = ys.length ∨ i = zs.length)⟩
theorem turn_Z3 {P : Program} {w : World} {K : PySem.W.Frag} {elts : List Expr} {kk : Nat} {tpos : Pos} {k1 k2 k3 : Bool} {a b c3 z TI TO i1 i2 i3 : Addr} (D : ZipSep3 z TI TO i1 i2 i3 [i1, a] [i2, b] [i3, c3]) (n1 : a ≠ i1) (n2 : b ≠ i2) (n3 : c3 ≠ i3) :
    Turn P w K (.Tuple elts kk tpos) (ItZ3 K k1 k2 k3 a b c3) [z, TI, TO, i1, i2, i3] z (fun i h => IsZip h z TI TO .none ∧ IsTupOf3 h TI (.ref i1) (.ref i2) (.ref i3) ∧ (∃ x y t, IsTupOf3 h TO x y t) ∧ ItK k1 h i1 a i ∧ ItK k2 h i2 b i ∧ ItK k3 h i3 c3 i) where
  mem := by simp
  obj := fun i h st c hc => by
    obtain ⟨hz, hTI, ⟨x, y, t, hTO⟩, h1, h2, h3⟩ := st
    have e' : c = z ∨ c = TI ∨ c = TO ∨ c = i1 ∨ c = i2 ∨ c = i3 := by simpa using hc
    rcases e' with q | q | q | q | q | q
    · rw [q]; exact ⟨_, hz, fun v q => nomatch q⟩
    · rw [q]; exact ⟨_, hTI, fun v q => nomatch q⟩
    · rw [q]; exact ⟨_, hTO, fun v q => nomatch q⟩
    · rw [q]; exact h1.obj
    · rw [q]; exact h2.obj
    · rw [q]; exact h3.obj
  keep := fun i h h' st k => by
    obtain ⟨hz, hTI, ⟨x, y, t, hTO⟩, h1, h2, h3⟩ := st
    exact ⟨k z (by simp) _ hz, k TI (by simp) _ hTI, ⟨x, y, t, k TO (by simp) _ hTO⟩, h1.at fun o q => k i1 (by simp) o q, h2.at fun o q => k i2 (by simp) o q, h3.at fun o q => k i3 (by simp) o q⟩
  item := by
    intro X hP hw hK hc i pins s σ H E I hf st hg
    subst hP hw hK
    obtain ⟨hz, hTI, ⟨x0, y0, t0, hTO⟩, h1, h2, h3⟩ := st
    obtain ⟨xs, ys, zs, x, y, t, hqx, hqy, hqt, hx, hy, ht⟩ := hg
    obtain ⟨its, rv, p, _⟩ := Inv.seqK I hqx
    obtain ⟨its2, rv2, p2, _⟩ := Inv.seqK I hqy
    obtain ⟨its3, rv3, p3, _⟩ := Inv.seqK I hqt
    obtain ⟨u, hu, ru⟩ := rv.get hx
    obtain ⟨u2, hu2, ru2⟩ := rv2.get hy
    obtain ⟨u3, hu3, ru3⟩ := rv3.get ht
    have hzl : z < s.heap.objs.size := Heap.lt_size hz
    have hh : X.A.in1.handled = none := I.ok.hd hc
    have lt1 : i < its.toArray.size := by have := (List.getElem?_eq_some_iff.mp hu).1; simpa using this
    have lt2 : i < its2.toArray.size := by have := (List.getElem?_eq_some_iff.mp hu2).1; simpa using this
    have lt3 : i < its3.toArray.size := by have := (List.getElem?_eq_some_iff.mp hu3).1; simpa using this
    refine wpAny_pyNext_zipD3_item D (drawsK hh k1 i1 a n1 its.toArray) (drawsK hh k2 i2 b n2 its2.toArray) (drawsK hh k3 i3 c3 n3 its3.toArray) hz hTI hTO ⟨h1, p⟩ ⟨h2, p2⟩ ⟨h3, p3⟩ lt1 lt2 lt3 fun v1 v2 v3 h' tk q1 q2 q3 z' TO' h1' h2' h3' hT hsz hk => ?_
    have e1 : v1 = u := by
      have : its[i]? = some v1 := by simpa using q1
      rw [hu] at this
      exact (Option.some.inj this).symm
    have e2 : v2 = u2 := by
      have : its2[i]? = some v2 := by simpa using q2
      rw [hu2] at this
      exact (Option.some.inj this).symm
    have e3 : v3 = u3 := by
      have : its3[i]? = some v3 := by simpa using q3
      rw [hu3] at this
      exact (Option.some.inj this).symm
    subst e1 e2 e3
    refine ⟨_, rfl, wpAny_letOwnedTupleGo_zip (s := { s with heap := h', toks := tk }) z' fun h'' z'' sb => ?_⟩
    have hT2 : h''.get? s.heap.objs.size = some { cls := .type "tuple", data := .seq #[v1, v2, v3] } := (sb.2 _ (Nat.ne_of_gt hzl)).trans hT
    have new : ObjOk X.prog X.w (upd H s.heap.objs.size (.tup [x, y, t])) h'' s.heap.objs.size (.tup [x, y, t]) :=
      ⟨by show 3 ≤ sizeLine; decide, [v1, v2, v3], .cons ru (.cons ru2 (.cons ru3 .nil)), ⟨_, hT2, rfl, _, rfl⟩⟩
    have I1 : Inv X pins σ (upd H s.heap.objs.size (.tup [x, y, t])) { s with heap := h'', toks := tk } :=
      I.turnedNew (ch := [z, TI, TO, i1, i2, i3]) (fun c o hb q => (sb.2 c (fun q' => hb (by simp [q']))).trans (hk c o (fun q' => hb (by simp [q'])) (fun q' => hb (by simp [q'])) (fun q' => hb (by simp [q'])) (fun q' => hb (by simp [q'])) (fun q' => hb (by simp [q'])) q)) hf (Nat.le_refl _) new
    refine ⟨.ref s.heap.objs.size, _, I1, rfl, ⟨_, x, y, t, rfl, I.hok.fresh (Nat.le_refl _), rfl, fun l hl => by rw [Inv.seqK_inj I hl hqx]; exact hx, fun l hl => by rw [Inv.seqK_inj I hl hqy]; exact hy, fun l hl => by rw [Inv.seqK_inj I hl hqt]; exact ht⟩, ⟨z'', ?_, ⟨v1, v2, v3, ?_⟩, ?_, ?_, ?_⟩, fun c hcm => ?_⟩
    · exact (sb.2 _ D.TIz).trans (hk _ _ D.TIz D.TITO D.TIi1 D.TIi2 D.TIi3 hTI)
    · exact (sb.2 _ D.TOz).trans TO'
    · exact h1'.1.at fun o q => (sb.2 _ (Ne.symm D.zi1)).trans q
    · exact h2'.1.at fun o q => (sb.2 _ (Ne.symm D.zi2)).trans q
    · exact h3'.1.at fun o q => (sb.2 _ (Ne.symm D.zi3)).trans q
    · have hlt : c < s.heap.objs.size := by
        have e' : c = z ∨ c = TI ∨ c = TO ∨ c = i1 ∨ c = i2 ∨ c = i3 := by simpa using hcm
        rcases e' with q | q | q | q | q | q
        · rw [q]; exact hzl
        · rw [q]; exact Heap.lt_size hTI
        · rw [q]; exact Heap.lt_size hTO
        · rw [q]; obtain ⟨_, e1, _⟩ := h1.obj; exact Heap.lt_size e1
        · rw [q]; obtain ⟨_, e2, _⟩ := h2.obj; exact Heap.lt_size e2
        · rw [q]; obtain ⟨_, e3, _⟩ := h3.obj; exact Heap.lt_size e3
      rw [upd_ne (Nat.ne_of_lt hlt)]
      exact (hf c hcm).1
  done := by
    intro X hP hw hK hc i pins s σ H E I hf st hg
    subst hP hw hK
    obtain ⟨hz, hTI, ⟨x0, y0, t0, hTO⟩, h1, h2, h3⟩ := st
    obtain ⟨xs, ys, zs, hqx, hqy, hqt, le1, le2, le3, hend⟩ := hg
    obtain ⟨its, rv, p, _⟩ := Inv.seqK I hqx
    obtain ⟨its2, rv2, p2, _⟩ := Inv.seqK I hqy
    obtain ⟨its3, rv3, p3, _⟩ := Inv.seqK I hqt
    have l1 := rv.length
    have l2 := rv2.length
    have l3 := rv3.length
    have hh : X.A.in1.handled = none := I.ok.hd hc
    exact wpAny_pyNext_zipD3_end D (drawsK hh k1 i1 a n1 its.toArray) (drawsK hh k2 i2 b n2 its2.toArray) (drawsK hh k3 i3 c3 n3 its3.toArray) hz hTI hTO ⟨h1, p⟩ ⟨h2, p2⟩ ⟨h3, p3⟩ (by simp; omega) (by simp; omega) (by simp; omega) (by simp; omega) fun h' tk hk => ⟨rfl, I.turnedL (ch := [z, TI, TO, i1, i2, i3]) (fun c o hb q =>
      hk c o (fun q' => hb (by simp [q'])) (fun q' => hb (by simp [q'])) (fun q' => hb (by simp [q'])) (fun q' => hb (by simp [q'])) (fun q' => hb (by simp [q'])) q) hf⟩
  self := fun A i s Q E st h => wpAny_pyIter_zip st.1 h
/-! ### enumerate -/
def ItE (K : PySem.W.Frag) (k : Bool) (a : Addr) : It :=
  ⟨fun i H => ∃ (xs : List V) (x : V), SqK k K H a xs ∧ xs[i]? = some x,
    fun i H v H' => ∃ T x, v = .ref T ∧ H T = none ∧ H' = upd H T (.tup [.int (i : Nat), x]) ∧ ∀ xs, SqK k K H a xs → xs[i]? = some x,
    fun i H => ∃ xs : List V, SqK k K H a xs ∧ i = xs.length⟩
theorem turn_E {P : Program} {w : World} {K : PySem.W.Frag} {elts : List Expr} {kk : Nat} {tpos : Pos} {k : Bool} {a e it : Addr} (hne : e ≠ it) (hea : e ≠ a) (n1 : a ≠ it) :
    Turn P w K (.Tuple elts kk tpos) (ItE K k a) [e, it] e (fun i h => (∃ old, IsEnum h e it ((i : Nat) : Int) old) ∧ ItK k h it a i) where
  mem := by simp
  obj := fun i h st b hb => by
    obtain ⟨⟨old, he⟩, hi⟩ := st
    have e' : b = e ∨ b = it := by simpa using hb
    rcases e' with z | z
    · rw [z]; exact ⟨_, he, fun v q => nomatch q⟩
    · rw [z]; exact hi.obj
  keep := fun i h h' st k => let ⟨⟨old, he⟩, hi⟩ := st; ⟨⟨old, k e (by simp) _ he⟩, hi.at fun o q => k it (by simp) o q⟩
  item := by
    intro X hP hw hK hc i pins s σ H E I hf st hg
    subst hP hw hK
    obtain ⟨⟨old, he⟩, hit⟩ := st
    obtain ⟨xs, x, hq, hx⟩ := hg
    obtain ⟨its, rv, p, _⟩ := Inv.seqK I hq
    obtain ⟨u, hu, ru⟩ := rv.get hx
    have hel : e < s.heap.objs.size := Heap.lt_size he
    have hil : it < s.heap.objs.size := by obtain ⟨_, q, _⟩ := hit.obj; exact Heap.lt_size q
    have hh : X.A.in1.handled = none := I.ok.hd hc
    have lt1 : i < its.toArray.size := by have := (List.getElem?_eq_some_iff.mp hu).1; simpa using this
    refine wpAny_pyNext_enum_itemD (drawsK hh k it a n1 its.toArray) he ⟨hit, p⟩ lt1 hne (by simp [hne, hea]) fun v h' tk q1 ho hit' hT hsz hk => ?_
    have e1 : v = u := by
      have : its[i]? = some v := by simpa using q1
      rw [hu] at this
      exact (Option.some.inj this).symm
    subst e1
    refine ⟨_, rfl, wpAny_letOwnedTupleGo_enum (s := { s with heap := h', toks := tk + 1 }) ho fun h'' he' sb => ?_⟩
    have hT2 : h''.get? s.heap.objs.size = some { cls := .type "tuple", data := .seq #[.int i tk, v] } := (sb.2 _ (Nat.ne_of_gt hel)).trans hT
    have new : ObjOk X.prog X.w (upd H s.heap.objs.size (.tup [.int (i : Nat), x])) h'' s.heap.objs.size (.tup [.int (i : Nat), x]) :=
      ⟨by show 2 ≤ sizeLine; decide, [.int i tk, v], .cons ⟨_, rfl⟩ (.cons ru .nil), ⟨_, hT2, rfl, _, rfl⟩⟩
    have I1 : Inv X pins σ (upd H s.heap.objs.size (.tup [.int (i : Nat), x])) { s with heap := h'', toks := tk + 1 } :=
      I.turnedNew (ch := [e, it]) (fun b ob hb q => (sb.2 b (fun z => hb (by simp [z]))).trans (hk b ob (fun z => hb (by simp [z])) (fun z => hb (by simp [z])) q)) hf (Nat.le_refl _) new
    refine ⟨.ref s.heap.objs.size, _, I1, rfl, ⟨_, x, rfl, I.hok.fresh (Nat.le_refl _), rfl, fun ys hy => by rw [Inv.seqK_inj I hy hq]; exact hx⟩, ⟨⟨v, ?_⟩, hit'.1.at fun o q => (sb.2 it (Ne.symm hne)).trans q⟩, fun b hb => ?_⟩
    · have e1 : ((i + 1 : Nat) : Int) = (i : Int) + 1 := by omega
      rw [e1]; exact he'
    · have hb' : b < s.heap.objs.size := by
        have e' : b = e ∨ b = it := by simpa using hb
        rcases e' with z | z
        · rw [z]; exact hel
        · rw [z]; exact hil
      rw [upd_ne (Nat.ne_of_lt hb')]
      exact (hf b hb).1
  done := by
    intro X hP hw hK hc i pins s σ H E I hf st hg
    subst hP hw hK
    obtain ⟨⟨old, he⟩, hit⟩ := st
    obtain ⟨xs, hq, hx⟩ := hg
    obtain ⟨its, rv, p, hz⟩ := Inv.seqK I hq
    have hl := rv.length
    have hh : X.A.in1.handled = none := I.ok.hd hc
    obtain ⟨f0, f1, f2, f3, f4, f5⟩ := hf it (by simp)
    have ei : i = its.toArray.size := by simp; omega
    refine wpAny_pyNext_enum_endD (drawsK hh k it a n1 its.toArray) he ⟨by rw [← ei]; exact hit, p⟩ fun h' eb => ⟨rfl, I.turned (t' := s.toks) (fun b o hb q => eb b o hb q) f0 f1 f3 f4 f5⟩
  self := fun A i s Q E st h => let ⟨⟨_, he⟩, _⟩ := st; wpAny_pyIter_enum he h
end PL

/-! PL9: walks over zip, enumerate, ranges with a step; calls by keyword; parallel stores; reversed tuples. -/
namespace PL
open PySem PySem.Spec PyProof.Rows L2
/-- a sequence that stands still: is it a tuple, and its items -/
def seqD (v : SV) : Option (Bool × List D) := match v with
  | .dat (.tup xs) => some (true, xs)
  | .dat (.lst xs) => some (false, xs)
  | .dat (.scr ns) => some (false, ns.map D.int)
  | _ => none
@[simp] theorem seqD_tup (xs : List D) : seqD (.dat (.tup xs)) = some (true, xs) := (rfl)
@[simp] theorem seqD_lst (xs : List D) : seqD (.dat (.lst xs)) = some (false, xs) := (rfl)
theorem seqD_ok {Γ : Gd} {S : Hp} {ρ : List Addr} {v : V} {x : SV} {k : Bool} {ds : List D} (r : RSV Γ S ρ v x) (h : seqD x = some (k, ds)) : ∃ a vs, v = .ref a ∧ SqK k Γ.K S a vs ∧ RpAll Γ S vs ds := by
  unfold seqD at h
  split at h
  · cases h
    cases r with
    | tup q z => exact ⟨_, _, rfl, q, z⟩
  · cases h
    cases r with
    | lst q z => exact ⟨_, _, rfl, .inl (.inl q), z⟩
  · cases h
    cases r with
    | scr q => exact ⟨_, _, rfl, q, rpAll_ints _⟩
  · cases h
theorem SqK.mono {K : PySem.W.Frag} {k : Bool} {S S' : Hp} {a : Addr} {vs : List V} (s : Same S S') (h : SqK k K S a vs) : SqK k K S' a vs := by
  cases k with
  | true => exact Same.seqT s h
  | false => exact s.seq h
def zipD2 (xs ys : List D) : List D := List.zipWith (fun x y => D.tup [x, y]) xs ys
def zipD3 : List D → List D → List D → List D
  | x :: xs, y :: ys, z :: zs => D.tup [x, y, z] :: zipD3 xs ys zs
  | _, _, _ => []
def opt3 (a b c : Option D) : Option D := match a, b, c with
  | some x, some y, some z => some (D.tup [x, y, z])
  | _, _, _ => none
theorem zipD3_get : ∀ (xs ys zs : List D) (i : Nat), (zipD3 xs ys zs)[i]? = opt3 xs[i]? ys[i]? zs[i]?
  | [], _, _, i => by simp [zipD3, opt3]
  | _ :: _, [], _, i => by simp [zipD3, opt3]
  | _ :: _, _ :: _, [], i => by simp [zipD3, opt3]
  | x :: xs, y :: ys, z :: zs, 0 => by simp [zipD3, opt3]
  | x :: xs, y :: ys, z :: zs, i + 1 => by simp [zipD3, zipD3_get xs ys zs i]
theorem zipD3_length : ∀ (xs ys zs : List D), (zipD3 xs ys zs).length = min (min xs.length ys.length) zs.length
  | [], _, _ => by simp [zipD3]
  | _ :: _, [], _ => by simp [zipD3]
  | _ :: _, _ :: _, [] => by simp [zipD3]
  | x :: xs, y :: ys, z :: zs => by simp [zipD3, zipD3_length xs ys zs] <;> omega
theorem itS_zip2 {Γ : Gd} {S0 : Hp} {k1 k2 : Bool} {a b : Addr} {vs ws : List V} {xs ys : List D} (h1 : SqK k1 Γ.K S0 a vs) (r1 : RpAll Γ S0 vs xs) (h2 : SqK k2 Γ.K S0 b ws) (r2 : RpAll Γ S0 ws ys) : ItS Γ S0 (ItZ2 Γ.K k1 k2 a b) (zipD2 xs ys) := fun i {G S H ρ m} s M => by
  have q1 : SqK k1 Γ.K H a vs := (h1.mono s).mono M.sub
  have q2 : SqK k2 Γ.K H b ws := (h2.mono s).mono M.sub
  have l1 := r1.length
  have l2 := r2.length
  refine ⟨fun hi => ⟨vs, ws, q1, q2, ?_⟩, fun d hd => ?_⟩
  · simp [zipD2] at hi
    omega
  · unfold zipD2 at hd
    rw [List.getElem?_zipWith] at hd
    cases hx : xs[i]? with
    | none => rw [hx] at hd; simp at hd
    | some x =>
      cases hy : ys[i]? with
      | none => rw [hx, hy] at hd; simp at hd
      | some y =>
        rw [hx, hy] at hd
        simp at hd
        subst hd
        obtain ⟨v, hv, rv⟩ := r1.get hx
        obtain ⟨w, hw, rw'⟩ := r2.get hy
        refine ⟨⟨vs, ws, v, w, q1, q2, hv, hw⟩, fun z H' yl => ?_⟩
        obtain ⟨T, v', w', rfl, hT, rfl, f1, f2⟩ := yl
        have e1 := f1 vs q1
        have e2 := f2 ws q2
        rw [hv] at e1
        rw [hw] at e2
        cases e1
        cases e2
        obtain ⟨s1, M1⟩ := M.grow hT (.tup [v, w])
        exact ⟨_, ⟨s1, fun _ _ z => z⟩, M1, .tup (.inl (.inl upd_same)) (.cons (rv.mono (s.trans s1)) (.cons (rw'.mono (s.trans s1)) .nil))⟩
theorem itS_zip3 {Γ : Gd} {S0 : Hp} {k1 k2 k3 : Bool} {a b c : Addr} {vs ws us : List V} {xs ys zs : List D} (h1 : SqK k1 Γ.K S0 a vs) (r1 : RpAll Γ S0 vs xs) (h2 : SqK k2 Γ.K S0 b ws) (r2 : RpAll Γ S0 ws ys) (h3 : SqK k3 Γ.K S0 c us) (r3 : RpAll Γ S0 us zs) : ItS Γ S0 (ItZ3 Γ.K k1 k2 k3 a b c) (zipD3 xs ys zs) := fun i {G S H ρ m} s M => by
  have q1 : SqK k1 Γ.K H a vs := (h1.mono s).mono M.sub
  have q2 : SqK k2 Γ.K H b ws := (h2.mono s).mono M.sub
  have q3 : SqK k3 Γ.K H c us := (h3.mono s).mono M.sub
  have l1 := r1.length
  have l2 := r2.length
  have l3 := r3.length
  refine ⟨fun hi => ⟨vs, ws, us, q1, q2, q3, ?_⟩, fun d hd => ?_⟩
  · rw [zipD3_length] at hi
    omega
  · rw [zipD3_get] at hd
    unfold opt3 at hd
    cases hx : xs[i]? with
    | none => rw [hx] at hd; simp at hd
    | some x =>
      cases hy : ys[i]? with
      | none => rw [hx, hy] at hd; simp at hd
      | some y =>
        cases hz : zs[i]? with
        | none => rw [hx, hy, hz] at hd; simp at hd
        | some z =>
          rw [hx, hy, hz] at hd
          simp at hd
          subst hd
          obtain ⟨v, hv, rv⟩ := r1.get hx
          obtain ⟨w, hw, rw'⟩ := r2.get hy
          obtain ⟨u, hu, ru⟩ := r3.get hz
          refine ⟨⟨vs, ws, us, v, w, u, q1, q2, q3, hv, hw, hu⟩, fun z H' yl => ?_⟩
          obtain ⟨T, v', w', u', rfl, hT, rfl, f1, f2, f3⟩ := yl
          have e1 := f1 vs q1
          have e2 := f2 ws q2
          have e3 := f3 us q3
          rw [hv] at e1
          rw [hw] at e2
          rw [hu] at e3
          cases e1
          cases e2
          cases e3
          obtain ⟨s1, M1⟩ := M.grow hT (.tup [v, w, u])
          exact ⟨_, ⟨s1, fun _ _ z => z⟩, M1, .tup (.inl (.inl upd_same)) (.cons (rv.mono (s.trans s1)) (.cons (rw'.mono (s.trans s1)) (.cons (ru.mono (s.trans s1)) .nil)))⟩
def enumD (xs : List D) : List D := xs.zipIdx.map fun p => D.tup [.int (p.2 : Int), p.1]
theorem itS_enum {Γ : Gd} {S0 : Hp} {k : Bool} {a : Addr} {vs : List V} {xs : List D} (h1 : SqK k Γ.K S0 a vs) (r1 : RpAll Γ S0 vs xs) : ItS Γ S0 (ItE Γ.K k a) (enumD xs) := fun i {G S H ρ m} s M => by
  have q1 : SqK k Γ.K H a vs := (h1.mono s).mono M.sub
  have l1 := r1.length
  refine ⟨fun hi => ⟨vs, q1, by simp [enumD] at hi; omega⟩, fun d hd => ?_⟩
  unfold enumD at hd
  rw [List.getElem?_map, List.getElem?_zipIdx] at hd
  cases hx : xs[i]? with
  | none => rw [hx] at hd; simp at hd
  | some x =>
    rw [hx] at hd
    simp at hd
    subst hd
    obtain ⟨v, hv, rv⟩ := r1.get hx
    refine ⟨⟨vs, v, q1, hv⟩, fun z H' yl => ?_⟩
    obtain ⟨T, v', rfl, hT, rfl, f1⟩ := yl
    have e1 := f1 vs q1
    rw [hv] at e1
    cases e1
    obtain ⟨s1, M1⟩ := M.grow hT (.tup [.int (i : Nat), v])
    exact ⟨_, ⟨s1, fun _ _ z => z⟩, M1, .tup (.inl (.inl upd_same)) (.cons (.int _) (.cons (rv.mono (s.trans s1)) .nil))⟩
def zip2V (xs : List SV) : P (List D) := fun m => match xs with
  | [x, y] => (match seqD x, seqD y with
    | some a, some b => .ok (zipD2 a.2 b.2) m
    | _, _ => .stuck)
  | _ => .stuck
def zip3V (xs : List SV) : P (List D) := fun m => match xs with
  | [x, y, z] => (match seqD x, seqD y, seqD z with
    | some a, some b, some c => .ok (zipD3 a.2 b.2 c.2) m
    | _, _, _ => .stuck)
  | _ => .stuck
def enumV (xs : List SV) : P (List D) := fun m => match xs with
  | [x] => (match seqD x with
    | some a => .ok (enumD a.2) m
    | _ => .stuck)
  | _ => .stuck
section
variable {X : Cx} {W : WX} {p pos tpos : Pos} {a b c : Expr} {elts : List Expr} {kk : Nat} {fs : En → P (List SV)}
theorem paired3 {α β : Type} {F : α → β → Prop} {vs : List α} {x y z : β} (h : Paired F vs [x, y, z]) : ∃ v w u, vs = [v, w, u] ∧ F v x ∧ F w y ∧ F u z := by
  cases h with
  | cons r t => cases t with | cons r' t' => cases t' with | cons r'' t'' => cases t''; exact ⟨_, _, _, rfl, r, r', r''⟩
theorem ji_zip2 (hg : Gl X "zip") (hm : X.mg "zip" = none) (ja : JA X W [a, b] fs) (hs : starEach [a, b] X.env = (false, eval a X.env) :: starEach [b] X.env := by rfl) (hpl : (backTo pos (starEach [b] X.env)).any (·.1) = false := by rfl) :
    JI X W (.Tuple elts kk tpos) (.Call (.Name "zip" p) [a, b] [] pos) (dAI zip2V fs) := ⟨fun {G S H ρ m env σ Rr} M E h pins s I => by
  refine Call_ (ld_blt I hg hm PyProof.Rows.boot_zip (PyProof.Rows.callWith_type1 (thn (ja.run (Q := fun vs H1 => ∃ a b k1 k2 xs ys, vs = [.ref a, .ref b] ∧ SqK k1 X.K H1 a xs ∧ SqK k2 X.K H1 b ys ∧ Rr (ItZ2 X.K k1 k2 a b) H1) M E (wpr_monoQ (wpr_bnd h) fun xs m1 hx => ?_) pos pins s I) fun us s1 ⟨vs, H1, I1, r1, q1⟩ => ?_) hs hpl))
  · intro S1 H1 ρ1 xv e1 M1 rx
    unfold zip2V at hx
    split at hx
    · rename_i x y
      obtain ⟨v, w', rfl, rv, rw'⟩ := paired2 rx
      split at hx
      · rename_i qa qb ea eb
        obtain ⟨ka, da⟩ := qa
        obtain ⟨kb, db⟩ := qb
        obtain ⟨a1, vs, rfl, h1, z1⟩ := seqD_ok rv ea
        obtain ⟨b1, ws, rfl, h2, z2⟩ := seqD_ok rw' eb
        exact ⟨a1, b1, ka, kb, vs, ws, rfl, h1.mono M1.sub, h2.mono M1.sub, hx S1 H1 ρ1 _ e1 M1 (itS_zip2 (Γ := gd X) h1 z1 h2 z2)⟩
      · exact hx.elim
    · exact hx.elim
  · obtain ⟨a1, b1, k1, k2, xs, ys, rfl, h1, h2, q⟩ := q1
    cases r1 with
    | cons r rr =>
      cases rr with
      | cons r' rr =>
        cases rr
        cases r
        cases r'
        obtain ⟨its, rv, p1, la⟩ := Inv.seqK I1 h1
        obtain ⟨its2, rv2, p2, lb⟩ := Inv.seqK I1 h2
        refine zip_begins2 (beginsK k1 a1 its.toArray) (beginsK k2 b1 its2.toArray) p1 p2 fun h' hz hTI hTO e1 e2 hsz hk => wpAny_pyIter_zip hz ?_
        have I2 : Inv X pins σ H1 { s1 with heap := h' } := I1.kept (t' := s1.toks) hk
        have one : ∀ {q : Addr}, q < s1.heap.objs.size → ∀ x ∈ [q], x < s1.heap.objs.size := fun {q} l x hx => by
          have e : x = q := by simpa using hx
          rw [e]; exact l
        refine ⟨s1.heap.objs.size + 4, [s1.heap.objs.size + 4, s1.heap.objs.size + 2, s1.heap.objs.size + 3, s1.heap.objs.size, s1.heap.objs.size + 1], _, _, H1, rfl, I2,
          turn_Z2 (zip_sep2 (N := s1.heap.objs.size) (fp1 := [a1]) (fp2 := [b1]) (one la) (one lb)) (Nat.ne_of_lt la) (Nat.ne_of_lt (Nat.lt_succ_of_lt lb)), ⟨hz, hTI, ⟨_, _, hTO⟩, ItK.new e1, ItK.new e2⟩, fun c hcm => ?_, q⟩
        have hle : s1.heap.objs.size ≤ c := by
          have e' : c = s1.heap.objs.size + 4 ∨ c = s1.heap.objs.size + 2 ∨ c = s1.heap.objs.size + 3 ∨ c = s1.heap.objs.size ∨ c = s1.heap.objs.size + 1 := by simpa using hcm
          rcases e' with z | z | z | z | z
          · rw [z]; exact Nat.le_add_right _ _
          · rw [z]; exact Nat.le_add_right _ _
          · rw [z]; exact Nat.le_add_right _ _
          · rw [z]; exact Nat.le_refl _
          · rw [z]; exact Nat.le_add_right _ _
        exact I1.fpOk hle (I1.hok.fresh hle)⟩
theorem ji_zip3 (hg : Gl X "zip") (hm : X.mg "zip" = none) (ja : JA X W [a, b, c] fs) (hs : starEach [a, b, c] X.env = (false, eval a X.env) :: starEach [b, c] X.env := by rfl) (hpl : (backTo pos (starEach [b, c] X.env)).any (·.1) = false := by rfl) :
    JI X W (.Tuple elts kk tpos) (.Call (.Name "zip" p) [a, b, c] [] pos) (dAI zip3V fs) := ⟨fun {G S H ρ m env σ Rr} M E h pins s I => by
  refine Call_ (ld_blt I hg hm PyProof.Rows.boot_zip (PyProof.Rows.callWith_type1 (thn (ja.run (Q := fun vs H1 => ∃ a b c k1 k2 k3 xs ys zs, vs = [.ref a, .ref b, .ref c] ∧ SqK k1 X.K H1 a xs ∧ SqK k2 X.K H1 b ys ∧ SqK k3 X.K H1 c zs ∧ Rr (ItZ3 X.K k1 k2 k3 a b c) H1) M E (wpr_monoQ (wpr_bnd h) fun xs m1 hx => ?_) pos pins s I) fun us s1 ⟨vs, H1, I1, r1, q1⟩ => ?_) hs hpl))
  · intro S1 H1 ρ1 xv e1 M1 rx
    unfold zip3V at hx
    split at hx
    · rename_i x y z
      obtain ⟨v, w', u, rfl, rv, rw', ru⟩ := paired3 rx
      split at hx
      · rename_i qa qb qc ea eb ec
        obtain ⟨ka, da⟩ := qa
        obtain ⟨kb, db⟩ := qb
        obtain ⟨kc, dc⟩ := qc
        obtain ⟨a1, vs, rfl, h1, z1⟩ := seqD_ok rv ea
        obtain ⟨b1, ws, rfl, h2, z2⟩ := seqD_ok rw' eb
        obtain ⟨c1, us, rfl, h3, z3⟩ := seqD_ok ru ec
        exact ⟨a1, b1, c1, ka, kb, kc, vs, ws, us, rfl, h1.mono M1.sub, h2.mono M1.sub, h3.mono M1.sub, hx S1 H1 ρ1 _ e1 M1 (itS_zip3 (Γ := gd X) h1 z1 h2 z2 h3 z3)⟩
      · exact hx.elim
    · exact hx.elim
  · obtain ⟨a1, b1, c1, k1, k2, k3, xs, ys, zs, rfl, h1, h2, h3, q⟩ := q1
    cases r1 with
    | cons r rr =>
      cases rr with
      | cons r' rr =>
        cases rr with
        | cons r'' rr =>
          cases rr
          cases r
          cases r'
          cases r''
          obtain ⟨its, rv, p1, la⟩ := Inv.seqK I1 h1
          obtain ⟨its2, rv2, p2, lb⟩ := Inv.seqK I1 h2
          obtain ⟨its3, rv3, p3, lc⟩ := Inv.seqK I1 h3
          refine zip_begins3 (beginsK k1 a1 its.toArray) (beginsK k2 b1 its2.toArray) (beginsK k3 c1 its3.toArray) p1 p2 p3 fun h' hz hTI hTO e1 e2 e3 hsz hk => wpAny_pyIter_zip hz ?_
          have I2 : Inv X pins σ H1 { s1 with heap := h' } := I1.kept (t' := s1.toks) hk
          have one : ∀ {q : Addr}, q < s1.heap.objs.size → ∀ x ∈ [q], x < s1.heap.objs.size := fun {q} l x hx => by
            have e : x = q := by simpa using hx
            rw [e]; exact l
          refine ⟨s1.heap.objs.size + 5, [s1.heap.objs.size + 5, s1.heap.objs.size + 3, s1.heap.objs.size + 4, s1.heap.objs.size, s1.heap.objs.size + 1, s1.heap.objs.size + 2], _, _, H1, rfl, I2,
            turn_Z3 (zip_sep3 (N := s1.heap.objs.size) (fp1 := [a1]) (fp2 := [b1]) (fp3 := [c1]) (one la) (one lb) (one lc)) (Nat.ne_of_lt la) (Nat.ne_of_lt (Nat.lt_succ_of_lt lb)) (Nat.ne_of_lt (Nat.lt_succ_of_lt (Nat.lt_succ_of_lt lc))), ⟨hz, hTI, ⟨_, _, _, hTO⟩, ItK.new e1, ItK.new e2, ItK.new e3⟩, fun c hcm => ?_, q⟩
          have hle : s1.heap.objs.size ≤ c := by
            have e' : c = s1.heap.objs.size + 5 ∨ c = s1.heap.objs.size + 3 ∨ c = s1.heap.objs.size + 4 ∨ c = s1.heap.objs.size ∨ c = s1.heap.objs.size + 1 ∨ c = s1.heap.objs.size + 2 := by simpa using hcm
            rcases e' with z | z | z | z | z | z
            · rw [z]; exact Nat.le_add_right _ _
            · rw [z]; exact Nat.le_add_right _ _
            · rw [z]; exact Nat.le_add_right _ _
            · rw [z]; exact Nat.le_refl _
            · rw [z]; exact Nat.le_add_right _ _
            · rw [z]; exact Nat.le_add_right _ _
          exact I1.fpOk hle (I1.hok.fresh hle)⟩
/-! enumerate -/
theorem meets_enumK {v : Value} {o : Obj} {H : Heap → Prop} (B : Begins v o H) :
    Meets (Builtin.«enumerate.__new__» ⟨[.type "enumerate", v], []⟩) (fun _ R s => H s.heap ∧
      R (.ok (.ret (.ref (s.heap.push o).objs.size))) { s with heap := (s.heap.push o).push { cls := .type "enumerate", data := .fields #[.none, .bool false, .ref s.heap.objs.size, rawInt 0, .none, .none] } }) :=
  .of_wp fun prog w A R s h => by
    obtain ⟨hp, g, d, tk, os⟩ := s; obtain ⟨h1, h⟩ := h
    have hsub := sub_enumerate
    have q1 : ∀ {A' : Around} {E : Value → Shared → Prop} {Q : Value → Shared → Prop}, Q (.ref hp.objs.size) ⟨hp.push o, g, d, tk, os⟩ → wpAny (model prog w) A' (pyIter v) Q E ⟨hp, g, d, tk, os⟩ :=
      fun q => B.iter prog w _ _ ⟨hp, g, d, tk, os⟩ _ h1 q
    wp_walk using q1
    refine wpAny_stack_any fun st => wpAny_pure ?_
    split
    · rename_i c _ _ _ _ _
      cases (c == Value.type "enumerate")
      · wp_walk using q1
        exact ⟨_, rfl, h⟩
      · wp_walk using q1
        exact ⟨_, rfl, h⟩
    · wp_walk using q1
      exact ⟨_, rfl, h⟩
theorem enum_begins1 {prog : Program} {w : World} {A : Around} {E : Value → Shared → Prop} {s : Shared} {v : Value} {o : Obj} {H : Heap → Prop} {Q : Value → Shared → Prop} (B : Begins v o H) (h1 : H s.heap)
    (h : ∀ h', IsEnum h' (s.heap.objs.size + 1) s.heap.objs.size 0 .none → h'.get? s.heap.objs.size = some o → h'.objs.size = s.heap.objs.size + 2 →
      (∀ b o, s.heap.get? b = some o → h'.get? b = some o) → Q (.ref (s.heap.objs.size + 1)) { s with heap := h' }) :
    wpAny (model prog w) A (call (.type "enumerate") [v]) Q E s := by
  refine callType_new F.called_enumerate (by decide) (F.typeCall_enumerate_1 _) (F.newCall_enumerate_1 _) (fun obj => F.args_object_init_2 obj _) F.entry_enumerate_new (meets_enumK B) ⟨h1, ?_⟩
  have hz : (s.heap.push o).objs.size = s.heap.objs.size + 1 := Heap.size_push ..
  show _ ∧ _
  rw [hz]
  have he : IsEnum ((s.heap.push o).push { cls := .type "enumerate", data := .fields #[.none, .bool false, .ref s.heap.objs.size, rawInt 0, .none, .none] }) (s.heap.objs.size + 1) s.heap.objs.size 0 .none := by
    have := Heap.get?_push_size (s.heap.push o) (o := { cls := .type "enumerate", data := .fields #[.none, .bool false, .ref s.heap.objs.size, rawInt 0, .none, .none] }) rfl
    rw [hz] at this; exact this
  refine ⟨⟨_, he, rfl⟩, h _ he (Heap.get?_push_of_some _ (Heap.get?_push_size _ B.free)) (by rw [Heap.size_push, hz]) fun b o x => Heap.get?_push_of_some _ (Heap.get?_push_of_some _ x)⟩
theorem ji_enum (hg : Gl X "enumerate") (hm : X.mg "enumerate" = none) (ja : JA X W [a] fs) (hs : starEach [a] X.env = [(false, eval a X.env)] := by rfl) :
    JI X W (.Tuple elts kk tpos) (.Call (.Name "enumerate" p) [a] [] pos) (dAI enumV fs) := ⟨fun {G S H ρ m env σ Rr} M E h pins s I => by
  refine Call_ (ld_blt I hg hm boot_enumerate (PyProof.Rows.callWith_type1 (thn (ja.run (Q := fun vs H1 => ∃ a k xs, vs = [.ref a] ∧ SqK k X.K H1 a xs ∧ Rr (ItE X.K k a) H1) M E (wpr_monoQ (wpr_bnd h) fun xs m1 hx => ?_) pos pins s I) fun us s1 ⟨vs, H1, I1, r1, q1⟩ => ?_) hs rfl))
  · intro S1 H1 ρ1 xv e1 M1 rx
    unfold enumV at hx
    split at hx
    · rename_i x
      obtain ⟨v, rfl, rv⟩ := paired1 rx
      split at hx
      · rename_i qa ea
        obtain ⟨ka, da⟩ := qa
        obtain ⟨a1, vs, rfl, h1, z1⟩ := seqD_ok rv ea
        exact ⟨a1, ka, vs, rfl, h1.mono M1.sub, hx S1 H1 ρ1 _ e1 M1 (itS_enum (Γ := gd X) h1 z1)⟩
      · exact hx.elim
    · exact hx.elim
  · obtain ⟨a1, k1, xs, rfl, h1, q⟩ := q1
    cases r1 with
    | cons r rr =>
      cases rr
      cases r
      obtain ⟨its, rv, p1, la⟩ := Inv.seqK I1 h1
      refine enum_begins1 (beginsK k1 a1 its.toArray) p1 fun h' he e1 hsz hk => wpAny_pyIter_enum he ?_
      have I2 : Inv X pins σ H1 { s1 with heap := h' } := I1.kept (t' := s1.toks) hk
      refine ⟨s1.heap.objs.size + 1, [s1.heap.objs.size + 1, s1.heap.objs.size], _, _, H1, rfl, I2, turn_E (k := k1) (a := a1) (Nat.succ_ne_self _) (Ne.symm (Nat.ne_of_lt (Nat.lt_succ_of_lt la))) (Nat.ne_of_lt la), ⟨⟨.none, he⟩, ItK.new e1⟩, fun b hb => ?_, q⟩
      have e' : b = s1.heap.objs.size + 1 ∨ b = s1.heap.objs.size := by simpa using hb
      have hle : s1.heap.objs.size ≤ b := by
        rcases e' with z | z
        · rw [z]; exact Nat.le_add_right _ _
        · rw [z]; exact Nat.le_refl _
      exact I1.fpOk hle (I1.hok.fresh hle)⟩
/-! range(a, b, c), small -/
def rngD3 (lo c : Int) (n : Nat) : List D := (List.range n).map fun (i : Nat) => .int (lo + (i : Int) * c)
theorem itS_rng3 {Γ : Gd} {S0 : Hp} (lo c : Int) (n : Nat) : ItS Γ S0 (Itc lo c n) (rngD3 lo c n) := fun i {G S H ρ m} s M => by
  refine ⟨fun hi => (by show n ≤ i; have : n = i := (by simpa [rngD3] using hi); omega), fun d hd => ?_⟩
  unfold rngD3 at hd
  rw [List.getElem?_map] at hd
  by_cases hi : i < n
  · rw [List.getElem?_range hi] at hd
    cases hd
    refine ⟨hi, fun x H' y => ?_⟩
    obtain ⟨e, y⟩ := y
    subst e
    subst y
    exact ⟨S, Ext.refl _ _, M, .int _⟩
  · rw [List.getElem?_eq_none (by simpa using hi)] at hd
    cases hd
/-- how many -/
def rsz (i j c : Int) : Nat := (Builtin.Range.rangeSize i j c).toNat
def rng3V (xs : List SV) : P (List D) := fun m => match xs with
  | [.dat (.int i), .dat (.int j), .dat (.int c)] => if c ≠ 0 ∧ c.natAbs < 1073741824 ∧ Builtin.Range.small i j c = true ∧ 0 ≤ Builtin.Range.rangeSize i j c then .ok (rngD3 i c (rsz i j c)) m else .stuck
  | _ => .stuck
theorem ji_rng3 {tg : Expr} (hg : Gl X "range") (hm : X.mg "range" = none) (ja : JA X W [a, b, c] fs) (hs : starEach [a, b, c] X.env = (false, eval a X.env) :: starEach [b, c] X.env := by rfl) (hpl : (backTo pos (starEach [b, c] X.env)).any (·.1) = false := by rfl) :
    JI X W tg (.Call (.Name "range" p) [a, b, c] [] pos) (dAI rng3V fs) := ⟨fun {G S H ρ m env σ Rr} M E h => by
  refine wi_of (pi_range3 hg hm pa_wa hs hpl) (ja.run M E (wpr_monoQ (wpr_bnd h) fun xs m1 hx => ?_))
  intro S1 H1 ρ1 xv e1 M1 rx
  unfold rng3V at hx
  split at hx
  · rename_i i j c
    obtain ⟨v, w', u, rfl, r, r', r''⟩ := paired3 rx
    cases r
    cases r'
    cases r''
    split at hx
    · rename_i hb
      exact ⟨i, j, c, rsz i j c, rfl, ⟨hb.1, hb.2.1, hb.2.2.1, by unfold rsz; omega⟩, hx S1 H1 ρ1 _ e1 M1 (itS_rng3 i c _)⟩
    · exact hx.elim
  · exact hx.elim⟩
end
end PL

/-! PL10: reversed tuples; parallel stores; calls by keyword. -/
namespace PL
open PySem PySem.Spec PyProof.Rows L2
section
variable {prog : Program} {w : World} {A : Around} {E : Value → Shared → Prop} {s : Shared}
theorem adjust_rev (n : Nat) : Builtin.Slice.sliceAdjust none none (-1) (n : Int) = ((n : Int) - 1, -1) := by
  unfold Builtin.Slice.sliceAdjust
  simp
theorem places_rev (n : Nat) : Builtin.Slice.slicePlaces ((n : Int) - 1) (-1) (-1) = n := by
  unfold Builtin.Slice.slicePlaces
  simp
  split <;> omega
theorem sliceApplied_rev {sl : Addr} {tk : Tok} {n : Nat} {Q : Int × Int × Nat → Shared → Prop} (hs : s.heap.IsSliceOf sl .none .none (.int (-1) tk))
    (h : Q ((n : Int) - 1, -1, n) s) : wpAny (model prog w) A (Builtin.Slice.sliceApplied (.ref sl) (pure (n : Int))) Q E s := by
  obtain ⟨os, hos, hcs, hds⟩ := id hs
  unfold Builtin.Slice.sliceApplied Builtin.Slice.sliceFields
  refine wpAny_bind (wpAny_bind (wpAny_field hos hds (x := .none) rfl (wpAny_bind (wpAny_field hos hds (x := .none) rfl (wpAny_bind (wpAny_field hos hds (x := .int (-1) tk) rfl (wpAny_pure ?_)))))))
  refine wpAny_bind (slicePart_int ?_)
  show wpAny _ _ (if ((-1 : Int) == 0) = true then _ else _) _ _ s
  rw [if_neg (by decide)]
  refine wpAny_bind (slicePart_none (wpAny_bind (slicePart_none (wpAny_bind (wpAny_pure ?_)))))
  show wpAny _ _ (match Builtin.Slice.sliceAdjust none none (-1) (n : Int) with | (lo, hi) => pure (lo, (-1 : Int), Builtin.Slice.slicePlaces lo hi (-1))) _ _ s
  rw [adjust_rev n]
  show wpAny _ _ (pure ((n : Int) - 1, (-1 : Int), Builtin.Slice.slicePlaces ((n : Int) - 1) (-1) (-1))) _ _ s
  rw [places_rev]
  exact wpAny_pure h
theorem pick_rev (xs : Array Value) : ((List.range xs.size).filterMap fun (m : Nat) => xs[(((xs.size : Int) - 1) + (m : Int) * (-1)).toNat]?).toArray = xs.toList.reverse.toArray := by
  congr 1
  have key : ∀ l : List Nat, (∀ m ∈ l, m < xs.size) → l.filterMap (fun (m : Nat) => xs[(((xs.size : Int) - 1) + (m : Int) * (-1)).toNat]?) = l.map fun m => xs.toList.reverse.getD m .none := by
    intro l
    induction l with
    | nil => intro _; rfl
    | cons m r ih =>
      intro h
      have hm := h m List.mem_cons_self
      have e : (((xs.size : Int) - 1) + (m : Int) * (-1)).toNat = xs.size - 1 - m := by omega
      have hlt : xs.size - 1 - m < xs.size := by omega
      have e2 : xs[xs.size - 1 - m]? = some (xs.toList.reverse.getD m .none) := by
        rw [List.getD_eq_getElem?_getD, List.getElem?_reverse (by simpa using hm)]
        rw [Array.getElem?_eq_getElem hlt]
        simp [hlt]
      rw [List.filterMap_cons, e, e2, List.map_cons, ih fun q hq => h q (List.mem_cons_of_mem _ hq)]
  rw [key _ fun m hm => List.mem_range.mp hm]
  apply List.ext_getElem?
  intro i
  by_cases hi : i < xs.size
  · rw [List.getElem?_map, List.getElem?_range hi]
    simp [List.getD_eq_getElem?_getD, hi]
  · rw [List.getElem?_eq_none (by simpa using hi), List.getElem?_eq_none (by simpa using hi)]
theorem getItem_tuple_rev {t sl : Addr} {tk : Tok} {items : Array Value} {Q : Value → Shared → Prop} (ht : IsTup s.heap t items) (hs : s.heap.IsSliceOf sl .none .none (.int (-1) tk))
    (h : Q (.ref s.heap.objs.size) { s with heap := s.heap.push { cls := .type "tuple", data := .seq items.toList.reverse.toArray } }) (hsz : items.size ≤ sizeLine) : wpAny (model prog w) A (getItem (.ref t) (.ref sl)) Q E s := by
  have htake : sizeOk (.seq items.toList.reverse.toArray) := by
    show items.toList.reverse.toArray.size ≤ sizeLine
    simpa using hsz
  obtain ⟨os, hos, hcs, hds⟩ := id hs
  have hTs : s.TypeIs (.ref sl) "slice" := ⟨os, hos, hcs⟩
  unfold getItem
  try with_reducible refine wpAny_holding ?_
  first | refine wpAny_bind (wpAny_pure ?_) | skip
  refine wpAny_bind (wpAny_sequenceKey ht.typeIs (by decide) ?_)
  refine wpAny_bind (wpAny_callSpecial?_slot (name := Str.ofString "__getitem__") ht.typeIs PyProof.Rows.slot_tuple_getitem
    (wpAny_call_entry PyProof.Rows.slot_tuple_getitem ht.typeIs entry_tuple_getitem ?_ (args_tuple_getitem _ _)))
  show wpAny _ _ (Builtin.Tuple.tupleItemsOf (.ref t) >>= _) _ _ s
  refine wpAny_bind (tupleItemsOf_ ht ?_)
  refine wpAny_bind (wpAny_typeOf hTs ?_)
  rw [if_pos (by decide)]
  refine wpAny_bind (sliceApplied_rev hs ?_)
  have hno : ¬ ((((items.size : Int) - 1) == 0 && (-1 : Int) == 1 && items.size == items.size) = true) := by simp
  show wpAny _ _ (if (((items.size : Int) - 1) == 0 && (-1 : Int) == 1 && items.size == items.size) = true then _ else _) _ _ s
  rw [if_neg hno, pick_rev]
  first
    | exact wpAny_bind (m := Builtin.Tuple.tupleExact _) (wpAny_newObj_type (wpAny_pure ⟨_, rfl, wpAny_pure h⟩) htake)
    | exact wpAny_bind (m := Builtin.Tuple.tupleExact _) (wpAny_newObj_type (wpAny_bind (wpAny_pure (wpAny_pure ⟨_, rfl, wpAny_pure h⟩))) htake)
    | exact wpAny_bind (wpAny_bind (m := Builtin.Tuple.tupleExact _) (wpAny_newObj_type (wpAny_pure (wpAny_pure ⟨_, rfl, wpAny_pure h⟩)) htake))
    | exact wpAny_bind (wpAny_bind (m := Builtin.Tuple.tupleExact _) (wpAny_newObj_type (wpAny_pure ⟨_, rfl, wpAny_pure h⟩) htake))
end
section
variable {X : Cx} {W : WX} {pos : Pos} {a e : Expr} {es : List Expr} {fa : En → P SV} {fs : En → P (List SV)}
/-! ### x[::-1] of a list or a tuple -/
def revA (own : Bool) (v : SV) : P SV := fun m => match v with
  | .dat (.tup xs) => .ok (.dat (.tup xs.reverse)) m
  | v => (match rdL v m with
    | some xs => frs own xs.reverse m
    | none => .stuck)
@[simp] theorem revA_tup (own : Bool) (xs : List D) (m : Mem) : revA own (.dat (.tup xs)) m = .ok (.dat (.tup xs.reverse)) m := (rfl)
@[simp] theorem revA_lst (own : Bool) (xs : List D) (m : Mem) : revA own (.dat (.lst xs)) m = frs own xs.reverse m := (rfl)
theorem pe_revX {te : TE} {k : Nat} {p1 p2 p3 : Pos} (he : PE X e te) : PE X (.Subscript e (.Slice none none (some (.UnaryOp .USub (.Constant (.int 1) k p1) p2)) p3) pos)
    (fun σ H Q => te σ H fun x H1 => ∃ a xs, x = .ref a ∧ ((SqL X.K H1 a xs ∧ ∀ p, H1 p = none → Q (.ref p) (upd H1 p (.lst xs.reverse))) ∨ (SqT X.K H1 a xs ∧ ∀ p, H1 p = none → Q (.ref p) (upd H1 p (.tup xs.reverse))))) := by
  refine ⟨fun pins s σ H Q I h => ?_⟩
  refine Subscript_ (thn (he.run pins s σ H _ I h) fun v s1 ⟨x, H1, I1, r1, q1⟩ => ?_)
  obtain ⟨a, xs, ex, hx⟩ := q1
  subst ex
  cases r1
  have hst : PO X (some (.UnaryOp .USub (.Constant (.int 1) k p1) p2)) (tPart (tUn (rU fun i => .int (-i)) (tC (.int 1)))) := po_some (pe_un un_neg pe_int)
  refine wpAny_Slice (thn (po_none.run pins s1 σ H1 (fun o H2 => o = none ∧ H2 = H1) I1 ⟨rfl, rfl⟩) fun vl s2 ⟨l, H2, I2, pl, el, e2⟩ => ?_)
  subst el e2
  refine thn (po_none.run pins s2 σ H2 (fun o H3 => o = none ∧ H3 = H2) I2 ⟨rfl, rfl⟩) fun vu s3 ⟨u, H3, I3, pu, eu, e3⟩ => ?_
  subst eu e3
  refine thn (hst.run pins s3 σ H3 (fun o H4 => o = some (-1) ∧ H4 = H3) I3 ⟨1, rfl, -1, rfl, rfl, rfl⟩) fun vs s4 ⟨o, H4, I4, ps, eo, e4⟩ => ?_
  subst eo e4
  have I5 : Inv X pins σ H4 { s4 with heap := s4.heap.push { cls := .type "slice", data := .fields #[vl, vu, vs] } } := I4.kept (t' := s4.toks) fun b ob q => Heap.get?_push_of_some _ q
  rcases hx with ⟨hx, q⟩ | ⟨hx, q⟩
  · obtain ⟨its, r, ht, hz⟩ := I5.list hx
    have hlen := r.length
    refine tail_any (ops := [.ref a, .ref s4.heap.objs.size]) ht.isList.typeIs (PySem.slot_list_getitem.lookup) ?_ (by with_unfolding_all rfl)
    refine wpAny_getItem_list_slice ht.isList (Heap.IsSliceOf.new _ vl vu vs) pl pu ps (by decide) ?_ (by rw [List.size_toArray]; omega)
    rw [PySem.W.krv_pick]
    refine ⟨.ref _, _, I5.laid (t' := s4.toks) (o := .lst xs.reverse) (fun b ob q => Heap.get?_push_of_some _ q) (Nat.le_refl _) ?_, rfl, q _ (I5.hok.fresh (Nat.le_refl _))⟩
    exact ⟨by rw [List.length_reverse]; exact hz, _, 0, r.reverse, Heap.get?_push_size _ rfl⟩
  · obtain ⟨its, r, ht, hz⟩ := I5.tuple hx
    have hlen := r.length
    refine tail_any (ops := [.ref a, .ref s4.heap.objs.size]) ht.typeIs (PyProof.Rows.slot_tuple_getitem.lookup) ?_ (by with_unfolding_all rfl)
    cases pl
    cases pu
    cases ps with
    | int i tk =>
      refine getItem_tuple_rev (tk := tk) ht (Heap.IsSliceOf.new _ .none .none _) ?_ (by rw [List.size_toArray]; omega)
      refine ⟨.ref _, _, I5.laid (t' := s4.toks) (o := .tup xs.reverse) (fun b ob q => Heap.get?_push_of_some _ q) (Nat.le_refl _) ?_, rfl, q _ (I5.hok.fresh (Nat.le_refl _))⟩
      exact ⟨by rw [List.length_reverse]; exact hz, its.reverse, r.reverse, IsTup.new _ _⟩
theorem je_rev {own : Bool} {k : Nat} {p1 p2 p3 : Pos} (ja : JE X W a fa) : JE X W (.Subscript a (.Slice none none (some (.UnaryOp .USub (.Constant (.int 1) k p1) p2)) p3) pos) (d1 (revA own) fa) := ⟨fun {G S H ρ m env σ Q} M E h => by
  refine we_of (pe_revX pe_we) (ja.run M E (wpr_monoQ (wpr_bnd h) fun v m1 hv => ?_))
  intro S1 H1 ρ1 xv e1 M1 rx
  unfold revA at hv
  split at hv
  · cases rx with
    | tup hq hr =>
      refine ⟨_, _, rfl, .inr ⟨Same.seqT M1.sub hq, fun p hp => ?_⟩⟩
      rename_i ad vs
      obtain ⟨s1, M2⟩ := M1.grow hp (.tup vs.reverse)
      exact hv _ _ ρ1 _ (e1.trans ⟨s1, fun _ _ z => z⟩) M2 (.tup (.inl (.inl upd_same)) ((rpAll_rev hr).mono s1))
  · split at hv
    · rename_i xs hx
      obtain ⟨ad, vs, rfl, h1, r1⟩ := rdL_ok M1 rx hx
      exact ⟨ad, vs, rfl, .inl ⟨.inl (.inl h1), fun p hp => frs_ok M1 (rpAll_rev r1) e1 hv p hp⟩⟩
    · exact hv.elim⟩
/-! ### a, b, c, d = v, w, x, y (a tuple is made) -/
def setAll (env : En) : List Nat → List SV → En
  | i :: is, v :: vs => setAll (env.set i (some v)) is vs
  | _, _ => env
structure JN (X : Cx) (es : List Expr) (is : List Nat) : Prop where
  run : ∀ {S : Hp} {ρ : List Addr} {env : En} {σ : St} {H : Hp} {vs : List V} {xs : List SV} {Q : St → Hp → Prop}, ER (gd X) S ρ env σ → Paired (RSV (gd X) S ρ) vs xs → xs.length = is.length →
    (∀ σ', ER (gd X) S ρ (setAll env is xs) σ' → Q σ' H) →
    ∀ (pins : List (Addr × Obj)) (s : Shared) (us : List Value), Inv X pins σ H s → Vals vs us → wpAny (model X.prog X.w) X.A (assignInOrder ((assignEach es X.env).map (·.2)) us) (fun _ s' => ∃ σ' H', Inv X pins σ' H' s' ∧ Q σ' H') X.xe s
theorem jn_nil : JN X [] [] := ⟨fun {S ρ env σ H vs xs Q} E r hl h pins s us I rv => by
  cases r with
  | nil =>
    cases rv
    exact assignInOrder_nil ⟨σ, H, I, h σ E⟩
  | cons _ _ => cases hl⟩
theorem jn_cons {i : Nat} {x : Str} {is : List Nat} {px : Pos} (hN : X.N.Nodup) (j : JN X es is) (hi : X.N[i]? = some x := by rfl) (hx : Loc X.env.scope x := by first | exact Or.inl rfl | exact Or.inr rfl) (hf : X.fn x = true ∨ X.env.scope.names.lookup x = some .local := by first | exact .inl rfl | exact .inr rfl | assumption)
    (hs : (assignEach (.Name x px :: es) X.env).map (·.2) = assign (.Name x px) X.env :: (assignEach es X.env).map (·.2) := by rfl) : JN X (.Name x px :: es) (i :: is) := ⟨fun {S ρ env σ H vs xs Q} E r hl h pins s us I rv => by
  cases r with
  | nil => cases hl
  | cons r1 r2 =>
    cases rv with
    | cons q1 q2 =>
      rw [hs]
      refine assignInOrder_cons (thn (wg_of (pg_name (pos := px) hN hi hx hf) (Q := fun σ1 H1 => H1 = H ∧ σ1 = σ.set i (some _)) ⟨rfl, rfl⟩ pins s _ I q1) fun _ s1 ⟨σ1, H1, I1, e1, e2⟩ => ?_)
      subst e1 e2
      exact j.run (E.set i r1) r2 (Nat.succ.inj hl) h pins s1 _ I1 q2⟩
def dParT (is : List Nat) (fs : En → P (List SV)) : DS := fun env => (fs env).bnd fun vs m => if vs.length = is.length ∧ vs.length ≤ 1000 then .ok (.nx (setAll env is vs)) m else .stuck
theorem js_parT {tgs : List Expr} {kt k2 : Nat} {pt pt2 : Pos} {is : List Nat} (hc : X.calm = true) (ja : JA X W es fs) (jn : JN X tgs is) (hn : (assignEach tgs X.env).length = is.length := by rfl) (hst : (assignEach tgs X.env).findIdx? (·.1) = none := by rfl)
    (hs : swapsWithSole [.Tuple tgs kt pt] (.Tuple es k2 pt2) pos.line X.env = pure false := by rfl) (hw : swappedStores [.Tuple tgs kt pt] (.Tuple es k2 pt2) X.env = pure none := by rfl)
    (h1 : (assignEach [.Tuple tgs kt pt] X.env).map (·.2) = [assign (.Tuple tgs kt pt) X.env] := by rfl) : JS X W (.Assign [.Tuple tgs kt pt] (.Tuple es k2 pt2) pos) (dParT is fs) := ⟨fun {G S H ρ m env σ D} M E h => by
  refine ws_of (ps_asg (pe_tup pa_wa) (pg_tup (n := is.length) (t := fun vs σ H Q => ∀ (pins : List (Addr × Obj)) (s : Shared) (us : List Value), Inv X pins σ H s → Vals vs us → wpAny (model X.prog X.w) X.A (assignInOrder ((assignEach tgs X.env).map (·.2)) us) (fun _ s' => ∃ σ' H', Inv X pins σ' H' s' ∧ Q σ' H') X.xe s) hc ⟨fun pins s σ H vs us Q I rv q => q pins s us I rv⟩ hn hst) hs hw h1)
    (ja.run M E (wpr_mono (wpr_bnd h) (fun xs m1 hx => ?_) fun _ _ z => qx_of z))
  intro S1 H1 ρ1 xv e1 M1 rx
  split at hx
  · rename_i hl
    have hlen := Paired.length rx
    refine ⟨by rw [hlen, sizeLine_eq]; omega, fun p hp => ?_⟩
    obtain ⟨s1, M2⟩ := M1.grow hp (.tup xv)
    have e2 : Ext S1 ρ1 (upd S1 p (.tup xv)) ρ1 := ⟨s1, fun _ _ z => z⟩
    refine ⟨p, xv, rfl, .inl (.inl upd_same), by rw [hlen]; exact hl.1, ?_⟩
    exact jn.run ((E.mono e1).mono e2) (paired_mono e2 rx) hl.1 fun σ' E' => hx _ _ ρ1 σ' (e1.trans e2) M2 E'
  · exact hx.elim⟩
end
end PL

/-! PL11: calls by keyword, with defaults. -/
namespace PL
open PySem PySem.Spec PyProof.Rows L2
/-- where an argument comes from: by position, by keyword, a default of a keyword-only parameter -/
inductive Ax where
  | p (j : Nat) | k (j : Nat) | d (j : Nat)
def Ax.get {α : Type} (us ws ds : List α) : Ax → Option α
  | .p j => us[j]?
  | .k j => ws[j]?
  | .d j => ds[j]?
def gath {α : Type} (l : List Ax) (us ws ds : List α) : List α := l.filterMap (Ax.get us ws ds)
theorem paired_get {α β : Type} {F : α → β → Prop} : ∀ {vs : List α} {us : List β} (_ : Paired F vs us) (i : Nat), (vs[i]? = none ∧ us[i]? = none) ∨ ∃ v u, vs[i]? = some v ∧ us[i]? = some u ∧ F v u
  | _, _, .nil, i => .inl ⟨by simp, by simp⟩
  | _, _, .cons h r, 0 => .inr ⟨_, _, rfl, rfl, h⟩
  | _, _, .cons h r, i + 1 => by
    rcases paired_get r i with ⟨a, b⟩ | ⟨v, u, a, b, c⟩
    · exact .inl ⟨by simpa using a, by simpa using b⟩
    · exact .inr ⟨v, u, by simpa using a, by simpa using b, c⟩
theorem gath_rel {α β : Type} {F : α → β → Prop} {vs zs es : List α} {us ws ds : List β} (h1 : Paired F vs us) (h2 : Paired F zs ws) (h3 : Paired F es ds) : ∀ l : List Ax, Paired F (gath l vs zs es) (gath l us ws ds)
  | [] => .nil
  | q :: l => by
    have ih := gath_rel h1 h2 h3 l
    unfold gath at ih ⊢
    have key : (Ax.get vs zs es q = none ∧ Ax.get us ws ds q = none) ∨ ∃ v u, Ax.get vs zs es q = some v ∧ Ax.get us ws ds q = some u ∧ F v u := by
      cases q with
      | p j => exact paired_get h1 j
      | k j => exact paired_get h2 j
      | d j => exact paired_get h3 j
    rcases key with ⟨a, b⟩ | ⟨v, u, a, b, c⟩
    · rw [List.filterMap_cons, List.filterMap_cons, a, b]; exact ih
    · rw [List.filterMap_cons, List.filterMap_cons, a, b]; exact .cons c ih
section
variable {K : PySem.W.Frag} {x qual : Str} {params : Arguments} {body : List Stmt} {scope : Scope} {kws : List (Str × V)} {f : Addr} {fd : FuncData} {ps : List Str}
/-- no default is used -/
theorem kbN (F : FunD K x qual params body scope [] kws f fd) (n : Nat) (ks : List Str) (l : List Ax)
    (h : ∀ (kV doc pm : Value) (an : Option Addr) (cdv ct : Value) (us ws : List Value), us.length = n → ws.length = ks.length → bindArgs (PySem.W.fnOf x qual params body scope .none kV doc pm an cdv ct) ⟨us, ks.zip ws⟩ = pure (ps.zip (gath l us ws []))) :
    KBn K fd ps n ks (fun us ws => gath l us ws []) (fun vs zs => gath l vs zs []) := by
  obtain ⟨oc, od, dV, kV, doc, pm, an, cdv, ct, osl, rfl, lk, hcd, hD, hK⟩ := F.ex
  rcases hD with ⟨_, rfl⟩ | ⟨e, _⟩
  · exact ⟨fun s us ws X l1 l2 => .of_eq (h kV doc pm an cdv ct us ws l1 l2), fun r1 r2 => gath_rel r1 r2 .nil l⟩
  · exact absurd rfl e
/-- defaults of keyword-only parameters ms -/
theorem kbK (F : FunD K x qual params body scope [] kws f fd) (n : Nat) (ks : List Str) (ms : List (Str × V)) (l : List Ax) (hk : kws ≠ []) (hms : ∀ q ∈ ms, q ∈ kws)
    (h : ∀ (D : Addr) (doc pm : Value) (an : Option Addr) (cdv ct : Value) (us ws mv : List Value), us.length = n → ws.length = ks.length → mv.length = ms.length →
      KwChain D ((ms.map (·.1)).zip mv) (bindArgs (PySem.W.fnOf x qual params body scope .none (.ref D) doc pm an cdv ct) ⟨us, ks.zip ws⟩) (ps.zip (gath l us ws mv))) :
    ∃ mv : List Value, KBn K fd ps n ks (fun us ws => gath l us ws mv) (fun vs zs => gath l vs zs (ms.map (·.2))) := by
  obtain ⟨oc, od, dV, kV, doc, pm, an, cdv, ct, osl, rfl, lk, hcd, hD, hK⟩ := F.ex
  rcases hD with ⟨_, rfl⟩ | ⟨e, _⟩
  · rcases hK with e | ⟨D, rfl, hq⟩
    · exact absurd e hk
    · obtain ⟨mv, hl, rk, hks⟩ := kwd_vals (ms := ms) fun q hm => hq q (hms q hm)
      exact ⟨mv, ⟨fun s us ws X l1 l2 => BindsTo.of_looks fun M => KwChain.looks X hks (h D doc pm an cdv ct us ws mv l1 l2 hl), fun r1 r2 => gath_rel r1 r2 rk l⟩⟩
  · exact absurd rfl e
end
/-- a def, called with n values by position and the keywords ks -/
structure KCal (P : Program) (w : World) (K : PySem.W.Frag) (mg : Str → Option Value) (base : Heap) (k : Nat) (x : Str) (n : Nat) (ks : List Str) (l : List Ax) (ds : List D) (F : List SV → PL.P SV) : Prop where
  ex : ∃ f fd ps g dV, mg x = some (.ref f) ∧ PySem.W.keepIn K (.ref f) = true ∧ KBn K fd ps n ks g (fun vs zs => gath l vs zs dV) ∧ (∀ S, RpAll ⟨K, mg⟩ S dV ds) ∧ FnG P w K mg base k f fd ps (spF ⟨K, mg⟩ ps.length F) ∧ ps.length = l.length
/-! ### keywords -/
def WK (X : Cx) (kws : List Keyword) (σ : St) (H : Hp) (Q : List V → Hp → Prop) : Prop :=
  ∀ (pos : Pos) (pins : List (Addr × Obj)) (s : Shared), Inv X pins σ H s → wpAny (model X.prog X.w) X.A (evalAll ((backToKw pos (keywordEach kws X.env)).map (·.2))) (AP X pins σ Q) X.xe s
theorem pk_wk {X : Cx} {kws : List Keyword} : PK X kws (WK X kws) := ⟨fun pos pins s _ _ _ I h => h pos pins s I⟩
theorem wk_of {X : Cx} {kws : List Keyword} {t : TA} {σ : St} {H : Hp} {Q : List V → Hp → Prop} (h : PK X kws t) (q : t σ H Q) : WK X kws σ H Q := fun pos pins s I => h.run pos pins s σ H Q I q
structure JK (X : Cx) (W : WX) (kws : List Keyword) (f : En → P (List SV)) : Prop where
  run : ∀ {G S H : Hp} {ρ : List Addr} {m : Mem} {env : En} {σ : St} {Q : List V → Hp → Prop}, MR (gd X) G S H ρ m → ER (gd X) S ρ env σ → wpr (f env m) (QA X G S ρ Q) (QX X W G S ρ σ) → WK X kws σ H Q
section
variable {X : Cx} {W : WX} {e a : Expr} {es : List Expr} {kws : List Keyword} {pos p kpos : Pos} {nm : Option Str} {fa : En → P SV} {fs gs : En → P (List SV)}
theorem jk_nil : JK X W [] dNil := ⟨fun {G S H ρ m env σ Q} M E h => wk_of pk_nil (h S H ρ [] (Ext.refl _ _) M .nil)⟩
theorem jk_cons (ja : JE X W a fa) (js : JK X W kws fs) : JK X W (⟨nm, a, kpos⟩ :: kws) (dCons fa fs) := ⟨fun {G S H ρ m env σ Q} M E h => by
  refine wk_of (pk_cons pe_we pk_wk) (ja.run M E (wpr_monoQ (wpr_bnd h) fun x m1 hx => ?_))
  intro S1 H1 ρ1 xv e1 M1 rx
  refine js.run M1 (E.mono e1) (wpr_mono (wpr_bnd hx) (fun xs m2 hxs => ?_) fun _ _ z => qx_ext e1 z)
  intro S2 H2 ρ2 xvs e2 M2 rxs
  exact hxs S2 H2 ρ2 _ (e1.trans e2) M2 (.cons (rx.mono e2) rxs)⟩
def dAK (n nk : Nat) (l : List Ax) (ds : List D) (F : List SV → P SV) (fs gs : En → P (List SV)) : En → P SV := fun env => (fs env).bnd fun xs => (gs env).bnd fun ys => if xs.length = n ∧ ys.length = nk then F (gath l xs ys (ds.map SV.dat)) else P.stk
theorem rp_dats {Γ : Gd} {S : Hp} {ρ : List Addr} : ∀ {vs : List V} {ds : List D}, RpAll Γ S vs ds → Paired (RSV Γ S ρ) vs (ds.map SV.dat)
  | _, _, .nil => .nil
  | _, _, .cons h r => .cons h (rp_dats r)
theorem gath_len {α : Type} {l : List Ax} {us ws ds : List α} (h : (gath l us ws ds).length = l.length) : True := trivial
theorem je_callK {k n nk : Nat} {x : Str} {ks : List Str} {l : List Ax} {ds : List D} {F : List SV → PL.P SV} (C : KCal X.prog X.w X.K X.mg X.base k x n ks l ds F) (hr : RoomG k X.A) (tk : Takes X W) (hg : Gl X x) (js : JA X W (e :: es) fs) (jk : JK X W kws gs) (hl : ∀ (us ws : List Unit), us.length = n → ws.length = nk → (gath l us ws (List.replicate ds.length ())).length = l.length := by intro us ws h1 h2; simp_all [gath, Ax.get])
    (hall : (backToKw pos (keywordEach kws X.env)).all (·.1.isSome) = true := by rfl) (hks : (backToKw pos (keywordEach kws X.env)).filterMap (·.1) = ks := by rfl) (hnk : ks.length = nk := by rfl)
    (hdb : (x == ("__debug__" : Str)) = false := by decide) (he : starEach (e :: es) X.env = (false, eval e X.env) :: starEach es X.env := by rfl)
    (hpl : ((backTo pos (starEach (e :: es) X.env)).any (·.1) || (backToKw pos (keywordEach kws X.env)).any (·.1.isNone)) = false := by rfl) :
    JE X W (.Call (.Name x p) (e :: es) kws pos) (dAK n nk l ds F fs gs) := by
  subst hnk
  obtain ⟨f, fd, ps, g, dV, hm, hk, hb, hdd, hF, hpl2⟩ := C.ex
  refine ⟨fun {G S H ρ m env σ Q} M E h pins s I => ?_⟩
  refine wpAny_Call_Name_kw (ld_glob I hg hm ?_ hdb)
  refine PySem.W.callWith_KW (h₀ := X.base) I.ok.mod.kin hk hall (thn (js.run (Q := fun vs H1 => WK X kws σ H1 fun zs H2 => vs.length = n ∧ zs.length = ks.length ∧ spF ⟨X.K, X.mg⟩ ps.length F (gath l vs zs dV) H2 Q fun cls d H => W cls d σ H) M E (wpr_monoQ (wpr_bnd h) fun xs m1 hx => ?_) pos pins s I) fun us s1 ⟨vs, H1, I1, r, q⟩ => ?_) hpl he
  · intro S1 H1 ρ1 xv e1 M1 rx
    refine jk.run M1 (E.mono e1) (wpr_mono (wpr_bnd hx) (fun ys m2 hy => ?_) fun _ _ z => qx_ext e1 z)
    intro S2 H2 ρ2 yv e2 M2 ry
    split at hy
    · rename_i hc
      have pr : Paired (RSV (gd X) S2 ρ2) (gath l xv yv dV) (gath l xs ys (ds.map SV.dat)) := gath_rel (paired_mono e2 rx) ry (rp_dats (hdd S2)) l
      refine ⟨by rw [Paired.length rx]; exact hc.1, by rw [Paired.length ry]; exact hc.2, ?_, G, S2, ρ2, m2, _, M2, pr, wpr_mono hy (fun v m3 hv => qv_ext (e1.trans e2) hv) fun x m3 hv => qx_ext (e1.trans e2) hv⟩
      rw [hpl2, Paired.length pr]
      have key : ∀ {α : Type} (us ws dd : List α), us.length = n → ws.length = ks.length → dd.length = ds.length → (gath l us ws dd).length = l.length := fun {α} us ws dd h1 h2 h3 => by
        have q := hl (us.map fun _ => ()) (ws.map fun _ => ()) (by simpa using h1) (by simpa using h2)
        have pq : Paired (fun (_ : Unit) (_ : α) => True) (gath l (us.map fun _ => ()) (ws.map fun _ => ()) (List.replicate ds.length ())) (gath l us ws dd) := by
          have mp : ∀ zs : List α, Paired (fun (_ : Unit) (_ : α) => True) (zs.map fun _ => ()) zs := fun zs => by
            induction zs with
            | nil => exact .nil
            | cons z r ih => exact .cons trivial ih
          have er : ∀ zs : List α, List.replicate zs.length () = zs.map fun _ => () := fun zs => by
            induction zs with
            | nil => rfl
            | cons z r ih => rw [List.length_cons, List.replicate_succ, List.map_cons, ih]
          rw [← h3, er]
          exact gath_rel (mp us) (mp ws) (mp dd) l
        rw [← Paired.length pq]
        exact q
      exact key xs ys _ hc.1 hc.2 (by simp)
    · exact hy.elim
  · refine thn (q pos pins s1 I1) fun ws s2 ⟨zs, H2, I2, rz, l1, l2, q2⟩ => ⟨I2.kIn, ?_⟩
    rw [hks]
    have r2 := hb.rel r rz
    exact wpAny_call (codeAny_mono (hF.go X.A X.stack s2 H2 ⟨us, ks.zip ws⟩ (g us ws) (gath l vs zs dV) Q _ hr I2.env0 (hb.to s2 us ws I2.kIn (r.length.symm.trans l1) (rz.length.symm.trans l2)) r2 q2) fun rr s' hq => after_go tk I2 hq)
theorem je_callK0 {k nk : Nat} {x : Str} {ks : List Str} {l : List Ax} {ds : List D} {F : List SV → PL.P SV} (C : KCal X.prog X.w X.K X.mg X.base k x 0 ks l ds F) (hr : RoomG k X.A) (tk : Takes X W) (hg : Gl X x) (jk : JK X W kws gs) (hl : ∀ (us ws : List Unit), us.length = 0 → ws.length = nk → (gath l us ws (List.replicate ds.length ())).length = l.length := by intro us ws h1 h2; simp_all [gath, Ax.get])
    (hall : (backToKw pos (keywordEach kws X.env)).all (·.1.isSome) = true := by rfl) (hks : (backToKw pos (keywordEach kws X.env)).filterMap (·.1) = ks := by rfl) (hnk : ks.length = nk := by rfl)
    (hdb : (x == ("__debug__" : Str)) = false := by decide)
    (hpl : ((backTo pos (starEach [] X.env)).any (·.1) || (backToKw pos (keywordEach kws X.env)).any (·.1.isNone)) = false := by rfl) :
    JE X W (.Call (.Name x p) [] kws pos) (dAK 0 nk l ds F dNil gs) := by
  subst hnk
  obtain ⟨f, fd, ps, g, dV, hm, hk, hb, hdd, hF, hpl2⟩ := C.ex
  refine ⟨fun {G S H ρ m env σ Q} M E h pins s I => ?_⟩
  refine wpAny_Call_Name_kw (ld_glob I hg hm ?_ hdb)
  have h := wpr_bnd h
  refine PySem.W.callWith_KW0 (h₀ := X.base) I.ok.mod.kin hk hall (thn (jk.run (Q := fun zs H2 => zs.length = ks.length ∧ spF ⟨X.K, X.mg⟩ ps.length F (gath l [] zs dV) H2 Q fun cls d H => W cls d σ H) M E (wpr_monoQ (wpr_bnd h) fun ys m2 hy => ?_) pos pins s I) fun ws s2 ⟨zs, H2, I2, rz, l2, q2⟩ => ⟨I2.kIn, ?_⟩) hpl
  · intro S2 H2 ρ2 yv e2 M2 ry
    split at hy
    · rename_i hc
      have pr : Paired (RSV (gd X) S2 ρ2) (gath l [] yv dV) (gath l [] ys (ds.map SV.dat)) := gath_rel .nil ry (rp_dats (hdd S2)) l
      refine ⟨by rw [Paired.length ry]; exact hc.2, ?_, G, S2, ρ2, m2, _, M2, pr, wpr_mono hy (fun v m3 hv => qv_ext e2 hv) fun x m3 hv => qx_ext e2 hv⟩
      rw [hpl2, Paired.length pr]
      have key : ∀ {α : Type} (us ws dd : List α), us.length = 0 → ws.length = ks.length → dd.length = ds.length → (gath l us ws dd).length = l.length := fun {α} us ws dd h1 h2 h3 => by
        have q := hl (us.map fun _ => ()) (ws.map fun _ => ()) (by simpa using h1) (by simpa using h2)
        have pq : Paired (fun (_ : Unit) (_ : α) => True) (gath l (us.map fun _ => ()) (ws.map fun _ => ()) (List.replicate ds.length ())) (gath l us ws dd) := by
          have mp : ∀ zs : List α, Paired (fun (_ : Unit) (_ : α) => True) (zs.map fun _ => ()) zs := fun zs => by
            induction zs with
            | nil => exact .nil
            | cons z r ih => exact .cons trivial ih
          have er : ∀ zs : List α, List.replicate zs.length () = zs.map fun _ => () := fun zs => by
            induction zs with
            | nil => rfl
            | cons z r ih => rw [List.length_cons, List.replicate_succ, List.map_cons, ih]
          rw [← h3, er]
          exact gath_rel (mp us) (mp ws) (mp dd) l
        rw [← Paired.length pq]
        exact q
      exact key [] ys _ rfl hc.2 (by simp)
    · exact hy.elim
  · rw [hks]
    have r2 := hb.rel (vs := []) (us := []) .nil rz
    exact wpAny_call (codeAny_mono (hF.go X.A X.stack s2 H2 ⟨[], ks.zip ws⟩ (g [] ws) (gath l [] zs dV) Q _ hr I2.env0 (hb.to s2 [] ws I2.kIn rfl (rz.length.symm.trans l2)) r2 q2) fun rr s' hq => after_go tk I2 hq)
end
/-! ### simp lemmas -/
def kAK2 (n nk : Nat) (l : List Ax) (ds : List D) (F : List SV → P SV) (xs ys : List SV) (m : Mem) : R SV := if xs.length = n ∧ ys.length = nk then F (gath l xs ys (ds.map SV.dat)) m else .stuck
@[simp] theorem kAK2_ap (n nk : Nat) (l : List Ax) (ds : List D) (F : List SV → P SV) (xs ys : List SV) (m : Mem) : kAK2 n nk l ds F xs ys m = if xs.length = n ∧ ys.length = nk then F (gath l xs ys (ds.map SV.dat)) m else .stuck := (rfl)
def kAK1 (n nk : Nat) (l : List Ax) (ds : List D) (F : List SV → P SV) (gs : En → P (List SV)) (env : En) (xs : List SV) (m : Mem) : R SV := (gs env m).bnd (kAK2 n nk l ds F xs)
@[simp] theorem kAK1_ap (n nk : Nat) (l : List Ax) (ds : List D) (F : List SV → P SV) (gs : En → P (List SV)) (env : En) (xs : List SV) (m : Mem) : kAK1 n nk l ds F gs env xs m = (gs env m).bnd (kAK2 n nk l ds F xs) := (rfl)
@[simp] theorem dAK_ap (n nk : Nat) (l : List Ax) (ds : List D) (F : List SV → P SV) (fs gs : En → P (List SV)) (env : En) (m : Mem) : dAK n nk l ds F fs gs env m = (fs env m).bnd (kAK1 n nk l ds F gs env) := by
  unfold dAK P.bnd
  congr 1
  funext xs m1
  show R.bnd _ _ = R.bnd _ _
  congr 1
  funext ys m2
  unfold kAK2
  split <;> rfl
@[simp] theorem gath_nil {α : Type} (us ws ds : List α) : gath [] us ws ds = [] := (rfl)
@[simp] theorem gath_cons {α : Type} (q : Ax) (l : List Ax) (us ws ds : List α) : gath (q :: l) us ws ds = (Ax.get us ws ds q).toList ++ gath l us ws ds := by
  unfold gath
  rw [List.filterMap_cons]
  cases Ax.get us ws ds q <;> rfl
@[simp] theorem get_p {α : Type} (us ws ds : List α) (j : Nat) : Ax.get us ws ds (.p j) = us[j]? := (rfl)
@[simp] theorem get_k {α : Type} (us ws ds : List α) (j : Nat) : Ax.get us ws ds (.k j) = ws[j]? := (rfl)
@[simp] theorem get_d {α : Type} (us ws ds : List α) (j : Nat) : Ax.get us ws ds (.d j) = ds[j]? := (rfl)
def kParT (is : List Nat) (env : En) (vs : List SV) (m : Mem) : R Out := if vs.length = is.length ∧ vs.length ≤ 1000 then .ok (.nx (setAll env is vs)) m else .stuck
@[simp] theorem kParT_ap (is : List Nat) (env : En) (vs : List SV) (m : Mem) : kParT is env vs m = if vs.length = is.length ∧ vs.length ≤ 1000 then .ok (.nx (setAll env is vs)) m else .stuck := (rfl)
@[simp] theorem dParT_ap (is : List Nat) (fs : En → P (List SV)) (env : En) (m : Mem) : dParT is fs env m = (fs env m).bnd (kParT is env) := (rfl)
@[simp] theorem setAll_nil (env : En) (vs : List SV) : setAll env [] vs = env := (rfl)
@[simp] theorem setAll_cons (env : En) (i : Nat) (is : List Nat) (v : SV) (vs : List SV) : setAll env (i :: is) (v :: vs) = setAll (env.set i (some v)) is vs := (rfl)
@[simp] theorem dNoPt_ap (env : En) (m : Mem) : dNoPt env m = .ok none m := (rfl)
def kPt (v : SV) (m : Mem) : R (Option Int) := match v with
  | .dat (.int i) => .ok (some i) m
  | _ => .stuck
@[simp] theorem kPt_int (i : Int) (m : Mem) : kPt (.dat (.int i)) m = .ok (some i) m := (rfl)
@[simp] theorem dPt_ap (f : En → P SV) (env : En) (m : Mem) : dPt f env m = (f env m).bnd kPt := by
  unfold dPt P.bnd
  congr 1
  funext v m1
  unfold kPt
  split <;> simp_all
def kSl2 (own : Bool) (v : SV) (lo : Option Int) (hi : Option Int) (m : Mem) : R SV := cutVl own v lo hi m
@[simp] theorem kSl2_ap (own : Bool) (v : SV) (lo hi : Option Int) (m : Mem) : kSl2 own v lo hi m = cutVl own v lo hi m := (rfl)
def kSl1 (own : Bool) (fh : En → P (Option Int)) (env : En) (v : SV) (lo : Option Int) (m : Mem) : R SV := (fh env m).bnd (kSl2 own v lo)
@[simp] theorem kSl1_ap (own : Bool) (fh : En → P (Option Int)) (env : En) (v : SV) (lo : Option Int) (m : Mem) : kSl1 own fh env v lo m = (fh env m).bnd (kSl2 own v lo) := (rfl)
def kSl (own : Bool) (fl fh : En → P (Option Int)) (env : En) (v : SV) (m : Mem) : R SV := (fl env m).bnd (kSl1 own fh env v)
@[simp] theorem kSl_ap (own : Bool) (fl fh : En → P (Option Int)) (env : En) (v : SV) (m : Mem) : kSl own fl fh env v m = (fl env m).bnd (kSl1 own fh env v) := (rfl)
@[simp] theorem dSl_ap (own : Bool) (fa : En → P SV) (fl fh : En → P (Option Int)) (env : En) (m : Mem) : dSl own fa fl fh env m = (fa env m).bnd (kSl own fl fh env) := (rfl)
@[simp] theorem cutVl_tup (own : Bool) (xs : List D) (lo hi : Option Int) (m : Mem) : cutVl own (.dat (.tup xs)) lo hi m = .ok (.dat (.tup (cutD xs lo hi))) m := (rfl)
@[simp] theorem cutVl_lst (own : Bool) (xs : List D) (lo hi : Option Int) (m : Mem) : cutVl own (.dat (.lst xs)) lo hi m = frs own (cutD xs lo hi) m := (rfl)
end PL

/-! PL12: what is wanted behind a run of the pure layer (Ok), with rules for loops. -/
namespace PL
open PySem PySem.Spec PyProof.Rows L2
def Ok {α : Type} (r : R α) (Q : α → Mem → Prop) : Prop := ∃ a m, r = .ok a m ∧ Q a m
section
variable {α β : Type} {Q Q' : α → Mem → Prop} {r : R α} {m : Mem}
@[simp] theorem ok_ok (a : α) (m : Mem) (Q : α → Mem → Prop) : Ok (.ok a m) Q ↔ Q a m := by
  constructor
  · rintro ⟨b, n, e, h⟩
    cases e
    exact h
  · intro h
    exact ⟨a, m, rfl, h⟩
@[simp] theorem ok_bnd (r : R α) (f : α → Mem → R β) (Q : β → Mem → Prop) : Ok (R.bnd r f) Q ↔ Ok r fun a m => Ok (f a m) Q := by
  constructor
  · rintro ⟨b, n, e, h⟩
    cases r with
    | ok a m => exact ⟨a, m, rfl, b, n, e, h⟩
    | exc x m => cases e
    | stuck => cases e
  · rintro ⟨a, m, rfl, b, n, e, h⟩
    exact ⟨b, n, e, h⟩
theorem Ok.mono (h : Ok r Q) (i : ∀ a m, Q a m → Q' a m) : Ok r Q' := by
  obtain ⟨a, m, e, q⟩ := h
  exact ⟨a, m, e, i a m q⟩
theorem ok_eq {a : α} {m : Mem} (e : r = .ok a m) (h : Q a m) : Ok r Q := ⟨a, m, e, h⟩
theorem ok_ite {c : Prop} [Decidable c] {r s : R α} (h1 : c → Ok r Q) (h2 : ¬ c → Ok s Q) : Ok (if c then r else s) Q := by
  by_cases h : c
  · rw [if_pos h]; exact h1 h
  · rw [if_neg h]; exact h2 h
def kFin (ex : Nat → SV → Mem → R SV) (k : Nat) (o : Out) (m : Mem) : R SV := fin ex k (.ok o m)
@[simp] theorem kFin_nx (ex : Nat → SV → Mem → R SV) (k : Nat) (env : En) (m : Mem) : kFin ex k (.nx env) m = .ok (.dat .non) (m.take k) := (rfl)
@[simp] theorem kFin_rt (ex : Nat → SV → Mem → R SV) (k : Nat) (v : SV) (m : Mem) : kFin ex k (.rt v) m = ex k v m := (rfl)
@[simp] theorem ok_fin (ex : Nat → SV → Mem → R SV) (k : Nat) (r : R Out) (Q : SV → Mem → Prop) : Ok (fin ex k r) Q ↔ Ok r fun o m => Ok (kFin ex k o m) Q := by
  constructor
  · rintro ⟨b, n, e, h⟩
    cases r with
    | ok a m => exact ⟨a, m, rfl, b, n, e, h⟩
    | exc x m => cases e
    | stuck => cases e
  · rintro ⟨a, m, rfl, b, n, e, h⟩
    exact ⟨b, n, e, h⟩
theorem ok_noX (x : P α) (m : Mem) (Q : α → Mem → Prop) : Ok (noX x m) Q ↔ Ok (x m) Q := by
  constructor
  · rintro ⟨b, n, e, h⟩
    unfold noX at e
    cases hx : x m with
    | ok a m' => rw [hx] at e; exact ⟨b, n, e, h⟩
    | exc x m' => rw [hx] at e; cases e
    | stuck => rw [hx] at e; cases e
  · rintro ⟨a, m', e, h⟩
    exact ⟨a, m', by unfold noX; rw [e], h⟩
/-- what a loop's body leaves -/
def LB (N : En → Mem → Prop) (Q : Out → Mem → Prop) (o : Out) (m : Mem) : Prop := match o with
  | .nx e => N e m
  | .ct e => N e m
  | .bk e => Q (.nx e) m
  | .rt v => Q (.rt v) m
@[simp] theorem LB_nx (N : En → Mem → Prop) (Q : Out → Mem → Prop) (e : En) (m : Mem) : LB N Q (.nx e) m = N e m := (rfl)
@[simp] theorem LB_ct (N : En → Mem → Prop) (Q : Out → Mem → Prop) (e : En) (m : Mem) : LB N Q (.ct e) m = N e m := (rfl)
@[simp] theorem LB_bk (N : En → Mem → Prop) (Q : Out → Mem → Prop) (e : En) (m : Mem) : LB N Q (.bk e) m = Q (.nx e) m := (rfl)
@[simp] theorem LB_rt (N : En → Mem → Prop) (Q : Out → Mem → Prop) (v : SV) (m : Mem) : LB N Q (.rt v) m = Q (.rt v) m := (rfl)
/-- a for loop over the things of a list: I tells what is so behind those done -/
theorem ok_for {β : Type} {g : D → En → Option En} {body : DS} {Q : Out → Mem → Prop} (f : β → D) (I : List β → En → Mem → Prop) :
    ∀ (xs pre : List β) (env : En) (m : Mem), I pre env m →
      (∀ p x q env m, pre ++ xs = p ++ x :: q → I p env m → ∃ env1, g (f x) env = some env1 ∧ Ok (body env1 m) (LB (I (p ++ [x])) Q)) →
      (∀ env m, I (pre ++ xs) env m → Q (.nx env) m) → Ok (loopF g body (xs.map f) env m) Q
  | [], pre, env, m, h0, _, hq => ⟨.nx env, m, rfl, hq env m (by simpa using h0)⟩
  | x :: xs, pre, env, m, h0, hs, hq => by
    obtain ⟨env1, hg, o, m2, hb, hl⟩ := hs pre x xs env m rfl h0
    have go : ∀ (env2 : En) (_ : I (pre ++ [x]) env2 m2), Ok (loopF g body (xs.map f) env2 m2) Q := fun env2 hI =>
      ok_for f I xs (pre ++ [x]) env2 m2 hI (fun p y q env m e => hs p y q env m (by rw [← e]; simp)) (fun env m h => hq env m (by simpa using h))
    rw [List.map_cons]
    cases o with
    | nx e => rw [loopF_nx hg hb]; exact go e hl
    | ct e => rw [loopF_ct hg hb]; exact go e hl
    | bk e => rw [loopF_bk hg hb]; exact ⟨_, _, rfl, hl⟩
    | rt v => rw [loopF_rt hg hb]; exact ⟨_, _, rfl, hl⟩
/-- a for loop by the number of the turn -/
theorem ok_forN {g : D → En → Option En} {body : DS} {Q : Out → Mem → Prop} (I : Nat → En → Mem → Prop) :
    ∀ (items : List D) (j : Nat) (env : En) (m : Mem), I j env m →
      (∀ i d env m, items[i]? = some d → I (j + i) env m → ∃ env1, g d env = some env1 ∧ Ok (body env1 m) (LB (I (j + i + 1)) Q)) →
      (∀ env m, I (j + items.length) env m → Q (.nx env) m) → Ok (loopF g body items env m) Q
  | [], j, env, m, h0, _, hq => ⟨.nx env, m, rfl, hq env m (by simpa using h0)⟩
  | x :: xs, j, env, m, h0, hs, hq => by
    obtain ⟨env1, hg, o, m2, hb, hl⟩ := hs 0 x env m rfl h0
    have go : ∀ (env2 : En) (_ : I (j + 1) env2 m2), Ok (loopF g body xs env2 m2) Q := fun env2 hI =>
      ok_forN I xs (j + 1) env2 m2 hI (fun i d env m hi hI => by
        have := hs (i + 1) d env m (by simpa using hi) (by rw [show j + (i + 1) = j + 1 + i by omega]; exact hI)
        rw [show j + (i + 1) + 1 = j + 1 + i + 1 by omega] at this
        exact this) (fun env m h => hq env m (by rw [List.length_cons, show j + (xs.length + 1) = j + 1 + xs.length by omega]; exact h))
    cases o with
    | nx e => rw [loopF_nx hg hb]; exact go e hl
    | ct e => rw [loopF_ct hg hb]; exact go e hl
    | bk e => rw [loopF_bk hg hb]; exact ⟨_, _, rfl, hl⟩
    | rt v => rw [loopF_rt hg hb]; exact ⟨_, _, rfl, hl⟩
/-- a for loop over range: turns 0 .. n - 1 -/
theorem ok_rng {g : D → En → Option En} {body : DS} {Q : Out → Mem → Prop} {lo : Int} {n : Nat} {env : En} {m : Mem} (I : Nat → En → Mem → Prop) (h0 : I 0 env m)
    (hs : ∀ i env m, i < n → I i env m → ∃ env1, g (.int (lo + (i : Int))) env = some env1 ∧ Ok (body env1 m) (LB (I (i + 1)) Q))
    (hq : ∀ env m, I n env m → Q (.nx env) m) : Ok (loopF g body (rngD lo n) env m) Q :=
  ok_forN I (rngD lo n) 0 env m h0 (fun i d env m hi hI => by
    obtain ⟨h1, rfl⟩ := rngD_get hi
    rw [Nat.zero_add] at hI ⊢
    exact hs i env m h1 hI) (fun env m h => hq env m (by simpa using h))
/-- a comprehension: I tells what was gathered from those done -/
theorem ok_lc {β : Type} {g : D → En → Option En} {t : En → P Bool} {f : En → P SV} {env : En} {Q : List D → Mem → Prop} (fd : β → D) (I : List β → List D → Mem → Prop) :
    ∀ (xs pre : List β) (acc : List D) (m : Mem), I pre acc m → acc.length + xs.length ≤ 16777216 →
      (∀ p x q acc m, pre ++ xs = p ++ x :: q → I p acc m → ∃ env1, g (fd x) env = some env1 ∧ Ok (t env1 m) (fun b m1 => if b = true then Ok (f env1 m1) (fun v m2 => ∃ d, v = .dat d ∧ I (p ++ [x]) (acc ++ [d]) m2) else I (p ++ [x]) acc m1)) →
      (∀ acc m, I (pre ++ xs) acc m → Q acc m) → Ok (loopC g t f env (xs.map fd) acc m) Q
  | [], pre, acc, m, h0, _, _, hq => ⟨acc, m, rfl, hq acc m (by simpa using h0)⟩
  | x :: xs, pre, acc, m, h0, hl, hs, hq => by
    obtain ⟨env1, hg, b, m1, ht, hb⟩ := hs pre x xs acc m rfl h0
    rw [List.map_cons]
    rw [List.length_cons] at hl
    cases b with
    | false =>
      have := ok_lc fd I xs (pre ++ [x]) acc m1 (by simpa using hb) (by omega) (fun p y q acc m e => hs p y q acc m (by rw [← e]; simp)) (fun acc m h => hq acc m (by simpa using h))
      simp only [loopC, hg, bnd_ap, ht, bnd_ok]
      exact this
    | true =>
      obtain ⟨v, m2, hf, d, rfl, hI⟩ := (by simpa using hb : Ok (f env1 m1) (fun v m2 => ∃ d, v = .dat d ∧ I (pre ++ [x]) (acc ++ [d]) m2))
      have := ok_lc fd I xs (pre ++ [x]) (acc ++ [d]) m2 hI (by simp; omega) (fun p y q acc m e => hs p y q acc m (by rw [← e]; simp)) (fun acc m h => hq acc m (by simpa using h))
      simp only [loopC, hg, bnd_ap, ht, bnd_ok, hf]
      rw [if_pos (by omega)]
      exact this
/-- a comprehension without a test -/
theorem ok_lcA {β : Type} {g : D → En → Option En} {f : En → P SV} {env : En} {m : Mem} {Q : List D → Mem → Prop} (fd : β → D) (I : List β → List D → Mem → Prop) (xs : List β) (h0 : I [] [] m) (hl : xs.length ≤ 16777216)
    (hs : ∀ p x q acc m, xs = p ++ x :: q → I p acc m → ∃ env1, g (fd x) env = some env1 ∧ Ok (f env1 m) (fun v m2 => ∃ d, v = .dat d ∧ I (p ++ [x]) (acc ++ [d]) m2))
    (hq : ∀ acc m, I xs acc m → Q acc m) : Ok (loopC g dYes f env (xs.map fd) [] m) Q :=
  ok_lc fd I xs [] [] m h0 (by simpa using hl) (fun p x q acc m e hI => by
    obtain ⟨e1, hg, hf⟩ := hs p x q acc m (by simpa using e) hI
    exact ⟨e1, hg, true, m, rfl, by simpa using hf⟩) (fun acc m h => hq acc m (by simpa using h))
end
/-! ### memory -/
@[simp] theorem get_app_set (m : Mem) (k : Nat) (c x : Cell) : (m.set k c ++ [x])[m.length]? = some x := by
  have := get_app_len (m.set k c) x
  rwa [List.length_set] at this
@[simp] theorem set_app_set (m : Mem) (k : Nat) (c x y : Cell) : (m.set k c ++ [x]).set m.length y = m.set k c ++ [y] := by
  have := set_app_len (m.set k c) x y
  rwa [List.length_set] at this
@[simp] theorem take_app_set (m : Mem) (k : Nat) (c x : Cell) : (m.set k c ++ [x]).take m.length = m.set k c := by
  have := take_app_len (m.set k c) x
  rwa [List.length_set] at this
end PL

/-! PL13: repr of lists and tuples. -/
namespace PL
open PySem PySem.Spec PyProof.Rows L2
theorem RoomG.un66 {k : Nat} {A : Around} (r : RoomG k A) : A.units + 66 < cLine := by have := r.rm.un; omega
section
variable {X : Cx} {W : WX}
def shOk (d : D) : Bool := okD d && (toPy d).showable && !(toPy d).hasDict && decide ((toPy d).shown.length ≤ 16777216)
def shD (d : D) (m : Mem) : R SV := match d with
  | .lst xs => if shOk (.lst xs) = true then .ok (.dat (.str (toPy (.lst xs)).shown)) m else .stuck
  | .tup xs => if shOk (.tup xs) = true then .ok (.dat (.str (toPy (.tup xs)).shown)) m else .stuck
  | _ => .stuck
def reprV (xs : List SV) : P SV := fun m => match xs with
  | [x] => (match svD x m with | some d => shD d m | none => .stuck)
  | _ => .stuck
theorem repr_go {G S H : Hp} {ρ : List Addr} {m : Mem} {σ : St} {Q : VK} {d : D} {a : Addr} (hgd : X.A.guards = some []) (hu : X.A.units + 66 < cLine) (M : MR (gd X) G S H ρ m) (r : Rp (gd X) H (.ref a) d) (hs : shOk d = true) (q : QV X G S ρ Q (.dat (.str (toPy d).shown)) m) :
    WC X (.builtin "repr") [.ref a] σ H Q := by
  intro pins s us I rx
  simp only [shOk, Bool.and_eq_true, decide_eq_true_eq, Bool.not_eq_true'] at hs
  obtain ⟨⟨⟨h1, h2⟩, h3⟩, h4⟩ := hs
  obtain ⟨u, rfl, ru⟩ : ∃ u, us = [u] ∧ RelV (.ref a) u := by
    cases rx with
    | cons r1 r2 => cases r2; exact ⟨_, rfl, r1⟩
  obtain rfl : u = Value.ref a := ru
  obtain ⟨as, rd⟩ := Dp.reads I _ _ _ (r.dp (okD_plain h1)) (show RelV (.ref a) (.ref a) from rfl)
  have hdp : (toPy d).depth ≤ 64 := by
    rw [toPy_dep]
    unfold okD at h1
    simp only [Bool.and_eq_true, decide_eq_true_eq] at h1
    exact h1.2
  refine repr_of_reads' (h₀ := s.heap) rd h2 (by rw [h3]; intro z; cases z) hgd (by omega) (fun _ _ z => z) (fun h' u' tk hk => ?_) (by rw [sizeLine_eq]; exact h4)
  exact ⟨.str _, H, I.kept hk, ⟨u', rfl⟩, q S H ρ _ (Ext.refl _ _) M (.str _)⟩
theorem jc_repr (hgd : X.A.guards = some []) (hu : X.A.units + 66 < cLine) : JC X W (.builtin "repr") reprV := ⟨fun {G S H ρ m σ xs xvs Q} M rx q => by
  unfold reprV at q
  split at q
  · rename_i x
    obtain ⟨v, rfl, r1⟩ := paired1 rx
    split at q
    · rename_i d hd
      have r2 := svD_ok M r1 hd
      unfold shD at q
      split at q
      · split at q
        · rename_i hs
          cases r2 with
          | lst h r => exact repr_go hgd hu M (.lst h r) hs q
        · exact q.elim
      · split at q
        · rename_i hs
          cases r2 with
          | tup h r => exact repr_go hgd hu M (.tup h r) hs q
        · exact q.elim
      · exact q.elim
    · exact q.elim
  · exact q.elim⟩
end
/-! ### a, b, c = x, y, z -/
def dPar3 (i j l : Nat) (fs : En → P (List SV)) : DS := fun env => (fs env).bnd fun vs m => match vs with
  | [u, v, w] => .ok (.nx (((env.set i (some u)).set j (some v)).set l (some w))) m
  | _ => .stuck
section
variable {X : Cx} {W : WX} {a b c : Expr} {fs : En → P (List SV)} {pos : Pos}
theorem js_par3 (i j l : Nat) {x y z : Str} {px py pz pt : Pos} {kt k2 pt2} (hc : X.calm = true) (hN : X.N.Nodup) (ja : JA X W [a, b, c] fs)
    (hi : X.N[i]? = some x := by rfl) (hj : X.N[j]? = some y := by rfl) (hl : X.N[l]? = some z := by rfl) (hij : i ≠ j := by decide) (hil : i ≠ l := by decide) (hjl : j ≠ l := by decide)
    (hx : X.env.scope.names.lookup x = some .local := by rfl) (hy : X.env.scope.names.lookup y = some .local := by rfl) (hz : X.env.scope.names.lookup z = some .local := by rfl)
    (hw : swappedStores [.Tuple [.Name x px, .Name y py, .Name z pz] kt pt] (.Tuple [a, b, c] k2 pt2) X.env = pure (some [x, y, z]) := by rfl)
    (hs : swapsWithSole [.Tuple [.Name x px, .Name y py, .Name z pz] kt pt] (.Tuple [a, b, c] k2 pt2) pos.line X.env = pure false := by rfl) :
    JS X W (.Assign [.Tuple [.Name x px, .Name y py, .Name z pz] kt pt] (.Tuple [a, b, c] k2 pt2) pos) (dPar3 i j l fs) := ⟨fun {G S H ρ m env σ D} M E h => by
  refine ws_of (ps_par3 hc hN hi hj hl hij hil hjl hx hy hz pa_wa hw hs) (ja.run M E (wpr_mono (wpr_bnd h) (fun vs m1 hv => ?_) fun _ _ z => qx_of z))
  intro S1 H1 ρ1 xv e1 M1 rx
  split at hv
  · rename_i u v w'
    obtain ⟨u1, v1, w1, rfl, r1, r2, r3⟩ := paired3 rx
    exact ⟨u1, v1, w1, rfl, hv S1 H1 ρ1 _ e1 M1 ((((E.mono e1).set i r1).set j r2).set l r3)⟩
  · exact hv.elim⟩
/-! ### is, is not of truths -/
def isBV (x y : SV) : P SV := fun m => match x, y with
  | .dat (.bl a), .dat (.bl b) => .ok (.dat (.bl (decide (a = b)))) m
  | _, _ => .stuck
def notBV (x y : SV) : P SV := fun m => match x, y with
  | .dat (.bl a), .dat (.bl b) => .ok (.dat (.bl (!decide (a = b)))) m
  | _, _ => .stuck
theorem jo_isB : JO X W (compareOp .Is) isBV := ⟨fun {G S H ρ m σ x y xv yv Q} M rx ry q => by
  unfold isBV at q
  split at q
  · cases rx
    cases ry
    exact wo_of op_isBl ⟨_, _, rfl, rfl, q S H ρ _ (Ext.refl _ _) M (.bl _)⟩
  · exact q.elim⟩
theorem jo_notB : JO X W (compareOp .IsNot) notBV := ⟨fun {G S H ρ m σ x y xv yv Q} M rx ry q => by
  unfold notBV at q
  split at q
  · cases rx
    cases ry
    exact wo_of op_notBl ⟨_, _, rfl, rfl, q S H ρ _ (Ext.refl _ _) M (.bl _)⟩
  · exact q.elim⟩
end
@[simp] theorem isBV_bl (a b : Bool) (m : Mem) : isBV (.dat (.bl a)) (.dat (.bl b)) m = .ok (.dat (.bl (decide (a = b)))) m := (rfl)
@[simp] theorem notBV_bl (a b : Bool) (m : Mem) : notBV (.dat (.bl a)) (.dat (.bl b)) m = .ok (.dat (.bl (!decide (a = b)))) m := (rfl)
def kPar3 (i j l : Nat) (env : En) (vs : List SV) (m : Mem) : R Out := match vs with
  | [u, v, w] => .ok (.nx (((env.set i (some u)).set j (some v)).set l (some w))) m
  | _ => .stuck
@[simp] theorem kPar3_ap (i j l : Nat) (env : En) (u v w : SV) (m : Mem) : kPar3 i j l env [u, v, w] m = .ok (.nx (((env.set i (some u)).set j (some v)).set l (some w))) m := (rfl)
@[simp] theorem dPar3_ap (i j l : Nat) (fs : En → P (List SV)) (env : En) (m : Mem) : dPar3 i j l fs env m = (fs env m).bnd (kPar3 i j l env) := (rfl)
@[simp] theorem reprV_dat (d : D) (m : Mem) : reprV [.dat d] m = shD d m := (rfl)
theorem eqV_str {x : Str} (h1 : okD (.str x) = true) (m : Mem) : PL.eqV (.dat (.str x)) (.dat (.str x)) m = .ok (.dat (.bl true)) m := by
  simp [PL.eqV, svD, h1, eqd, toPy, PyData.eqv]
theorem sh_bls2 (a b : Bool) : shOk (.lst [.bl a, .bl b]) = true ∧ okD (.str (toPy (.lst [.bl a, .bl b])).shown) = true := by
  cases a <;> cases b <;> decide +kernel
theorem sh_bls4 (a b c d : Bool) : shOk (.lst [.bl a, .bl b, .bl c, .bl d]) = true ∧ okD (.str (toPy (.lst [.bl a, .bl b, .bl c, .bl d])).shown) = true := by
  cases a <;> cases b <;> cases c <;> cases d <;> decide +kernel
/-- a while loop with a measure -/
theorem ok_while {t : En → P Bool} {body : DS} {Q : Out → Mem → Prop} (I : Nat → En → Mem → Prop)
    (hs : ∀ k env m, I k env m → Ok (t env m) fun b m1 => if b = true then Ok (body env m1) (LB (fun e m2 => ∃ k', k' < k ∧ I k' e m2) Q) else Q (.nx env) m1) :
    ∀ (n k : Nat) (env : En) (m : Mem), k < n → I k env m → Ok (loopW t body n env m) Q
  | 0, k, env, m, hk, _ => absurd hk (by omega)
  | n + 1, k, env, m, hk, h => by
    obtain ⟨b, m1, e1, h1⟩ := hs k env m h
    unfold loopW
    rw [bnd_ap, e1, bnd_ok]
    cases b with
    | false => exact ⟨_, _, rfl, by simpa using h1⟩
    | true =>
      obtain ⟨o, m2, e2, h2⟩ := (by simpa using h1 : Ok (body env m1) (LB (fun e m2 => ∃ k', k' < k ∧ I k' e m2) Q))
      show Ok (P.bnd (body env) _ m1) Q
      rw [bnd_ap, e2, bnd_ok]
      cases o with
      | nx e => obtain ⟨k', hk', h3⟩ := h2; exact ok_while I hs n k' e m2 (by omega) h3
      | ct e => obtain ⟨k', hk', h3⟩ := h2; exact ok_while I hs n k' e m2 (by omega) h3
      | bk e => exact ⟨_, _, rfl, h2⟩
      | rt v => exact ⟨_, _, rfl, h2⟩
@[simp] theorem inSV_ints (x : Int) (xs : List Int) (m : Mem) : inSV (.dat (.int x)) (.dat (.lst (xs.map D.int))) m = .ok (.dat (.bl (decide (x ∈ xs)))) m := by
  simp [inSV, rdSq, rdL, hasD_ints]
@[simp] theorem notInSV_ints (x : Int) (xs : List Int) (m : Mem) : notInSV (.dat (.int x)) (.dat (.lst (xs.map D.int))) m = .ok (.dat (.bl (!decide (x ∈ xs)))) m := by
  simp [notInSV, rdSq, rdL, hasD_ints]
/-- a comprehension over the things of a list, without and with a test -/
theorem lc_map {β : Type} {g : D → En → Option En} {f : En → P SV} {env : En} {m : Mem} (fd : β → D) (h : β → D) (xs : List β) (hs : ∀ x ∈ xs, ∃ env1, g (fd x) env = some env1 ∧ f env1 m = .ok (.dat (h x)) m) (hl : xs.length ≤ 16777216) :
    noX (loopC g dYes f env (xs.map fd) []) m = .ok (xs.map h) m := by
  have main : ∀ (ys : List β) (acc : List D), (∀ x ∈ ys, ∃ env1, g (fd x) env = some env1 ∧ f env1 m = .ok (.dat (h x)) m) → acc.length + ys.length ≤ 16777216 → loopC g dYes f env (ys.map fd) acc m = .ok (acc ++ ys.map h) m := by
    intro ys
    induction ys with
    | nil => intro acc _ _; simp [loopC]
    | cons y r ih =>
      intro acc hy hl
      simp at hl
      obtain ⟨e1, g1, g2⟩ := hy y List.mem_cons_self
      have := ih (acc ++ [h y]) (fun x hx => hy x (List.mem_cons_of_mem _ hx)) (by simp; omega)
      simp [loopC, g1, dYes, g2, show acc.length < 16777216 by omega]
      simpa using this
  have := main xs [] hs (by simpa using hl)
  simp [noX, this]
theorem lc_filter {β : Type} {g : D → En → Option En} {t : En → P Bool} {f : En → P SV} {env : En} {m : Mem} (fd : β → D) (p : β → Bool) (h : β → D) (xs : List β) (hs : ∀ x ∈ xs, ∃ env1, g (fd x) env = some env1 ∧ t env1 m = .ok (p x) m ∧ (p x = true → f env1 m = .ok (.dat (h x)) m)) (hl : xs.length ≤ 16777216) :
    noX (loopC g t f env (xs.map fd) []) m = .ok ((xs.filter p).map h) m := by
  have main : ∀ (ys : List β) (acc : List D), (∀ x ∈ ys, ∃ env1, g (fd x) env = some env1 ∧ t env1 m = .ok (p x) m ∧ (p x = true → f env1 m = .ok (.dat (h x)) m)) → acc.length + ys.length ≤ 16777216 → loopC g t f env (ys.map fd) acc m = .ok (acc ++ (ys.filter p).map h) m := by
    intro ys
    induction ys with
    | nil => intro acc _ _; simp [loopC]
    | cons y r ih =>
      intro acc hy hl
      simp at hl
      obtain ⟨e1, g1, g2, g3⟩ := hy y List.mem_cons_self
      have hr := fun x hx => hy x (List.mem_cons_of_mem y hx)
      cases hp : p y with
      | true =>
        have := ih (acc ++ [h y]) hr (by simp; omega)
        simp [loopC, g1, g2, hp, g3 hp, show acc.length < 16777216 by omega, this]
      | false =>
        have := ih acc hr (by omega)
        simp [loopC, g1, g2, hp, this]
  have := main xs [] hs (by simpa using hl)
  simp [noX, this]
end PL

/-! PL14: exceptions of the program (classes under SectionError), raise, try. -/
namespace PL
open PySem PySem.Spec PyProof.Rows L2
abbrev aeTail : List Value := [.type "ArithmeticError", .type "Exception", .type "BaseException", .type "object"]
/-- what the written part says of such a class, whose exceptions have one field -/
structure XCls (K : PySem.W.Frag) (C : Addr) (f : Str) : Prop where
  ini : PySem.W.excInitIn K C aeTail "ArithmeticError.__new__" = true
  ovr : PySem.W.excOver K C aeTail = true
  sa : PySem.W.findIn K (.ref C) "__setattr__" = some (some (.builtin "object.__setattr__"))
  exC : PySem.W.subIn K (.ref C) (.type "BaseException") = some true
  tyC : PySem.W.typeIn K (.ref C) = some (.type "type")
  kC : PySem.W.keepIn K (.ref C) = true
  hd : PySem.W.hasDictIn K C = true
  nf : PySem.W.findIn K (.ref C) f = some none
  xf : XfC K C
def xclsB (K : PySem.W.Frag) (C : Addr) (f : Str) : Bool :=
  PySem.W.excInitIn K C aeTail "ArithmeticError.__new__" && (PySem.W.excOver K C aeTail && (decide (PySem.W.findIn K (.ref C) "__setattr__" = some (some (.builtin "object.__setattr__"))) && (decide (PySem.W.subIn K (.ref C) (.type "BaseException") = some true) &&
    (decide (PySem.W.typeIn K (.ref C) = some (.type "type")) && (PySem.W.keepIn K (.ref C) && (PySem.W.hasDictIn K C && (decide (PySem.W.findIn K (.ref C) f = some none) && xfB K C)))))))
theorem xclsB_ok {K : PySem.W.Frag} {C : Addr} {f : Str} (h : xclsB K C f = true) : XCls K C f := by
  unfold xclsB at h
  simp only [Bool.and_eq_true, decide_eq_true_eq] at h
  obtain ⟨h1, h2, h3, h4, h5, h6, h7, h8, h9⟩ := h
  exact ⟨h1, h2, h3, h4, h5, h6, h7, h8, xfB_ok h9⟩
section
variable {prog : Program} {w : World} {A : Around} {R : Result → Shared → Prop} {hp : Heap} {g : Array GenState} {d : Drawn} {t : Nat} {os : OsState}
/-- the first field of an exception -/
theorem exc_store {K : PySem.W.Frag} {f : Str} {tk : Tok} {v : Value} {x C t1 : Addr} (X : K.In hp) (T : XCls K C f) (hx : hp.get? x = some (PySem.W.excObj C t1 none .none))
    (hq : ∀ h' tk' dx, (∀ b o, b ≠ x → hp.get? b = some o → h'.get? b = some o) → hp.objs.size ≤ dx → dx ≠ x → h'.get? x = some (PySem.W.excObj C t1 (some dx) .none) →
      h'.Ns1 dx (fun y => if y = f then some v else none) → R (.ok (.ret .none)) ⟨h', g, d, tk', os⟩) :
    codeAny (model prog w) A (.call (.builtin "object.__setattr__") ⟨[.ref x, .str f tk, v], []⟩) R ⟨hp, g, d, t, os⟩ := by
  have hxs : x ≠ hp.objs.size := Nat.ne_of_lt (Heap.lt_size hx)
  refine PySem.W.osa_openX (s := ⟨hp, g, d, t, os⟩) (od := none) PySem.F.store_ArithmeticError X ⟨hx, rfl, rfl, trivial⟩ T.ovr (by unfold PySem.W.takerIn; rw [T.nf]; rfl) fun b => ?_
  obtain ⟨cd, hc, hd'⟩ := PySem.W.any_some T.hd
  refine wpAny_bind (wpAny_pure (wpAny_bind (PySem.W.instanceDict_exc (s := ⟨hp, g, d, t, os⟩) hx (PySem.W.looks_clsIn X hc) hd' ?_)))
  show wpAny _ _ (Builtin.ObjectAttr.storeInDict hp.objs.size (.str f tk) f v) _ _ _
  refine HandSPX.store_in_new ⟨_, #[], _, (Heap.get?_update_ne _ _ _ _ hxs.symm).trans (Heap.get?_push_at rfl rfl), rfl, (fun e he => absurd he (by simp)), fun _ => rfl⟩ fun h' tk' hn' hs => ?_
  have hx2 : (hp.push (PySem.W.dictOf [] 0)).get? x = some (PySem.W.excObj C t1 none .none) := Heap.get?_push_of_some _ hx
  refine hq h' tk' hp.objs.size (fun b o hb ho => ?_) (Nat.le_refl _) hxs.symm ?_ hn'
  · exact (hs.2 b (Nat.ne_of_lt (Heap.lt_size ho))).trans ((Heap.get?_update_ne _ _ _ _ hb).trans (Heap.get?_push_of_some _ ho))
  · exact (hs.2 x hxs).trans (Heap.get?_update_self _ hx2 rfl)
end
section
variable {X : Cx} {pins : List (Addr × Obj)} {σ : St} {H : Hp} {s : Shared} {a C : Addr} {f : Str} {y : V} {u : Value} {E : Value → Shared → Prop} {A : Around}
/-- self.f = y in Inv's words -/
theorem xst_new {Q : Unit → Shared → Prop} (T : XCls X.K C f) (I : Inv X pins σ H s) (e : H a = some (exo a C none)) (ry : RelV y u)
    (h : ∀ dx s', H dx = none → dx ≠ a → Inv X pins σ (upd (upd H dx (exd dx [(f, y)])) a (exo a C (some dx))) s' → Q () s') : wpAny (model X.prog X.w) A (setAttr (.ref a) f u) Q E s := by
  obtain ⟨t1, ho⟩ := exo_at I.hok e
  obtain ⟨hp, g, d, t, os⟩ := s
  refine PySem.W.set_plain I.kIn (ox := PySem.W.excObj C t1 none .none) (od := none) ⟨ho, rfl, rfl, trivial⟩ T.sa ?_
  refine exc_store I.kIn T ho fun h' tk' dx k dn dne hx hn => ?_
  have fresh : H dx = none := I.hok.fresh dn
  have nd : ∀ {b : Addr} {o : Obj}, hp.get? b = some o → b ≠ dx := fun {b o} q z => absurd (Heap.lt_size q) (by rw [z]; exact Nat.not_lt.mpr dn)
  have na : ∀ {b : Addr}, H b = none → b ≠ a := by
    rintro b n rfl
    rw [e] at n
    cases n
  have old : ∀ {b : Addr} {o : HO}, H b = some o → o ≠ exo a C none → upd (upd H dx (exd dx [(f, y)])) a (exo a C (some dx)) b = some o := fun {b o} q ne => by
    have hb : b ≠ a := fun z => by subst z; rw [e] at q; exact ne (Option.some.inj q).symm
    rw [upd_ne hb, upd_ne (ne_of_none q fresh)]
    exact q
  have un : Un X.fs [] H (upd (upd H dx (exd dx [(f, y)])) a (exo a C (some dx))) hp h' :=
    { keep := fun b o q n _ _ => k b o (na n) q
      slot := fun b o q n _ _ => ⟨o.slots, k b o (na n) q⟩
      free := fun b o q n _ => by rw [upd_ne (na n), upd_ne (nd q)]; exact n
      there := fun b o q _ => if z : b = a then ⟨_, z ▸ hx⟩ else ⟨o, k b o z q⟩
      tups := fun b xs q => old q fun z => exo_tup z.symm
      frzs := fun b o v q => old q fun z => exo_frz z.symm
      tbls := fun b ps q => ⟨#[], by rw [old q fun z => exo_tbl z.symm]; simp⟩ }
  refine h dx _ fresh dne (I.un (t' := tk') un fun b o q => ?_)
  by_cases hb : b = a
  · subst hb
    rw [upd_same] at q
    cases q
    exact exo_ok hx
  rw [upd_ne hb] at q
  by_cases hd : b = dx
  · subst hd
    rw [upd_same] at q
    cases q
    exact exd_ok hn (relO_put (fs := []) ry fun g => trivial)
  rw [upd_ne hd] at q
  exact (I.hok b o q).stay (fun c v hc z => k c v (hc.elim (fun w => w ▸ hb) fun w => at_ne e w exo_own) z) (fun c hc => old hc fun z => exo_own z.symm) (fun c xs hc => old hc fun z => exo_tup z.symm)
/-- the base's __init__ -/
theorem xinit_ok {us : List Value} {Q : Value → Shared → Prop} (T : XCls X.K C f) (I : Inv X pins σ H s) (e : H a = some (exo a C none)) (hl : us.length ≤ sizeLine) (h : ∀ s', Inv X pins σ H s' → Q .none s') :
    wpAny (model X.prog X.w) A (call (.builtin "ArithmeticError.__init__") (.ref a :: us)) Q E s := by
  obtain ⟨nm, N, qn, bs, bm, hdct, sn, sub, ab, col, dd, k0, k1, k2, k3, k5, hC, hT⟩ := PySem.W.excInit_of I.kIn T.ini
  obtain ⟨t1, ho⟩ := exo_at I.hok e
  obtain ⟨hp, g, d, t, os⟩ := s
  refine wpAny_call (HandSPX.init_base F.excBase_ArithmeticError hT hC ho hl fun h' t2 k hx => ?_)
  have J := I.write (t' := t) (x := a) (e := a) (o := exo a C none) (by rw [e]; trivial) (.inl rfl) k ⟨_, hx⟩ (exo_ok hx)
  have same : upd H a (exo a C none) = H := funext fun b => if z : b = a then by rw [z, upd_same, e] else upd_ne z
  rw [same] at J
  exact h _ J
/-! ### the defs __init__ -/
/-- what the written part says of SectionError -/
structure XBase (K : PySem.W.Frag) (mg : Str → Option Value) (x : Str) (B : Addr) : Prop where
  gl : mg x = some (.ref B)
  rd : PySem.W.readsIn K B (.type "type") = true
  fc : PySem.W.findCls K (.ref B) (.type "type") "__init__" = some (.val (.builtin "ArithmeticError.__init__"))
  sp : PySem.W.specialIn K (.ref B) "__getattribute__" = some (some (.builtin "type.__getattribute__"))
def fcB (o : Option PySem.W.CFound) : Bool := match o with
  | some (.val (.builtin i)) => i == "ArithmeticError.__init__"
  | _ => false
theorem fcB_ok {o : Option PySem.W.CFound} (h : fcB o = true) : o = some (.val (.builtin "ArithmeticError.__init__")) := by
  unfold fcB at h
  split at h
  · rw [beq_iff_eq.mp h]
  · cases h
def xbaseB (K : PySem.W.Frag) (B : Addr) : Bool := PySem.W.readsIn K B (.type "type") && (fcB (PySem.W.findCls K (.ref B) (.type "type") "__init__") && decide (PySem.W.specialIn K (.ref B) "__getattribute__" = some (some (.builtin "type.__getattribute__"))))
theorem xbaseB_ok {K : PySem.W.Frag} {mg : Str → Option Value} {x : Str} {B : Addr} (g : mg x = some (.ref B)) (h : xbaseB K B = true) : XBase K mg x B := by
  unfold xbaseB at h
  simp only [Bool.and_eq_true, decide_eq_true_eq] at h
  exact ⟨g, h.1, fcB_ok h.2.1, h.2.2⟩
def tXi (K : PySem.W.Frag) (f : Str) (ta : TA) : TE := fun σ H Q => ta σ H fun vs H1 => ∃ (a C : Addr) (ws : List V), vs = .ref a :: ws ∧ ws.length ≤ 1000 ∧ XCls K C f ∧ H1 a = some (exo a C none) ∧ Q .non H1
theorem pe_xinit {e : Expr} {es : List Expr} {ta : TA} {x : Str} {B : Addr} {p1 p2 pos : Pos} {pl : Sem Bool} (b : XBase X.K X.mg x B) (hg : Gl X x) (ha : PA X (e :: es) ta)
    (hc : eval (.Call (.Attribute (.Name x p1) "__init__" p2) (e :: es) [] pos) X.env = (do
      let ov ← eval (.Name x p1) X.env
      standAt p2.atName
      let (f, first) ← holding [ov] (getMethod ov "__init__" pl)
      callWith pos f first (backTo pos (starEach (e :: es) X.env)) (backToKw pos (keywordEach [] X.env))) := by rfl)
    (hdb : (x == ("__debug__" : Str)) = false := by decide) (he : starEach (e :: es) X.env = (false, eval e X.env) :: starEach es X.env := by rfl) (hpl : (backTo pos (starEach es X.env)).any (·.1) = false := by rfl) :
    PE X (.Call (.Attribute (.Name x p1) "__init__" p2) (e :: es) [] pos) (tXi X.K f ta) := by
  refine ⟨fun pins s σ H Q I h => ?_⟩
  refine PySem.W.methodCall_KW (ld_glob I hg b.gl ?_ hdb) hc
  refine PySem.W.method_cls I.kIn b.sp (PySem.W.cls_value I.kIn b.rd b.fc (by decide +kernel) ?_)
  show wpAny _ _ (callWith pos (Value.builtin "ArithmeticError.__init__") [] (backTo pos (starEach (e :: es) X.env)) []) _ _ _
  refine PyProof.Rows.callWith_method1 (thn (ha.run pos pins _ σ H _ (I.tok _) h) fun us s1 ⟨vs, H1, I1, r1, a, C, ws, ev, hl, T, ea, q⟩ => ?_) he hpl
  subst ev
  cases r1 with
  | @cons _ u0 _ ur ra rs =>
    obtain rfl : u0 = Value.ref a := ra
    exact xinit_ok T I1 ea (by rw [← Paired.length rs, sizeLine_eq]; omega) fun s' J => ⟨.non, H1, J, rfl, q⟩
def tXst (K : PySem.W.Frag) (f : Str) (to te : TE) : TS := fun D σ H => te σ H fun y H1 => to σ H1 fun x H2 => ∃ a C : Addr, x = .ref a ∧ XCls K C f ∧ H2 a = some (exo a C none) ∧ ∀ dx, H2 dx = none → dx ≠ a → D.nx σ (upd (upd H2 dx (exd dx [(f, y)])) a (exo a C (some dx)))
theorem ps_xst {o e : Expr} {to te : TE} {p' pos : Pos} (ho : PE X o to) (he : PE X e te) (hs : swapsWith e (some (.Attribute o f p')) pos.line X.env = pure false := by rfl) : PS X (.Assign [.Attribute o f p'] e pos) (tXst X.K f to te) := by
  refine ⟨fun pins s σ H D I h => ?_⟩
  refine plainObj_wpAny_Assign_Attribute (thn (he.run pins s σ H _ I h) fun v s1 ⟨y, H1, I1, r1, q1⟩ => thn (ho.run pins s1 σ H1 _ I1 q1) fun u s2 ⟨x, H2, I2, r2, a, C, ex, T, ea, q⟩ => ?_) hs
  subst ex
  obtain rfl : u = Value.ref a := r2
  exact xst_new T I2 ea r1 fun dx s' n ne J => ⟨σ, _, J, q dx n ne⟩
end
/-- what __init__ promises -/
def spX (K : PySem.W.Frag) (f : Str) : Sp := fun vs H Q _ => ∃ (a C : Addr) (y : V), vs = [.ref a, y] ∧ XCls K C f ∧ H a = some (exo a C none) ∧ ∀ dx, H dx = none → dx ≠ a → Q .non (upd (upd H dx (exd dx [(f, y)])) a (exo a C (some dx)))
section
variable {X : Cx} {W : WX} {e : Expr} {ta : TA} {x f : Str} {C fI : Addr} {fd : FuncData} {k : Nat} {p pos : Pos}
def tMkX (C : Addr) (f : Str) (ta : TA) : St → Hp → XK → Prop := fun σ H Q => ta σ H fun vs H1 => ∃ y, vs = [y] ∧ ∀ d, H1 d = none → Q (.ref C) (some d) (upd H1 d (.xd [(f, y)]))
/-- C(e) in a raise -/
theorem pmk_x (T : XCls X.K C f) (iC : PySem.W.findIn X.K (.ref C) "__init__" = some (some (.ref fI))) (tI : PySem.W.typeIn X.K (.ref fI) = some (.type "function"))
    (F1 : FnOk X.prog X.w X.K X.mg X.base (L2.CX X.prog X.w) k fI fd ["self", f] (spX X.K f)) (hr : Room (k + 1) X.A) (hb : Binds X.K fd ["self", f] []) (tk : Takes X W) (hg : Gl X x) (hm : X.mg x = some (.ref C)) (ha : PA X [e] ta)
    (hdb : (x == ("__debug__" : Str)) = false := by decide) (he : starEach [e] X.env = (false, eval e X.env) :: starEach [] X.env := by rfl) (hpl : (backTo pos (starEach [] X.env)).any (·.1) = false := by rfl) :
    PMk X (.Call (.Name x p) [e] [] pos) (tMkX C f ta) := by
  intro pins s σ H Q I h
  obtain ⟨nm, N, qn, bs, bm, hdct, sn, sub, ab, col, dd, k0, k1, k2, k3, k5, hC, hT⟩ := PySem.W.excInit_of I.kIn T.ini
  refine wpAny_Call_Name_kw (ld_glob I hg hm ?_ hdb)
  refine PySem.W.callWith_K (h₀ := X.base) I.ok.mod.kin T.kC (thn (ha.run pos pins s σ H _ I h) fun us s1 ⟨vs, H1, I1, r1, y, ev, q1⟩ => ⟨I1.kIn, ?_⟩) he hpl
  subst ev
  obtain ⟨u, rfl, ru⟩ : ∃ u, us = [u] ∧ RelV y u := by
    cases r1 with
    | cons a b => cases b; exact ⟨_, rfl, a⟩
  show wpAny _ _ (call (.ref C) [u]) _ _ _
  obtain ⟨nm, N, qn, bs, bm, hdct, sn, sub, ab, col, dd, k0, k1, k2, k3, k5, hC, hT⟩ := PySem.W.excInit_of I1.kIn T.ini
  obtain ⟨hp, g, dr, tk1, os⟩ := s1
  let a := hp.objs.size + 1
  have ale : hp.objs.size ≤ a := Nat.le_succ _
  have an : H1 a = none := I1.hok.fresh ale
  let hp2 := (hp.push (PySem.W.kdv_tup [u])).push (HandSPX.excO C hp.objs.size)
  have stay : ∀ b o, hp.get? b = some o → hp2.get? b = some o := fun b o z => Heap.get?_push_of_some _ (Heap.get?_push_of_some _ z)
  have got : ((hp.push (PySem.W.kdv_tup [u])).push (HandSPX.excO C hp.objs.size)).get? (hp.objs.size + 1) = some (HandSPX.excO C hp.objs.size) := by heap_get
  have I2 : Inv X pins σ (upd H1 a (exo a C none)) ⟨hp2, g, dr, tk1, os⟩ := I1.laid (t' := tk1) (a := a) (o := exo a C none) (h' := hp2) stay ale (exo_ok got)
  have sp1 : spX X.K f [.ref a, y] (upd H1 a (exo a C none)) (fun v H2 => v = .non ∧ ∃ d, H1 d = none ∧ d ≠ a ∧ H2 = upd (upd (upd H1 a (exo a C none)) d (exd d [(f, y)])) a (exo a C (some d))) (fun _ _ _ => False) := by
    refine ⟨a, C, y, rfl, T, upd_same, fun dx hn ne => ⟨rfl, dx, ?_, ne, rfl⟩⟩
    rw [upd_ne ne] at hn
    exact hn
  have b1 := hb ⟨hp2, g, dr, tk1, os⟩ [.ref a, u] I2.kIn rfl
  rw [List.append_nil] at b1
  refine wpAny_call (HandSPX.call_own F.excBase_ArithmeticError hT hC (PySem.W.looks_findIn I1.kIn iC) (fun self => PySem.W.bind_fn I1.kIn self tI) (by rw [sizeLine_eq]; exact (by decide : 1 ≤ 16777216))
    (codeAny_mono (F1.run _ X.stack _ _ _ [.ref a, u] [.ref a, y] _ _ (hr.make C [u] []) (I2.env0.make C [u] []) b1 (.cons rfl (.cons ru .nil)) sp1) fun r s' z => ?_))
  cases r with
  | error er => exact passes_call tk (E := fun _ _ _ => False) (fun _ _ _ _ z => z.elim) pins σ _ _ er s' I2 z
  | ok fl =>
    cases fl with
    | next => exact z.elim
    | brk => exact z.elim
    | cont => exact z.elim
    | ret v0 =>
      obtain ⟨v, H2, os2, bare2, un2, hok2, rv, rfl, d, dn, dne, rfl⟩ := z
      obtain ⟨h2, g2, d2, t2, os'⟩ := s'
      have same : upd (del (upd (upd (upd H1 a (exo a C none)) d (exd d [(f, y)])) a (exo a C (some d))) a) d (.xd [(f, y)]) = upd H1 d (.xd [(f, y)]) := by
        funext b
        by_cases h1 : b = d
        · rw [h1, upd_same, upd_same]
        · rw [upd_ne h1, upd_ne h1]
          by_cases h2 : b = a
          · rw [h2, del_same, an]
          · rw [del_ne h2, upd_ne h2, upd_ne h1, upd_ne h2]
      refine ⟨rv, mk_end (raises_own T.exC T.tyC) I1 ale stay un2 hok2 os2 bare2 upd_same (by rw [upd_ne dne, upd_same]) dn ?_⟩
      rw [same]
      exact q1 d dn
end
/-! ### raise -/
theorem MR.more {Γ : Gd} {G S H : Hp} {ρ : List Addr} {m : Mem} {p : Addr} (M : MR Γ G S H ρ m) (hp : H p = none) (o : HO) : MR Γ G S (upd H p o) ρ m := by
  refine ⟨fun b x q => ?_, fun b x q => ?_, M.dis, M.len, fun i xs q => ?_, M.inj, M.tab.h (.inl hp) o, M.dic.h (.inl hp) o, M.mix.same (Same.refl S) fun i b q => ⟨(M.mix.own q).1, (M.mix.own q).2.1, upd_ne (M.mix.ne q hp)⟩⟩
  · rw [upd_ne (ne_of_none (M.sub b x q) hp)]; exact M.sub b x q
  · rw [upd_ne (ne_of_none (M.gsub b x q) hp)]; exact M.gsub b x q
  · obtain ⟨a, vs, h1, h2, h3⟩ := M.cell i xs q
    exact ⟨a, vs, h1, by rw [upd_ne (ne_of_none h2 hp)]; exact h2, h3⟩
def dRaise (x f : Str) (fs : En → P (List SV)) : DS := fun env => (fs env).bnd fun vs m => match vs with
  | [.dat d] => .exc ⟨x, [(f, d)]⟩ m
  | _ => .stuck
/-- what a raise needs of a class -/
structure Rsr (P : Program) (w : World) (K : PySem.W.Frag) (mg : Str → Option Value) (base : Heap) (x f : Str) : Prop where
  ex : ∃ C fI fd, mg x = some (.ref C) ∧ XCls K C f ∧ PySem.W.findIn K (.ref C) "__init__" = some (some (.ref fI)) ∧ PySem.W.typeIn K (.ref fI) = some (.type "function") ∧ FnOk P w K mg base (L2.CX P w) 1 fI fd ["self", f] (spX K f) ∧ Binds K fd ["self", f] []
theorem js_raise {X : Cx} {W : WX} {e : Expr} {x f : Str} {fs : En → P (List SV)} {k : Nat} {p pos pos' : Pos} (r : Rsr X.prog X.w X.K X.mg X.base x f) (hr : RoomG k X.A) (hc : X.calm = true) (tk : Takes X W) (hg : Gl X x) (ja : JA X W [e] fs) (hk : 2 ≤ k := by decide)
    (hdb : (x == ("__debug__" : Str)) = false := by decide) (he : starEach [e] X.env = (false, eval e X.env) :: starEach [] X.env := by rfl) (hpl : (backTo pos (starEach [] X.env)).any (·.1) = false := by rfl) :
    JS X W (.Raise (some (.Call (.Name x p) [e] [] pos)) none pos') (dRaise x f fs) := ⟨fun {G S H ρ m env σ D} M E h => by
  obtain ⟨C, fI, fd, hm, T, iC, tI, F1, hb⟩ := r.ex
  refine ws_of (ps_raise hc tk (pmk_x (x := x) T iC tI F1 (hr.rm.mono hk) hb tk hg hm pa_wa hdb he hpl)) (ja.run M E (wpr_mono (wpr_bnd h) (fun vs m1 hv => ?_) fun _ _ z => qx_of z))
  intro S1 H1 ρ1 xv e1 M1 rx
  split at hv
  · rename_i d
    obtain ⟨y, rfl, r1⟩ := paired1 rx
    exact ⟨y, rfl, fun dd hd => hv S1 _ ρ1 σ _ _ e1 (M1.more hd _) ⟨C, dd, [(f, y)], hm, rfl, rfl, upd_same, rfl, .cons r1 .nil⟩⟩
  · exact hv.elim⟩
/-! ### try .. except x as n: return e -/
theorem xr_look {Γ : Gd} {S : Hp} : ∀ {fs : List (Str × V)} {gs : List (Str × D)} {f : Str} {r : D}, fs.map (·.1) = gs.map (·.1) → RpAll Γ S (fs.map (·.2)) (gs.map (·.2)) → gs.lookup f = some r → ∃ v, fs.lookup f = some v ∧ Rp Γ S v r
  | [], [], f, r, _, _, h => by simp at h
  | [], _ :: _, _, _, e, _, _ => by simp at e
  | _ :: _, [], _, _, e, _, _ => by simp at e
  | (a, v) :: fs, (b, d) :: gs, f, r, e, h, l => by
    simp only [List.map_cons, List.cons.injEq] at e
    obtain ⟨rfl, e⟩ := e
    cases h with
    | cons h1 h2 =>
      rw [List.lookup_cons] at l ⊢
      cases hq : f == a with
      | true =>
        rw [hq] at l
        cases l
        exact ⟨v, rfl, h1⟩
      | false =>
        rw [hq] at l
        exact xr_look e h2 l
theorem XR.more {Γ : Gd} {S S' H : Hp} {cls : Value} {d : Option Addr} {y : Exc} {p : Addr} {o : HO} (x : XR Γ S H cls d y) (s : Same S S') (hp : H p = none) : XR Γ S' (upd H p o) cls d y := by
  obtain ⟨C, dd, fs, h1, h2, h3, h4, h5, h6⟩ := x
  exact ⟨C, dd, fs, h1, h2, h3, by rw [upd_ne (ne_of_none h4 hp)]; exact h4, h5, h6.mono s⟩
structure JX (X : Cx) (i : Nat) (a : Addr) (cls : Value) (d : Option Addr) (e : Expr) (g : Exc → Option D) : Prop where
  run : ∀ {G S H : Hp} {ρ : List Addr} {m : Mem} {σ : St} {Q : VK} {y : Exc} {r : D}, MR (gd X) G S H ρ m → XR (gd X) S H cls d y → σ[i]? = some (some (.ref a)) → g y = some r →
    (∀ S' H' vv, Same S S' → MR (gd X) G S' H' ρ m → XR (gd X) S' H' cls d y → Rp (gd X) S' vv r → Q vv H') → WE X e σ H Q
section
variable {X : Cx} {i : Nat} {a : Addr} {cls : Value} {d : Option Addr} {oe : Obj} {pn : List (Addr × Obj)} {e e1 e2 : Expr} {g g1 g2 : Exc → Option D} {pos p : Pos}
theorem jx_c {t : TE} {v : V} {r : D} (h : PE X e t) (ht : ∀ σ H Q, Q v H → t σ H Q) (hr : ∀ S, Rp (gd X) S v r) : JX X i a cls d e (fun _ => some r) := ⟨fun {G S H ρ m σ Q y r'} M x _ hg k => by
  cases hg
  exact we_of h (ht σ H Q (k S H v (Same.refl S) M x (hr S)))⟩
theorem jx_str {z j} : JX X i a cls d (.Constant (.str z) j pos) (fun _ => some (.str z)) := jx_c pe_str (fun _ _ _ h => h) fun _ => .str z
theorem jx_int {n j} : JX X i a cls d (.Constant (.int n) j pos) (fun _ => some (.int n)) := jx_c pe_int (fun _ _ _ h => h) fun _ => .int n
/-- what is read of a caught exception of a known class -/
def gF (x f : Str) : Exc → Option D := fun y => if y.cls = x then y.fs.lookup f else none
theorem jx_fld {x f n : Str} {C : Addr} (hm : X.mg x = some (.ref C)) (T : XCls X.K C f) (hz : Zc cls d oe) (hf : ∃ vs, oe.data = .fields vs) (hN : X.N[i]? = some n := by rfl) (hv : Vis X.env.scope n := by first | exact Or.inl rfl | exact Or.inr (Or.inl rfl) | exact Or.inr (Or.inr rfl)) (hd : (n == ("__debug__" : Str)) = false := by decide)
    (hcd : (n == ("__classdict__" : Str)) = false := by decide) (hb : attributeBase (.Name n p) f X.env (eval (.Name n p) X.env) = eval (.Name n p) X.env := by rfl) :
    JX (X.suite a ((a, oe) :: pn)) i a cls d (.Attribute (.Name n p) f pos) (gF x f) := ⟨fun {G S H ρ m σ Q y r} M xr hσ hg k => by
  unfold gF at hg
  split at hg
  · rename_i hx
    have xr' := xr
    obtain ⟨C', dd, fs, h1, h2, h3, h4, h5, h6⟩ := xr
    rw [hx] at h1
    have ec : C' = C := by
      have z : some (Value.ref C') = some (.ref C) := h1.symm.trans hm
      cases z
      rfl
    subst ec
    obtain ⟨v, l1, l2⟩ := xr_look h5 h6 hg
    exact we_of (pe_xf (X := X) (pn := pn) T.xf T.nf hz hf (pe_var hN hv hd hcd) hb) ⟨_, hσ, rfl, h2, dd, fs, v, h3, h4, l1, k S H v (Same.refl S) M xr' l2⟩
  · cases hg⟩
def gEq (g1 g2 : Exc → Option D) : Exc → Option D := fun y => match g1 y, g2 y with
  | some p, some q => if okD p && okD q then some (.bl (eqd p q)) else none
  | _, _ => none
theorem jx_eq (hu : X.A.units + 64 < cLine) (j1 : JX X i a cls d e1 g1) (j2 : JX X i a cls d e2 g2) (hm : behindInMarks .Eq e2 = false := by first | exact nomark _ | rfl) : JX X i a cls d (.Compare e1 [.Eq] [e2] pos) (gEq g1 g2) := ⟨fun {G S H ρ m σ Q y r} M xr hσ hg k => by
  unfold gEq at hg
  split at hg
  · rename_i p q hp hq
    split at hg
    · rename_i ok
      cases hg
      rw [Bool.and_eq_true] at ok
      refine we_cmp hm (j1.run M xr hσ hp fun S1 H1 v1 s1 M1 x1 r1 => j2.run M1 x1 hσ hq fun S2 H2 v2 s2 M2 x2 r2 => ?_)
      refine wo_of (op_eqD hu) ⟨toPy p, toPy q, ((r1.mono s2).mono M2.sub).dp (okD_plain ok.1), (r2.mono M2.sub).dp (okD_plain ok.2), okD_shaped ok.1, okD_shaped ok.2, ?_⟩
      exact k S2 H2 _ (s1.trans s2) M2 x2 (.bl _)
    · cases hg
  · cases hg⟩
def gTup (g1 g2 : Exc → Option D) : Exc → Option D := fun y => match g1 y, g2 y with
  | some p, some q => some (.tup [p, q])
  | _, _ => none
theorem jx_tup {kk : Nat} (j1 : JX X i a cls d e1 g1) (j2 : JX X i a cls d e2 g2) (hs : starEach [e1, e2] X.env = (false, eval e1 X.env) :: starEach [e2] X.env := by rfl) (hs2 : starEach [e2] X.env = (false, eval e2 X.env) :: starEach [] X.env := by rfl) :
    JX X i a cls d (.Tuple [e1, e2] kk pos) (gTup g1 g2) := ⟨fun {G S H ρ m σ Q y r} M xr hσ hg k => by
  unfold gTup at hg
  split at hg
  · rename_i p q hp hq
    cases hg
    refine we_of (pe_tup (pa_cons pe_we (pa_cons pe_we pa_nil hs2) hs)) (j1.run M xr hσ hp fun S1 H1 v1 s1 M1 x1 r1 => j2.run M1 x1 hσ hq fun S2 H2 v2 s2 M2 x2 r2 => ?_)
    refine ⟨by rw [sizeLine_eq]; exact (by decide : 2 ≤ 16777216), fun t ht => ?_⟩
    obtain ⟨s3, M3⟩ := M2.grow ht (.tup [v1, v2])
    exact k _ _ _ ((s1.trans s2).trans s3) M3 (x2.more s3 ht) (.tup (.inl (.inl upd_same)) (.cons ((r1.mono s2).mono s3) (.cons (r2.mono s3) .nil)))
  · cases hg⟩
end
def dTryAs (others : List (Str × Bool)) (g : Exc → Option D) (fb : DS) : DS := fun env m => match fb env m with
  | .exc y m1 => (match others.lookup y.cls with
    | some true => (match g y with | some r => .ok (.rt (.dat r)) m1 | none => .stuck)
    | some false => .exc y m1
    | none => .stuck)
  | r => r
/-- which classes a clause catches -/
def Exm (K : PySem.W.Frag) (mg : Str → Option Value) (C : Addr) (others : List (Str × Bool)) : Prop := ∀ y b, others.lookup y = some b → ∃ C', mg y = some (.ref C') ∧ PySem.W.exmOne K (.ref C') (.ref C) = some b
theorem js_tryAs {X : Cx} {W : WX} {x n : Str} {C : Addr} {i : Nat} {body : List Stmt} {E : Expr} {fb : DS} {g : Exc → Option D} {others : List (Str × Bool)} {np rp pos pos' : Pos}
    (hs : X.stack = X.env :: X.outer) (hf : X.env.frame = some X.env.locals) (hN : X.N.Nodup) (hi : X.N[i]? = some n) (hln : X.env.kindOf n = some .local) (hg : Gl X x) (hm : X.mg x = some (.ref C)) (tk : Takes X W) (hex : Exm X.K X.mg C others)
    (jb : ∀ (W' : WX) (pn : List (Addr × Obj)) (xe : Value → Shared → Prop), Takes (X.tr pn xe) W' → PassesOwn (model X.prog X.w) X.A X.env xe → JB (X.tr pn xe) W' body fb)
    (jx : ∀ (a : Addr) (oe : Obj) (cls : Value) (d : Option Addr) (pn : List (Addr × Obj)), Zc cls d oe → (∃ vs, oe.data = .fields vs) → JX (X.suite a ((a, oe) :: pn)) i a cls d E g)
    (hdb : (x == ("__debug__" : Str)) = false := by decide) :
    JS X W (.Try body [.ExceptHandler (some (.Name x np)) (some n) [.Return (some E) rp] pos'] [] [] pos) (dTryAs others g fb) := ⟨fun {G S H ρ m env σ D} M E0 h => by
  refine ws_of (ps_try_as (i := i) (c := .ref C) (tb := fun W' D σ H => ∀ (pn : List (Addr × Obj)) (xe : Value → Shared → Prop), Takes (X.tr pn xe) W' → PassesOwn (model X.prog X.w) X.A X.env xe → WSs (X.tr pn xe) body D σ H)
    (ts := fun a cls d D σ H => ∀ (oe : Obj) (pn : List (Addr × Obj)), Zc cls d oe → (∃ vs, oe.data = .fields vs) → WE (X.suite a ((a, oe) :: pn)) E σ H D.rt) (Wout := W) hs hf hN hi hln ⟨hg, hdb, .inl hm⟩ tk
    (fun W' pn xe tk' hp => ⟨fun pins s σ H D I q => q pn xe tk' hp pins s I⟩) (fun a oe cls d pn hz hv => ⟨fun pins s σ H D I q => (pss_one (ps_ret pe_we)).run pins s σ H D I (q oe pn hz hv)⟩)) ?_
  intro pn xe tk' hp
  refine (jb _ pn xe tk' hp).run (G := G) (S := S) (ρ := ρ) (m := m) (env := env) M E0 ?_
  unfold dTryAs at h
  cases hr : fb env m with
  | stuck => rw [hr] at h; exact h.elim
  | ok o m1 => rw [hr] at h; exact h
  | exc y m1 =>
    rw [hr] at h
    intro S' H' ρ' σ' cls d e' M' xr
    cases ho : others.lookup y.cls with
    | none => simp only [ho] at h; exact h.elim
    | some b =>
      obtain ⟨C', hm', hx'⟩ := hex y.cls b ho
      have ec : cls = .ref C' := by
        obtain ⟨C2, _, _, h1, h2, _⟩ := xr
        rw [h2]
        have z : some (Value.ref C2) = some (.ref C') := h1.symm.trans hm'
        cases z
        rfl
      simp only [ho] at h
      cases b with
      | false => exact ⟨false, by rw [ec]; exact hx', (fun z => by cases z), fun _ => h S' H' ρ' σ' cls d e' M' xr⟩
      | true =>
        refine ⟨true, by rw [ec]; exact hx', fun _ a ha oe pn2 hz hv pins s I => ?_, (fun z => by cases z)⟩
        cases hgy : g y with
        | none => simp only [hgy] at h; exact h.elim
        | some r =>
          simp only [hgy] at h
          have hlen : i < σ'.length := by
            have l1 := I.len
            have l2 := (List.getElem?_eq_some_iff.mp hi).1
            rw [List.length_set] at l1
            have l3 : X.N.length = σ'.length := l1.symm
            omega
          exact (jx a oe cls d pn2 hz hv).run M' xr (List.getElem?_set_self hlen) hgy (fun S2 H2 vv s2 M2 _ r2 => h S2 H2 ρ' vv ⟨e'.s.trans s2, e'.r⟩ M2 r2) pins s I⟩
def clsDef (s : Stmt) (j : Nat) : Stmt := match s with
  | .ClassDef _ _ _ b _ _ _ _ _ _ _ => b.getD j (.Pass ⟨0, 0, 0, 0⟩)
  | _ => .Pass ⟨0, 0, 0, 0⟩
/-- the checks of a class, of a catch -/
def classB (K : PySem.W.Frag) (x f : Str) : Bool := xclsB K (He.ga K x) f && (decide (PySem.W.findIn K (.ref (He.ga K x)) "__init__" = some (some (.ref (He.fAd K (x, some "__init__"))))) && decide (PySem.W.typeIn K (.ref (He.fAd K (x, some "__init__"))) = some (.type "function")))
def exmB (K : PySem.W.Frag) (x : Str) (others : List (Str × Bool)) : Bool := others.all fun q => decide (PySem.W.exmOne K (.ref (He.ga K q.1)) (.ref (He.ga K x)) = some q.2)
structure ClsF (K : PySem.W.Frag) (mg : Str → Option Value) (x f : Str) (st : Stmt) : Prop where
  ex : ∃ C fI fd, mg x = some (.ref C) ∧ XCls K C f ∧ PySem.W.findIn K (.ref C) "__init__" = some (some (.ref fI)) ∧ PySem.W.typeIn K (.ref fI) = some (.type "function") ∧ FunD K "__init__" (x ++ ".__init__") (defArgs st) (defBody st) (defScope st) [] [] fI fd
theorem clsF_of {K : PySem.W.Frag} {mg : Str → Option Value} {x f : Str} {st : Stmt} (g : mg x = some (.ref (He.ga K x))) (h : classB K x f = true) (F : ∃ fd, FunD K "__init__" (x ++ ".__init__") (defArgs st) (defBody st) (defScope st) [] [] (He.fAd K (x, some "__init__")) fd) : ClsF K mg x f st := by
  unfold classB at h
  simp only [Bool.and_eq_true, decide_eq_true_eq] at h
  obtain ⟨fd, F⟩ := F
  exact ⟨_, _, fd, g, xclsB_ok h.1, h.2.1, h.2.2, F⟩
theorem exm_of {K : PySem.W.Frag} {mg : Str → Option Value} {x : Str} {others : List (Str × Bool)} {C : Addr} (gx : mg x = some (.ref (He.ga K x))) (hC : mg x = some (.ref C)) (g : ∀ q ∈ others, mg q.1 = some (.ref (He.ga K q.1))) (h : exmB K x others = true) : Exm K mg C others := by
  intro y b hy
  have ec : C = He.ga K x := by
    rw [gx] at hC
    cases hC
    rfl
  have hm : (y, b) ∈ others := by
    clear g h
    induction others with
    | nil => cases hy
    | cons q r ih =>
      obtain ⟨a, c⟩ := q
      rw [List.lookup_cons] at hy
      cases hq : y == a with
      | true =>
        rw [hq] at hy
        cases hy
        rw [beq_iff_eq.mp hq]
        exact List.mem_cons_self
      | false =>
        rw [hq] at hy
        exact List.mem_cons_of_mem _ (ih hy)
  refine ⟨_, g _ hm, ?_⟩
  have := List.all_eq_true.mp h _ hm
  rw [ec]
  exact of_decide_eq_true this
/-! ### the head, with the statics -/
/-- a table of code objects, still empty -/
def isTab (o : Obj) : Bool := match o.cls, o.data with
  | .none, .fields vs => vs.size == 0
  | _, _ => false
def kC (n : Nat) (g : Addr → Option Obj) : PySem.W.Frag := He.frG g ((He.asD g n ++ [cStatics]).filter fun a => match g a with
  | some o => !isTab o
  | none => true)
def exC (n : Nat) (fa : List He.Fa) (fn : List He.DefD) (ex : PySem.W.Frag → Bool) (g : Addr → Option Obj) : He.AlD × Bool := (He.obsD fa fn (kC n g), ex (kC n g))
def hookC (n : Nat) (fa : List He.Fa) (fn : List He.DefD) (ex : PySem.W.Frag → Bool) : PySem.W.Hook where
  α := He.AlD × Bool
  obs := fun s => exC n fa fn ex s.heap.get?
  val := fun _ => (He.valD fn, true)
  says := fun _ h => ∃ K : PySem.W.Frag, K.In h ∧ He.SaysD fa fn K ∧ ex K = true
  of := fun _ _ e => ⟨_, He.frG_in, congrArg Prod.fst e, congrArg Prod.snd e⟩
  keeps := fun _ _ _ ⟨K, hK, c⟩ k => ⟨K, PySem.W.Frag.In.keeps hK k, c⟩
theorem exC_eq {n : Nat} {fa : List He.Fa} {fn : List He.DefD} {ex : PySem.W.Frag → Bool} {g : Addr → Option Obj} {s : Shared} (h : ∀ a, g a = s.heap.get? a) : exC n fa fn ex g = (hookC n fa fn ex).obs s := by
  have e : g = s.heap.get? := funext h
  rw [e] <;> rfl
/-! ### simp lemmas -/
def tryR (others : List (Str × Bool)) (g : Exc → Option D) (r : R Out) : R Out := match r with
  | .exc y m1 => (match others.lookup y.cls with
    | some true => (match g y with | some r => .ok (.rt (.dat r)) m1 | none => .stuck)
    | some false => .exc y m1
    | none => .stuck)
  | r => r
@[simp] theorem dTryAs_ap (others : List (Str × Bool)) (g : Exc → Option D) (fb : DS) (env : En) (m : Mem) : dTryAs others g fb env m = tryR others g (fb env m) := (rfl)
@[simp] theorem tryR_ok (others : List (Str × Bool)) (g : Exc → Option D) (o : Out) (m : Mem) : tryR others g (.ok o m) = .ok o m := (rfl)
theorem tryR_exc {others : List (Str × Bool)} {g : Exc → Option D} {y : Exc} {m : Mem} {r : D} (h1 : others.lookup y.cls = some true) (h2 : g y = some r) : tryR others g (.exc y m) = .ok (.rt (.dat r)) m := by
  simp [tryR, h1, h2]
def kRaise (x f : Str) (vs : List SV) (m : Mem) : R Out := match vs with
  | [.dat d] => .exc ⟨x, [(f, d)]⟩ m
  | _ => .stuck
@[simp] theorem kRaise_ap (x f : Str) (d : D) (m : Mem) : kRaise x f [.dat d] m = .exc ⟨x, [(f, d)]⟩ m := (rfl)
@[simp] theorem dRaise_ap (x f : Str) (fs : En → P (List SV)) (env : En) (m : Mem) : dRaise x f fs env m = (fs env m).bnd (kRaise x f) := (rfl)
end PL

/-! PL15: len(set(xs)), sorted(set(xs)) of a list of ints. -/
namespace PL
open PySem PySem.Spec PyProof.Rows L2
abbrev setN (led : Bool) : Obj := { cls := .type "set", dict := none, data := .set #[] 0 (.fresh 0 0 led) }
section
variable {P : Program} {w : World} {A : Around} {E : Value → Shared → Prop} {s : Shared}
set_option maxHeartbeats 3200000 in
/-- set(xs), xs a list of ints -/
theorem call_setI {l : Addr} {items : Array Value} (ns : List Int) {Q : Value → Shared → Prop} (noH : A.handled = none) (isl : s.heap.IsList l items) (inA : IntsAre items.toList ns) (few : ns.length + 1 < scanBound)
    (k : ∀ (h' : Heap) (tk c : Nat), SetR w h' s.heap.objs.size (fun j => decide (j ∈ ns)) c → c ≤ ns.length → (∀ b o, s.heap.get? b = some o → h'.get? b = some o) → Q (.ref s.heap.objs.size) { s with heap := h', toks := tk }) :
    wpAny (model P w) A (call (.type "set") [.ref l]) Q E s := by
  have len1 : items.size = ns.length := (Array.length_toList (xs := items)).symm.trans (IntsAre.length inA)
  obtain ⟨c0, tl0, mro0⟩ := F.called_set.mro
  have made0 := F.called_set.made
  have sub0 := F.called_set.sub
  refine wpAny_call (codeAny_of_tree ?_)
  show wpAny _ _ (callAny (.type "set") _) _ _ _
  refine wpAny_pure ⟨Code.quiet_builtin _ (by decide +kernel), codeAny_builtin F.entry_type_call ?_⟩
  rw [Around.under_plain (weight_type_call_type "set" [.ref l] []) rfl]
  have nt0 := F.called_set.notType
  have cc0 := F.called_set.canCreate
  have tc0 := F.typeCall_set_1 (.ref l)
  repeat (any_goals (first | assumption | wp_step))
  let led := !w.params.followText "set-order"
  refine codeAny_mono (code_set_led1 (.ref l) (E := E) (Q₁ := fun ob t1 => ob = .ref s.heap.objs.size ∧ t1 = { s with heap := s.heap.push (setN led) }) ⟨rfl, rfl⟩) fun r0 t0 z0 => ?_
  cases r0 with
  | error e => exact z0
  | ok f0 =>
    cases f0 with
    | next => exact z0.elim
    | brk => exact z0.elim
    | cont => exact z0.elim
    | ret ob =>
      obtain ⟨rfl, rfl⟩ := z0
      have new0 : (s.heap.push (setN led)).get? s.heap.objs.size = some (setN led) := Heap.get?_push_size _ rfl
      have ty0 : Shared.TypeIs { s with heap := s.heap.push (setN led) } (.ref s.heap.objs.size) "set" := ⟨_, new0, rfl⟩
      have il0 := F.called_set.init.lookup
      have ib0 := F.called_set.init.bind (.ref s.heap.objs.size)
      repeat (any_goals (first | assumption | wp_step))
      refine codeAny_mono (codeAny_call_builtin (R := wants (fun r t2 => r = .none ∧ ∃ h' tk c, t2 = { s with heap := h', toks := tk } ∧ SetR w h' s.heap.objs.size (fun j => decide (j ∈ ns)) c ∧ c ≤ ns.length ∧ (∀ b o, s.heap.get? b = some o → h'.get? b = some o)) E)
        F.called_set.init.plain F.entry_set_init (check_set_init_1 ty0 ?_)) fun r2 t2 z2 => ?_
      · obtain ⟨⟨ocls, odict, odata, oslots⟩, at0, cl0, nl, dt0⟩ := isl
        simp only at cl0 dt0
        subst cl0 dt0
        have at1 : (s.heap.push (setN led)).get? l = some { cls := .type "list", dict := odict, data := .seq items nl, slots := oslots } := Heap.get?_push_of_some _ at0
        have su1 := F.sub_list_set
        have su2 := F.sub_list_frozenset
        have nd1 : (Value.type "list" == Value.type "dict") = false := by decide
        have il1 : (s.heap.push (setN led)).IsList l items := ⟨_, at1, rfl, nl, rfl⟩
        unfold Builtin.«set.__init__» noKeywords Builtin.Frozenset.updateFrom
        generalize eqPI : pyIter = PI
        wp_walk
        subst eqPI
        refine wpAny_pyIter_list il1 (wpAny_bind (wpAny_runValue ?_))
        have lt0 : l < s.heap.objs.size := Heap.lt_size at0
        have noH3 : A.in1.in1.in1.handled = none := by simp [noH]
        have apart1 : l ≠ (s.heap.push (setN led)).objs.size := by
          rw [Heap.size_push]
          exact Nat.ne_of_lt (Nat.lt_of_lt_of_le lt0 (Nat.le_succ _))
        have apart2 : s.heap.objs.size ∉ [(s.heap.push (setN led)).objs.size, l] := by
          rw [Heap.size_push]
          intro z
          rcases List.mem_cons.mp z with z | z
          · exact Nat.ne_of_lt (Nat.lt_succ_self _) z
          · exact Nat.ne_of_gt lt0 (List.mem_singleton.mp z)
        have vals1 : ∀ (i : Nat) (v : Value), items[i]? = some v → ∃ k t, ns[i]? = some k ∧ v = .int k t := fun i v hv => by
          have lt1 : i < ns.length := by rw [← len1]; exact (Array.getElem?_eq_some_iff.mp hv).1
          obtain ⟨t, e⟩ := IntsAre.int_at inA i v (by rw [Array.getElem?_toList]; exact hv)
          exact ⟨ns[i], t, List.getElem?_eq_getElem lt1, by rw [e, List.getD_eq_getElem?_getD, List.getElem?_eq_getElem lt1] <;> rfl⟩
        refine set_update_ints ((Walks.list noH3 _ l apart1 items).toS) s.heap.objs.size apart2 ns len1 few vals1 (items.size - 0) 0 _ (by omega) (Nat.zero_le _) ⟨⟨_, Heap.get?_push_size _ rfl, rfl, rfl⟩, (il1.push _)⟩ ?goA ?goB
        case goA => exact ⟨0, Nat.le_refl 0, setR_new_at (Heap.get?_push_of_some _ new0)⟩
        case goB =>
          rintro ⟨h', g2, d2, tk2, os2⟩ c2 mv le2 got2
          obtain rfl : g2 = s.gens := mv.gens
          obtain rfl : d2 = s.drawn := mv.drawn
          obtain rfl : os2 = s.os := mv.os
          show wpAny _ _ _ _ _ _
          refine wpAny_pure ?_
          show wpAny _ _ (ret Value.none) _ _ _
          rw [len1] at le2
          refine wpAny_pure ⟨rfl, h', tk2, c2, rfl, got2, le2, fun b o e => ?_⟩
          have lt3 : b < s.heap.objs.size := Heap.lt_size e
          refine mv.heap b o ?_ (Heap.get?_push_of_some _ (Heap.get?_push_of_some _ e))
          have sz : (s.heap.push (setN led)).objs.size = s.heap.objs.size + 1 := Heap.size_push ..
          intro z
          rcases List.mem_cons.mp z with z | z
          · exact Nat.ne_of_lt lt3 z
          · have z2 : b = (s.heap.push (setN led)).objs.size := List.mem_singleton.mp z
            rw [sz] at z2
            exact Nat.ne_of_lt (Nat.lt_succ_of_lt lt3) z2
      · cases r2 with
        | error e => exact z2
        | ok f2 =>
          cases f2 with
          | next => exact z2.elim
          | brk => exact z2.elim
          | cont => exact z2.elim
          | ret r =>
            obtain ⟨rfl, h', tk, c, rfl, got, le, kp⟩ := z2
            repeat (any_goals (first | assumption | wp_step))
            exact k _ _ _ got le kp
end
/-- sorted of a set, however many -/
theorem sorted_setA {P : Program} {w : World} {A : Around} {E : Value → Shared → Prop} {s : Shared} {a : Addr} {S : Int → Bool} {n : Nat} {Q : Value → Shared → Prop} (R : SetR w s.heap a S n) (hh : A.handled = none) (hn1 : n ≤ 1000)
    (hQ : ∀ s2 p (out : Array Value) (c : Nat) (ns : List Int), (∀ b o, s.heap.get? b = some o → s2.heap.get? b = some o) → s2.gens = s.gens → s2.os = s.os → s.heap.objs.size ≤ p →
      s2.heap.get? p = some (seqObj "list" out c) → IntsAre out.toList ns → ns.Pairwise (· < ·) → (∀ k, k ∈ ns ↔ S k = true) → ns.length = n → Q (.ref p) s2) :
    wpAny (model P w) A (call (.builtin "sorted") [.ref a]) Q E s := by
  obtain ⟨o, es, ep, t, ho, hex, hd, g, nd, hm, hb, hf, hn, hr, hl⟩ := R
  refine Calls.call_function_entry kind_sorted plain_sorted entry_sorted (args_sorted1 _) ?_
  unfold Builtin.«sorted»
  refine wpAny_bind (m := checkCount "sorted" 1 1 _) (wpAny_pure ?_)
  refine wpAny_bind (collect_set (A := A.in1) hh ⟨o, ho, hex.1, hd⟩ hf hb hr hl fun s1 vs kp1 hz1 gg oo pm => ?_)
  have hvl : vs.length = n := by rw [pm.length_eq, List.length_map, Array.length_toList]; exact hn
  have hI : IntsAre vs (vs.map Builtin.Re.reRawOf) := ints_of vs fun v hv => by
    obtain ⟨e, he, q⟩ := List.mem_map.mp (pm.mem_iff.mp hv)
    obtain ⟨k, tk, h1, _⟩ := g e he
    exact ⟨k, tk, by rw [← q]; exact h1⟩
  have pk : (vs.map Builtin.Re.reRawOf).Perm (es.toList.map keyOf) := by
    have q := pm.map Builtin.Re.reRawOf
    rw [List.map_map] at q
    exact q
  refine wpAny_bind (wpAny_newList ?_ (by rw [hvl, sizeLine_eq]; omega))
  have hoL : (s1.heap.push (seqObj "list" vs.toArray 0)).get? s1.heap.objs.size = some (seqObj "list" vs.toArray 0) := Heap.get?_push_size _ rfl
  refine wpAny_bind (wpAny_holding (wpAny_call_entry slot_list_sort ⟨_, hoL, rfl⟩ entry_list_sort (list_sort_treeAny hoL hI (by rw [hvl, sizeLine_eq]; omega) fun out zs a1 a2 a3 => ⟨_, rfl, ?_⟩) (args_list_sort _)))
  obtain ⟨c, hc⟩ := sortedHeap_at (vs := vs) (out := out) hoL
  have pn : zs.Perm (es.toList.map keyOf) := a2.trans pk
  refine wpAny_pure ⟨_, rfl, hQ _ s1.heap.objs.size out c zs (fun b u e => ?_) gg oo hz1 hc a1 (lt_of_le_nodup zs a3 (pn.nodup_iff.mpr nd)) (fun k => by rw [pn.mem_iff, ← hm k]) ?_⟩
  · have q := kp1 b u e
    have hlt := Heap.lt_size q
    show (sortedHeap (s1.heap.push (seqObj "list" vs.toArray 0)) s1.heap.objs.size vs out).get? b = some u
    rw [sortedHeap_old (Nat.ne_of_lt hlt) (by rw [size_push']; exact Nat.lt_succ_of_lt hlt)]
    exact Heap.get?_push_of_some _ q
  · rw [pn.length_eq, List.length_map, Array.length_toList]; exact hn
/-! ### the different ones of a list -/
def dd : List Int → List Int
  | [] => []
  | x :: r => if x ∈ r then dd r else x :: dd r
theorem mem_dd : ∀ {xs : List Int} {y : Int}, y ∈ dd xs ↔ y ∈ xs
  | [], y => by simp [dd]
  | x :: r, y => by
    have ih := mem_dd (xs := r) (y := y)
    unfold dd
    split
    · rename_i h
      rw [ih]
      constructor
      · exact List.mem_cons_of_mem _
      · intro z
        rcases List.mem_cons.mp z with rfl | z
        · exact h
        · exact z
    · simp [ih]
theorem dd_nodup : ∀ xs : List Int, (dd xs).Nodup
  | [] => by simp [dd]
  | x :: r => by
    unfold dd
    split
    · exact dd_nodup r
    · rename_i h
      exact List.nodup_cons.mpr ⟨fun z => h (mem_dd.mp z), dd_nodup r⟩
theorem nodup_len {xs ys : List Int} (h1 : xs.Nodup) (h2 : ys.Nodup) (h : ∀ y, y ∈ xs ↔ y ∈ ys) : xs.length = ys.length :=
  ((List.perm_ext_iff_of_nodup h1 h2).mpr h).length_eq
theorem dd_le : ∀ xs : List Int, (dd xs).length ≤ xs.length
  | [] => by simp [dd]
  | x :: r => by
    have := dd_le r
    unfold dd
    split <;> simp <;> omega
theorem dd_lt : ∀ xs : List Int, (dd xs).length < xs.length ↔ ¬ xs.Nodup
  | [] => by simp [dd]
  | x :: r => by
    have ih := dd_lt r
    have le := dd_le r
    unfold dd
    rw [List.nodup_cons]
    split
    · rename_i h
      simp [h]
      omega
    · rename_i h
      simp [h, ← ih]
theorem dd_id {xs : List Int} (h : xs.Nodup) : dd xs = xs := by
  induction xs with
  | nil => rfl
  | cons x r ih =>
    obtain ⟨h1, h2⟩ := List.nodup_cons.mp h
    unfold dd
    rw [if_neg h1, ih h2]
theorem pw_le {xs : List Int} (h : xs.Pairwise (· < ·)) : xs.Pairwise (· ≤ ·) := h.imp fun h => Int.le_of_lt h
theorem pw_nodup {xs : List Int} (h : xs.Pairwise (· < ·)) : xs.Nodup := h.imp fun h => Int.ne_of_lt h
theorem sorted_dd {ns zs : List Int} (h : zs.Pairwise (· < ·)) (hm : ∀ k, k ∈ zs ↔ k ∈ ns) : zs = sortI (dd ns) :=
  sortI_eq ((List.perm_ext_iff_of_nodup (pw_nodup h) (dd_nodup ns)).mpr fun k => by rw [hm, mem_dd]) (pw_le h)
def lenSetV (v : SV) : P SV := fun m => match rdL v m with
  | some ds => (match asIs ds with
    | some ns => if ns.length ≤ 1000 then .ok (.dat (.int (dd ns).length)) m else .stuck
    | none => .stuck)
  | none => .stuck
def sortSetV (own : Bool) (v : SV) : P SV := fun m => match rdL v m with
  | some ds => (match asIs ds with
    | some ns => if (dd ns).length < 65 ∧ ns.length ≤ 1000 then frs own ((sortI (dd ns)).map D.int) m else .stuck
    | none => .stuck)
  | none => .stuck
section
variable {X : Cx} {W : WX} {a : Expr} {fa : En → P SV} {p p2 q pos : Pos}
theorem setR_len {w : World} {h : Heap} {b : Addr} {ns : List Int} {c : Nat} (R : SetR w h b (fun j => decide (j ∈ ns)) c) : c = (dd ns).length := by
  obtain ⟨o, es, ep, t, ho, hex, hdt, g, nd, hm, hb, hf, hn, hr, hl⟩ := R
  have e : (es.toList.map keyOf).length = c := by rw [List.length_map, Array.length_toList]; exact hn
  rw [← e]
  exact nodup_len nd (dd_nodup ns) fun y => by rw [mem_dd, ← hm y, decide_eq_true_eq]
theorem je_lenSet (hg : Gl X "len") (hm : X.mg "len" = none) (hg2 : Gl X "set") (hm2 : X.mg "set" = none) (hc : X.calm = true) (ja : JE X W a fa)
    (na : starEach [a] X.env = (false, eval a X.env) :: starEach [] X.env := by rfl) : JE X W (.Call (.Name "len" p) [.Call (.Name "set" p2) [a] [] q] [] pos) (d1 lenSetV fa) := ⟨fun {G S H ρ m env σ Q} M E h pins s I => by
  refine Call_ (ld_blt I hg hm boot_len ?_)
  refine callWith_builtin1 (args_cons ?_ rfl) rfl rfl
  refine Call_ (ld_blt I hg2 hm2 boot_set ?_)
  refine callWith_type1 (args_cons (thn (ja.run (Q := fun x H1 => ∃ (l : Addr) (ns : List Int), x = .ref l ∧ SqL X.K H1 l (ns.map V.int) ∧ ns.length ≤ 1000 ∧ Q (.int ((dd ns).length : Nat)) H1) M E (wpr_monoQ (wpr_bnd h) fun x m1 hx => ?_) pins s I) fun v s1 ⟨x, H1, I1, r1, q1⟩ => args_nil ?_) na) na rfl
  · intro S1 H1 ρ1 xv e1 M1 rx
    unfold lenSetV at hx
    split at hx
    · rename_i ds hd
      split at hx
      · rename_i ns hn
        split at hx
        · rename_i hl
          obtain ⟨l, vs, rfl, h1, r1⟩ := rdL_ok M1 rx hd
          have e := rpAll_is r1 hn
          subst e
          exact ⟨l, ns, rfl, .inl (.inl h1), hl, hx S1 H1 ρ1 _ e1 M1 (.int _)⟩
        · exact hx.elim
      · exact hx.elim
    · exact hx.elim
  · obtain ⟨l, ns, rfl, hq, hl, q1⟩ := q1
    obtain rfl : v = Value.ref l := r1
    obtain ⟨its, r, pl, hz⟩ := I1.list hq
    have hlen : its.toArray.size = ns.length := by rw [List.size_toArray, ← r.length, List.length_map]
    refine call_setI ns (I1.ok.hd hc) pl.isList (ints_of_vals r) (by unfold scanBound; omega) fun h' tk c R le kp => args_nil ?_
    have hc2 := setR_len R
    obtain ⟨o, es, ep, t, ho, hex, hd, _, _, _, hf, hn⟩ := R.setOf (P := X.prog)
    have I2 : Inv X pins σ H1 { s1 with heap := h', toks := tk } := I1.kept kp
    exact call_len_set ho hex hd hf (by rw [hn] <;> omega) ⟨.int ((dd ns).length : Nat), H1, I2.tok _, ⟨_, by rw [hn, hc2]⟩, q1⟩⟩
theorem je_sortSet {own : Bool} (hg : Gl X "sorted") (hm : X.mg "sorted" = none) (hg2 : Gl X "set") (hm2 : X.mg "set" = none) (hc : X.calm = true) (ja : JE X W a fa) (hb1 : bootBuiltins "sorted" = some (.builtin "sorted") := by decide +kernel)
    (na : starEach [a] X.env = (false, eval a X.env) :: starEach [] X.env := by rfl) : JE X W (.Call (.Name "sorted" p) [.Call (.Name "set" p2) [a] [] q] [] pos) (d1 (sortSetV own) fa) := ⟨fun {G S H ρ m env σ Q} M E h pins s I => by
  refine Call_ (ld_blt I hg hm hb1 ?_)
  refine callWith_builtin1 (args_cons ?_ rfl) rfl rfl
  refine Call_ (ld_blt I hg2 hm2 boot_set ?_)
  refine callWith_type1 (args_cons (thn (ja.run (Q := fun x H1 => ∃ (l : Addr) (ns : List Int), x = .ref l ∧ SqL X.K H1 l (ns.map V.int) ∧ ns.length ≤ 1000 ∧ (dd ns).length < 65 ∧ ∀ p, H1 p = none → Q (.ref p) (upd H1 p (.lst ((sortI (dd ns)).map V.int)))) M E (wpr_monoQ (wpr_bnd h) fun x m1 hx => ?_) pins s I) fun v s1 ⟨x, H1, I1, r1, q1⟩ => args_nil ?_) na) na rfl
  · intro S1 H1 ρ1 xv e1 M1 rx
    unfold sortSetV at hx
    split at hx
    · rename_i ds hd
      split at hx
      · rename_i ns hn
        split at hx
        · rename_i hl
          obtain ⟨l, vs, rfl, h1, r1⟩ := rdL_ok M1 rx hd
          have e := rpAll_is r1 hn
          subst e
          exact ⟨l, ns, rfl, .inl (.inl h1), hl.2, hl.1, fun p hp => frs_ok M1 (rpAll_ints _) e1 hx p hp⟩
        · exact hx.elim
      · exact hx.elim
    · exact hx.elim
  · obtain ⟨l, ns, rfl, hq, hl, h64, q1⟩ := q1
    obtain rfl : v = Value.ref l := r1
    obtain ⟨its, r, pl, hz⟩ := I1.list hq
    refine call_setI ns (I1.ok.hd hc) pl.isList (ints_of_vals r) (by unfold scanBound; omega) fun h' tk c R le kp => args_nil ?_
    have hc2 := setR_len R
    have I2 : Inv X pins σ H1 { s1 with heap := h', toks := tk } := I1.kept kp
    refine sorted_setA (s := { s1 with heap := h', toks := tk }) R (I1.ok.hd hc) (by omega) fun s' b out c2 zs kp2 g2 o2 hb hg2' hi hs hmem hlen => ?_
    have ez : zs = sortI (dd ns) := sorted_dd hs fun k => by rw [hmem k, decide_eq_true_eq]
    have hle : (zs.map V.int).length ≤ sizeLine := by rw [List.length_map, hlen, sizeLine_eq]; omega
    have hn : H1 b = none := I2.hok.fresh hb
    have J : Inv X pins σ (upd H1 b (.lst (zs.map V.int))) s' := I2.call' (ch := []) o2 (Un.laid kp2 hb hn) (I2.hok.laid kp2 hb ⟨hle, out.toList, c2, vals_of_ints hi, hg2'⟩) (by rw [g2]; exact I2.bare) (fun _ z => nomatch z)
    rw [ez] at J
    exact ⟨.ref b, _, J, rfl, q1 b hn⟩⟩
end
/-- x * y: ints, or a list and an int -/
def mulX (own : Bool) (x y : SV) : P SV := fun m => match x, y with
  | .dat (.int i), .dat (.int j) => mulV (.dat (.int i)) (.dat (.int j)) m
  | x, y => repV own x y m
theorem jo_mulX {X : Cx} {W : WX} {own : Bool} : JO X W (binaryOp .Mult) (mulX own) := ⟨fun {G S H ρ m σ x y xv yv Q} M rx ry q => by
  unfold mulX at q
  split at q
  · exact jo_mul.run M rx ry q
  · exact jo_rep.run M rx ry q⟩
@[simp] theorem mulX_int (own : Bool) (i j : Int) (m : Mem) : mulX own (.dat (.int i)) (.dat (.int j)) m = if mulOk i j = true then .ok (.dat (.int (i * j))) m else .stuck := (rfl)
@[simp] theorem mulX_lst (own : Bool) (xs : List D) (k : Int) (m : Mem) : mulX own (.dat (.lst xs)) (.dat (.int k)) m = repV own (.dat (.lst xs)) (.dat (.int k)) m := (rfl)
@[simp] theorem lenSetV_ints (xs : List Int) (m : Mem) : lenSetV (.dat (.lst (xs.map D.int))) m = if xs.length ≤ 1000 then .ok (.dat (.int (dd xs).length)) m else .stuck := by simp [lenSetV, rdL]
@[simp] theorem sortSetV_ints (own : Bool) (xs : List Int) (m : Mem) : sortSetV own (.dat (.lst (xs.map D.int))) m = if (dd xs).length < 65 ∧ xs.length ≤ 1000 then frs own ((sortI (dd xs)).map D.int) m else .stuck := by simp [sortSetV, rdL]
end PL

/-! PL16: list(range(n)), list(range(a, b)). -/
namespace PL
open PySem PySem.Spec PyProof.Rows L2
section
variable {X : Cx} {W : WX} {a b : Expr} {fa fb : En → P SV} {p p2 q pos : Pos}
/-- the ints a .. b - 1 -/
def rgI (a b : Int) : List Int := (List.range (b - a).toNat).map fun (i : Nat) => a + (i : Int)
theorem rgI_V (a b : Int) : rgV a b = (rgI a b).map V.int := by
  unfold rgV rgI
  rw [List.map_map]
  rfl
def lrgV (own : Bool) (v : SV) : P SV := fun m => match v with
  | .dat (.int j) => if -(2 ^ 62) ≤ j ∧ j ≤ 16777216 then frs own ((rgI 0 j).map D.int) m else .stuck
  | _ => .stuck
def lrg2V (own : Bool) (v u : SV) : P SV := fun m => match v, u with
  | .dat (.int i), .dat (.int j) => if -(2 ^ 62) ≤ i ∧ i < 2 ^ 62 ∧ -(2 ^ 62) ≤ j ∧ j < 2 ^ 62 ∧ j - i ≤ 16777216 then frs own ((rgI i j).map D.int) m else .stuck
  | _, _ => .stuck
theorem je_listRg1 {own : Bool} (hg : Gl X "list") (hm : X.mg "list" = none) (hg2 : Gl X "range") (hm2 : X.mg "range" = none) (hc : X.calm = true) (ja : JE X W a fa)
    (na : starEach [a] X.env = (false, eval a X.env) :: starEach [] X.env := by rfl) (nb : starEach [Expr.Call (.Name "range" p2) [a] [] q] X.env = (false, eval (Expr.Call (.Name "range" p2) [a] [] q) X.env) :: starEach [] X.env := by rfl) :
    JE X W (.Call (.Name "list" p) [.Call (.Name "range" p2) [a] [] q] [] pos) (d1 (lrgV own) fa) := ⟨fun {G S H ρ m env σ Q} M E h => by
  refine we_of (pe_listRg hc hg hm (prg_1 hg2 hm2 pe_we na) nb) (ja.run M E (wpr_monoQ (wpr_bnd h) fun x m1 hx => ?_))
  intro S1 H1 ρ1 xv e1 M1 rx
  unfold lrgV at hx
  split at hx
  · rename_i j
    cases rx
    split at hx
    · rename_i hb
      refine ⟨j, rfl, ⟨by decide, by decide, hb.1, by omega, by omega⟩, fun p hp => ?_⟩
      rw [rgI_V]
      exact frs_ok M1 (rpAll_ints _) e1 hx p hp
    · exact hx.elim
  · exact hx.elim⟩
theorem je_listRg2 {own : Bool} (hg : Gl X "list") (hm : X.mg "list" = none) (hg2 : Gl X "range") (hm2 : X.mg "range" = none) (hc : X.calm = true) (ja : JE X W a fa) (jb : JE X W b fb)
    (na : starEach [a, b] X.env = (false, eval a X.env) :: starEach [b] X.env := by rfl) (n2 : starEach [b] X.env = (false, eval b X.env) :: starEach [] X.env := by rfl) (hp2 : (backTo q (starEach [b] X.env)).any (·.1) = false := by rfl)
    (nb : starEach [Expr.Call (.Name "range" p2) [a, b] [] q] X.env = (false, eval (Expr.Call (.Name "range" p2) [a, b] [] q) X.env) :: starEach [] X.env := by rfl) :
    JE X W (.Call (.Name "list" p) [.Call (.Name "range" p2) [a, b] [] q] [] pos) (d2 (lrg2V own) fa fb) := ⟨fun {G S H ρ m env σ Q} M E h => by
  refine we_of (pe_listRg hc hg hm (prg_2 hg2 hm2 pe_we pe_we na n2 hp2) nb) (ja.run M E (wpr_monoQ (wpr_bnd h) fun x m1 hx => ?_))
  intro S1 H1 ρ1 xv e1 M1 rx
  refine jb.run M1 (E.mono e1) (wpr_mono (wpr_bnd hx) (fun y m2 hy => ?_) fun _ _ z => qx_ext e1 z)
  intro S2 H2 ρ2 yv e2 M2 ry
  have rx2 := rx.mono e2
  unfold lrg2V at hy
  split at hy
  · rename_i i j
    cases ry
    cases rx2
    split at hy
    · rename_i hb
      refine ⟨i, j, rfl, rfl, ⟨hb.1, hb.2.1, hb.2.2.1, hb.2.2.2.1, by have := hb.2.2.2.2; omega⟩, fun p hp => ?_⟩
      rw [rgI_V]
      exact frs_ok M2 (rpAll_ints _) (e1.trans e2) hy p hp
    · exact hy.elim
  · exact hy.elim⟩
@[simp] theorem lrg2V_int (own : Bool) (i j : Int) (m : Mem) : lrg2V own (.dat (.int i)) (.dat (.int j)) m = if -(2 ^ 62) ≤ i ∧ i < 2 ^ 62 ∧ -(2 ^ 62) ≤ j ∧ j < 2 ^ 62 ∧ j - i ≤ 16777216 then frs own ((rgI i j).map D.int) m else .stuck := (rfl)
@[simp] theorem lrgV_int (own : Bool) (j : Int) (m : Mem) : lrgV own (.dat (.int j)) m = if -(2 ^ 62) ≤ j ∧ j ≤ 16777216 then frs own ((rgI 0 j).map D.int) m else .stuck := (rfl)
end
end PL

/-! PL17: a for loop over an own list, read as it goes. -/
namespace PL
open PySem PySem.Spec PyProof.Rows L2
def loopL (g : D → En → Option En) (body : DS) (n : Nat) : Nat → Nat → En → P Out
  | 0, _, _ => P.stk
  | k + 1, i, env => fun m => match m[n]? with
    | some (.lst xs) => (match xs[i]? with
      | none => .ok (.nx env) m
      | some d => (match g d env with
        | none => .stuck
        | some env1 => ((body env1).bnd fun o => match o with
          | .nx e => loopL g body n k (i + 1) e
          | .ct e => loopL g body n k (i + 1) e
          | .bk e => P.ret (.nx e)
          | .rt v => P.ret (.rt v)) m))
    | _ => .stuck
def dForO (fuel : Nat) (fa : En → P SV) (g : D → En → Option En) (body : DS) : DS := fun env => (fa env).bnd fun v => match v with
  | .ref n => loopL g body n fuel 0 env
  | _ => P.stk
section
variable {X : Cx} {W : WX} {pos : Pos} {tg iter : Expr} {fa : En → P SV} {f : DS}
theorem wi_list {G S H : Hp} {ρ : List Addr} {m : Mem} {env : En} {σ : St} {Rr : It → Hp → Prop} (ja : JE X W iter fa) (M : MR (gd X) G S H ρ m) (E : ER (gd X) S ρ env σ)
    (h : wpr (fa env m) (QV X G S ρ fun x H1 => ∃ q xs, x = .ref q ∧ SqL X.K H1 q xs ∧ Rr (Itl X.K q) H1) (QX X W G S ρ σ)) : WI X tg iter σ H Rr := fun pins s I =>
  thn (ja.run M E h pins s I) fun v s1 ⟨x, H1, I1, r1, q, xs, ex, h1, h2⟩ => by
    subst ex
    cases r1
    exact iter_list I1 h1 h2
theorem js_forO {body : List Stmt} {ts : List Nat} {gg : D → En → Option En} {fuel : Nat} (hp : PassesOwn (model X.prog X.w) X.A X.env X.xe) (hc : X.calm = true) (ja : JE X W iter fa) (jg : JG X tg ts gg) (jb : JB X W body f)
    (hs : ∀ x, foldedSetIterable iter X.env x = pure x := by intro _; rfl) : JS X W (.For tg iter body [] pos) (dForO fuel fa gg f) := ⟨fun {G S H ρ m env σ D} M E h => by
  refine ws_of (ps_for hp hc pi_wi pg_wg pss_wss hs) (wi_list ja M E (wpr_mono (wpr_bnd h) (fun v m1 hv => ?_) fun _ _ z => qx_of z))
  intro S1 H1 ρ1 xv e1 M1 rx
  cases v with
  | dat d => exact hv.elim
  | ref n =>
    have hv' : wpr (loopL gg f n fuel 0 env m1) (QS X G S ρ D) (QXs X W G S ρ) := hv
    obtain ⟨q, xs, hq, hsq⟩ : ∃ q xs, xv = .ref q ∧ SqL X.K H1 q xs := by
      cases fuel with
      | zero => exact hv'.elim
      | succ k =>
        unfold loopL at hv'
        split at hv'
        · rename_i ds hd
          obtain ⟨a, vs, rfl, h1, r1⟩ := rdL_ok M1 rx (show rdL (.ref n) m1 = some ds by simp [rdL, hd])
          exact ⟨a, vs, rfl, .inl (.inl h1)⟩
        · exact hv'.elim
    subst hq
    refine ⟨q, xs, rfl, hsq, fun i k σ' H' => ∃ S' ρ' m' env', Ext S1 ρ1 S' ρ' ∧ MR (gd X) G S' H' ρ' m' ∧ ER (gd X) S' ρ' env' σ' ∧ wpr (loopL gg f n k i env' m') (QS X G S ρ D) (QXs X W G S ρ),
      ⟨fuel, S1, ρ1, m1, env, Ext.refl _ _, M1, E.mono e1, hv'⟩, ?_⟩
    rintro i k σ' H' ⟨S', ρ', m', env', x1, x2, x3, x5⟩
    cases k with
    | zero => exact x5.elim
    | succ k =>
      unfold loopL at x5
      split at x5
      · rename_i ds hd
        obtain ⟨a, vs, ea, h1, r1⟩ := rdL_ok x2 (rx.mono x1) (show rdL (.ref n) m' = some ds by simp [rdL, hd])
        cases ea
        have hl : SqL X.K H' q vs := .inl (.inl h1)
        split at x5
        · rename_i hi
          exact .inl ⟨⟨vs, hl, rpAll_ge r1 (List.getElem?_eq_none_iff.mp hi)⟩, x5 S' H' ρ' σ' (e1.trans x1) x2 x3⟩
        · rename_i d hi
          obtain ⟨v, hv2, rv⟩ := r1.get hi
          refine .inr ⟨⟨vs, v, hl, hv2⟩, fun σ2 H2 => ∃ S2 ρ2 m2 env2, Ext S1 ρ1 S2 ρ2 ∧ MR (gd X) G S2 H2 ρ2 m2 ∧ ER (gd X) S2 ρ2 env2 σ2 ∧ wpr (loopL gg f n k (i + 1) env2 m2) (QS X G S ρ D) (QXs X W G S ρ), fun σ2 H2 hN => ?_, fun x H2 hy => ?_⟩
          · obtain ⟨S2, ρ2, m2, env2, y1, y2, y3, y4⟩ := hN
            exact ⟨k, by omega, S2, ρ2, m2, env2, y1, y2, y3, y4⟩
          · obtain ⟨e, y⟩ := hy
            subst e
            have e2 := y vs hl
            rw [hv2] at e2
            cases e2
            split at x5
            · exact x5.elim
            · rename_i env1 hg
              refine jg.run x2 x3 rv hg fun σ3 E3 _ => jb.run x2 E3 ?_
              refine wpr_mono (wpr_bnd x5) (fun o m3 ho => ?_) fun _ _ z => qxs_ext (e1.trans x1) z
              cases o with
              | nx env4 => exact fun S4 H4 ρ4 σ4 e4 M4 E4 => ⟨S4, ρ4, m3, env4, x1.trans e4, M4, E4, ho⟩
              | ct env4 => exact fun S4 H4 ρ4 σ4 e4 M4 E4 => ⟨S4, ρ4, m3, env4, x1.trans e4, M4, E4, ho⟩
              | bk env4 => exact fun S4 H4 ρ4 σ4 e4 M4 E4 => ho S4 H4 ρ4 σ4 ((e1.trans x1).trans e4) M4 E4
              | rt v => exact fun S4 H4 ρ4 σ4 e4 M4 E4 => ho S4 H4 ρ4 σ4 ((e1.trans x1).trans e4) M4 E4
      · exact x5.elim⟩
theorem wi_any {G S H : Hp} {ρ : List Addr} {m : Mem} {env : En} {σ : St} {Rr : It → Hp → Prop} (ja : JE X W iter fa) (M : MR (gd X) G S H ρ m) (E : ER (gd X) S ρ env σ)
    (h : wpr (fa env m) (QV X G S ρ fun x H1 => (∃ q xs, x = .ref q ∧ SqL X.K H1 q xs ∧ Rr (Itl X.K q) H1) ∨ (∃ q xs, x = .ref q ∧ SqT X.K H1 q xs ∧ Rr (Itt X.K q) H1)) (QX X W G S ρ σ)) : WI X tg iter σ H Rr := fun pins s I =>
  thn (ja.run M E h pins s I) fun v s1 ⟨x, H1, I1, r1, q1⟩ => by
    rcases q1 with ⟨q, xs, rfl, h1, h2⟩ | ⟨q, xs, rfl, h1, h2⟩
    · cases r1
      exact iter_list I1 h1 h2
    · cases r1
      exact iter_tup I1 h1 h2
/-- what frozen data is walked as -/
theorem dat_it {Γ : Gd} {S1 H1 : Hp} {ρ1 : List Addr} {G : Hp} {m1 m2 : Mem} {d : PL.D} {xv : V} {items : List PL.D} (M1 : MR Γ G S1 H1 ρ1 m1) (rx : RSV Γ S1 ρ1 xv (.dat d)) (hi : itemsV (.dat d) m1 = .ok items m2) :
    m2 = m1 ∧ ((∃ q xs, xv = .ref q ∧ SqL Γ.K H1 q xs ∧ ItS Γ S1 (Itl Γ.K q) items) ∨ (∃ q xs, xv = .ref q ∧ SqT Γ.K H1 q xs ∧ ItS Γ S1 (Itt Γ.K q) items)) := by
  unfold itemsV at hi
  split at hi
  · rename_i xs hx
    cases hx
    cases hi
    cases rx with
    | lst q z => exact ⟨rfl, .inl ⟨_, _, rfl, .inl (.inl (M1.sub _ _ q)), itS_list (.inl (.inl q)) z⟩⟩
  · rename_i xs hx
    cases hx
    cases hi
    cases rx with
    | tup q z => exact ⟨rfl, .inr ⟨_, _, rfl, Same.seqT M1.sub q, itS_tup q z⟩⟩
  · rename_i ns hx
    cases hx
    cases hi
    cases rx with
    | scr q => exact ⟨rfl, .inl ⟨_, _, rfl, M1.sub.seq q, itS_list q (rpAll_ints _)⟩⟩
  · cases hi
end

def loopCL (g : D → En → Option En) (t : En → P Bool) (f : En → P SV) (env : En) (n : Nat) : Nat → Nat → List D → P (List D)
  | 0, _, _ => P.stk
  | k + 1, i, acc => fun m => match m[n]? with
    | some (.lst xs) => (match xs[i]? with
      | none => .ok acc m
      | some d => (match g d env with
        | none => .stuck
        | some env1 => ((t env1).bnd fun b => match b with
          | true => (f env1).bnd fun v m1 => (match v with
            | .dat y => if acc.length < 16777216 then loopCL g t f env n k (i + 1) (acc ++ [y]) m1 else .stuck
            | .ref _ => .stuck)
          | false => loopCL g t f env n k (i + 1) acc) m))
    | _ => .stuck

section
variable {X : Cx} {W : WX} {pos : Pos} {tg iter elt : Expr} {ifs : List Expr} {scope : Scope} {own : List (Str × Nat)} {ts : List Nat} {g : PL.D → En → Option En} {tt : TT} {t : En → P Bool} {f : En → P SV}
theorem lc_core
    (jg : ∀ (s : Shared) (H : Hp) (C : Addr) (cl : List (Str × Addr)) (fp : List Addr), JG (Bk X scope s H C cl fp) tg ts g) (hts : ∀ t ∈ ts, t ∈ own.map (·.2)) (jt : TestOk X scope ifs tt t)
    (je : ∀ (s : Shared) (H : Hp) (C : Addr) (cl : List (Str × Addr)) (fp : List Addr), JE (Bk X scope s H C cl fp) W0 elt f)
    {G S H S1 H1 : Hp} {ρ ρ1 : List Addr} {m1 : Mem} {env : En} {σ : St} {Q : VK} {J : It} {items : List PL.D} {E' : Exc → Mem → Prop} (E : ER (gd X) S ρ env σ) (e1 : Ext S ρ S1 ρ1) (M1 : MR (gd X) G S1 H1 ρ1 m1) (its : ItS (gd X) S1 J items)
    (hi : wpr (noX (loopC g t f (wipeE env (own.map (·.2))) items []) m1) (fun acc m' => ∀ S' H' ρ' D ws, Ext S ρ S' ρ' → MR (gd X) G S' H' ρ' m' → H' D = some (.lst ws) → RpAll (gd X) S' ws acc → S' D = none → G D = none → NoCell S' ρ' m' D → Q (.ref D) H') E') :
    tLc (fun _ _ R => R J H1) (gAll X scope tg) tt (eAll X scope elt) (own.map (·.2)) σ H Q := by
  intro D hD
  have hi := wpr_noX (E' := fun _ _ => False) hi
  have sD : S1 D = none := M1.sub.free hD
  have gD : G D = none := M1.gsub.free hD
  generalize hvs : own.map (·.2) = vs at *
  have E1 := (E.mono e1).wipe vs
  -- the state between two turns
  refine ⟨fun i k H' => ∃ S' ρ' m' acc ws, Ext S1 ρ1 S' ρ' ∧ MR (gd X) (upd G D (.lst ws)) S' H' ρ' m' ∧ RpAll (gd X) S' ws acc ∧ i + k = items.length ∧
      wpr (loopC g t f (wipeE env vs) (items.drop i) acc m') (fun acc m' => ∀ S' H' ρ' D ws, Ext S ρ S' ρ' → MR (gd X) G S' H' ρ' m' → H' D = some (.lst ws) → RpAll (gd X) S' ws acc → S' D = none → G D = none → NoCell S' ρ' m' D → Q (.ref D) H') (fun _ _ => False), ⟨items.length, ?_⟩, ?_⟩
  · have M2 : MR (gd X) (upd G D (.lst [])) S1 (upd H1 D (.lst [])) ρ1 m1 := by
      have Mw : MR (gd X) G S1 (upd H1 D (.lst [])) ρ1 m1 := by
        refine ⟨fun b x q => ?_, fun b x q => ?_, M1.dis, M1.len, fun i xs q => ?_, M1.inj, M1.tab.h (.inl hD) _, M1.dic.h (.inl hD) _, M1.mix.same (Same.refl _) fun i b q => ⟨(M1.mix.own q).1, (M1.mix.own q).2.1, upd_ne (M1.mix.ne q hD)⟩⟩
        · rw [upd_ne (ne_of_none q sD)]; exact M1.sub b x q
        · rw [upd_ne (ne_of_none q gD)]; exact M1.gsub b x q
        · obtain ⟨a, us, h1, h2, h3, h4, h5⟩ := M1.cell i xs q
          exact ⟨a, us, h1, by rw [upd_ne (ne_of_none h2 hD)]; exact h2, h3, h4, h5⟩
      refine Mw.guard upd_same sD ⟨fun i xs q z => ?_, fun i q => M1.mix.ne q hD rfl⟩
      obtain ⟨a, us, h1, h2, _⟩ := M1.cell i xs q
      rw [z] at h1
      cases h1
      rw [hD] at h2
      cases h2
    exact ⟨S1, ρ1, m1, [], [], Ext.refl _ _, M2, .nil, Nat.zero_add _, by rw [List.drop_zero]; exact hi⟩
  · rintro i k H' ⟨S', ρ', m', acc, ws, x1, x2, x3, x4, x5⟩
    obtain ⟨t1, t2⟩ := its i x1.s x2
    have hDD : H' D = some (.lst ws) := x2.gsub D _ upd_same
    cases hd : items[i]? with
    | none =>
      have hge : items.length ≤ i := List.getElem?_eq_none_iff.mp hd
      rw [List.drop_of_length_le hge] at x5
      obtain ⟨u1, u2, u3⟩ := x2.unguard (G' := G) gD (.lst ws)
      have eH : upd H' D (.lst ws) = H' := by
        funext b
        by_cases e : b = D
        · subst e; rw [upd_same, hDD]
        · rw [upd_ne e]
      rw [eH] at u1
      exact .inl ⟨t1 (by omega), x5 S' H' ρ' D ws (e1.trans x1) u1 hDD x3 u2 gD u3⟩
    | some d =>
      obtain ⟨go, yl⟩ := t2 d hd
      obtain ⟨hlt, hdd⟩ := List.getElem?_eq_some_iff.mp hd
      rw [List.drop_eq_getElem_cons hlt, hdd] at x5
      refine .inr ⟨go, fun H2 => ∃ S2 ρ2 m2 acc2 ws2, Ext S1 ρ1 S2 ρ2 ∧ MR (gd X) (upd G D (.lst ws2)) S2 H2 ρ2 m2 ∧ RpAll (gd X) S2 ws2 acc2 ∧
        wpr (loopC g t f (wipeE env vs) (items.drop (i + 1)) acc2 m2) (fun acc m' => ∀ S' H' ρ' D ws, Ext S ρ S' ρ' → MR (gd X) G S' H' ρ' m' → H' D = some (.lst ws) → RpAll (gd X) S' ws acc → S' D = none → G D = none → NoCell S' ρ' m' D → Q (.ref D) H') (fun _ _ => False), fun H2 hN => ?_, fun x H2 hy => ?_⟩
      · obtain ⟨S2, ρ2, m2, acc2, ws2, y1, y2, y3, y4⟩ := hN
        exact ⟨k - 1, by omega, S2, ρ2, m2, acc2, ws2, y1, y2, y3, by omega, y4⟩
      · obtain ⟨S2, e2, M2, rx⟩ := yl x H2 hy
        unfold loopC at x5
        split at x5
        · exact x5.elim
        · rename_i env1 hg
          have E2 : ER (gd X) S2 ρ' (wipeE env vs) (wipe σ vs) := (E1.mono x1).mono e2
          intro s0 H0 C cl fp
          refine (jg s0 H0 C cl fp).run M2 E2 rx hg fun σ3 E3 sm => ⟨?_, ?_⟩
          · have z := sm.wipe (vs := vs) hts
            rw [z]
            -- wiping twice is wiping once
            apply List.ext_getElem?
            intro j
            by_cases hj : j ∈ vs
            · by_cases hl : j < σ.length
              · rw [wipe_in hj (by rw [wipe_length]; exact hl), wipe_in hj hl]
              · rw [List.getElem?_eq_none (by rw [wipe_length, wipe_length]; omega), List.getElem?_eq_none (by rw [wipe_length]; omega)]
            · rw [wipe_out hj]
          · refine jt.run M2 E3 (wpr_mono (wpr_bnd x5) (fun b m3 hb => ?_) fun _ _ z => z)
            intro S3 H3 ρ3 e3 M3
            cases b with
            | false =>
              rw [if_neg Bool.false_ne_true]
              exact ⟨S3, ρ3, m3, acc, ws, (x1.trans e2).trans e3, M3, x3.mono (e2.trans e3).s, hb⟩
            | true =>
              rw [if_pos rfl]
              intro s1 H01 C1 cl1 fp1
              refine (je s1 H01 C1 cl1 fp1).run M3 (E3.mono e3) (wpr_mono (wpr_bnd hb) (fun v m4 hv => ?_) fun _ _ z => z.elim)
              intro S4 H4 ρ4 vv e4 M4 rv
              cases v with
              | ref n => exact hv.elim
              | dat y =>
                simp only at hv
                split at hv
                · rename_i hl
                  have e24 := (e2.trans e3).trans e4
                  have h4 : H4 D = some (.lst ws) := M4.gsub D _ upd_same
                  refine ⟨ws, h4, by rw [x3.length, sizeLine_eq]; exact hl, S4, ρ4, m4, acc ++ [y], ws ++ [vv], x1.trans e24, ?_, (x3.mono e24.s).append (.cons rv .nil), hv⟩
                  obtain ⟨u1, u2, u3⟩ := M4.unguard (G' := G) gD (.lst (ws ++ [vv]))
                  exact u1.guard upd_same u2 u3
                · exact hv.elim
theorem lc_live
    (jg : ∀ (s : Shared) (H : Hp) (C : Addr) (cl : List (Str × Addr)) (fp : List Addr), JG (Bk X scope s H C cl fp) tg ts g) (hts : ∀ t ∈ ts, t ∈ own.map (·.2)) (jt : TestOk X scope ifs tt t)
    (je : ∀ (s : Shared) (H : Hp) (C : Addr) (cl : List (Str × Addr)) (fp : List Addr), JE (Bk X scope s H C cl fp) W0 elt f)
    {G S H S1 H1 : Hp} {ρ ρ1 : List Addr} {m1 : Mem} {env : En} {σ : St} {Q : VK} {q : Addr} {n fuel : Nat} {E' : Exc → Mem → Prop} (E : ER (gd X) S ρ env σ) (e1 : Ext S ρ S1 ρ1) (M1 : MR (gd X) G S1 H1 ρ1 m1) (rx0 : RSV (gd X) S1 ρ1 (.ref q) (.ref n))
    (hi : wpr (noX (loopCL g t f (wipeE env (own.map (·.2))) n fuel 0 []) m1) (fun acc m' => ∀ S' H' ρ' D ws, Ext S ρ S' ρ' → MR (gd X) G S' H' ρ' m' → H' D = some (.lst ws) → RpAll (gd X) S' ws acc → S' D = none → G D = none → NoCell S' ρ' m' D → Q (.ref D) H') E') :
    tLc (fun _ _ R => R (Itl X.K q) H1) (gAll X scope tg) tt (eAll X scope elt) (own.map (·.2)) σ H Q := by
  intro D hD
  have hi := wpr_noX (E' := fun _ _ => False) hi
  have sD : S1 D = none := M1.sub.free hD
  have gD : G D = none := M1.gsub.free hD
  generalize hvs : own.map (·.2) = vs at *
  have E1 := (E.mono e1).wipe vs
  -- the state between two turns
  refine ⟨fun i k H' => ∃ S' ρ' m' acc ws, Ext S1 ρ1 S' ρ' ∧ MR (gd X) (upd G D (.lst ws)) S' H' ρ' m' ∧ RpAll (gd X) S' ws acc ∧ 
      wpr (loopCL g t f (wipeE env vs) n k i acc m') (fun acc m' => ∀ S' H' ρ' D ws, Ext S ρ S' ρ' → MR (gd X) G S' H' ρ' m' → H' D = some (.lst ws) → RpAll (gd X) S' ws acc → S' D = none → G D = none → NoCell S' ρ' m' D → Q (.ref D) H') (fun _ _ => False), ⟨fuel, ?_⟩, ?_⟩
  · have M2 : MR (gd X) (upd G D (.lst [])) S1 (upd H1 D (.lst [])) ρ1 m1 := by
      have Mw : MR (gd X) G S1 (upd H1 D (.lst [])) ρ1 m1 := by
        refine ⟨fun b x q => ?_, fun b x q => ?_, M1.dis, M1.len, fun i xs q => ?_, M1.inj, M1.tab.h (.inl hD) _, M1.dic.h (.inl hD) _, M1.mix.same (Same.refl _) fun i b q => ⟨(M1.mix.own q).1, (M1.mix.own q).2.1, upd_ne (M1.mix.ne q hD)⟩⟩
        · rw [upd_ne (ne_of_none q sD)]; exact M1.sub b x q
        · rw [upd_ne (ne_of_none q gD)]; exact M1.gsub b x q
        · obtain ⟨a, us, h1, h2, h3, h4, h5⟩ := M1.cell i xs q
          exact ⟨a, us, h1, by rw [upd_ne (ne_of_none h2 hD)]; exact h2, h3, h4, h5⟩
      refine Mw.guard upd_same sD ⟨fun i xs q z => ?_, fun i q => M1.mix.ne q hD rfl⟩
      obtain ⟨a, us, h1, h2, _⟩ := M1.cell i xs q
      rw [z] at h1
      cases h1
      rw [hD] at h2
      cases h2
    exact ⟨S1, ρ1, m1, [], [], Ext.refl _ _, M2, .nil, hi⟩
  · rintro i k H' ⟨S', ρ', m', acc, ws, x1, x2, x3, x5⟩
    have hDD : H' D = some (.lst ws) := x2.gsub D _ upd_same
    cases k with
    | zero => exact x5.elim
    | succ k =>
      unfold loopCL at x5
      split at x5
      · rename_i ds hd
        obtain ⟨a, vs', ea, h1, r1⟩ := rdL_ok x2 (rx0.mono x1) (show rdL (.ref n) m' = some ds by simp [rdL, hd])
        cases ea
        have hl : SqL X.K H' q vs' := .inl (.inl h1)
        split at x5
        · rename_i hi2
          obtain ⟨u1, u2, u3⟩ := x2.unguard (G' := G) gD (.lst ws)
          have eH : upd H' D (.lst ws) = H' := by
            funext b
            by_cases e : b = D
            · subst e; rw [upd_same, hDD]
            · rw [upd_ne e]
          rw [eH] at u1
          exact .inl ⟨⟨vs', hl, rpAll_ge r1 (List.getElem?_eq_none_iff.mp hi2)⟩, x5 S' H' ρ' D ws (e1.trans x1) u1 hDD x3 u2 gD u3⟩
        · rename_i d hi2
          obtain ⟨v, hv2, rv⟩ := r1.get hi2
          refine .inr ⟨⟨vs', v, hl, hv2⟩, fun H2 => ∃ S2 ρ2 m2 acc2 ws2, Ext S1 ρ1 S2 ρ2 ∧ MR (gd X) (upd G D (.lst ws2)) S2 H2 ρ2 m2 ∧ RpAll (gd X) S2 ws2 acc2 ∧
            wpr (loopCL g t f (wipeE env vs) n k (i + 1) acc2 m2) (fun acc m' => ∀ S' H' ρ' D ws, Ext S ρ S' ρ' → MR (gd X) G S' H' ρ' m' → H' D = some (.lst ws) → RpAll (gd X) S' ws acc → S' D = none → G D = none → NoCell S' ρ' m' D → Q (.ref D) H') (fun _ _ => False), fun H2 hN => ?_, fun x H2 hy => ?_⟩
          · obtain ⟨S2, ρ2, m2, acc2, ws2, y1, y2, y3, y4⟩ := hN
            exact ⟨k, by omega, S2, ρ2, m2, acc2, ws2, y1, y2, y3, y4⟩
          · obtain ⟨e, y⟩ := hy
            subst e
            have e2' := y vs' hl
            rw [hv2] at e2'
            cases e2'
            have e2 : Ext S' ρ' S' ρ' := Ext.refl _ _
            have M2 := x2
            have rx := rv
            split at x5
            · exact x5.elim
            · rename_i env1 hg
              have E2 : ER (gd X) S' ρ' (wipeE env vs) (wipe σ vs) := (E1.mono x1).mono e2
              intro s0 H0 C cl fp
              refine (jg s0 H0 C cl fp).run M2 E2 rx hg fun σ3 E3 sm => ⟨?_, ?_⟩
              · have z := sm.wipe (vs := vs) hts
                rw [z]
                -- wiping twice is wiping once
                apply List.ext_getElem?
                intro j
                by_cases hj : j ∈ vs
                · by_cases hl : j < σ.length
                  · rw [wipe_in hj (by rw [wipe_length]; exact hl), wipe_in hj hl]
                  · rw [List.getElem?_eq_none (by rw [wipe_length, wipe_length]; omega), List.getElem?_eq_none (by rw [wipe_length]; omega)]
                · rw [wipe_out hj]
              · refine jt.run M2 E3 (wpr_mono (wpr_bnd x5) (fun b m3 hb => ?_) fun _ _ z => z)
                intro S3 H3 ρ3 e3 M3
                cases b with
                | false =>
                  rw [if_neg Bool.false_ne_true]
                  exact ⟨S3, ρ3, m3, acc, ws, (x1.trans e2).trans e3, M3, x3.mono (e2.trans e3).s, hb⟩
                | true =>
                  rw [if_pos rfl]
                  intro s1 H01 C1 cl1 fp1
                  refine (je s1 H01 C1 cl1 fp1).run M3 (E3.mono e3) (wpr_mono (wpr_bnd hb) (fun v m4 hv => ?_) fun _ _ z => z.elim)
                  intro S4 H4 ρ4 vv e4 M4 rv
                  cases v with
                  | ref n => exact hv.elim
                  | dat y =>
                    simp only at hv
                    split at hv
                    · rename_i hl
                      have e24 := (e2.trans e3).trans e4
                      have h4 : H4 D = some (.lst ws) := M4.gsub D _ upd_same
                      refine ⟨ws, h4, by rw [x3.length, sizeLine_eq]; exact hl, S4, ρ4, m4, acc ++ [y], ws ++ [vv], x1.trans e24, ?_, (x3.mono e24.s).append (.cons rv .nil), hv⟩
                      obtain ⟨u1, u2, u3⟩ := M4.unguard (G' := G) gD (.lst (ws ++ [vv]))
                      exact u1.guard upd_same u2 u3
                    · exact hv.elim
      · exact x5.elim
def lcR (fuel : Nat) (vs : List Nat) (g : PL.D → En → Option En) (t : En → P Bool) (f : En → P SV) (env : En) (v : SV) : P (List PL.D) := match v with
  | .ref n => noX (loopCL g t f (wipeE env vs) n fuel 0 [])
  | .dat d => (itemsV (.dat d)).bnd fun items => noX (loopC g t f (wipeE env vs) items [])
/-- a comprehension over an own list, or over what stands still -/
def dLcB (fuel : Nat) (vs : List Nat) (fa : En → P SV) (g : PL.D → En → Option En) (t : En → P Bool) (f : En → P SV) : En → P SV :=
  fun env => (fa env).bnd fun v => (lcR fuel vs g t f env v).bnd fun acc => P.ret (.dat (.lst acc))
theorem lcR_frozen {G S : Hp} {ρ : List Addr} {Q : VK} {x : P (List PL.D)} {m : Mem} {E : Exc → Mem → Prop} (h : wpr ((x.bnd fun acc => P.ret (.dat (.lst acc))) m) (QV X G S ρ Q) E) :
    wpr (x m) (fun acc m' => ∀ S' H' ρ' D ws, Ext S ρ S' ρ' → MR (gd X) G S' H' ρ' m' → H' D = some (.lst ws) → RpAll (gd X) S' ws acc → S' D = none → G D = none → NoCell S' ρ' m' D → Q (.ref D) H') E := by
  refine wpr_monoQ (wpr_bnd h) fun acc m1 ha S' H' ρ' D ws e M hD r sD gD nD => ?_
  obtain ⟨s1, M1⟩ := M.adopt hD sD gD nD
  exact ha _ H' ρ' _ (e.trans ⟨s1, fun _ _ z => z⟩) M1 (.lst upd_same (r.mono s1))
theorem je_lcB {fuel : Nat} {fa : En → P SV} {vs : List Nat} (own : List (Str × Nat)) (hc : X.calm = true) (hN : X.N.Nodup) (ja : JE X W iter fa) (ok : BlkOk X.N X.env.scope scope own)
    (jg : ∀ (s : Shared) (H : Hp) (C : Addr) (cl : List (Str × Addr)) (fp : List Addr), JG (Bk X scope s H C cl fp) tg ts g) (hts : ∀ t ∈ ts, t ∈ vs) (jt : TestOk X scope ifs tt t)
    (je : ∀ (s : Shared) (H : Hp) (C : Addr) (cl : List (Str × Addr)) (fp : List Addr), JE (Bk X scope s H C cl fp) W0 elt f) (hs : ∀ x, foldedSetIterable iter X.env x = pure x := by intro _; rfl) (hvs : own.map (·.2) = vs := by rfl) :
    JE X W (.ListComp elt [⟨tg, iter, ifs, 0⟩] scope pos) (dLcB fuel vs fa g t f) := by
  subst hvs
  refine ⟨fun {G S H ρ m env σ Q} M E h => we_of (pe_lc hc hN pi_wi ok pg_gAll jt.pts pe_eAll hs) (wi_any ja M E (wpr_mono (wpr_bnd h) (fun v m1 hv => ?_) fun _ _ z => z))⟩
  intro S1 H1 ρ1 xv e1 M1 rx
  have hv := lcR_frozen hv
  cases v with
  | dat d =>
    have hv' := wpr_bnd hv
    cases ei : itemsV (.dat d) m1 with
    | ok items m2 =>
      rw [ei] at hv'
      obtain ⟨rfl, q⟩ := dat_it M1 rx ei
      rcases q with ⟨q, xs, rfl, h1, its⟩ | ⟨q, xs, rfl, h1, its⟩
      · exact .inl ⟨q, xs, rfl, h1, PL.lc_core (H := H) jg hts jt je E e1 M1 its hv'⟩
      · exact .inr ⟨q, xs, rfl, h1, PL.lc_core (H := H) jg hts jt je E e1 M1 its hv'⟩
    | exc y m2 =>
      exfalso
      unfold itemsV at ei
      split at ei <;> cases ei
    | stuck => rw [ei] at hv'; exact hv'.elim
  | ref n =>
    obtain ⟨q, xs, hq, hsq⟩ : ∃ q xs, xv = .ref q ∧ SqL X.K H1 q xs := by
      have hz := wpr_noX (E' := fun _ _ => False) (show wpr (noX (loopCL g t f (wipeE env (own.map (·.2))) n fuel 0 []) m1) _ _ from hv)
      cases fuel with
      | zero => exact hz.elim
      | succ k =>
        unfold loopCL at hz
        split at hz
        · rename_i ds hd
          obtain ⟨a, us, rfl, h1, r1⟩ := rdL_ok M1 rx (show rdL (.ref n) m1 = some ds by simp [rdL, hd])
          exact ⟨a, us, rfl, .inl (.inl h1)⟩
        · exact hz.elim
    subst hq
    exact .inl ⟨q, xs, rfl, hsq, lc_live (H := H) jg hts jt je E e1 M1 rx hv⟩
end

section
variable {X : Cx} {W : WX} {pos : Pos} {tg iter : Expr} {fa : En → P SV} {f : DS}
theorem for_core {body : List Stmt} {ts : List Nat} {gg : PL.D → En → Option En} (jg : JG X tg ts gg) (jb : JB X W body f) {G S H S1 H1 : Hp} {ρ ρ1 : List Addr} {m1 : Mem} {env : En} {σ : St} {D : Ends} {J : It} {items : List PL.D} (E : ER (gd X) S ρ env σ) (e1 : Ext S ρ S1 ρ1) (M1 : MR (gd X) G S1 H1 ρ1 m1) (its : ItS (gd X) S1 J items)
    (hi : wpr (loopF gg f items env m1) (QS X G S ρ D) (QXs X W G S ρ)) : tFor (fun _ _ R => R J H1) (WG X tg) (WSs X body) D σ H := by
  refine ⟨fun i k σ' H' => ∃ S' ρ' m' env', Ext S1 ρ1 S' ρ' ∧ MR (gd X) G S' H' ρ' m' ∧ ER (gd X) S' ρ' env' σ' ∧ i + k = items.length ∧ wpr (loopF gg f (items.drop i) env' m') (QS X G S ρ D) (QXs X W G S ρ),
    ⟨items.length, S1, ρ1, m1, env, Ext.refl _ _, M1, E.mono e1, Nat.zero_add _, by rw [List.drop_zero]; exact hi⟩, ?_⟩
  rintro i k σ' H' ⟨S', ρ', m', env', x1, x2, x3, x4, x5⟩
  obtain ⟨t1, t2⟩ := its i x1.s x2
  cases hd : items[i]? with
  | none =>
    have hge : items.length ≤ i := List.getElem?_eq_none_iff.mp hd
    rw [List.drop_of_length_le hge] at x5
    exact .inl ⟨t1 (by omega), x5 S' H' ρ' σ' (e1.trans x1) x2 x3⟩
  | some d =>
    obtain ⟨go, yl⟩ := t2 d hd
    obtain ⟨hlt, hdd⟩ := List.getElem?_eq_some_iff.mp hd
    rw [List.drop_eq_getElem_cons hlt, hdd] at x5
    refine .inr ⟨go, fun σ2 H2 => ∃ S2 ρ2 m2 env2, Ext S1 ρ1 S2 ρ2 ∧ MR (gd X) G S2 H2 ρ2 m2 ∧ ER (gd X) S2 ρ2 env2 σ2 ∧ wpr (loopF gg f (items.drop (i + 1)) env2 m2) (QS X G S ρ D) (QXs X W G S ρ), fun σ2 H2 hN => ?_, fun x H2 hy => ?_⟩
    · obtain ⟨S2, ρ2, m2, env2, y1, y2, y3, y4⟩ := hN
      exact ⟨k - 1, by omega, S2, ρ2, m2, env2, y1, y2, y3, by omega, y4⟩
    · obtain ⟨S2, e2, M2, rx⟩ := yl x H2 hy
      unfold loopF at x5
      split at x5
      · exact x5.elim
      · rename_i env1 hg
        refine jg.run M2 (x3.mono e2) rx hg fun σ3 E3 _ => jb.run M2 E3 ?_
        have e02 : Ext S ρ S2 ρ' := (e1.trans x1).trans e2
        refine wpr_mono (wpr_bnd x5) (fun o m3 ho => ?_) fun _ _ z => qxs_ext e02 z
        cases o with
        | nx env4 => exact fun S4 H4 ρ4 σ4 e4 M4 E4 => ⟨S4, ρ4, m3, env4, (x1.trans e2).trans e4, M4, E4, ho⟩
        | ct env4 => exact fun S4 H4 ρ4 σ4 e4 M4 E4 => ⟨S4, ρ4, m3, env4, (x1.trans e2).trans e4, M4, E4, ho⟩
        | bk env4 => exact fun S4 H4 ρ4 σ4 e4 M4 E4 => ho S4 H4 ρ4 σ4 (e02.trans e4) M4 E4
        | rt v => exact fun S4 H4 ρ4 σ4 e4 M4 E4 => ho S4 H4 ρ4 σ4 (e02.trans e4) M4 E4
/-- a for loop over an own list, or over what stands still -/
def dForB (fuel : Nat) (fa : En → P SV) (g : PL.D → En → Option En) (body : DS) : DS := fun env => (fa env).bnd fun v => match v with
  | .ref n => loopL g body n fuel 0 env
  | .dat d => (itemsV (.dat d)).bnd fun items => loopF g body items env
theorem js_forB {body : List Stmt} {ts : List Nat} {gg : PL.D → En → Option En} {fuel : Nat} (hp : PassesOwn (model X.prog X.w) X.A X.env X.xe) (hc : X.calm = true) (ja : JE X W iter fa) (jg : JG X tg ts gg) (jb : JB X W body f)
    (hs : ∀ x, foldedSetIterable iter X.env x = pure x := by intro _; rfl) : JS X W (.For tg iter body [] pos) (dForB fuel fa gg f) := ⟨fun {G S H ρ m env σ D} M E h => by
  refine ws_of (ps_for hp hc pi_wi pg_wg pss_wss hs) (wi_any ja M E (wpr_mono (wpr_bnd h) (fun v m1 hv => ?_) fun _ _ z => qx_of z))
  intro S1 H1 ρ1 xv e1 M1 rx
  cases v with
  | dat d =>
    have hv' := wpr_bnd (show wpr (((itemsV (.dat d)).bnd fun items => loopF gg f items env) m1) _ _ from hv)
    cases ei : itemsV (.dat d) m1 with
    | ok items m2 =>
      rw [ei] at hv'
      obtain ⟨rfl, q⟩ := dat_it M1 rx ei
      rcases q with ⟨q, xs, rfl, h1, its⟩ | ⟨q, xs, rfl, h1, its⟩
      · exact .inl ⟨q, xs, rfl, h1, for_core (H := H) jg jb E e1 M1 its hv'⟩
      · exact .inr ⟨q, xs, rfl, h1, for_core (H := H) jg jb E e1 M1 its hv'⟩
    | exc y m2 =>
      exfalso
      unfold itemsV at ei
      split at ei <;> cases ei
    | stuck => rw [ei] at hv'; exact hv'.elim
  | ref n =>
    left
    have hv' : wpr (loopL gg f n fuel 0 env m1) (QS X G S ρ D) (QXs X W G S ρ) := hv
    obtain ⟨q, xs, hq, hsq⟩ : ∃ q xs, xv = .ref q ∧ SqL X.K H1 q xs := by
      cases fuel with
      | zero => exact hv'.elim
      | succ k =>
        unfold loopL at hv'
        split at hv'
        · rename_i ds hd
          obtain ⟨a, vs, rfl, h1, r1⟩ := rdL_ok M1 rx (show rdL (.ref n) m1 = some ds by simp [rdL, hd])
          exact ⟨a, vs, rfl, .inl (.inl h1)⟩
        · exact hv'.elim
    subst hq
    refine ⟨q, xs, rfl, hsq, fun i k σ' H' => ∃ S' ρ' m' env', Ext S1 ρ1 S' ρ' ∧ MR (gd X) G S' H' ρ' m' ∧ ER (gd X) S' ρ' env' σ' ∧ wpr (loopL gg f n k i env' m') (QS X G S ρ D) (QXs X W G S ρ),
      ⟨fuel, S1, ρ1, m1, env, Ext.refl _ _, M1, E.mono e1, hv'⟩, ?_⟩
    rintro i k σ' H' ⟨S', ρ', m', env', x1, x2, x3, x5⟩
    cases k with
    | zero => exact x5.elim
    | succ k =>
      unfold loopL at x5
      split at x5
      · rename_i ds hd
        obtain ⟨a, vs, ea, h1, r1⟩ := rdL_ok x2 (rx.mono x1) (show rdL (.ref n) m' = some ds by simp [rdL, hd])
        cases ea
        have hl : SqL X.K H' q vs := .inl (.inl h1)
        split at x5
        · rename_i hi
          exact .inl ⟨⟨vs, hl, rpAll_ge r1 (List.getElem?_eq_none_iff.mp hi)⟩, x5 S' H' ρ' σ' (e1.trans x1) x2 x3⟩
        · rename_i d hi
          obtain ⟨v, hv2, rv⟩ := r1.get hi
          refine .inr ⟨⟨vs, v, hl, hv2⟩, fun σ2 H2 => ∃ S2 ρ2 m2 env2, Ext S1 ρ1 S2 ρ2 ∧ MR (gd X) G S2 H2 ρ2 m2 ∧ ER (gd X) S2 ρ2 env2 σ2 ∧ wpr (loopL gg f n k (i + 1) env2 m2) (QS X G S ρ D) (QXs X W G S ρ), fun σ2 H2 hN => ?_, fun x H2 hy => ?_⟩
          · obtain ⟨S2, ρ2, m2, env2, y1, y2, y3, y4⟩ := hN
            exact ⟨k, by omega, S2, ρ2, m2, env2, y1, y2, y3, y4⟩
          · obtain ⟨e, y⟩ := hy
            subst e
            have e2 := y vs hl
            rw [hv2] at e2
            cases e2
            split at x5
            · exact x5.elim
            · rename_i env1 hg
              refine jg.run x2 x3 rv hg fun σ3 E3 _ => jb.run x2 E3 ?_
              refine wpr_mono (wpr_bnd x5) (fun o m3 ho => ?_) fun _ _ z => qxs_ext (e1.trans x1) z
              cases o with
              | nx env4 => exact fun S4 H4 ρ4 σ4 e4 M4 E4 => ⟨S4, ρ4, m3, env4, x1.trans e4, M4, E4, ho⟩
              | ct env4 => exact fun S4 H4 ρ4 σ4 e4 M4 E4 => ⟨S4, ρ4, m3, env4, x1.trans e4, M4, E4, ho⟩
              | bk env4 => exact fun S4 H4 ρ4 σ4 e4 M4 E4 => ho S4 H4 ρ4 σ4 ((e1.trans x1).trans e4) M4 E4
              | rt v => exact fun S4 H4 ρ4 σ4 e4 M4 E4 => ho S4 H4 ρ4 σ4 ((e1.trans x1).trans e4) M4 E4
      · exact x5.elim⟩
end

/-! ### a conditional expression as a test -/
section
variable {X : Cx} {W : WX} {pos : Pos} {a b c : Expr} {tA : TT} {ta tb tc : En → P Bool}
def tIfT (tc ta tb : TT) : TT := fun σ H Q => tc σ H fun k H1 => if k = true then ta σ H1 Q else tb σ H1 Q
theorem pt_ife {t1 t2 t3 : TT} (hc : PT X c t1) (ha : PT X a t2) (hb : PT X b t3) : PT X (.IfExp c a b pos) (tIfT t1 t2 t3) := by
  refine ⟨fun pins s σ H Q I h => ?_⟩
  rw [arm_isTrue_IfExp]
  refine wpAny_bind (thn (hc.run pins s σ H _ I h) fun d s1 ⟨H1, I1, q1⟩ => ?_)
  cases d with
  | true => exact ha.run pins s1 σ H1 Q I1 q1
  | false => exact hb.run pins s1 σ H1 Q I1 q1
def dIfT (tc ta tb : En → P Bool) : En → P Bool := fun env => (tc env).bnd fun k => match k with
  | true => ta env
  | false => tb env
theorem jt_ife (jc : JT X W c tc) (ja : JT X W a ta) (jb : JT X W b tb) : JT X W (.IfExp c a b pos) (dIfT tc ta tb) := ⟨fun {G S H ρ m env σ Q} M E h => by
  refine wt_of (pt_ife pt_wt pt_wt pt_wt) (jc.run M E (wpr_monoQ (wpr_bnd h) fun k m1 hk => ?_))
  intro S1 H1 ρ1 e1 M1
  cases k with
  | true => exact ja.run M1 (E.mono e1) (wpr_mono hk (fun _ _ z => fun S2 H2 ρ2 e2 M2 => z S2 H2 ρ2 (e1.trans e2) M2) fun _ _ z => qx_ext e1 z)
  | false => exact jb.run M1 (E.mono e1) (wpr_mono hk (fun _ _ z => fun S2 H2 ρ2 e2 M2 => z S2 H2 ρ2 (e1.trans e2) M2) fun _ _ z => qx_ext e1 z)⟩
end
end PL

/-! PL18: how the denotations of PL17 reckon. -/
namespace PL
open PySem PySem.Spec PyProof.Rows L2
def kIfT (ta tb : En → P Bool) (env : En) (k : Bool) (m : Mem) : R Bool := if k = true then ta env m else tb env m
@[simp] theorem kIfT_ap (ta tb : En → P Bool) (env : En) (k : Bool) (m : Mem) : kIfT ta tb env k m = if k = true then ta env m else tb env m := (rfl)
@[simp] theorem dIfT_ap (tc ta tb : En → P Bool) (env : En) (m : Mem) : dIfT tc ta tb env m = (tc env m).bnd (kIfT ta tb env) := by
  unfold dIfT P.bnd
  congr 1
  funext k m1
  cases k <;> rfl
def kForB (fuel : Nat) (g : D → En → Option En) (body : DS) (env : En) (v : SV) (m : Mem) : R Out := match v with
  | .ref n => loopL g body n fuel 0 env m
  | .dat d => (itemsV (.dat d) m).bnd (kFor g body env)
@[simp] theorem kForB_ref (fuel : Nat) (g : D → En → Option En) (body : DS) (env : En) (n : Nat) (m : Mem) : kForB fuel g body env (.ref n) m = loopL g body n fuel 0 env m := (rfl)
@[simp] theorem kForB_dat (fuel : Nat) (g : D → En → Option En) (body : DS) (env : En) (d : D) (m : Mem) : kForB fuel g body env (.dat d) m = (itemsV (.dat d) m).bnd (kFor g body env) := (rfl)
@[simp] theorem dForB_ap (fuel : Nat) (fa : En → P SV) (g : D → En → Option En) (body : DS) (env : En) (m : Mem) : dForB fuel fa g body env m = (fa env m).bnd (kForB fuel g body env) := by
  unfold dForB P.bnd
  congr 1
  funext v m1
  cases v <;> rfl
def kLcB (fuel : Nat) (vs : List Nat) (g : D → En → Option En) (t : En → P Bool) (f : En → P SV) (env : En) (v : SV) (m : Mem) : R SV := match v with
  | .ref n => (noX (loopCL g t f (wipeE env vs) n fuel 0 []) m).bnd kLc2
  | .dat d => (itemsV (.dat d) m).bnd (kLc g t f (wipeE env vs))
@[simp] theorem kLcB_ref (fuel : Nat) (vs : List Nat) (g : D → En → Option En) (t : En → P Bool) (f : En → P SV) (env : En) (n : Nat) (m : Mem) : kLcB fuel vs g t f env (.ref n) m = (noX (loopCL g t f (wipeE env vs) n fuel 0 []) m).bnd kLc2 := (rfl)
@[simp] theorem kLcB_dat (fuel : Nat) (vs : List Nat) (g : D → En → Option En) (t : En → P Bool) (f : En → P SV) (env : En) (d : D) (m : Mem) : kLcB fuel vs g t f env (.dat d) m = (itemsV (.dat d) m).bnd (kLc g t f (wipeE env vs)) := (rfl)
@[simp] theorem dLcB_ap (fuel : Nat) (vs : List Nat) (fa : En → P SV) (g : D → En → Option En) (t : En → P Bool) (f : En → P SV) (env : En) (m : Mem) : dLcB fuel vs fa g t f env m = (fa env m).bnd (kLcB fuel vs g t f env) := by
  unfold dLcB P.bnd
  congr 1
  funext v m1
  cases v with
  | ref n => rfl
  | dat d =>
    show ((((itemsV (.dat d)).bnd fun items => noX (loopC g t f (wipeE env vs) items [])).bnd fun acc => P.ret (.dat (.lst acc))) m1) = (itemsV (.dat d) m1).bnd (kLc g t f (wipeE env vs))
    unfold P.bnd
    cases itemsV (.dat d) m1 <;> rfl
theorem loopCL_all {g : D → En → Option En} {f : En → P SV} {env : En} {m : Mem} {n : Nat} {xs : List D} (h : D → D) (hm : m[n]? = some (.lst xs)) (hs : ∀ d ∈ xs, ∃ env1, g d env = some env1 ∧ f env1 m = .ok (.dat (h d)) m) {fuel : Nat} (hl : xs.length < fuel) (hl2 : xs.length ≤ 16777216) :
    noX (loopCL g dYes f env n fuel 0 []) m = .ok (xs.map h) m := by
  have main : ∀ (k i : Nat) (acc : List D), i ≤ xs.length → acc = (xs.take i).map h → xs.length - i < k → loopCL g dYes f env n k i acc m = .ok (xs.map h) m := by
    intro k
    induction k with
    | zero => intro i acc _ _ hk; omega
    | succ k ih =>
      intro i acc hi ha hk
      unfold loopCL
      simp only [hm]
      by_cases he : i = xs.length
      · have e1 : xs[i]? = none := by rw [he]; simp
        simp only [e1]
        rw [ha, he, List.take_of_length_le (Nat.le_refl _)]
      · have hlt : i < xs.length := by omega
        have e1 : xs[i]? = some xs[i] := List.getElem?_eq_getElem hlt
        obtain ⟨env1, hg, hf⟩ := hs xs[i] (List.getElem_mem hlt)
        have := ih (i + 1) (acc ++ [h xs[i]]) (by omega) (by rw [ha, List.take_succ, e1, List.map_append]; rfl) (by omega)
        simp only [e1, hg]
        have al : acc.length < 16777216 := by rw [ha]; simp; omega
        simp only [P.bnd, dYes, P.ret, R.bnd, hf, if_pos al]
        exact this
  unfold noX
  rw [main fuel 0 [] (by omega) rfl (by omega)]
theorem loopL_nx {g : D → En → Option En} {body : DS} {n k i : Nat} {env env1 env2 : En} {m m2 : Mem} {xs : List D} {d : D} (hm : m[n]? = some (.lst xs)) (hi : xs[i]? = some d) (hg : g d env = some env1) (hb : body env1 m = .ok (.nx env2) m2) : loopL g body n (k + 1) i env m = loopL g body n k (i + 1) env2 m2 := by
  conv => lhs; unfold loopL
  simp only [hm, hi, hg, P.bnd, hb, R.bnd]
theorem loopL_end {g : D → En → Option En} {body : DS} {n k i : Nat} {env : En} {m : Mem} {xs : List D} (hm : m[n]? = some (.lst xs)) (hi : xs[i]? = none) : loopL g body n (k + 1) i env m = .ok (.nx env) m := by
  unfold loopL
  simp only [hm, hi]
end PL

/-! PL19: a lambda without parameters, handed to a def that calls it within a try. -/
namespace PL
open PySem PySem.Spec PyProof.Rows L2
theorem MR.extN {Γ : Gd} {G S H H1 : Hp} {ρ : List Addr} {m : Mem} (M : MR Γ G S H ρ m) (e : LamX.ExtN H H1) (t : LamX.Tabs (tabsK Γ.K) H1) : MR Γ G S H1 ρ m := by
  refine ⟨fun b x q => e b x (M.sub b x q) fun ps z => M.tab.st b ps (by rw [← z]; exact q), fun b x q => e b x (M.gsub b x q) fun ps z => M.tab.gt b ps (by rw [← z]; exact q), M.dis, M.len, fun i xs q => ?_, M.inj, ⟨M.tab.st, M.tab.gt, t⟩, ⟨fun i kvs q => ?_, M.dic.inj⟩, M.mix.same (Same.refl S) fun i b q => ⟨(M.mix.own q).1, (M.mix.own q).2.1, by obtain ⟨_, _, o, h1, h2, _⟩ := M.mix.own q; rw [h1]; exact e b o h1 h2⟩⟩
  · obtain ⟨a, vs, h1, h2, h3⟩ := M.cell i xs q
    exact ⟨a, vs, h1, e a _ h2 fun ps z => (by cases z), h3⟩
  · obtain ⟨a, vs, h1, h2, h3⟩ := M.dic.cell i kvs q
    exact ⟨a, vs, h1, e a _ h2 fun ps z => (by cases z), h3⟩
/-- what a clause makes of a caught exception -/
def HX (Γ : Gd) (g : Exc → Option D) (cls : Value) (d : Option Addr) (H : Hp) (Q : VK) : Prop :=
  ∃ (G S : Hp) (ρ : List Addr) (m : Mem) (y : Exc) (r : D), MR Γ G S H ρ m ∧ XR Γ S H cls d y ∧ g y = some r ∧ ∀ S' H' vv, Same S S' → MR Γ G S' H' ρ m → XR Γ S' H' cls d y → Rp Γ S' vv r → Q vv H'
def TSaid (Γ : Gd) (CS : Addr) (g : Exc → Option D) : (XK → Hp → VK → Prop) → Hp → VK → Prop := fun tl H Q =>
  tl (fun cls d H' => ∃ b, PySem.W.exmOne Γ.K cls (.ref CS) = some b ∧ (b = true → HX Γ g cls d H' Q) ∧ (b = false → False)) H Q
section
variable {X : Cx} {W : WX}
theorem said_gives {Ng : List Str} {x a e n q : Str} {sg : Scope} {g CS : Addr} {cdg : Value} {i : Nat} {E : Expr} {ge : Exc → Option D} {p1 p2 p3 p4 p6 p7 p8 : Pos} (hge : sg.names.lookup e = some .globalImplicit) (hme : X.mg e = some (.ref CS)) (hde : (e == ("__debug__" : Str)) = false)
    (h0 : ∀ f : Addr, (L2.start Ng [V.ref f])[0]? = some (some (V.ref f))) (hN : Ng.Nodup) (hi : Ng[i]? = some n) (hln : sg.names.lookup n = some .local)
    (jx : ∀ (s : Shared) (H : Hp) (a : Addr) (oe : Obj) (cls : Value) (d : Option Addr) (pn : List (Addr × Obj)), Zc cls d oe → (∃ vs, oe.data = .fields vs) → JX ((cxOf C8.CX0 X.prog X.w X.K X.mg X.base Ng x sg g cdg X.A X.stack s H C8.E0).nox.suite a ((a, oe) :: pn)) i a cls d E ge) :
    LamX.GivesTo X Ng x sg g cdg [.Try [.Return (some (.Call (.Name a p1) [] [] p2)) p3] [.ExceptHandler (some (.Name e p4)) (some n) [.Return (some E) p6] p7] [] [] p8] a q (TSaid (gd X) CS ge) := by
  intro f c' s H Q tl act hc h
  have hgl : Gl (cxOf C8.CX0 X.prog X.w X.K X.mg X.base Ng x sg g cdg X.A X.stack s H C8.E0).nox e := hge
  refine ⟨_, pss_one (ps_try_as (X := (cxOf C8.CX0 X.prog X.w X.K X.mg X.base Ng x sg g cdg X.A X.stack s H C8.E0).nox) (c := .ref CS) (i := i)
      (tb := fun W D σ H => ∃ Ech : XK, (∀ cls d σ' H', Ech cls d H' → W cls d σ' H') ∧ σ[0]? = some (some (.ref f)) ∧ H c' = some (LamX.CodeO c' q) ∧ tl Ech H D.rt)
      (ts := fun a cls d D σ H => (∃ σ0 : St, σ = σ0.set i (some (.ref a))) ∧ HX (gd X) ge cls d H D.rt)
      rfl rfl hN hi hln ⟨hgl, hde, .inl hme⟩ LamX.takes0 (fun W pn xe tk _ => ?_) (fun a oe cls d pn hz hv => ?_)), ?_⟩
  · refine ⟨fun pins s' σ H' D I h' => ?_⟩
    obtain ⟨Ech, hW, h1, h2, h3⟩ := h'
    have hp := act W pn xe Ech p1 p2 tk hW
    have hq := pss_one (ps_ret (pos := p3) hp)
    exact hq.run pins s' σ H' D I ⟨h1, h2, h3⟩
  · refine ⟨fun pins s' σ H' D I h' => ?_⟩
    obtain ⟨⟨σ0, rfl⟩, G, S, ρ, m, y, r, M, xr, hy, k⟩ := h'
    have hlen : i < σ0.length := by
      have l1 := I.len
      have l2 := (List.getElem?_eq_some_iff.mp hi).1
      rw [List.length_set] at l1
      have l3 : Ng.length = σ0.length := l1.symm
      omega
    have hσ : (σ0.set i (some (.ref a)))[i]? = some (some (V.ref a)) := List.getElem?_set_self hlen
    exact (pss_one (ps_ret (pos := p6) pe_we)).run pins s' _ H' D I ((jx s H a oe cls d pn hz hv).run M xr hσ hy k)
  · refine ⟨_, fun cls d σ' H' hh => ?_, h0 f, hc, h⟩
    obtain ⟨b, e1, e2, e3⟩ := hh
    exact ⟨b, e1, fun hb a ha => ⟨⟨σ', rfl⟩, e2 hb⟩, fun hb => (e3 hb).elim⟩
/-- f(lambda: body), where f tries it -/
def dLam (others : List (Str × Bool)) (g : Exc → Option D) (fb : En → P SV) : En → P SV := fun env m => match fb env m with
  | .exc y m1 => (match others.lookup y.cls with
    | some true => (match g y with | some r => .ok (.dat r) m1 | none => .stuck)
    | _ => .stuck)
  | r => r
/-- the maker's code object and its table -/
structure Mkr (K : PySem.W.Frag) (mg : Str → Option Value) (base : Heap) (x0 : Str) (cdv : Value) : Prop where
  one : lamDefs = [x0]
  ex : ∃ c P, PySem.W.tabIn K x0 = some (c, P) ∧ cdv = .ref c ∧ LamX.TabB base mg c P
theorem je_lam {x a x0 : Str} {CS : Addr} {k : Nat} {st : Stmt} {Ng : List Str} {f0 : Addr} {fd : FuncData} {params : Arguments} {body : Expr} {scope : Scope} {others : List (Str × Bool)} {ge : Exc → Option D} {fb : En → P SV} {p lpos pos : Pos}
    (hg : Gl X x) (hm : X.mg x = some (.ref f0)) (F : FunD X.K x x (defArgs st) (defBody st) (defScope st) [] [] f0 fd) (hb : Binds X.K fd [a] []) (Sg : FnScope Ng [a] (defScope st)) (hNg : Ng[0]? = some a) (hva : Vis (defScope st) a)
    (hG : ∀ cdg, LamX.GivesTo X Ng x (defScope st) f0 cdg (defBody st) a (X.env.qual ++ "<lambda>") (TSaid (gd X) CS ge)) (hex : Exm X.K X.mg CS others)
    (mk : Mkr X.K X.mg X.base x0 X.env.code) (hq : X.env.qual ++ "<lambda>" = lamN x0) (hr : RoomG (k + 2) X.A) (hrp : reprs = false) (L : LamX.LamS X.env.scope scope) (hdef : defaultsOf params X.env = ([], []))
    (hbind : ∀ (q : Str) (cl : List (Str × Addr)) (pm cv ctv : Value), bindArgs (PySem.W.kla_fn "<lambda>" q params body scope cl pm cv ctv) ⟨[], []⟩ = pure [])
    (jb : ∀ (A : Around) (outer : List Env) (s : Shared) (H : Hp) (E : XK) (f c' : Addr), RoomG k (A.deeper (LamX.lamEnv X scope s.heap.objs.size f c')) → Takes (LamX.lamCx X A outer s H E scope f c') (fun cls d _ H => E cls d H) → JE (LamX.lamCx X A outer s H E scope f c') (fun cls d _ H => E cls d H) body fb)
    (hdb : (x == ("__debug__" : Str)) = false := by decide) (hd : (a == ("__debug__" : Str)) = false := by decide) (hcd : (a == ("__classdict__" : Str)) = false := by decide) :
    JE X W (.Call (.Name x p) [.Lambda params body scope lpos] [] pos) (dLam others ge fb) := ⟨fun {G S H ρ m env σ Q} M E h => by
  obtain ⟨oc, od, dV, kV, doc, pm, an, cdg, ct, osl, rfl, lk, hcdg, _, _⟩ := F.ex
  obtain ⟨c, P, ht, hcode, TB⟩ := mk.ex
  have hT : tabsK X.K = [(P, lamN x0)] := by
    unfold tabsK
    rw [mk.one]
    simp [ht]
  refine we_of (LamX.pe_lamcall (T := tabsK X.K) (TT := TSaid (gd X) CS ge) (k := k) (c := c) (P := P) (t := fun E σ H Q => ∀ (A : Around) (outer : List Env) (s : Shared) (H0 : Hp) (f c' : Addr), Room k (A.deeper (LamX.lamEnv X scope s.heap.objs.size f c')) → WE (LamX.lamCx X A outer s H0 E scope f c') body σ H Q)
    hg hm F.kp lk hcdg hb Sg hNg hva (hG _) TB hcode (by rw [hT, hq]; exact List.mem_singleton.mpr rfl) (fun q hq' _ => by rw [hT] at hq'; rw [List.mem_singleton.mp hq', hq]) hr.rm L hdef hbind
    (fun A outer s H E f c' hrm => ⟨fun pins s' σ H' Q I ht => ht A outer s H f c' hrm pins s' I⟩) hdb hd hcd) ⟨M.tab.tb, fun H1 eN T1 => ?_⟩
  intro A outer s0 H0 f c' hrm
  refine (jb A outer s0 H0 _ f c' ⟨hrm, fun z => by rw [hrp] at z; cases z⟩ (takes_of rfl rfl rfl rfl)).run (M.extN eN T1) E ?_
  unfold dLam at h
  cases hf : fb env m with
  | stuck => rw [hf] at h; exact h.elim
  | ok v m1 => rw [hf] at h; exact h
  | exc y m1 =>
    rw [hf] at h
    intro S' H' ρ' cls d e' M' xr
    cases ho : others.lookup y.cls with
    | none => simp only [ho] at h; exact h.elim
    | some b =>
      cases b with
      | false => simp only [ho] at h; exact h.elim
      | true =>
        simp only [ho] at h
        cases hgy : ge y with
        | none => simp only [hgy] at h; exact h.elim
        | some r =>
          simp only [hgy] at h
          obtain ⟨C', hm', hx'⟩ := hex y.cls true ho
          have ec : cls = .ref C' := by
            obtain ⟨C2, _, _, h1, h2, _⟩ := xr
            rw [h2]
            have z : some (Value.ref C2) = some (.ref C') := h1.symm.trans hm'
            cases z
            rfl
          exact ⟨true, by rw [ec]; exact hx', fun _ => ⟨G, S', ρ', m1, y, r, M', xr, hgy, fun S2 H2 vv s2 M2 _ r2 => h S2 H2 ρ' vv ⟨e'.s.trans s2, e'.r⟩ M2 r2⟩, fun z => by cases z⟩⟩
end
def lamR (others : List (Str × Bool)) (g : Exc → Option D) (r : R SV) : R SV := match r with
  | .exc y m1 => (match others.lookup y.cls with
    | some true => (match g y with | some r => .ok (.dat r) m1 | none => .stuck)
    | _ => .stuck)
  | r => r
@[simp] theorem dLam_ap (others : List (Str × Bool)) (g : Exc → Option D) (fb : En → P SV) (env : En) (m : Mem) : dLam others g fb env m = lamR others g (fb env m) := (rfl)
@[simp] theorem lamR_ok (others : List (Str × Bool)) (g : Exc → Option D) (v : SV) (m : Mem) : lamR others g (.ok v m) = .ok v m := (rfl)
theorem lamR_exc {others : List (Str × Bool)} {g : Exc → Option D} {y : Exc} {m : Mem} {r : D} (h1 : others.lookup y.cls = some true) (h2 : g y = some r) : lamR others g (.exc y m) = .ok (.dat r) m := by
  simp [lamR, h1, h2]
/-- the table that a law's maker has, as the head tells it -/
theorem tab_code {K : PySem.W.Frag} {x0 : Str} {c P : Addr} {pa : Arguments} {bo : List Stmt} {sc : Scope} {fd : FuncData} {dvs : List V} {kws : List (Str × V)} (h : PySem.W.tabIn K x0 = some (c, P)) (F : FunD K x0 x0 pa bo sc dvs kws (He.ga K x0) fd) : fd.code = .ref c := by
  obtain ⟨oc, od, dV, kV, doc, pm, an, cdg, ct, osl, e, lk, _, _, _⟩ := F.ex
  unfold PySem.W.tabIn at h
  unfold He.ga at lk
  split at h
  · rename_i f hf
    rw [hf] at lk
    simp only at lk
    rw [lk] at h
    simp only at h
    split at h
    · rename_i c0 hc
      split at h
      · split at h
        · cases h
          exact hc
        · cases h
      · cases h
    · cases h
  · cases h
def tabB (K : PySem.W.Frag) (x0 : Str) : Bool := match PySem.W.tabIn K x0 with
  | some q => (K.lookup q.2).isNone
  | none => false
theorem tabs_of {K : PySem.W.Frag} {x0 : Str} {pa : Arguments} {bo : List Stmt} {sc : Scope} {fd : FuncData} {dvs : List V} {kws : List (Str × V)} (h : tabB K x0 = true) (F : FunD K x0 x0 pa bo sc dvs kws (He.ga K x0) fd) :
    ∃ c P, PySem.W.tabIn K x0 = some (c, P) ∧ fd.code = .ref c ∧ K.lookup P = none := by
  unfold tabB at h
  split at h
  · rename_i q hq
    exact ⟨q.1, q.2, hq, tab_code hq F, Option.isNone_iff_eq_none.mp h⟩
  · cases h
/-- the law itself, with a maker of lambdas -/
theorem walk_lawT {l : PySem.W.OpenLaw} {n k : Nat} {q : Program} {loose : List Str} {XP : (Str → Option Value) → Heap → Prop} {YP : World → Heap → Prop} {d d0 : DefRec} {x x0 : Str} {F : List SV → PL.P SV}
    (hlam : lamDefs = [x0]) (hrp : reprs = false) (hfd : (PyProof.Rows.recsOf q).find? (fun e => e.name == x0) = some d0) (hn : l.most = some n) (hn2 : n ≤ sizeLine) (hdf : d.params.defaults = []) (hr : Room k callerA)
    (hF : ∀ (w : World) (mg : Str → Option Value) (h : Heap), YP w h → h.Ns mainGlobals mg → ∃ (K : PySem.W.Frag) (f : Addr) (fd : FuncData) (c P : Addr), K.In h ∧ mg d.name = some (.ref f) ∧ PySem.W.tabIn K x0 = some (c, P) ∧ K.lookup P = none ∧ (∀ (s : Shared) (u : Value), BindsTo s fd ⟨[u], []⟩ [(x, u)]) ∧
      ∀ base : Heap, LamX.TabB base mg c P → FnG l.prog w K mg base k f fd [x] (spF ⟨K, mg⟩ 1 F))
    (hl : ∀ ns : List Int, ns.length ≤ n → ∃ m', F [.dat (.scr ns)] [] = .ok (.dat (.bl true)) m') :
    PySem.W.WalkO q loose XP YP l.row.toRowW d [] (fun f vs => PySem.call f vs) := by
  refine Att.attach_call hn hdf fun w s₀ s₁ mg mb fa o pm cd doc a vs ns G Y ho hd hcd hmg hobj hints hlen hg => ?_
  obtain ⟨K, f, fd, c, P, KX, hm, htab, hPn, hb, hok⟩ := hF w mg _ Y G.T.g
  rw [hmg] at hm
  cases hm
  have tb := PySem.W.tab_of G.T KX hfd htab
  refine LamX.law_callTs (cs := [(c, P)]) (CX := L2.CX l.prog w) (sp := spF ⟨K, mg⟩ 1 F) KX G.T.g G.T.b G.T.builtins G.T.nolimit hg (fun p hp => ?_) (fun p hp => ?_) (fun p hp => ?_) G.T.bmain hobj hints (Nat.le_trans hlen hn2) hr (fun base _ _ hT => ?_) hb (fun H hH hS => ?_) fun H e s' hx => ?_
  · rw [List.mem_singleton.mp hp]; exact tb.2
  · rw [List.mem_singleton.mp hp]; exact hPn
  · rw [List.mem_singleton.mp hp]; exact tb.1
  · have hF := hok base (hT (c, P) (List.mem_singleton.mpr rfl))
    exact ⟨hF.ln, fun A o s H args us vs Q E r => hF.go A o s H args us vs Q E ⟨r, fun z => by rw [hrp] at z; cases z⟩⟩
  · obtain ⟨m', e⟩ := hl ns hlen
    have hP := hH (c, P) (List.mem_singleton.mpr rfl)
    refine ⟨rfl, fun _ => none, noTab H, [], [], [.dat (.scr ns)], ⟨noTab_sub H, (fun b o e => by cases e), (fun b o e => by cases e), rfl, (fun i xs e => by simp at e), (fun i j xs ys a e => by simp at e), ⟨noTab_nt H, (fun b o e => by cases e), ?_⟩, ⟨(fun i kvs e => by simp at e), (fun i j xs ys a e => by simp at e)⟩, MixR.none⟩, .cons (.scr (noTab_seq hS)) .nil, ?_⟩
    · intro p hp
      simp [tabsK, hlam, htab] at hp
      subst hp
      exact LamX.TabS.nil hP
    rw [e]
    intro S' H' ρ' vv _ _ r
    cases r
    rfl
  · obtain ⟨_, _, _, _, _, _, _, _, _, _, _, _, z⟩ := hx
    exact z
end PL

/-! PL20: own dicts whose keys are ints: {}, d[k] = v, d.get(k); a lambda whose def tells whether it is refused. -/
namespace PL
open PySem PySem.Spec PyProof.Rows L2
theorem RoomG.units1 {k : Nat} {A : Around} (r : RoomG k A) : A.units + 1 < cLine := by have := r.units; omega
def dGetI (kvs : List (Key × D)) (k : Key) : Option D := (kvs.find? fun kv => decide (kv.1 = k)).map (·.2)
def dPutI (kvs : List (Key × D)) (k : Key) (v : D) : List (Key × D) :=
  if (kvs.any fun kv => decide (kv.1 = k)) = true then kvs.map (fun kv => if kv.1 = k then (kv.1, v) else kv) else kvs ++ [(k, v)]
section
variable {Γ : Gd} {S : Hp} {vs : List (Key × V)} {kvs : List (Key × D)}
/-- what may be a key -/
def keyD (d : D) : Option Key := match d with
  | .int i => some (Sum.inl i)
  | .str x => some (Sum.inr x)
  | _ => none
theorem keyD_ok {v : V} {d : D} {k : Key} (r : Rp Γ S v d) (h : keyD d = some k) : v = kV k := by
  unfold keyD at h
  split at h
  · cases h; cases r; rfl
  · cases h; cases r; rfl
  · cases h
@[simp] theorem keyD_int (i : Int) : keyD (.int i) = some (Sum.inl i) := (rfl)
@[simp] theorem keyD_str (x : Str) : keyD (.str x) = some (Sum.inr x) := (rfl)
theorem KvR.length (h : KvR Γ S vs kvs) : vs.length = kvs.length := by
  induction h with
  | nil => rfl
  | cons _ _ ih => simp [ih]
theorem KvR.get (h : KvR Γ S vs kvs) (k : Key) : (∃ v d, valV vs k = some v ∧ dGetI kvs k = some d ∧ Rp Γ S v d) ∨ (valV vs k = none ∧ dGetI kvs k = none) := by
  induction h with
  | nil => exact .inr ⟨rfl, rfl⟩
  | @cons i v d vs kvs r _ ih =>
    by_cases e : i = k
    · subst e
      exact .inl ⟨v, d, by simp [valV, List.find?_cons], by simp [dGetI, List.find?_cons], r⟩
    · have e1 : valV ((i, v) :: vs) k = valV vs k := valV_neg e
      have e2 : dGetI ((i, d) :: kvs) k = dGetI kvs k := by simp [dGetI, List.find?_cons, e]
      rw [e1, e2]
      exact ih
theorem KvR.any (h : KvR Γ S vs kvs) (k : Key) : (vs.any fun kv => decide (kv.1 = k)) = kvs.any fun kv => decide (kv.1 = k) := by
  induction h with
  | nil => rfl
  | cons r _ ih => rw [List.any_cons, List.any_cons, ih]
theorem KvR.snoc (h : KvR Γ S vs kvs) (k : Key) {v : V} {d : D} (r : Rp Γ S v d) : KvR Γ S (vs ++ [(k, v)]) (kvs ++ [(k, d)]) := by
  induction h with
  | nil => exact .cons r .nil
  | cons q _ ih => exact .cons q ih
theorem KvR.swap (h : KvR Γ S vs kvs) (k : Key) {v : V} {d : D} (r : Rp Γ S v d) : KvR Γ S (vs.map fun kv => if kv.1 = k then (kv.1, v) else kv) (kvs.map fun kv => if kv.1 = k then (kv.1, d) else kv) := by
  induction h with
  | nil => exact .nil
  | @cons i v' d' vs kvs q _ ih =>
    rw [List.map_cons, List.map_cons]
    by_cases e : i = k
    · rw [if_pos e, if_pos e]
      exact .cons r ih
    · rw [if_neg e, if_neg e]
      exact .cons q ih
theorem KvR.put (h : KvR Γ S vs kvs) (k : Key) {v : V} {d : D} (r : Rp Γ S v d) : KvR Γ S (putK vs k v) (dPutI kvs k d) := by
  unfold putK dPutI
  rw [h.any k]
  by_cases q : (kvs.any fun kv => decide (kv.1 = k)) = true
  · rw [if_pos q, if_pos q]
    exact h.swap k r
  · rw [if_neg q, if_neg q]
    exact h.snoc k r
end
section
variable {Γ : Gd} {G S H : Hp} {ρ : List Addr} {m : Mem} {p : Addr}
theorem MR.allocD (M : MR Γ G S H ρ m) (hp : H p = none) : Ext S ρ S (ρ ++ [p]) ∧ MR Γ G S (upd H p (.dK [])) (ρ ++ [p]) (m ++ [.dct []]) := by
  have sp : S p = none := M.sub.free hp
  have gp : G p = none := M.gsub.free hp
  have low : ∀ (i : Nat) (xs : List D), (m ++ [Cell.dct []])[i]? = some (.lst xs) → m[i]? = some (.lst xs) ∧ i < m.length := fun i xs q => by
    by_cases hi : i < m.length
    · rw [List.getElem?_append_left hi] at q; exact ⟨q, hi⟩
    · rw [List.getElem?_append_right (by omega)] at q
      have h0 : i - m.length = 0 := by
        have := (List.getElem?_eq_some_iff.mp q).1
        simp at this
        omega
      rw [h0] at q
      simp at q
  have dat : ∀ (i : Nat) (kvs : List (Key × D)), (m ++ [Cell.dct []])[i]? = some (.dct kvs) → (m[i]? = some (.dct kvs) ∧ i < m.length) ∨ (i = m.length ∧ kvs = []) := fun i kvs q => by
    by_cases hi : i < m.length
    · rw [List.getElem?_append_left hi] at q; exact .inl ⟨q, hi⟩
    · rw [List.getElem?_append_right (by omega)] at q
      have h0 : i - m.length = 0 := by
        have := (List.getElem?_eq_some_iff.mp q).1
        simp at this
        omega
      rw [h0] at q
      simp at q
      exact .inr ⟨by omega, q⟩
  have back : ∀ (i : Nat) (a : Addr), i < m.length → (ρ ++ [p])[i]? = some a → ρ[i]? = some a := fun i a hi q => by
    rw [List.getElem?_append_left (by rw [M.len]; exact hi)] at q; exact q
  refine ⟨⟨Same.refl S, fun i a q => r_app q⟩, ⟨fun b x q => ?_, fun b x q => ?_, M.dis, by rw [List.length_append, List.length_append, M.len]; rfl, fun i xs q => ?_, fun i j xs ys a q1 q2 q3 q4 => ?_, M.tab.h (.inl hp) _, ⟨fun i kvs q => ?_, fun i j xs ys a q1 q2 q3 q4 => ?_⟩, M.mix.push M.len (fun i b q => upd_ne (M.mix.ne q hp)) rfl fun ⟨_, z⟩ => by cases z⟩⟩
  · rw [upd_ne (ne_of_none q sp)]; exact M.sub b x q
  · rw [upd_ne (ne_of_none q gp)]; exact M.gsub b x q
  · obtain ⟨a, vs, h1, h2, h3⟩ := M.cell i xs (low i xs q).1
    exact ⟨a, vs, r_app h1, by rw [upd_ne (ne_of_none h2 hp)]; exact h2, h3⟩
  · obtain ⟨w1, l1⟩ := low i xs q1
    obtain ⟨w2, l2⟩ := low j ys q2
    exact M.inj i j xs ys a w1 w2 (back i a l1 q3) (back j a l2 q4)
  · rcases dat i kvs q with ⟨q1, _⟩ | ⟨q1, q2⟩
    · obtain ⟨a, vs, h1, h2, h3⟩ := M.dic.cell i kvs q1
      exact ⟨a, vs, r_app h1, by rw [upd_ne (ne_of_none h2 hp)]; exact h2, h3⟩
    · subst q1 q2
      exact ⟨p, [], by rw [← M.len]; simp, upd_same, .nil, sp, gp⟩
  · have key : ∀ (i : Nat) (xs : List (Key × D)), (m ++ [Cell.dct []])[i]? = some (.dct xs) → (ρ ++ [p])[i]? = some a → (m[i]? = some (.dct xs) ∧ ρ[i]? = some a ∧ a ≠ p) ∨ (i = m.length ∧ a = p) := fun i xs q r => by
      rcases dat i xs q with ⟨w1, w2⟩ | ⟨w1, w2⟩
      · obtain ⟨a', vs', h1, h2, _⟩ := M.dic.cell i xs w1
        have e := r_app (p := p) h1
        rw [r] at e
        cases e
        exact .inl ⟨w1, h1, ne_of_none h2 hp⟩
      · subst w1
        rw [← M.len] at r
        simp at r
        exact .inr ⟨rfl, r.symm⟩
    rcases key i xs q1 q3 with ⟨b1, b2, b3⟩ | ⟨b1, b2⟩
    · rcases key j ys q2 q4 with ⟨c1, c2, c3⟩ | ⟨c1, c2⟩
      · exact M.dic.inj i j xs ys a b1 c1 b2 c2
      · exact absurd c2 b3
    · rcases key j ys q2 q4 with ⟨c1, c2, c3⟩ | ⟨c1, c2⟩
      · exact absurd b2 c3
      · rw [b1, c1]
theorem MR.writeD (M : MR Γ G S H ρ m) {i : Nat} {kvs kvs' : List (Key × D)} {a : Addr} {ws : List (Key × V)} (hm : m[i]? = some (.dct kvs)) (ha : ρ[i]? = some a) (r : KvR Γ S ws kvs') :
    MR Γ G S (upd H a (.dK ws)) ρ (m.set i (.dct kvs')) := by
  have hi : i < m.length := (List.getElem?_eq_some_iff.mp hm).1
  obtain ⟨a', vs, h1, h2, h3, h4, h5⟩ := M.dic.cell i kvs hm
  rw [ha] at h1
  cases h1
  have low : ∀ (j : Nat) (xs : List D), (m.set i (Cell.dct kvs'))[j]? = some (.lst xs) → m[j]? = some (.lst xs) := fun j xs q => by
    by_cases e : i = j
    · subst e
      rw [List.getElem?_set_self hi] at q
      cases q
    · rw [List.getElem?_set_ne e] at q; exact q
  have dat : ∀ (j : Nat) (zs : List (Key × D)), (m.set i (Cell.dct kvs'))[j]? = some (.dct zs) → (j = i ∧ zs = kvs') ∨ (j ≠ i ∧ m[j]? = some (.dct zs)) := fun j zs q => by
    by_cases e : i = j
    · subst e
      rw [List.getElem?_set_self hi] at q
      cases q
      exact .inl ⟨rfl, rfl⟩
    · rw [List.getElem?_set_ne e] at q
      exact .inr ⟨Ne.symm e, q⟩
  have live : ∀ (j : Nat) (zs : List (Key × D)), (m.set i (Cell.dct kvs'))[j]? = some (.dct zs) → ∃ zs', m[j]? = some (.dct zs') := fun j zs q => by
    rcases dat j zs q with ⟨rfl, _⟩ | ⟨_, q⟩
    · exact ⟨_, hm⟩
    · exact ⟨_, q⟩
  have tabs : TabR Γ.K G S (upd H a (.dK ws)) := ⟨M.tab.st, M.tab.gt, fun q hq => by
    obtain ⟨ps, g1, g2, g3⟩ := M.tab.tb q hq
    refine ⟨ps, by rw [upd_ne (fun z => by rw [z, h2] at g1; cases g1)]; exact g1, g2, fun pos cv hc => ?_⟩
    obtain ⟨c, e1, e2⟩ := g3 pos cv hc
    exact ⟨c, e1, by rw [upd_ne (fun z => by rw [z, h2] at e2; unfold LamX.CodeO at e2; cases e2)]; exact e2⟩⟩
  refine ⟨fun b x q => ?_, fun b x q => ?_, M.dis, by rw [List.length_set]; exact M.len, fun j zs q => ?_, fun j k zs ws' b q1 q2 q3 q4 => M.inj j k zs ws' b (low j zs q1) (low k ws' q2) q3 q4, tabs, ⟨fun j zs q => ?_, fun j k zs ws' b q1 q2 q3 q4 => ?_⟩, M.mix.step (Same.refl S) (fun j b q => ⟨(M.mix.own q).1, (M.mix.own q).2.1, upd_ne fun z => by obtain ⟨_, _, o, g1, _, g3⟩ := M.mix.own q; rw [z, h2] at g1; exact g3 vs (Option.some.inj g1).symm⟩) (fun j c' q1 q2 => mix_set rfl q1 q2) (fun _ _ _ _ _ q => q) fun k b j zs q1 q2 q3 => M.mix.crs k j b zs q1 (low j zs q2) q3⟩
  · rw [upd_ne (ne_of_none q h4)]; exact M.sub b x q
  · rw [upd_ne (ne_of_none q h5)]; exact M.gsub b x q
  · obtain ⟨b, us, g1, g2, g3⟩ := M.cell j zs (low j zs q)
    exact ⟨b, us, g1, by rw [upd_ne (fun z => by rw [z, h2] at g2; cases g2)]; exact g2, g3⟩
  · rcases dat j zs q with ⟨rfl, rfl⟩ | ⟨e, q⟩
    · exact ⟨a, ws, ha, upd_same, r, h4, h5⟩
    · obtain ⟨b, us, g1, g2, g3, g4, g5⟩ := M.dic.cell j zs q
      refine ⟨b, us, g1, ?_, g3, g4, g5⟩
      rw [upd_ne (fun z => e (M.dic.inj j i zs kvs a q hm (by rw [← z]; exact g1) ha))]
      exact g2
  · obtain ⟨z1, l1⟩ := live j zs q1
    obtain ⟨z2, l2⟩ := live k ws' q2
    exact M.dic.inj j k z1 z2 b l1 l2 q3 q4
end
section
variable {X : Cx} {W : WX} {o i e value : Expr} {pos pos' apos cpos : Pos} {fa fb fv : En → P SV}
def dNewD : En → P SV := fun _ m => .ok (.ref m.length) (m ++ [.dct []])
theorem je_dnew : JE X W (.Dict [] [] pos) dNewD := ⟨fun {G S H ρ m env σ Q} M E h => by
  refine we_of pe_dnewK fun p hp => ?_
  obtain ⟨e1, M1⟩ := M.allocD hp
  exact h S _ _ (.ref p) e1 M1 ⟨p, by rw [← M.len]; simp, rfl⟩⟩
def putC (env : En) (n : Nat) (k : Option Key) (v : D) (c : Option Cell) : P Out := fun m => match c, k with
  | some (.dct kvs), some k => if kvs.length < 16777216 then .ok (.nx env) (m.set n (.dct (dPutI kvs k v))) else .stuck
  | _, _ => .stuck
def putV (env : En) (v d k : SV) : P Out := fun m => match d, k, v with
  | .ref n, .dat i, .dat x => putC env n (keyD i) x m[n]? m
  | _, _, _ => .stuck
/-- d[k] = v -/
def dPutD (fd fk fv : En → P SV) : DS := fun env => (fv env).bnd fun v => (fd env).bnd fun d => (fk env).bnd fun k => putV env v d k
theorem js_dput (hu : X.A.units + 1 < cLine) (jo : JE X W o fa) (ji : JE X W i fb) (jv : JE X W value fv) (hs : swapsWith value (some (.Subscript o i pos')) pos.line X.env = pure false := by rfl) :
    JS X W (.Assign [.Subscript o i pos'] value pos) (dPutD fa fb fv) := ⟨fun {G S H ρ m env σ D} M E h => by
  refine ws_of (ps_dput hu pe_we pe_we pe_we hs) (jv.run M E (wpr_mono (wpr_bnd h) (fun v m1 hv => ?_) fun _ _ z => qx_of z))
  intro S1 H1 ρ1 vv e1 M1 rv
  refine jo.run M1 (E.mono e1) (wpr_mono (wpr_bnd hv) (fun d m2 hd => ?_) fun _ _ z => qx_ext e1 (qx_of z))
  intro S2 H2 ρ2 dv e2 M2 rd
  refine ji.run M2 ((E.mono e1).mono e2) (wpr_mono (wpr_bnd hd) (fun k m3 hk => ?_) fun _ _ z => qx_ext (e1.trans e2) (qx_of z))
  intro S3 H3 ρ3 kv e3 M3 rk
  unfold putV at hk
  split at hk
  · rename_i n j x
    unfold putC at hk
    split at hk
    · rename_i kvs key hc hkey
      split at hk
      · rename_i hl
        obtain ⟨a, ha, rfl⟩ := rd.mono e3
        obtain ⟨a', vs, g1, g2, g3, g4, g5⟩ := M3.dic.cell n kvs hc
        rw [ha] at g1
        cases g1
        have ek := keyD_ok rk hkey
        subst ek
        have rv3 := (rv.mono e2).mono e3
        have M4 := M3.writeD hc ha (g3.put key rv3)
        refine ⟨a, _, rfl, DPut.k (k := key) g2 (by rw [g3.length, sizeLine_eq]; exact hl), ?_⟩
        exact hk S3 _ ρ3 σ ((e1.trans e2).trans e3) M4 (((E.mono e1).mono e2).mono e3)
      · exact hk.elim
    · exact hk.elim
  · exact hk.elim⟩
def isDc (c : Option Cell) : Bool := match c with
  | some (.dct _) => true
  | _ => false
def getC (k : Option Key) (c : Option Cell) : P SV := fun m => match c, k with
  | some (.dct kvs), some k => .ok (.dat ((dGetI kvs k).getD .non)) m
  | _, _ => .stuck
def getV (n : Nat) (k : SV) : P SV := fun m => match k with
  | .dat i => getC (keyD i) m[n]? m
  | _ => .stuck
def getA (fk : En → P SV) (env : En) (d : SV) : P SV := fun m => match d with
  | .ref n => if isDc m[n]? = true then ((fk env).bnd fun k => getV n k) m else .stuck
  | _ => .stuck
/-- d.get(k) -/
def dGetD (fd fk : En → P SV) : En → P SV := fun env => (fd env).bnd fun d => getA fk env d
theorem je_dget1 (hu : X.A.units + 1 < cLine) (jo : JE X W o fa) (je : JE X W e fb) (m1 : M1 X o "get" apos e cpos := by exact ⟨rfl, rfl, rfl, rfl⟩) : JE X W (.Call (.Attribute o "get" apos) [e] [] cpos) (dGetD fa fb) := ⟨fun {G S H ρ m env σ Q} M E h => by
  refine we_of (pe_dget1 hu pe_we pe_we m1) (jo.run M E (wpr_monoQ (wpr_bnd h) fun d mm hd => ?_))
  intro S1 H1 ρ1 dv e1 M1 rd
  unfold getA at hd
  split at hd
  · rename_i n
    split at hd
    · rename_i hc
      obtain ⟨a, ha, rfl⟩ := rd
      have hdc : ∃ kvs, mm[n]? = some (.dct kvs) := by
        unfold isDc at hc
        split at hc
        · rename_i kvs hq
          exact ⟨kvs, hq⟩
        · cases hc
      obtain ⟨kvs0, hq0⟩ := hdc
      obtain ⟨a', vs, g1, g2, _⟩ := M1.dic.cell n kvs0 hq0
      rw [ha] at g1
      cases g1
      refine ⟨a, rfl, .inl ⟨vs, .inl g2⟩, je.run M1 (E.mono e1) (wpr_mono (wpr_bnd hd) (fun k m2 hk => ?_) fun _ _ z => qx_ext e1 z)⟩
      intro S2 H2 ρ2 kv e2 M2 rk
      unfold getV at hk
      split at hk
      · rename_i j
        unfold getC at hk
        split at hk
        · rename_i kvs key hq hkey
          have ek := keyD_ok rk hkey
          subst ek
          obtain ⟨a2, vs2, f1, f2, f3, _⟩ := M2.dic.cell n kvs hq
          rw [e2.r n a ha] at f1
          cases f1
          refine ⟨_, DGet.k (k := key) f2, ?_⟩
          rcases f3.get key with ⟨v, d, q1, q2, q3⟩ | ⟨q1, q2⟩
          · rw [q1]
            rw [q2] at hk
            exact hk S2 H2 ρ2 v (e1.trans e2) M2 q3
          · rw [q1]
            rw [q2] at hk
            exact hk S2 H2 ρ2 .non (e1.trans e2) M2 .non
        · exact hk.elim
      · exact hk.elim
    · exact hd.elim
  · exact hd.elim⟩
end
/-! ### how they reckon -/
@[simp] theorem dNewD_ap (env : En) (m : Mem) : dNewD env m = .ok (.ref m.length) (m ++ [.dct []]) := (rfl)
def kPut2 (fk : En → P SV) (env : En) (v d : SV) (m : Mem) : R Out := (fk env m).bnd (putV env v d)
@[simp] theorem kPut2_ap (fk : En → P SV) (env : En) (v d : SV) (m : Mem) : kPut2 fk env v d m = (fk env m).bnd (putV env v d) := (rfl)
def kPut1 (fd fk : En → P SV) (env : En) (v : SV) (m : Mem) : R Out := (fd env m).bnd (kPut2 fk env v)
@[simp] theorem kPut1_ap (fd fk : En → P SV) (env : En) (v : SV) (m : Mem) : kPut1 fd fk env v m = (fd env m).bnd (kPut2 fk env v) := (rfl)
@[simp] theorem dPutD_ap (fd fk fv : En → P SV) (env : En) (m : Mem) : dPutD fd fk fv env m = (fv env m).bnd (kPut1 fd fk env) := (rfl)
@[simp] theorem putV_ap (env : En) (n : Nat) (i : D) (x : D) (m : Mem) : putV env (.dat x) (.ref n) (.dat i) m = putC env n (keyD i) x m[n]? m := (rfl)
@[simp] theorem putC_ap (env : En) (n : Nat) (i : Key) (x : D) (kvs : List (Key × D)) (m : Mem) : putC env n (some i) x (some (.dct kvs)) m = if kvs.length < 16777216 then .ok (.nx env) (m.set n (.dct (dPutI kvs i x))) else .stuck := (rfl)
@[simp] theorem dGetD_ap (fd fk : En → P SV) (env : En) (m : Mem) : dGetD fd fk env m = (fd env m).bnd (getA fk env) := (rfl)
@[simp] theorem getA_ap (fk : En → P SV) (env : En) (n : Nat) (m : Mem) : getA fk env (.ref n) m = if isDc m[n]? = true then (fk env m).bnd (getV n) else .stuck := (rfl)
@[simp] theorem isDc_ap (kvs : List (Key × D)) : isDc (some (.dct kvs)) = true := (rfl)
@[simp] theorem getV_ap (n : Nat) (i : D) (m : Mem) : getV n (.dat i) m = getC (keyD i) m[n]? m := (rfl)
@[simp] theorem getC_ap (i : Key) (kvs : List (Key × D)) (m : Mem) : getC (some i) (some (.dct kvs)) m = .ok (.dat ((dGetI kvs i).getD .non)) m := (rfl)
/-! ### a lambda that is refused, or not -/
def TNone (Γ : Gd) (CS : Addr) (g : Exc → Option D) : (XK → Hp → VK → Prop) → Hp → VK → Prop := fun tl H Q =>
  tl (fun cls d H' => ∃ b, PySem.W.exmOne Γ.K cls (.ref CS) = some b ∧ (b = true → HX Γ g cls d H' Q) ∧ (b = false → False)) H (fun _ H' => Q (.bl false) H')
section
variable {X : Cx} {W : WX}
theorem none_gives {Ng : List Str} {x a e n q : Str} {sg : Scope} {g CS : Addr} {cdg : Value} {i j : Nat} {E : Expr} {ge : Exc → Option D} {p1 p2 p3 p4 p6 p7 p8 p9 p10 : Pos} (hge : sg.names.lookup e = some .globalImplicit) (hme : X.mg e = some (.ref CS)) (hde : (e == ("__debug__" : Str)) = false)
    (h0 : ∀ f : Addr, (L2.start Ng [V.ref f])[0]? = some (some (V.ref f))) (hN : Ng.Nodup) (hi : Ng[i]? = some n) (hln : sg.names.lookup n = some .local)
    (jx : ∀ (s : Shared) (H : Hp) (a : Addr) (oe : Obj) (cls : Value) (d : Option Addr) (pn : List (Addr × Obj)), Zc cls d oe → (∃ vs, oe.data = .fields vs) → JX ((cxOf C8.CX0 X.prog X.w X.K X.mg X.base Ng x sg g cdg X.A X.stack s H C8.E0).nox.suite a ((a, oe) :: pn)) i a cls d E ge) :
    LamX.GivesTo X Ng x sg g cdg [.Try [.Expr (.Call (.Name a p1) [] [] p2) p3] [.ExceptHandler (some (.Name e p4)) (some n) [.Return (some E) p6] p7] [] [] p8, .Return (some (.Constant (.bool false) j p9)) p10] a q (TNone (gd X) CS ge) := by
  intro f c' s H Q tl act hc h
  have hgl : Gl (cxOf C8.CX0 X.prog X.w X.K X.mg X.base Ng x sg g cdg X.A X.stack s H C8.E0).nox e := hge
  refine ⟨_, pss_cons (ps_try_as (X := (cxOf C8.CX0 X.prog X.w X.K X.mg X.base Ng x sg g cdg X.A X.stack s H C8.E0).nox) (c := .ref CS) (i := i)
      (tb := fun W D σ H => ∃ Ech : XK, (∀ cls d σ' H', Ech cls d H' → W cls d σ' H') ∧ σ[0]? = some (some (.ref f)) ∧ H c' = some (LamX.CodeO c' q) ∧ tl Ech H (fun _ H' => D.nx σ H'))
      (ts := fun a cls d D σ H => (∃ σ0 : St, σ = σ0.set i (some (.ref a))) ∧ HX (gd X) ge cls d H D.rt)
      rfl rfl hN hi hln ⟨hgl, hde, .inl hme⟩ LamX.takes0 (fun W pn xe tk _ => ?_) (fun a oe cls d pn hz hv => ?_)) (pss_one (ps_ret pe_bl)), ?_⟩
  · refine ⟨fun pins s' σ H' D I h' => ?_⟩
    obtain ⟨Ech, hW, h1, h2, h3⟩ := h'
    have hp := act W pn xe Ech p1 p2 tk hW
    have hq := pss_one (ps_expr (pos := p3) hp)
    exact hq.run pins s' σ H' D I ⟨h1, h2, h3⟩
  · refine ⟨fun pins s' σ H' D I h' => ?_⟩
    obtain ⟨⟨σ0, rfl⟩, G, S, ρ, m, y, r, M, xr, hy, k⟩ := h'
    have hlen : i < σ0.length := by
      have l1 := I.len
      have l2 := (List.getElem?_eq_some_iff.mp hi).1
      rw [List.length_set] at l1
      have l3 : Ng.length = σ0.length := l1.symm
      omega
    have hσ : (σ0.set i (some (.ref a)))[i]? = some (some (V.ref a)) := List.getElem?_set_self hlen
    exact (pss_one (ps_ret (pos := p6) pe_we)).run pins s' _ H' D I ((jx s H a oe cls d pn hz hv).run M xr hσ hy k)
  · refine ⟨_, fun cls d σ' H' hh => ?_, h0 f, hc, h⟩
    obtain ⟨b, e1, e2, e3⟩ := hh
    exact ⟨b, e1, fun hb a ha => ⟨⟨σ', rfl⟩, e2 hb⟩, fun hb => (e3 hb).elim⟩
/-- f(lambda: body), where f tells whether it is refused -/
def dLamN (others : List (Str × Bool)) (g : Exc → Option D) (fb : En → P SV) : En → P SV := fun env m => match fb env m with
  | .exc y m1 => (match others.lookup y.cls with
    | some true => (match g y with | some r => .ok (.dat r) m1 | none => .stuck)
    | _ => .stuck)
  | .ok _ m1 => .ok (.dat (.bl false)) m1
  | .stuck => .stuck
theorem je_lamN {x a x0 : Str} {CS : Addr} {k : Nat} {st : Stmt} {Ng : List Str} {f0 : Addr} {fd : FuncData} {params : Arguments} {body : Expr} {scope : Scope} {others : List (Str × Bool)} {ge : Exc → Option D} {fb : En → P SV} {p lpos pos : Pos}
    (hg : Gl X x) (hm : X.mg x = some (.ref f0)) (F : FunD X.K x x (defArgs st) (defBody st) (defScope st) [] [] f0 fd) (hb : Binds X.K fd [a] []) (Sg : FnScope Ng [a] (defScope st)) (hNg : Ng[0]? = some a) (hva : Vis (defScope st) a)
    (hG : ∀ cdg, LamX.GivesTo X Ng x (defScope st) f0 cdg (defBody st) a (X.env.qual ++ "<lambda>") (TNone (gd X) CS ge)) (hex : Exm X.K X.mg CS others)
    (mk : Mkr X.K X.mg X.base x0 X.env.code) (hq : X.env.qual ++ "<lambda>" = lamN x0) (hr : RoomG (k + 2) X.A) (hrp : reprs = false) (L : LamX.LamS X.env.scope scope) (hdef : defaultsOf params X.env = ([], []))
    (hbind : ∀ (q : Str) (cl : List (Str × Addr)) (pm cv ctv : Value), bindArgs (PySem.W.kla_fn "<lambda>" q params body scope cl pm cv ctv) ⟨[], []⟩ = pure [])
    (jb : ∀ (A : Around) (outer : List Env) (s : Shared) (H : Hp) (E : XK) (f c' : Addr), RoomG k (A.deeper (LamX.lamEnv X scope s.heap.objs.size f c')) → Takes (LamX.lamCx X A outer s H E scope f c') (fun cls d _ H => E cls d H) → JE (LamX.lamCx X A outer s H E scope f c') (fun cls d _ H => E cls d H) body fb)
    (hdb : (x == ("__debug__" : Str)) = false := by decide) (hd : (a == ("__debug__" : Str)) = false := by decide) (hcd : (a == ("__classdict__" : Str)) = false := by decide) :
    JE X W (.Call (.Name x p) [.Lambda params body scope lpos] [] pos) (dLamN others ge fb) := ⟨fun {G S H ρ m env σ Q} M E h => by
  obtain ⟨oc, od, dV, kV, doc, pm, an, cdg, ct, osl, rfl, lk, hcdg, _, _⟩ := F.ex
  obtain ⟨c, P, ht, hcode, TB⟩ := mk.ex
  have hT : tabsK X.K = [(P, lamN x0)] := by
    unfold tabsK
    rw [mk.one]
    simp [ht]
  refine we_of (LamX.pe_lamcall (T := tabsK X.K) (TT := TNone (gd X) CS ge) (k := k) (c := c) (P := P) (t := fun E σ H Q => ∀ (A : Around) (outer : List Env) (s : Shared) (H0 : Hp) (f c' : Addr), Room k (A.deeper (LamX.lamEnv X scope s.heap.objs.size f c')) → WE (LamX.lamCx X A outer s H0 E scope f c') body σ H Q)
    hg hm F.kp lk hcdg hb Sg hNg hva (hG _) TB hcode (by rw [hT, hq]; exact List.mem_singleton.mpr rfl) (fun q hq' _ => by rw [hT] at hq'; rw [List.mem_singleton.mp hq', hq]) hr.rm L hdef hbind
    (fun A outer s H E f c' hrm => ⟨fun pins s' σ H' Q I ht => ht A outer s H f c' hrm pins s' I⟩) hdb hd hcd) ⟨M.tab.tb, fun H1 eN T1 => ?_⟩
  intro A outer s0 H0 f c' hrm
  refine (jb A outer s0 H0 _ f c' ⟨hrm, fun z => by rw [hrp] at z; cases z⟩ (takes_of rfl rfl rfl rfl)).run (M.extN eN T1) E ?_
  unfold dLamN at h
  cases hf : fb env m with
  | stuck => rw [hf] at h; exact h.elim
  | ok v m1 =>
    rw [hf] at h
    exact fun S' H' ρ' vv e' M' _ => h S' H' ρ' (.bl false) e' M' (.bl false)
  | exc y m1 =>
    rw [hf] at h
    intro S' H' ρ' cls d e' M' xr
    cases ho : others.lookup y.cls with
    | none => simp only [ho] at h; exact h.elim
    | some b =>
      cases b with
      | false => simp only [ho] at h; exact h.elim
      | true =>
        simp only [ho] at h
        cases hgy : ge y with
        | none => simp only [hgy] at h; exact h.elim
        | some r =>
          simp only [hgy] at h
          obtain ⟨C', hm', hx'⟩ := hex y.cls true ho
          have ec : cls = .ref C' := by
            obtain ⟨C2, _, _, h1, h2, _⟩ := xr
            rw [h2]
            have z : some (Value.ref C2) = some (.ref C') := h1.symm.trans hm'
            cases z
            rfl
          exact ⟨true, by rw [ec]; exact hx', fun _ => ⟨G, S', ρ', m1, y, r, M', xr, hgy, fun S2 H2 vv s2 M2 _ r2 => h S2 H2 ρ' vv ⟨e'.s.trans s2, e'.r⟩ M2 r2⟩, fun z => by cases z⟩⟩
end
def lamNR (others : List (Str × Bool)) (g : Exc → Option D) (r : R SV) : R SV := match r with
  | .exc y m1 => (match others.lookup y.cls with
    | some true => (match g y with | some r => .ok (.dat r) m1 | none => .stuck)
    | _ => .stuck)
  | .ok _ m1 => .ok (.dat (.bl false)) m1
  | .stuck => .stuck
@[simp] theorem dLamN_ap (others : List (Str × Bool)) (g : Exc → Option D) (fb : En → P SV) (env : En) (m : Mem) : dLamN others g fb env m = lamNR others g (fb env m) := (rfl)
@[simp] theorem lamNR_ok (others : List (Str × Bool)) (g : Exc → Option D) (v : SV) (m : Mem) : lamNR others g (.ok v m) = .ok (.dat (.bl false)) m := (rfl)
theorem lamNR_exc {others : List (Str × Bool)} {g : Exc → Option D} {y : Exc} {m : Mem} {r : D} (h1 : others.lookup y.cls = some true) (h2 : g y = some r) : lamNR others g (.exc y m) = .ok (.dat r) m := by
  simp [lamNR, h1, h2]
/-! ### x not in l, where the items are data of any depth -/
theorem RoomG.units65 {k : Nat} {A : Around} (r : RoomG k A) : A.units + 65 < cLine := by have := r.rm.un; omega
theorem toPys_any (d : D) : ∀ es : List D, ((toPys es).any fun z => PyData.eqv z (toPy d)) = es.any fun e => eqd e d
  | [] => by simp [toPys]
  | e :: es => by simp [toPys, toPys_any d es, eqd]
def notInDV (x y : SV) : P SV := fun m => match x, y with
  | .dat d, .dat (.lst es) => if okD d && okD (.lst es) then .ok (.dat (.bl (!es.any fun e => eqd e d))) m else .stuck
  | _, _ => .stuck
@[simp] theorem notInDV_ap (d : D) (es : List D) (m : Mem) : notInDV (.dat d) (.dat (.lst es)) m = if okD d && okD (.lst es) then .ok (.dat (.bl (!es.any fun e => eqd e d))) m else .stuck := (rfl)
theorem jo_notInD {X : Cx} {W : WX} (hu : X.A.units + 65 < cLine) : JO X W (compareOp .NotIn) notInDV := ⟨fun {G S H ρ m σ x y xv yv Q} M rx ry q => by
  unfold notInDV at q
  split at q
  · rename_i d es
    split at q
    · rename_i ok
      rw [Bool.and_eq_true] at ok
      have r1 : Rp (gd X) S xv d := rx
      have r2 : Rp (gd X) S yv (.lst es) := ry
      refine wo_of (op_notInD hu) ⟨toPy d, toPys es, (r1.mono M.sub).dp (okD_plain ok.1), ?_, okD_shaped ok.1, ?_, ?_⟩
      · have := (r2.mono M.sub).dp (okD_plain ok.2)
        simpa only [toPy] using this
      · have := okD_shaped ok.2
        simpa only [toPy] using this
      · rw [toPys_any]
        exact q S H ρ _ (Ext.refl _ _) M (.bl _)
    · exact q.elim
  · exact q.elim⟩
end PL

/-! PL21: dict([(k, True), ..]) that stays as it is, its keys, in; own dicts: in, d[k]; min of data; a list frozen between two statements. -/
namespace PL
open PySem PySem.Spec PyProof.Rows L2
/-! ### dict(pairs) -/
def asKT : List D → Option (List Int)
  | [] => some []
  | .tup [.int k, .bl b] :: r => if b = true then (match asKT r with | some ks => some (k :: ks) | none => none) else none
  | _ => none
def mrgI (acc ks : List Int) : List Int := ks.foldl (fun a k => if k ∈ a then a else a ++ [k]) acc
def kT (n : Int) : Key × V := ((Sum.inl n : Key), V.bl true)
theorem put_kT (acc : List Int) (k : Int) : putK (acc.map kT) (Sum.inl k) (V.bl true) = (if k ∈ acc then acc else acc ++ [k]).map kT := by
  unfold putK
  have e : ((acc.map kT).any fun kv => decide (kv.1 = (Sum.inl k : Key))) = decide (k ∈ acc) := by
    induction acc with
    | nil => simp
    | cons a acc ih =>
      rw [List.map_cons, List.any_cons, ih]
      by_cases q : a = k
      · subst q; simp [kT]
      · have q' : ¬ k = a := fun z => q z.symm
        simp [kT, q, q']
  rw [e]
  by_cases q : k ∈ acc
  · simp only [q, decide_true, if_true]
    rw [List.map_map]
    apply List.map_congr_left
    intro n _
    show (if (Sum.inl n : Key) = Sum.inl k then ((Sum.inl n : Key), V.bl true) else kT n) = kT n
    split <;> rfl
  · simp only [q, decide_false, Bool.false_eq_true, if_false, List.map_append]
    rfl
theorem merge_kT : ∀ (ks acc : List Int), mergeK (acc.map kT) (ks.map kT) = (mrgI acc ks).map kT
  | [], _ => rfl
  | k :: ks, acc => by
    have := merge_kT ks (if k ∈ acc then acc else acc ++ [k])
    unfold mergeK mrgI at this ⊢
    rw [List.map_cons, List.foldl_cons, List.foldl_cons]
    show List.foldl _ (putK (acc.map kT) (Sum.inl k) (V.bl true)) _ = _
    rw [put_kT]
    exact this
theorem asKT_pairs {Γ : Gd} {S : Hp} : ∀ {ds : List D} {vs : List V} {ks : List Int}, RpAll Γ S vs ds → asKT ds = some ks → ∃ ps : List Addr, vs = ps.map V.ref ∧ Paired (fun p (kv : Key × V) => SqT Γ.K S p [kV kv.1, kv.2]) ps (ks.map kT)
  | [], _, _, .nil, h => by
    cases h
    exact ⟨[], rfl, .nil⟩
  | d :: ds, _, ks, .cons (v := v) (vs := vs) r rs, h => by
    unfold asKT at h
    split at h
    · rename_i e; cases e
    · rename_i k b r' e
      obtain ⟨e1, e2⟩ := List.cons.inj e
      subst e1 e2
      split at h
      · rename_i hb
        subst hb
        split at h
        · rename_i ks' hk
          cases h
          obtain ⟨ps, e3, e4⟩ := asKT_pairs rs hk
          cases r with
          | tup h1 r1 =>
            rename_i a us
            cases r1 with
            | cons q1 r2 =>
              cases q1
              cases r2 with
              | cons q2 r3 =>
                cases q2
                cases r3
                exact ⟨a :: ps, by rw [e3]; rfl, .cons h1 e4⟩
        · cases h
      · cases h
    · cases h
theorem paired_imp {α β : Type} {R R' : α → β → Prop} (f : ∀ a b, R a b → R' a b) : ∀ {xs : List α} {ys : List β}, Paired R xs ys → Paired R' xs ys
  | _, _, .nil => .nil
  | _, _, .cons h r => .cons (f _ _ h) (paired_imp f r)
def dictKV (xs : List SV) : P SV := fun m => match xs with
  | [.dat (.lst ds)] => (match asKT ds with | some ks => .ok (.dat (.ks (mrgI [] ks))) m | none => .stuck)
  | _ => .stuck
section
variable {X : Cx} {W : WX} {pos p : Pos} {tg a o i : Expr} {fa fb : En → P SV}
theorem jc_dict (hc : X.calm = true) : JC X W (.type "dict") dictKV := ⟨fun {G S H ρ m σ xs xvs Q} M rx q pins s us I r => by
  unfold dictKV at q
  split at q
  · rename_i ds
    split at q
    · rename_i ks hk
      cases rx with
      | cons r1 r2 =>
        cases r2
        have r1 : Rp (gd X) S _ (.lst ds) := r1
        cases r1 with
        | lst h1 rr =>
          rename_i a vs
          obtain ⟨ps, e1, e2⟩ := asKT_pairs rr hk
          subst e1
          have pr : Paired (fun p (kv : Key × V) => SqT X.K H p [kV kv.1, kv.2]) ps (ks.map kT) := paired_imp (fun _ _ hq => Same.seqT M.sub hq) e2
          refine wpAny_mono (wc_of (call_dictP hc) (Q := fun x H' => ∃ p, x = V.ref p ∧ H p = none ∧ H' = upd H p (.dK (mergeK [] (ks.map kT)))) ⟨a, ps, ks.map kT, rfl, .inl (.inl (M.sub a _ h1)), pr, fun p hp => ⟨p, rfl, hp, rfl⟩⟩ pins s us I r) (fun u s' he => ?_) (fun e s' h => h)
          obtain ⟨x, H', I', rv, p, ex, hp, eH⟩ := he
          subst ex eH
          obtain ⟨od, I2⟩ := I'.lock upd_same trivial
          rw [upd_upd] at I2
          obtain ⟨s1, M1⟩ := M.grow hp (.frz od (.dK (mergeK [] (ks.map kT))))
          refine ⟨.ref p, _, I2, rv, q _ _ ρ (.ref p) ⟨s1, fun _ _ z => z⟩ M1 (.ks (o := od) ?_)⟩
          rw [upd_same]
          have := merge_kT ks []
          rw [List.map_nil] at this
          rw [this]
          rfl
    · exact q.elim
  · exact q.elim⟩
/-! ### in -/
def inC (k : Option Key) (c : Option Cell) : P SV := fun m => match c, k with
  | some (.dct kvs), some k => .ok (.dat (.bl (dGetI kvs k).isSome)) m
  | _, _ => .stuck
def inA (ns : List Int) (x : SV) : P SV := fun m => match x with
  | .dat (.int k) => .ok (.dat (.bl (decide (k ∈ ns)))) m
  | _ => .stuck
def inB_ (n : Nat) (x : SV) : P SV := fun m => match x with
  | .dat d => inC (keyD d) m[n]? m
  | .ref _ => .stuck
def inKV (x y : SV) : P SV := fun m => match y with
  | .dat (.ks ns) => inA ns x m
  | .ref n => inB_ n x m
  | _ => .stuck
theorem val_kT (k : Int) : ∀ ns : List Int, (valV (ns.map kT) (Sum.inl k)).isSome = decide (k ∈ ns)
  | [] => by simp [valV]
  | n :: ns => by
    have ih := val_kT k ns
    by_cases e : n = k
    · subst e
      simp [valV, kT, List.find?_cons]
    · have e' : ¬ k = n := fun z => e z.symm
      have : valV ((n :: ns).map kT) (Sum.inl k) = valV (ns.map kT) (Sum.inl k) := valV_neg (fun z => e (Sum.inl.inj z))
      rw [this, ih]
      simp [e']
theorem jo_inK (hu : X.A.units + 1 < cLine) : JO X W (compareOp .In) inKV := ⟨fun {G S H ρ m σ x y xv yv Q} M rx ry q pins s v u I r1 r2 => by
  unfold inKV at q
  split at q
  · rename_i ns
    unfold inA at q
    split at q
    · rename_i k
      have rx : Rp (gd X) S xv (.int k) := rx
      have ry : Rp (gd X) S yv (.ks ns) := ry
      cases rx
      cases ry with
      | ks h =>
        rename_i a o
        obtain rfl : u = Value.ref a := r2
        refine d_in hu I (.inl ⟨ns.map kT, Sum.inl k, .inr ⟨o, M.sub a _ h⟩, rfl, rfl⟩) r1 fun s' I' => ⟨.bl _, H, I', rfl, ?_⟩
        rw [val_kT]
        exact q S H ρ _ (Ext.refl _ _) M (.bl _)
    · exact q.elim
  · rename_i n
    unfold inB_ at q
    split at q
    · rename_i d
      unfold inC at q
      split at q
      · rename_i kvs k hc hk
        obtain ⟨a, ha, rfl⟩ := ry
        have ek := keyD_ok (show Rp (gd X) S xv d from rx) hk
        subst ek
        obtain ⟨a', vs, g1, g2, g3, _⟩ := M.dic.cell n kvs hc
        rw [ha] at g1
        cases g1
        obtain rfl : u = Value.ref a := r2
        refine d_in hu I (.inl ⟨vs, k, .inl g2, rfl, rfl⟩) r1 fun s' I' => ⟨.bl _, H, I', rfl, ?_⟩
        have : (valV vs k).isSome = (dGetI kvs k).isSome := by
          rcases g3.get k with ⟨v, d, q1, q2, _⟩ | ⟨q1, q2⟩ <;> rw [q1, q2] <;> rfl
        rw [this]
        exact q S H ρ _ (Ext.refl _ _) M (.bl _)
      · exact q.elim
    · exact q.elim
  · exact q.elim⟩
/-! ### d[k] -/
def itemC (k : Option Key) (c : Option Cell) : P SV := fun m => match c, k with
  | some (.dct kvs), some k => (match dGetI kvs k with | some d => .ok (.dat d) m | none => .stuck)
  | _, _ => .stuck
def itemV (d k : SV) : P SV := fun m => match d, k with
  | .ref n, .dat i => itemC (keyD i) m[n]? m
  | _, _ => .stuck
theorem je_dix (hu : X.A.units + 1 < cLine) (ja : JE X W o fa) (jb : JE X W i fb) (hs : NoSl i := by exact fun _ _ => rfl) : JE X W (.Subscript o i pos) (d2 itemV fa fb) := ⟨fun {G S H ρ m env σ Q} M E h => by
  refine we_of (pe_dget hu pe_we pe_we hs) (ja.run M E (wpr_monoQ (wpr_bnd h) fun d m1 hd => ?_))
  intro S1 H1 ρ1 dv e1 M1 rd
  refine jb.run M1 (E.mono e1) (wpr_mono (wpr_bnd hd) (fun k m2 hk => ?_) fun _ _ z => qx_ext e1 z)
  intro S2 H2 ρ2 kv e2 M2 rk
  unfold itemV at hk
  split at hk
  · rename_i n j
    unfold itemC at hk
    split at hk
    · rename_i kvs key hc hkey
      split at hk
      · rename_i x hx
        obtain ⟨a, ha, rfl⟩ := rd.mono e2
        have ek := keyD_ok (show Rp (gd X) S2 kv j from rk) hkey
        subst ek
        obtain ⟨a', vs, g1, g2, g3, _⟩ := M2.dic.cell n kvs hc
        rw [ha] at g1
        cases g1
        rcases g3.get key with ⟨v, d, q1, q2, q3⟩ | ⟨q1, q2⟩
        · rw [q2] at hx
          cases hx
          exact ⟨a, v, rfl, by rw [← q1]; exact DGet.k g2, hk S2 H2 ρ2 v (e1.trans e2) M2 q3⟩
        · rw [q2] at hx
          cases hx
      · exact hk.elim
    · exact hk.elim
  · exact hk.elim⟩
/-! ### the keys, one by one -/
def itemsK (v : SV) : P (List D) := fun m => match v with
  | .dat (.ks ns) => .ok (ns.map D.int) m
  | _ => .stuck
def dItK (fa : En → P SV) : En → P (List D) := fun env => (fa env).bnd itemsK
theorem itS_keys {Γ : Gd} {S0 : Hp} {a : Addr} {o : Obj} {ns : List Int} (h : S0 a = some (.frz o (.dK (ns.map kT)))) : ItS Γ S0 (Itk a o (ns.map kT)) (ns.map D.int) := fun i {G S H ρ m} s M => by
  have q : H a = some (.frz o (.dK (ns.map kT))) := M.sub a _ (s a _ h)
  refine ⟨fun hi => ⟨q, by simp at hi ⊢; omega⟩, fun d hd => ?_⟩
  have hl := (List.getElem?_eq_some_iff.mp hd).1
  refine ⟨⟨q, by simpa using hl⟩, fun x H' hy => ?_⟩
  obtain ⟨rfl, k, v, hk, rfl⟩ := hy
  rw [List.getElem?_map] at hk hd
  cases hn : ns[i]? with
  | none => rw [hn] at hk; cases hk
  | some n =>
    rw [hn] at hk hd
    have e1 : kT n = (k, v) := by simpa using hk
    have e2 : D.int n = d := by simpa using hd
    cases e1
    subst e2
    exact ⟨S, Ext.refl _ _, M, .int n⟩
theorem ji_ks (ja : JE X W a fa) : JI X W tg a (dItK fa) := ⟨fun {G S H ρ m env σ Rr} M E h => by
  refine wi_of (pi_keys pe_we) (ja.run M E (wpr_monoQ (wpr_bnd h) fun v m1 hv => ?_))
  intro S1 H1 ρ1 xv e1 M1 rx
  unfold itemsK at hv
  split at hv
  · rename_i ns
    have rx : Rp (gd X) S1 xv (.ks ns) := rx
    cases rx with
    | ks h1 =>
      rename_i a o
      exact ⟨a, o, rfl, .inl ⟨ns.map kT, M1.sub a _ h1, hv S1 H1 ρ1 _ e1 M1 (itS_keys h1)⟩⟩
  · exact hv.elim⟩
/-! ### a list frozen between two statements -/
def frzC (i n : Nat) (env : En) (c : Option Cell) : P Out := fun m => match c with
  | some (.lst xs) => .ok (.nx (env.set i (some (.dat (.lst xs))))) (m.set n .dead)
  | _ => .stuck
def frzV (i : Nat) (env : En) (v : Option (Option SV)) : P Out := fun m => match v with
  | some (some (.ref n)) => frzC i n env m[n]? m
  | _ => .stuck
def dFrz (i : Nat) : DS := fun env => frzV i env env[i]?
theorem jb_frz {sts : List Stmt} {f : DS} (i : Nat) (jb : JB X W sts f) : JB X W sts (dSeq (dFrz i) f) := ⟨fun {G S H ρ m env σ D} M E h => by
  have h' := wpr_bnd h
  unfold dFrz frzV at h'
  split at h'
  · rename_i n hv
    unfold frzC at h'
    split at h'
    · rename_i xs hc
      obtain ⟨a, vs, ha, e1, M1, rp⟩ := M.freeze hc
      obtain ⟨vv, hσ, a', ha', rfl⟩ := E.at_ i _ hv
      rw [ha] at ha'
      cases ha'
      have E1 := E.mono e1
      refine jb.run (G := G) M1 (env := env.set i (some (.dat (.lst xs)))) ⟨by rw [List.length_set]; exact E1.len, fun j x q => ?_⟩ (wpr_mono h' (fun o m1 ho => qs_ext e1 ho) fun _ _ z => qxs_ext e1 z)
      by_cases e : i = j
      · subst e
        by_cases hl : i < env.length
        · rw [List.getElem?_set_self hl] at q
          cases q
          exact ⟨.ref a, hσ, rp⟩
        · rw [List.getElem?_eq_none (by rw [List.length_set]; omega)] at q
          cases q
      · rw [List.getElem?_set_ne e] at q
        exact E1.at_ j x q
    · exact h'.elim
  · exact h'.elim⟩
end
/-! ### min of data -/
def isNn (x : PyData) : Bool := match x with
  | .none => true
  | _ => false
def alikeL (ds : List D) : Bool := (toPys ds).all fun x => ((toPys ds).all fun y => PySem.W.alike x y) && !isNn x
def minF (x : D) (r : List D) : D := r.foldl (fun a y => if PySem.W.dataLt (toPy y) (toPy a) = true then y else a) x
theorem toPys_map : ∀ ds : List D, toPys ds = ds.map toPy
  | [] => by simp [toPys]
  | d :: r => by simp [toPys, toPys_map r]
theorem minF_py : ∀ (r : List D) (x : D), toPy (minF x r) = PySem.W.minD (toPy x) (toPys r)
  | [], x => by simp [minF, PySem.W.minD, toPys]
  | y :: r, x => by
    have := minF_py r (if PySem.W.dataLt (toPy y) (toPy x) = true then y else x)
    unfold minF PySem.W.minD at this ⊢
    rw [List.foldl_cons, this]
    simp only [toPys, List.foldl_cons]
    congr 1
    by_cases q : PySem.W.dataLt (toPy y) (toPy x) = true <;> simp [q]
theorem minF_mem : ∀ (r : List D) (x : D), minF x r ∈ x :: r
  | [], x => by simp [minF]
  | y :: r, x => by
    have := minF_mem r (if PySem.W.dataLt (toPy y) (toPy x) = true then y else x)
    have e : minF x (y :: r) = minF (if PySem.W.dataLt (toPy y) (toPy x) = true then y else x) r := rfl
    rw [e]
    rcases List.mem_cons.mp this with h | h
    · rw [h]
      split
      · exact List.mem_cons_of_mem _ List.mem_cons_self
      · exact List.mem_cons_self
    · exact List.mem_cons_of_mem _ (List.mem_cons_of_mem _ h)
mutual
theorem toPy_inj : ∀ (d e : D), plain d = true → plain e = true → toPy d = toPy e → d = e
  | .non, e, _, h2, h => by cases e <;> simp [toPy, plain] at h h2 ⊢
  | .bl b, e, _, h2, h => by cases e <;> simp [toPy, plain] at h h2 ⊢; exact h
  | .int i, e, _, h2, h => by cases e <;> simp [toPy, plain] at h h2 ⊢; exact h
  | .str x, e, _, h2, h => by cases e <;> simp [toPy, plain] at h h2 ⊢; exact h
  | .tup xs, e, h1, h2, h => by
    cases e <;> simp [toPy, plain] at h h2 h1 ⊢
    exact toPys_inj xs _ h1 h2 h
  | .lst xs, e, h1, h2, h => by
    cases e <;> simp [toPy, plain] at h h2 h1 ⊢
    exact toPys_inj xs _ h1 h2 h
  | .fn _, _, h, _, _ => by simp [plain] at h
  | .ty _, _, h, _, _ => by simp [plain] at h
  | .scr _, _, h, _, _ => by simp [plain] at h
  | .ks _, _, h, _, _ => by simp [plain] at h
theorem toPys_inj : ∀ (xs ys : List D), plains xs = true → plains ys = true → toPys xs = toPys ys → xs = ys
  | [], [], _, _, _ => rfl
  | [], _ :: _, _, _, h => by simp [toPys] at h
  | _ :: _, [], _, _, h => by simp [toPys] at h
  | x :: xs, y :: ys, h1, h2, h => by
    simp only [plains, Bool.and_eq_true] at h1 h2
    simp only [toPys, List.cons.injEq] at h
    rw [toPy_inj x y h1.1 h2.1 h.1, toPys_inj xs ys h1.2 h2.2 h.2]
end
theorem plains_mem : ∀ {xs : List D} {x : D}, plains xs = true → x ∈ xs → plain x = true
  | y :: ys, x, h, hx => by
    simp only [plains, Bool.and_eq_true] at h
    rcases List.mem_cons.mp hx with rfl | hx
    · exact h.1
    · exact plains_mem h.2 hx
theorem paired_back {α β : Type} {R : α → β → Prop} : ∀ {xs : List α} {ys : List β} {i : Nat} {y : β}, Paired R xs ys → ys[i]? = some y → ∃ x, xs[i]? = some x ∧ R x y
  | _, _, _, _, .nil, h => by simp at h
  | _, _, 0, _, .cons h _, e => by simp at e; subst e; exact ⟨_, rfl, h⟩
  | _, _, i + 1, y, .cons _ r, e => by
    obtain ⟨x, h1, h2⟩ := paired_back (i := i) (y := y) r (by simpa using e)
    exact ⟨x, by simpa using h1, h2⟩
def minDV (xs : List SV) : P SV := fun m => match xs with
  | [.dat (.lst (x :: r))] => if (okD (.lst (x :: r)) && alikeL (x :: r)) = true then .ok (.dat (minF x r)) m else .stuck
  | _ => .stuck
@[simp] theorem minDV_ap (x : D) (r : List D) (m : Mem) : minDV [.dat (.lst (x :: r))] m = if (okD (.lst (x :: r)) && alikeL (x :: r)) = true then .ok (.dat (minF x r)) m else .stuck := (rfl)
theorem jc_minD {X : Cx} {W : WX} (hc : X.calm = true) (hu : X.A.units + 66 < cLine) : JC X W (.builtin "min") minDV := ⟨fun {G S H ρ m σ xs xvs Q} M rx q pins s us I r => by
  unfold minDV at q
  split at q
  · rename_i x rr
    split at q
    · rename_i ok
      rw [Bool.and_eq_true] at ok
      have ok1 := ok.1
      cases rx with
      | cons r1 r2 =>
        cases r2
        have r1 : Rp (gd X) S _ (.lst (x :: rr)) := r1
        cases r1 with
        | lst h1 ra =>
          rename_i a vs
          have hq : SqL X.K H a vs := .inl (.inl (M.sub a _ h1))
          obtain ⟨its, rv, hl, _⟩ := I.list hq
          rw [Vals.ref1 r]
          simp only [okD, Bool.and_eq_true, decide_eq_true_eq] at ok1
          have pl : plains (x :: rr) = true := by simpa [plain] using ok1.1
          have dp : deps (x :: rr) + 1 ≤ 64 := by simpa [dep] using ok1.2
          obtain ⟨as, hr⟩ := Dp.readsAll I (toPys (x :: rr)) vs its (((ra.mono M.sub)).dp pl) rv
          have ha : PySem.W.AlikeAll (toPys (x :: rr)) := by
            have := ok.2
            unfold alikeL at this
            simp only [List.all_eq_true, Bool.and_eq_true, Bool.not_eq_true'] at this
            refine ⟨fun y hy z hz => (this y hy).1 z hz, fun y hy e => ?_⟩
            have := (this y hy).2
            rw [e] at this
            cases this
          have hd : PyData.depthAll (toPys (x :: rr)) ≤ 63 := by rw [toPys_dep]; omega
          have hr' : ReadsAll s.heap its.toArray.toList (toPy x :: toPys rr) as := by simpa [toPys] using hr
          have ha' : PySem.W.AlikeAll (toPy x :: toPys rr) := by simpa [toPys] using ha
          have hd' : PyData.depthAll (toPy x :: toPys rr) ≤ 63 := by simpa [toPys] using hd
          refine PySem.W.min_list_data (I.ok.hd hc) hl.isList hr' ha' (by omega) fun i v h' tk bs hv hb hk => ?_
          have hv' : its[i]? = some v := by simpa using hv
          obtain ⟨w, hw, rw_⟩ := paired_back rv hv'
          obtain ⟨d, hd1, rd⟩ := ra.get' hw
          have I2 := I.kept (t' := tk) hk
          obtain ⟨as2, hr2⟩ := Dp.reads I2 (toPy d) w v ((rd.mono M.sub).dp (plains_mem pl (List.mem_of_getElem? hd1))) rw_
          have e1 := (Reads.unique hr2 _ _ hb).1
          rw [← minF_py] at e1
          have e2 := toPy_inj d (minF x rr) (plains_mem pl (List.mem_of_getElem? hd1)) (plains_mem pl (minF_mem rr x)) e1
          subst e2
          exact ⟨w, H, I2, rw_, q S H ρ w (Ext.refl _ _) M rd⟩
    · exact q.elim
  · exact q.elim⟩
/-! ### how they reckon -/
@[simp] theorem itemsK_ap (ns : List Int) (m : Mem) : itemsK (.dat (.ks ns)) m = .ok (ns.map D.int) m := (rfl)
@[simp] theorem dItK_ap (fa : En → P SV) (env : En) (m : Mem) : dItK fa env m = (fa env m).bnd itemsK := (rfl)
@[simp] theorem inKV_ks (k : Int) (ns : List Int) (m : Mem) : inKV (.dat (.int k)) (.dat (.ks ns)) m = .ok (.dat (.bl (decide (k ∈ ns)))) m := (rfl)
@[simp] theorem inKV_ref (d : D) (n : Nat) (m : Mem) : inKV (.dat d) (.ref n) m = inC (keyD d) m[n]? m := (rfl)
@[simp] theorem inC_ap (k : Key) (kvs : List (Key × D)) (m : Mem) : inC (some k) (some (.dct kvs)) m = .ok (.dat (.bl (dGetI kvs k).isSome)) m := (rfl)
@[simp] theorem itemV_ap (n : Nat) (i : D) (m : Mem) : itemV (.ref n) (.dat i) m = itemC (keyD i) m[n]? m := (rfl)
theorem itemC_ap {k : Key} {kvs : List (Key × D)} {d : D} (h : dGetI kvs k = some d) (m : Mem) : itemC (some k) (some (.dct kvs)) m = .ok (.dat d) m := by simp [itemC, h]
@[simp] theorem dictKV_ap (ds : List D) (m : Mem) : dictKV [.dat (.lst ds)] m = (match asKT ds with | some ks => .ok (.dat (.ks (mrgI [] ks))) m | none => .stuck) := (rfl)
@[simp] theorem dFrz_ap (i : Nat) (env : En) (m : Mem) : dFrz i env m = frzV i env env[i]? m := (rfl)
@[simp] theorem frzV_ap (i n : Nat) (env : En) (m : Mem) : frzV i env (some (some (.ref n))) m = frzC i n env m[n]? m := (rfl)
@[simp] theorem frzC_ap (i n : Nat) (env : En) (xs : List D) (m : Mem) : frzC i n env (some (.lst xs)) m = .ok (.nx (env.set i (some (.dat (.lst xs))))) (m.set n .dead) := (rfl)
theorem RoomG.units3 {k : Nat} {A : Around} (r : RoomG k A) : A.units + 3 + 64 < cLine := by have := r.rm.un; omega
theorem RoomG.units66 {k : Nat} {A : Around} (r : RoomG k A) : A.units + 66 < cLine := by have := r.rm.un; omega
end PL

/-! PL22: a lambda with one parameter, handed on as the last argument. -/
namespace PL
open PySem PySem.Spec PyProof.Rows L2
/-- one parameter b; else captured names and globals -/
structure Lam1 (N : List Str) (sc scope : Scope) (b : Str) : Prop where
  kind : scope.kind = .function
  co : scope.isCoroutine = false
  gen : scope.isGenerator = false
  nocell : ∀ y ∈ scope.names, y.2 ≠ .cell
  own : ∀ y ∈ scope.names, y.2 = .local → y.1 = b
  par : scope.names.lookup b = some .local
  free : ∀ y ∈ scope.names, y.2 = .free → sc.names.lookup y.1 = some .cell ∨ sc.names.lookup y.1 = some .free
  new : b ∉ N
def lam1B (N : List Str) (sc scope : Scope) (b : Str) : Bool :=
  decide (scope.kind = .function) && (!scope.isCoroutine && (!scope.isGenerator && ((scope.names.all fun y => !decide (y.2 = .cell) && ((!decide (y.2 = .local) || decide (y.1 = b)) && (!decide (y.2 = .free) || (decide (sc.names.lookup y.1 = some .cell) || decide (sc.names.lookup y.1 = some .free))))) && (decide (scope.names.lookup b = some .local) && !decide (b ∈ N)))))
theorem lam1_by {N : List Str} {sc scope : Scope} {b : Str} (h : lam1B N sc scope b = true) : Lam1 N sc scope b := by
  unfold lam1B at h
  simp only [Bool.and_eq_true, Bool.or_eq_true, Bool.not_eq_true', decide_eq_true_eq, decide_eq_false_iff_not, List.all_eq_true] at h
  obtain ⟨h1, h2, h3, h4, h5, h6⟩ := h
  refine ⟨h1, h2, h3, fun y hy => (h4 y hy).1, fun y hy e => ?_, h5, fun y hy e => ?_, h6⟩
  · rcases (h4 y hy).2.1 with z | z
    · exact absurd e z
    · exact z
  · rcases (h4 y hy).2.2 with z | z
    · exact absurd e z
    · exact z
theorem Lam1.has {X : Cx} {N : List Str} {scope : Scope} {b : Str} (L : Lam1 N X.env.scope scope b) (ok : X.Ok) : ∀ y ∈ scope.names, y.2 = .free → ∃ c, X.env.cells.lookup y.1 = some c := fun y hy e => by
  rcases L.free y hy e with k | k
  · exact ok.has _ (.inl k)
  · exact ok.has _ (.inr k)
/-- the lambda's body: the maker's slots, and behind them the parameter -/
def lamCx1 (X : Cx) (A : Around) (outer : List Env) (s : Shared) (H : Hp) (E : XK) (scope : Scope) (b : Str) (f c' : Addr) : Cx :=
  { LamX.lamCx X A outer s H E scope f c' with N := X.N ++ [b] }
section
variable {X : Cx} {pins : List (Addr × Obj)} {σ : St} {H HZ : Hp} {s s1 : Shared}
theorem lam1_start {A : Around} {outer : List Env} {E : XK} {scope : Scope} {b : Str} {f c' : Addr} {h₁ : Heap} {tk : Nat} {v : V} {u : Value} (I : Inv X pins σ H s) (L : Lam1 X.N X.env.scope scope b) (e0 : Env0 X.prog X.w X.K X.mg X.base A outer s1 HZ) (hd : A.handled = none)
    (un : Un (L2.frs X.stack) [] H HZ s.heap s1.heap) (rv : RelV v u) (hns : h₁.Ns s1.heap.objs.size fun y => ([(b, u)] : List (Str × Value)).reverse.lookup y) (kp : ∀ b o, s1.heap.get? b = some o → h₁.get? b = some o) :
    Inv (lamCx1 X A outer s1 HZ E scope b f c') [] (σ ++ [some v]) HZ { s1 with heap := h₁, toks := tk } := by
  have hfree := L.has I.ok
  have cm : ∀ {y c}, (cloFrom X.env.cells scope.names []).lookup y = some c → X.env.cells.lookup y = some c := fun {y c} e => by
    rcases cloFrom_mem (PySem.mem_of_lookup e) with hm | ⟨h1, h2⟩
    · cases hm
    · obtain ⟨c1, hc⟩ := hfree _ h1 rfl
      have hc : X.env.cells.lookup y = some c1 := hc
      have e2 : c = c1 := by
        rw [h2, hc] <;> rfl
      rw [e2]
      exact hc
  have look : ∀ {y}, scope.names.lookup y = some .free → ∃ c, (cloFrom X.env.cells scope.names []).lookup y = some c := fun {y} hl => by
    have hy : (y, NameKind.free) ∈ scope.names := PySem.mem_of_lookup hl
    exact mem_lookup (cloFrom_has (cells := X.env.cells) (acc := []) hy)
  have cellK : ∀ {c : Addr} {v : Option Value}, H c = none → s.heap.IsCell c v → h₁.IsCell c v := fun {c v} n ⟨o, ho, hd⟩ => by
    obtain ⟨sl, q⟩ := un.any ho n (by simp)
    exact ⟨_, kp _ _ q, hd⟩
  have noA : ∀ a : Addr, a ∉ (lamCx1 X A outer s1 HZ E scope b f c').ex := fun a z => absurd (show a ∈ ([] : List Addr) from z) (by simp)
  refine ⟨⟨e0.mod, L.kind, rfl, rfl, Nat.le_refl _, fun y z c e1 e2 => I.ok.inj y z c (cm e1) (cm e2), fun y hy => ?_, fun y c z _ => ?_, fun _ => hd, Around.frames_deeper e0.frames, .inr ⟨rfl, rfl⟩, fun b z => absurd z (noA b), e0.bs, e0.bsz, fun b _ _ => noA b,
      fun b z => absurd z (noA b), e0.funs, e0.frf⟩,
    rfl, e0.bare, Un.kept kp, ⟨_, hns, fun i y w e1 e2 e3 => ?_⟩, fun y c e => ?_, e0.hok.fresh (Nat.le_refl _), fun y c e => ?_, fun q hq => absurd (show q ∈ ([] : List (Addr × Obj)) ++ [] from hq) (by simp), e0.hok.kept kp, ?_⟩
  · have hy : scope.names.lookup y = some .cell ∨ scope.names.lookup y = some .free := hy
    rcases hy with hy | hy
    · exact absurd rfl (L.nocell _ (PySem.mem_of_lookup hy))
    · exact look hy
  · have z : false = true := z
    cases z
  · have e3 : Vis scope y := e3
    have e1 : (X.N ++ [b])[i]? = some y := e1
    have hlen := I.len
    by_cases hi : i < X.N.length
    · rw [List.getElem?_append_left hi] at e1
      rw [List.getElem?_append_left (by omega)] at e2
      rcases e3 with k | k | k
      · exact absurd (L.own _ (PySem.mem_of_lookup k) rfl ▸ List.mem_of_getElem? e1) L.new
      · exact absurd rfl (L.nocell _ (PySem.mem_of_lookup k))
      · obtain ⟨m, hn, hl⟩ := I.loc
        have hvis : Vis X.env.scope y := (L.free _ (PySem.mem_of_lookup k) rfl).elim (fun k => .inr (.inl k)) (fun k => .inr (.inr k))
        obtain ⟨w', r, q⟩ := hl i y w e1 e2 hvis
        obtain ⟨c2, h2⟩ := look k
        refine ⟨w', r, .inr ⟨.inr k, c2, h2, ?_⟩⟩
        have c1 := cm h2
        rcases q with ⟨k', _⟩ | ⟨_, c3, e', z⟩
        · have k' : X.env.scope.names.lookup y = some .local := k'
          rcases L.free _ (PySem.mem_of_lookup k) rfl with k2 | k2 <;> rw [show X.env.scope.names.lookup y = _ from k2] at k' <;> cases k'
        · rw [c1] at e'
          cases e'
          exact cellK (I.freeC y _ c1) z
    · rw [List.getElem?_append_right (by omega)] at e1 e2
      have hi' : i - X.N.length = 0 := by
        have := (List.getElem?_eq_some_iff.mp e1).1
        simp at this
        omega
      rw [hi'] at e1
      rw [show i - σ.length = 0 by omega] at e2
      cases e1
      cases e2
      refine ⟨u, rv, .inl ⟨L.par, ?_⟩⟩
      simp [List.lookup]
  · obtain ⟨w', z⟩ := I.cell y c (cm e)
    exact ⟨w', cellK (I.freeC y c (cm e)) z⟩
  · obtain ⟨v, o, ho, hd⟩ := I.cell y c (cm e)
    exact un.free c o ho (I.freeC y c (cm e)) (by simp)
  · show (σ ++ [some v]).length = (X.N ++ [b]).length
    rw [List.length_append, List.length_append, I.len]
    rfl
/-- a(e), in the def that got the lambda: Z is that def's context, entered at s -/
theorem pe_act1 {CXg : CXT} {Eg : XK} {Ng : List Str} {qg : Str} {sg : Scope} {g f c' : Addr} {cdg pm ctv : Value} {params : Arguments} {body : Expr} {scope : Scope} {k i : Nat} {a b : Str} {pn : List (Addr × Obj)} {xe : Value → Shared → Prop} {W : WX} {E : XK} {tb : TE} {te : TA} {p1 p2 : Pos} {e : Expr}
    (I : Inv X pins σ H s) (L : Lam1 X.N X.env.scope scope b) (hf : s.heap.get? f = some (PySem.W.kla_obj "<lambda>" (X.env.qual ++ "<lambda>") params body scope (cloFrom X.env.cells scope.names []) pm c' ctv)) (hfn : H f = none) (hfr : f ∉ L2.frs X.stack)
    (hbind : ∀ u, bindArgs (PySem.W.kla_fn "<lambda>" (X.env.qual ++ "<lambda>") params body scope (cloFrom X.env.cells scope.names []) pm (.ref c') ctv) ⟨[u], []⟩ = pure [(b, u)])
    (tk : Takes ((cxOf CXg X.prog X.w X.K X.mg X.base Ng qg sg g cdg X.A X.stack s H Eg).tr pn xe) W) (hW : ∀ cls d σ' H', E cls d H' → W cls d σ' H') (hr : Room (k + 1) (X.A.deeper (envOfC qg sg s.heap.objs.size g cdg)))
    (hbody : ∀ (A : Around) (outer : List Env) (s : Shared) (H : Hp), Room k (A.deeper (LamX.lamEnv X scope s.heap.objs.size f c')) → PE (lamCx1 X A outer s H E scope b f c') body tb)
    (hN : Ng[i]? = some a) (hv : Vis sg a) (pa : PA ((cxOf CXg X.prog X.w X.K X.mg X.base Ng qg sg g cdg X.A X.stack s H Eg).tr pn xe) [e] te)
    (he : starEach [e] ((cxOf CXg X.prog X.w X.K X.mg X.base Ng qg sg g cdg X.A X.stack s H Eg).tr pn xe).env = (false, eval e ((cxOf CXg X.prog X.w X.K X.mg X.base Ng qg sg g cdg X.A X.stack s H Eg).tr pn xe).env) :: starEach [] ((cxOf CXg X.prog X.w X.K X.mg X.base Ng qg sg g cdg X.A X.stack s H Eg).tr pn xe).env)
    (hd : (a == ("__debug__" : Str)) = false := by decide) (hcd : (a == ("__classdict__" : Str)) = false := by decide) :
    PE ((cxOf CXg X.prog X.w X.K X.mg X.base Ng qg sg g cdg X.A X.stack s H Eg).tr pn xe) (.Call (.Name a p1) [e] [] p2)
      (fun σZ HZ Q => σZ[i]? = some (some (.ref f)) ∧ te σZ HZ fun vs H1 => ∃ v, vs = [v] ∧ H1 c' = some (LamX.CodeO c' (X.env.qual ++ "<lambda>")) ∧ tb (σ ++ [some v]) H1 Q) := by
  refine ⟨fun pinsZ sZ σZ HZ0 Q IZ h => ?_⟩
  obtain ⟨hs, ht⟩ := h
  refine wpAny_Call_Name_kw (thn ((pe_var (pos := p1) (i := i) hN hv hd hcd).run pinsZ sZ σZ HZ0 (fun v H1 => v = .ref f ∧ H1 = HZ0) IZ ⟨.ref f, hs, rfl, rfl⟩) fun u s1 ⟨v, H1, I1, r1, q1⟩ => ?_)
  obtain ⟨ev, eH⟩ := q1
  subst ev
  rw [eH] at I1
  obtain rfl : u = Value.ref f := r1
  have of1 : s1.heap.get? f = some (PySem.W.kla_obj "<lambda>" (X.env.qual ++ "<lambda>") params body scope (cloFrom X.env.cells scope.names []) pm c' ctv) := I1.base.keep f _ hf hfn hfr (fun z => nomatch (show f ∈ ([] : List Addr) from z))
  refine PySem.W.callWith_F (first := []) ⟨_, _, _, _, of1⟩ (thn (pa.run p2 pinsZ s1 σZ HZ0 _ I1 ht) fun us s2 ⟨vs0, HZ, I2, rvs, v, hv1, hc, ht2⟩ => ?_) he rfl
  subst hv1
  obtain ⟨u, rfl, rv⟩ : ∃ u, us = [u] ∧ RelV v u := by
    cases rvs with
    | cons r t => cases t; exact ⟨_, rfl, r⟩
  have of2 : s2.heap.get? f = some (PySem.W.kla_obj "<lambda>" (X.env.qual ++ "<lambda>") params body scope (cloFrom X.env.cells scope.names []) pm c' ctv) := I2.base.keep f _ hf hfn hfr (fun z => nomatch (show f ∈ ([] : List Addr) from z))
  refine ⟨⟨_, _, _, _, of2⟩, ?_⟩
  have un : Un (L2.frs X.stack) [] H HZ s.heap s2.heap := I2.base
  obtain ⟨⟨oc, vs, t, hoc, hdc, hvc⟩, _, _⟩ := I2.hok c' _ hc
  have rc : codeAny (model X.prog X.w) (X.A.deeper (envOfC qg sg s.heap.objs.size g cdg)) (.call (.ref f) ⟨[u], []⟩) (CR (L2.CX X.prog X.w) (envOfC qg sg s.heap.objs.size g cdg :: X.stack) X.prog X.w HZ s2 Q E) s2 := by
    refine PySem.W.kla_callFunE hr.depth of2 rfl L.co L.gen rfl ⟨c', oc, vs, t, rfl, hoc, hdc, hvc⟩ ?_
    rw [hbind]
    refine wpAny_pure (wpAny_newFunctionEnv L.nocell (fun y hy => by rw [List.mem_singleton.mp hy]; exact L.par) (fun h₁ hns hsb => ⟨I2.nolimit.fresh _ hsb, ?_⟩) L.kind)
    show codeAny _ _ (.expr body (LamX.lamEnv X scope s2.heap.objs.size f c')) _ _
    have kp : ∀ b o, s2.heap.get? b = some o → h₁.get? b = some o := fun b o e => hsb.extBut b o (Nat.ne_of_lt (Heap.lt_size e)) (Heap.get?_push_of_some _ e)
    have J : Inv (lamCx1 X (X.A.deeper (envOfC qg sg s.heap.objs.size g cdg)) (envOfC qg sg s.heap.objs.size g cdg :: X.stack) s2 HZ E scope b f c') [] (σ ++ [some v]) HZ { s2 with heap := h₁, toks := s2.toks + ([(b, u)] : List (Str × Value)).length } :=
      lam1_start I L I2.env0 hr.hd un rv hns kp
    refine PySem.W.kla_codeExpr (wpAny_mono ((hbody _ _ s2 HZ (hr.deeper _)).run [] _ _ HZ Q J ht2) (fun v s' hq => ?_) fun e s' hq => hq)
    obtain ⟨w', H', J', rv, q⟩ := hq
    exact ⟨w', H', J'.os, J'.bare, J'.base, J'.hok, rv, q⟩
  have hx : Passes (L2.CX X.prog X.w) ((cxOf CXg X.prog X.w X.K X.mg X.base Ng qg sg g cdg X.A X.stack s H Eg).tr pn xe) E := passes_call tk hW
  refine wpAny_call (codeAny_mono rc fun r s' hq => ?_)
  cases r with
  | error e => exact hx pinsZ σZ HZ s2 e s' I2 hq
  | ok fl =>
    cases fl with
    | ret u => exact I2.after hq
    | next => exact False.elim hq
    | brk => exact False.elim hq
    | cont => exact False.elim hq
end
/-! ### handed on as the third argument -/
abbrev Zg (X : Cx) (Ng : List Str) (x : Str) (sg : Scope) (g : Addr) (cdg : Value) (s : Shared) (H : Hp) : Cx := cxOf C8.CX0 X.prog X.w X.K X.mg X.base Ng x sg g cdg X.A X.stack s H C8.E0
abbrev noW : WX := fun _ _ _ _ => False
def Gives3 (X : Cx) (Ng : List Str) (x : Str) (sg : Scope) (g : Addr) (cdg : Value) (bg : List Stmt) (a : Str) (q : Str) (TT : Addr → V → V → (V → Hp → VK → Prop) → Hp → VK → Prop) : Prop :=
  ∀ (f c' : Addr) (s : Shared) (H : Hp) (Q : VK) (v1 v2 : V) (tl : V → Hp → VK → Prop),
    (∀ (p1 p2 : Pos) (e : Expr) (ta : TA), PA (Zg X Ng x sg g cdg s H).nox [e] ta → starEach [e] (Zg X Ng x sg g cdg s H).nox.env = (false, eval e (Zg X Ng x sg g cdg s H).nox.env) :: starEach [] (Zg X Ng x sg g cdg s H).nox.env →
      PE (Zg X Ng x sg g cdg s H).nox (.Call (.Name a p1) [e] [] p2) (fun σZ HZ Q => σZ[2]? = some (some (.ref f)) ∧ ta σZ HZ fun vs H1 => ∃ v, vs = [v] ∧ H1 c' = some (LamX.CodeO c' q) ∧ tl v H1 Q)) →
    H c' = some (LamX.CodeO c' q) → TT f v1 v2 tl H Q →
    ∃ t, PSs (Zg X Ng x sg g cdg s H).nox bg t ∧ t { nx := fun _ H' => Q .non H', rt := Q } (L2.start Ng [v1, v2, .ref f]) H
section
variable {X : Cx}
def tLam3 (T : List (Addr × Str)) (TT : Addr → V → V → (V → Hp → VK → Prop) → Hp → VK → Prop) (t1 t2 : TE) (t : TE) : TE := fun σ H Q => t1 σ H fun v1 H1 => t2 σ H1 fun v2 H2 => LamX.Tabs T H2 ∧ ∀ f H3, LamX.ExtN H2 H3 → LamX.Tabs T H3 → TT f v1 v2 (fun v H' Q' => t (σ ++ [some v]) H' Q') H3 Q
/-- x(e1, e2, lambda b: body) -/
theorem pe_lamcall3 {T : List (Addr × Str)} {TT : Addr → V → V → (V → Hp → VK → Prop) → Hp → VK → Prop} {x a b a1 a2 : Str} {g c P : Addr} {k : Nat} {pg : Arguments} {bg : List Stmt} {sg : Scope} {dV kV doc pm cdv ct oc : Value} {an od : Option Addr} {osl : Array (Option Value)} {Ng : List Str}
    {params : Arguments} {body : Expr} {scope : Scope} {t t1 t2 : TE} {e1 e2 : Expr} {p lpos pos : Pos} (hg : Gl X x) (hm : X.mg x = some (.ref g)) (hk : PySem.W.keepIn X.K (.ref g) = true)
    (lk : X.K.lookup g = some ⟨oc, od, .func (PySem.W.fnOf x x pg bg sg dV kV doc pm an cdv ct), osl⟩) (hcg : PySem.W.codeIn X.K cdv x = true) (hb : L2.Binds X.K (PySem.W.fnOf x x pg bg sg dV kV doc pm an cdv ct) [a1, a2, a] []) (Sg : FnScope Ng [a1, a2, a] sg) (hNg : Ng[2]? = some a) (hva : Vis sg a)
    (hG : Gives3 X Ng x sg g cdv bg a (X.env.qual ++ "<lambda>") TT)
    (TB : LamX.TabB X.base X.mg c P) (hcode : X.env.code = .ref c) (hmT : (P, X.env.qual ++ "<lambda>") ∈ T) (hu : ∀ p ∈ T, p.1 = P → p.2 = X.env.qual ++ "<lambda>") (hr : Room (k + 2) X.A) (L : Lam1 X.N X.env.scope scope b) (hdef : defaultsOf params X.env = ([], []))
    (hbind : ∀ (q : Str) (cl : List (Str × Addr)) (pm cv ctv u : Value), bindArgs (PySem.W.kla_fn "<lambda>" q params body scope cl pm cv ctv) ⟨[u], []⟩ = pure [(b, u)])
    (pe1 : PE X e1 t1) (pe2 : PE X e2 t2)
    (hbody : ∀ (A : Around) (outer : List Env) (s : Shared) (H : Hp) (f c' : Addr), Room k (A.deeper (LamX.lamEnv X scope s.heap.objs.size f c')) → PE (lamCx1 X A outer s H (fun _ _ _ => False) scope b f c') body t)
    (hs1 : starEach [e1, e2, .Lambda params body scope lpos] X.env = (false, eval e1 X.env) :: starEach [e2, .Lambda params body scope lpos] X.env := by rfl)
    (hs2 : starEach [e2, .Lambda params body scope lpos] X.env = (false, eval e2 X.env) :: (false, eval (.Lambda params body scope lpos) X.env) :: starEach [] X.env := by rfl)
    (hdb : (x == ("__debug__" : Str)) = false := by decide) (hd : (a == ("__debug__" : Str)) = false := by decide) (hcd : (a == ("__classdict__" : Str)) = false := by decide) :
    PE X (.Call (.Name x p) [e1, e2, .Lambda params body scope lpos] [] pos) (tLam3 T TT t1 t2 t) := by
  refine ⟨fun pins s σ H Q I h => ?_⟩
  refine wpAny_Call_Name_kw (ld_glob I hg hm ?_ hdb)
  refine PySem.W.callWith_K (h₀ := X.base) I.ok.mod.kin hk ?_ hs1 (by rw [hs2]; rfl)
  rw [hs1, hs2]
  show wpAny _ _ (spliced ((false, eval e1 X.env) :: (false, eval e2 X.env) :: (false, eval (.Lambda params body scope lpos) X.env) :: backTo pos (starEach [] X.env))) _ _ s
  refine Calls.spliced_cons (thn (pe1.run pins s σ H _ I h) fun u1 s1 ⟨v1, H1, I1, rv1, h1⟩ => ?_)
  refine Calls.spliced_cons (thn (pe2.run pins s1 σ H1 _ I1 h1) fun u2 s2 ⟨v2, H2, I2, rv2, hT, h2⟩ => ?_)
  refine Calls.spliced_cons (LamX.lam_make2 I2 TB hcode hmT hu hT hdef (L.has I2.ok) fun f c' pm' ctv H3 s' I3 eN T3 hf hfn hfr hco => ?_)
  refine Calls.spliced_nil ⟨I3.kIn, ?_⟩
  have rc : codeAny (model X.prog X.w) X.A (.call (.ref g) ⟨[u1, u2, .ref f], []⟩) (CR C8.CX0 X.stack X.prog X.w H3 s' Q C8.E0) s' := by
    refine LamX.run_ofS (N := Ng) (ps := [a1, a2, a]) (us := [u1, u2, .ref f]) (vs := [v1, v2, .ref f]) lk hcg Sg hr I3.env0 (hb s' [u1, u2, .ref f] I3.kIn rfl) (.cons rv1 (.cons rv2 (.cons rfl .nil))) rfl fun hr' => ?_
    obtain ⟨t', ht', hq'⟩ := hG f c' s' H3 Q v1 v2 (fun v H' Q' => t (σ ++ [some v]) H' Q') (fun p1 p2 e ta pa he => pe_act1 (i := 2) (E := fun _ _ _ => False) (W := noW) (pn := []) (xe := fun _ _ => False) I3 L hf hfn hfr (hbind _ _ _ _ _) LamX.takes0 (fun _ _ _ _ z => z) hr' (fun A outer s H hr2 => hbody A outer s H f c' hr2) hNg hva pa he hd hcd) hco (h2 f H3 eN T3)
    exact ⟨t', ht'.nox, hq'⟩
  refine wpAny_call (codeAny_mono rc fun r s2 hq => ?_)
  cases r with
  | error e => exact (show False from hq).elim
  | ok fl =>
    cases fl with
    | ret u => exact I3.after hq
    | next => exact False.elim hq
    | brk => exact False.elim hq
    | cont => exact False.elim hq
end
/-! ### the least number at which a test holds: while low < high: middle = (low + high) // 2; low, high = (low, middle) if test(middle) else (middle + 1, high) -/
def mid (lo hi : Int) : Int := (lo + hi).fdiv 2
def LW (Γ : Gd) (tl : V → Hp → VK → Prop) (Q : VK) (G : Hp) : Nat → Int → Int → Hp → List Addr → Mem → Prop
  | 0, _, _, _, _, _ => False
  | n + 1, lo, hi, S, ρ, m => ∀ S' H' ρ', Ext S ρ S' ρ' → MR Γ G S' H' ρ' m → if lo < hi then ∀ K : VK, (∀ (b : Bool) S'' H'' ρ'' m'', Ext S' ρ' S'' ρ'' → MR Γ G S'' H'' ρ'' m'' → LW Γ tl Q G n (if b = true then lo else mid lo hi + 1) (if b = true then mid lo hi else hi) S'' ρ'' m'' → K (.bl b) H'') → tl (.int (mid lo hi)) H' K
    else Q (.int lo) H'
theorem LW.ext {Γ : Gd} {tl : V → Hp → VK → Prop} {Q : VK} {G S S1 : Hp} {ρ ρ1 : List Addr} {n : Nat} {lo hi : Int} {m : Mem} (h : LW Γ tl Q G n lo hi S ρ m) (e : Ext S ρ S1 ρ1) : LW Γ tl Q G n lo hi S1 ρ1 m := by
  cases n with
  | zero => exact h
  | succ n => exact fun S' H' ρ' e' M' => h S' H' ρ' (e.trans e') M'
def TWhere (Γ : Gd) (n : Nat) : Addr → V → V → (V → Hp → VK → Prop) → Hp → VK → Prop := fun f v1 v2 tl H Q =>
  ∃ (G S : Hp) (ρ : List Addr) (m : Mem) (lo hi : Int) (i : Nat), v1 = .int lo ∧ v2 = .int hi ∧ MR Γ G S H ρ m ∧ ρ[i]? = some f ∧ LW Γ tl Q G n lo hi S ρ m
/-- no own dict is a code object -/
theorem heap_fields : ∀ n : Nat, ∃ h : Heap, h.objs.size = n ∧ ∀ b o, h.get? b = some o → ∃ vs, o.data = .fields vs
  | 0 => ⟨{}, rfl, fun b o e => by simp [Heap.get?] at e⟩
  | n + 1 => by
    obtain ⟨h, h1, h2⟩ := heap_fields n
    refine ⟨h.push { cls := .none, data := .fields #[] }, by rw [← h1]; simp [Heap.push], fun b o e => ?_⟩
    rcases Heap.get?_push_cases e with ⟨_, rfl⟩ | e
    · exact ⟨_, rfl⟩
    · exact h2 b o e
theorem dtW_ne {c b : Addr} {q : Str} {es : List DictEntry} : LamX.CodeO c q ≠ dtW b es := by
  intro e
  unfold LamX.CodeO dtW at e
  injection e with e
  obtain ⟨h, h1, h2⟩ := heap_fields c
  have hc : (h.push { cls := .none, data := .fields #[.none, .str q 0] }).get? c = some { cls := .none, data := .fields #[.none, .str q 0] } := by
    rw [← h1]
    exact Heap.get?_push_size _ rfl
  have h3 := congrFun e (h.push { cls := .none, data := .fields #[.none, .str q 0] })
  have h4 : ∃ (oc : Obj) (vs : Array Value) (t : Tok), (h.push { cls := .none, data := .fields #[.none, .str q 0] }).get? c = some oc ∧ oc.data = .fields vs ∧ vs[1]? = some (.str q t) := ⟨_, _, 0, hc, rfl, rfl⟩
  rw [h3] at h4
  obtain ⟨o, ep, g1, _, g3⟩ := h4
  rcases Heap.get?_push_cases g1 with ⟨_, rfl⟩ | g1
  · cases g3
  · obtain ⟨vs, e2⟩ := h2 b o g1
    rw [e2] at g3
    cases g3
theorem MixR.noCode {Γ : Gd} {G S H : Hp} {ρ : List Addr} {m : Mem} {c : Addr} {q : Str} {i : Nat} (t : MixR Γ G S H ρ m) (hc : H c = some (LamX.CodeO c q)) : ¬ MixA S ρ m i c := fun h => by
  rcases h with ⟨d, xs, a, v, h1, h2, h3⟩ | ⟨kss, ds, h1, h2⟩
  · obtain ⟨a', b', v', vs, g1, g2, _, g4, _⟩ := t.pair i d xs h1
    rw [h2] at g1
    cases g1
    rw [h3] at g2
    cases g2
    rw [hc] at g4
    unfold LamX.CodeO at g4
    cases g4
  · obtain ⟨a', es, vs, g1, g2, _⟩ := t.dtc i kss ds h1
    rw [h2] at g1
    cases g1
    rw [hc] at g2
    exact dtW_ne (Option.some.inj g2)
theorem MR.seen {Γ : Gd} {G S H : Hp} {ρ : List Addr} {m : Mem} {p : Addr} {o : HO} (M : MR Γ G S H ρ m) (hp : H p = some o) (hl : ∀ vs, o ≠ .lst vs) (ht : ∀ ps, o ≠ .tbl ps) (hk : ∀ vs, o ≠ .dK vs) (hx : ∀ i, ¬ MixA S ρ m i p) :
    ∃ S1, Same S S1 ∧ MR Γ G S1 H ρ m ∧ ∀ S' H' ρ' m', Same S1 S' → MR Γ G S' H' ρ' m' → H' p = some o := by
  cases hg : G p with
  | some o' =>
    have e : some o' = some o := (M.gsub p o' hg).symm.trans hp
    refine ⟨S, Same.refl S, M, fun S' H' ρ' m' _ M' => ?_⟩
    rw [M'.gsub p o' hg, e]
  | none =>
    cases hs : S p with
    | some o' =>
      have e : some o' = some o := (M.sub p o' hs).symm.trans hp
      refine ⟨S, Same.refl S, M, fun S' H' ρ' m' s1 M' => ?_⟩
      rw [M'.sub p o' (s1 p o' hs), e]
    | none =>
      have ss : Same S (upd S p o) := fun b x q => by rw [upd_ne (ne_of_none q hs)]; exact q
      refine ⟨upd S p o, ss, ⟨fun b x q => ?_, M.gsub, fun a x q => ?_, M.len, fun i xs q => ?_, M.inj, M.tab.s ht, ⟨fun i kvs q => ?_, M.dic.inj⟩, M.mix.same ss fun i b q => ⟨upd_free (M.mix.own q).1 fun z => hx i (by rw [← z]; exact q), (M.mix.own q).2.1, rfl⟩⟩, fun S' H' ρ' m' s1 M' => M'.sub p o (s1 p o upd_same)⟩
      · by_cases e : b = p
        · subst e
          rw [upd_same] at q
          rw [hp, q]
        · rw [upd_ne e] at q
          exact M.sub b x q
      · have := M.dis a x q
        by_cases e : a = p
        · subst e
          rw [hg] at q
          cases q
        · rw [upd_ne e]
          exact this
      · obtain ⟨a, vs, h1, h2, h3, h4, h5⟩ := M.cell i xs q
        refine ⟨a, vs, h1, h2, h3.mono ss, ?_, h5⟩
        rw [upd_ne (fun e => by subst e; rw [hp] at h2; exact hl vs (Option.some.inj h2))]
        exact h4
      · obtain ⟨a, vs, h1, h2, h3, h4, h5⟩ := M.dic.cell i kvs q
        refine ⟨a, vs, h1, h2, h3.mono ss, ?_, h5⟩
        rw [upd_ne (fun e => by subst e; rw [hp] at h2; exact hk vs (Option.some.inj h2))]
        exact h4
theorem two_big : (2 : Int).natAbs < big := big_of (by decide +kernel)
theorem where_gives {X : Cx} {Ng : List Str} {x a q : Str} {sg : Scope} {g : Addr} {cdg : Value} {n : Nat} {c em ea eb tg : Expr} {s1 sr : Stmt} {p1 p2 p3 p4 p5 : Pos} (hN : Ng.length = 4)
    (jc : ∀ s H, JT (Zg X Ng x sg g cdg s H).nox noW c (dB (d2 ltV (dVar 0) (dVar 1))))
    (j1 : ∀ s H, JS (Zg X Ng x sg g cdg s H).nox noW s1 (dSet 3 (d2 fdivV (d2 addV (dVar 0) (dVar 1)) (dC (.int 2)))))
    (jm : ∀ s H, JA (Zg X Ng x sg g cdg s H).nox noW [em] (dCons (dVar 3) dNil))
    (ja : ∀ s H, JE (Zg X Ng x sg g cdg s H).nox noW ea (dA mkTup (dCons (dVar 0) (dCons (dVar 3) dNil))))
    (jb : ∀ s H, JE (Zg X Ng x sg g cdg s H).nox noW eb (dA mkTup (dCons (d2 addV (dVar 3) (dC (.int 1))) (dCons (dVar 1) dNil))))
    (jg : ∀ s H, JG (Zg X Ng x sg g cdg s H).nox tg [0, 1] (gT 2 (gsC (gN 0) (gsC (gN 1) gsN))))
    (jr : ∀ s H, JS (Zg X Ng x sg g cdg s H).nox noW sr (dRet (dVar 0)))
    (hse : ∀ s H, starEach [em] (Zg X Ng x sg g cdg s H).nox.env = (false, eval em (Zg X Ng x sg g cdg s H).nox.env) :: starEach [] (Zg X Ng x sg g cdg s H).nox.env)
    (hs : ∀ s H, swapsWithSole [tg] (.IfExp (.Call (.Name a p1) [em] [] p2) ea eb p3) p4.line (Zg X Ng x sg g cdg s H).nox.env = pure false)
    (hw : ∀ s H, swappedStores [tg] (.IfExp (.Call (.Name a p1) [em] [] p2) ea eb p3) (Zg X Ng x sg g cdg s H).nox.env = pure none)
    (h1 : ∀ s H, (assignEach [tg] (Zg X Ng x sg g cdg s H).nox.env).map (·.2) = [assign tg (Zg X Ng x sg g cdg s H).nox.env]) :
    Gives3 X Ng x sg g cdg [.While c [s1, .Assign [tg] (.IfExp (.Call (.Name a p1) [em] [] p2) ea eb p3) p4] [] p5, sr] a q (TWhere (gd X) n) := by
  intro f c' s H Q v1 v2 tl act hc h
  obtain ⟨G, S, ρ, m, lo, hi, i0, rfl, rfl, M, hi0, hL⟩ := h
  obtain ⟨S1, ss, M1, keep⟩ := M.seen hc (fun vs z => by unfold LamX.CodeO at z; cases z) LamX.codeO_ne (fun vs z => by unfold LamX.CodeO at z; cases z) (fun i => M.mix.noCode hc)
  have act' := act p1 p2 em _ pa_wa (hse s H)
  have e01 : Ext S ρ S1 ρ := ⟨ss, fun _ _ z => z⟩
  refine ⟨_, pss_cons (ps_while PassesOwn.never pt_wt (pss_cons ps_ws (pss_one (ps_asg (pe_ifExp (pt_val act') pe_we pe_we) pg_wg (hs s H) (hw s H) (h1 s H))))) pss_wss, ?_⟩
  refine ⟨fun k σ' H' => ∃ (lo hi : Int) (S' : Hp) (ρ' : List Addr) (m' : Mem) (t3 : Option SV), Ext S1 ρ S' ρ' ∧ MR (gd X) G S' H' ρ' m' ∧ ER (gd X) S' ρ' [some (.dat (.int lo)), some (.dat (.int hi)), some (.ref i0), t3] σ' ∧ LW (gd X) tl Q G k lo hi S' ρ' m', ⟨n, lo, hi, S1, ρ, m, none, Ext.refl _ _, M1, ?_, hL.ext e01⟩, ?_⟩
  · refine ⟨by unfold L2.start; simp [hN], fun i v hv => ?_⟩
    match i, hv with
    | 0, hv => cases hv; exact ⟨.int lo, rfl, .int lo⟩
    | 1, hv => cases hv; exact ⟨.int hi, rfl, .int hi⟩
    | 2, hv => cases hv; exact ⟨.ref f, rfl, f, hi0, rfl⟩
    | 3, hv => cases hv
    | i + 4, hv => cases hv
  · rintro k σ' H' ⟨lo, hi, S', ρ', m', t3, x1, M', E', hL⟩
    cases k with
    | zero => exact hL.elim
    | succ k =>
      refine (jc s H).run M' E' ?_
      have hcv : dB (d2 ltV (dVar 0) (dVar 1)) [some (.dat (.int lo)), some (.dat (.int hi)), some (.ref i0), t3] m' = .ok (decide (lo < hi)) m' := by simp
      rw [hcv]
      intro S2 H2 ρ2 e2 M2
      have hL2 := hL S2 H2 ρ2 e2 M2
      by_cases hlt : lo < hi
      · rw [if_pos (by simpa using hlt)]
        rw [if_pos hlt] at hL2
        refine ⟨fun σ' H' => ∃ (lo hi : Int) (S' : Hp) (ρ' : List Addr) (m' : Mem) (t3 : Option SV), Ext S1 ρ S' ρ' ∧ MR (gd X) G S' H' ρ' m' ∧ ER (gd X) S' ρ' [some (.dat (.int lo)), some (.dat (.int hi)), some (.ref i0), t3] σ' ∧ LW (gd X) tl Q G k lo hi S' ρ' m', fun σ2 H2 hN => ⟨k, Nat.lt_succ_self k, hN⟩, ?_⟩
        refine (j1 s H).run M2 (E'.mono e2) ?_
        have h1v : dSet 3 (d2 fdivV (d2 addV (dVar 0) (dVar 1)) (dC (.int 2))) [some (.dat (.int lo)), some (.dat (.int hi)), some (.ref i0), t3] m' = .ok (.nx [some (.dat (.int lo)), some (.dat (.int hi)), some (.ref i0), some (.dat (.int (mid lo hi)))]) m' := by
          simp [mid, show 2 < big from two_big]
        rw [h1v]
        intro S3 H3 ρ3 σ3 e3 M3 E3
        have r3 : ρ3[i0]? = some f := e3.r _ _ (e2.r _ _ (x1.r _ _ hi0))
        refine ⟨?_, ?_⟩
        · obtain ⟨vv, q1, aa, q2, q3⟩ := E3.at_ 2 (.ref i0) rfl
          rw [r3] at q2
          cases q2
          rw [q1, q3]
        · refine (jm s H).run M3 E3 ?_
          have hmv : dCons (dVar 3) dNil [some (.dat (.int lo)), some (.dat (.int hi)), some (.ref i0), some (.dat (.int (mid lo hi)))] m' = .ok [.dat (.int (mid lo hi))] m' := by simp
          rw [hmv]
          intro S4 H4 ρ4 vv e4 M4 rp
          have e14 : Ext S1 ρ S4 ρ4 := ((x1.trans e2).trans e3).trans e4
          obtain ⟨v, rfl, rv⟩ : ∃ v, vv = [v] ∧ v = .int (mid lo hi) := by
            cases rp with
            | cons r t => cases t; cases r; exact ⟨_, rfl, rfl⟩
          subst rv
          refine ⟨_, rfl, keep S4 H4 ρ4 m' e14.s M4, ?_⟩
          have hL4 := hL S4 H4 ρ4 ((e2.trans e3).trans e4) M4
          rw [if_pos hlt] at hL4
          refine hL4 _ fun b S5 H5 ρ5 m5 e5 M5 hL5 => ⟨b, rfl, ?_⟩
          have E5 := E3.mono (e4.trans e5)
          cases b with
          | true =>
            show (if (true = true) then _ else _)
            rw [if_pos rfl]
            refine (ja s H).run M5 E5 ?_
            have hav : dA mkTup (dCons (dVar 0) (dCons (dVar 3) dNil)) [some (.dat (.int lo)), some (.dat (.int hi)), some (.ref i0), some (.dat (.int (mid lo hi)))] m5 = .ok (.dat (.tup [.int lo, .int (mid lo hi)])) m5 := by simp [mkTup, allDat]
            rw [hav]
            intro S6 H6 ρ6 vv e6 M6 r6
            refine (jg s H).run M6 (E5.mono e6) r6 (env' := [some (.dat (.int lo)), some (.dat (.int (mid lo hi))), some (.ref i0), some (.dat (.int (mid lo hi)))]) (by simp [gT, gsC, gN, gsN]) fun σ4 E4 _ => ?_
            exact ⟨lo, mid lo hi, S6, ρ6, m5, _, (e14.trans e5).trans e6, M6, E4, hL5.ext e6⟩
          | false =>
            show (if (false = true) then _ else _)
            rw [if_neg Bool.false_ne_true]
            refine (jb s H).run M5 E5 ?_
            have hbv : dA mkTup (dCons (d2 addV (dVar 3) (dC (.int 1))) (dCons (dVar 1) dNil)) [some (.dat (.int lo)), some (.dat (.int hi)), some (.ref i0), some (.dat (.int (mid lo hi)))] m5 = .ok (.dat (.tup [.int (mid lo hi + 1), .int hi])) m5 := by simp [mkTup, allDat]
            rw [hbv]
            intro S6 H6 ρ6 vv e6 M6 r6
            refine (jg s H).run M6 (E5.mono e6) r6 (env' := [some (.dat (.int (mid lo hi + 1))), some (.dat (.int hi)), some (.ref i0), some (.dat (.int (mid lo hi)))]) (by simp [gT, gsC, gN, gsN]) fun σ4 E4 _ => ?_
            exact ⟨mid lo hi + 1, hi, S6, ρ6, m5, _, (e14.trans e5).trans e6, M6, E4, hL5.ext e6⟩
      · rw [if_neg (by simpa using hlt)]
        refine wss_of (pss_one ps_ws) ((jr s H).run M2 (E'.mono e2) ?_)
        have hrv : dRet (dVar 0) [some (.dat (.int lo)), some (.dat (.int hi)), some (.ref i0), t3] m' = .ok (.rt (.dat (.int lo))) m' := by simp
        rw [hrv]
        intro S3 H3 ρ3 vv e3 M3 r3
        have hL3 := hL S3 H3 ρ3 (e2.trans e3) M3
        rw [if_neg hlt] at hL3
        cases r3
        exact hL3
/-- the search, as it reckons -/
def lwR (φ : Int → P SV) : Nat → Int → Int → P Int
  | 0, _, _ => fun _ => .stuck
  | n + 1, lo, hi => fun m => if lo < hi then (match φ (mid lo hi) m with
      | .ok (.dat (.bl b)) m' => lwR φ n (if b = true then lo else mid lo hi + 1) (if b = true then mid lo hi else hi) m'
      | _ => .stuck) else .ok lo m
def lwE (k : Nat) (r : R Int) : R SV := match r with
  | .ok i m => .ok (.dat (.int i)) (m.take k)
  | _ => .stuck
def whrV (n : Nat) (fb : En → P SV) (env : En) (v1 v2 : SV) : P SV := fun m => match v1, v2 with
  | .dat (.int lo), .dat (.int hi) => lwE m.length (lwR (fun i => fb (env ++ [some (.dat (.int i))])) n lo hi (m ++ [.dead]))
  | _, _ => .stuck
/-- x(e1, e2, lambda b: body), where x seeks the least number at which it holds -/
def dWhere (n : Nat) (f1 f2 fb : En → P SV) : En → P SV := fun env => (f1 env).bnd fun v1 => (f2 env).bnd fun v2 => whrV n fb env v1 v2
theorem ER.snoc {Γ : Gd} {S : Hp} {ρ : List Addr} {env : En} {σ : St} (h : ER Γ S ρ env σ) {v : SV} {vv : V} (r : RSV Γ S ρ vv v) : ER Γ S ρ (env ++ [some v]) (σ ++ [some vv]) := by
  refine ⟨by simp [h.len], fun i x q => ?_⟩
  by_cases hi : i < env.length
  · rw [List.getElem?_append_left hi] at q
    rw [List.getElem?_append_left (by rw [← h.len]; exact hi)]
    exact h.at_ i x q
  · rw [List.getElem?_append_right (by omega)] at q
    have : i - env.length = 0 := by
      have := (List.getElem?_eq_some_iff.mp q).1
      simp at this
      omega
    rw [this] at q
    cases q
    rw [List.getElem?_append_right (by rw [← h.len]; omega), ← h.len, this]
    exact ⟨vv, rfl, r⟩
theorem MR.dead {Γ : Gd} {G S H : Hp} {ρ : List Addr} {m : Mem} (M : MR Γ G S H ρ m) (f : Addr) : MR Γ G S H (ρ ++ [f]) (m ++ [.dead]) := by
  have back : ∀ {i : Nat} {c : Cell}, (m ++ [Cell.dead])[i]? = some c → c ≠ .dead → m[i]? = some c ∧ i < m.length := fun {i c} q n => by
    by_cases hi : i < m.length
    · rw [List.getElem?_append_left hi] at q
      exact ⟨q, hi⟩
    · rw [List.getElem?_append_right (by omega)] at q
      have : i - m.length = 0 := by
        have := (List.getElem?_eq_some_iff.mp q).1
        simp at this
        omega
      rw [this] at q
      cases q
      exact absurd rfl n
  have rl : ∀ {i : Nat}, i < m.length → (ρ ++ [f])[i]? = ρ[i]? := fun {i} hi => List.getElem?_append_left (by rw [M.len]; exact hi)
  refine ⟨M.sub, M.gsub, M.dis, by simp [M.len], fun i xs q => ?_, fun i j xs ys a q1 q2 r1 r2 => ?_, M.tab, ⟨fun i kvs q => ?_, fun i j xs ys a q1 q2 r1 r2 => ?_⟩, M.mix.push M.len (fun _ _ _ => rfl) rfl fun ⟨_, z⟩ => by cases z⟩
  · obtain ⟨q1, q2⟩ := back q (by intro z; cases z)
    rw [rl q2]
    exact M.cell i xs q1
  · obtain ⟨a1, a2⟩ := back q1 (by intro z; cases z)
    obtain ⟨b1, b2⟩ := back q2 (by intro z; cases z)
    rw [rl a2] at r1
    rw [rl b2] at r2
    exact M.inj i j xs ys a a1 b1 r1 r2
  · obtain ⟨q1, q2⟩ := back q (by intro z; cases z)
    rw [rl q2]
    exact M.dic.cell i kvs q1
  · obtain ⟨a1, a2⟩ := back q1 (by intro z; cases z)
    obtain ⟨b1, b2⟩ := back q2 (by intro z; cases z)
    rw [rl a2] at r1
    rw [rl b2] at r2
    exact M.dic.inj i j xs ys a a1 b1 r1 r2
theorem lw_run {Γ : Gd} {tl : V → Hp → VK → Prop} {Q : VK} {G : Hp} {φ : Int → P SV} {S0 : Hp} {ρ0 : List Addr}
    (htl : ∀ (i : Int) (S H : Hp) (ρ : List Addr) (m m' : Mem) (b : Bool) (K : VK), Ext S0 ρ0 S ρ → MR Γ G S H ρ m → φ i m = .ok (.dat (.bl b)) m' → (∀ S' H' ρ', Ext S ρ S' ρ' → MR Γ G S' H' ρ' m' → K (.bl b) H') → tl (.int i) H K) :
    ∀ (n : Nat) (lo hi : Int) (S : Hp) (ρ : List Addr) (m m' : Mem) (k : Int), Ext S0 ρ0 S ρ → lwR φ n lo hi m = .ok k m' → (∀ S' H' ρ', Ext S0 ρ0 S' ρ' → MR Γ G S' H' ρ' m' → Q (.int k) H') → LW Γ tl Q G n lo hi S ρ m
  | 0, lo, hi, S, ρ, m, m', k, _, h, _ => by cases h
  | n + 1, lo, hi, S, ρ, m, m', k, e0, h, hQ => by
    intro S1 H1 ρ1 e1 M1
    unfold lwR at h
    by_cases hlt : lo < hi
    · rw [if_pos hlt] at h ⊢
      intro K hK
      split at h
      · rename_i b m2 hb
        refine htl _ S1 H1 ρ1 m m2 b K (e0.trans e1) M1 hb fun S2 H2 ρ2 e2 M2 => hK b S2 H2 ρ2 m2 e2 M2 ?_
        exact lw_run htl n _ _ S2 ρ2 m2 m' k ((e0.trans e1).trans e2) h hQ
      · cases h
    · rw [if_neg hlt] at h ⊢
      cases h
      exact hQ S1 H1 ρ1 (e0.trans e1) M1
section
variable {X : Cx} {W : WX}
theorem je_where {x a a1 a2 b : Str} {k n : Nat} {st : Stmt} {Ng : List Str} {f0 : Addr} {fd : FuncData} {params : Arguments} {body e1 e2 : Expr} {scope : Scope} {f1 f2 fb : En → P SV} {p lpos pos : Pos} {cM PM : Addr}
    (hg : Gl X x) (hm : X.mg x = some (.ref f0)) (F : FunD X.K x x (defArgs st) (defBody st) (defScope st) [] [] f0 fd) (hb : Binds X.K fd [a1, a2, a] []) (Sg : FnScope Ng [a1, a2, a] (defScope st)) (hNg : Ng[2]? = some a) (hva : Vis (defScope st) a)
    (hG : ∀ cdg, Gives3 X Ng x (defScope st) f0 cdg (defBody st) a (X.env.qual ++ "<lambda>") (TWhere (gd X) n))
    (TB : LamX.TabB X.base X.mg cM PM) (hcode : X.env.code = .ref cM) (hmT : (PM, X.env.qual ++ "<lambda>") ∈ tabsK X.K) (hu : ∀ p ∈ tabsK X.K, p.1 = PM → p.2 = X.env.qual ++ "<lambda>")
    (hr : RoomG (k + 2) X.A) (hrp : reprs = false) (L : Lam1 X.N X.env.scope scope b) (hdef : defaultsOf params X.env = ([], []))
    (hbind : ∀ (q : Str) (cl : List (Str × Addr)) (pm cv ctv u : Value), bindArgs (PySem.W.kla_fn "<lambda>" q params body scope cl pm cv ctv) ⟨[u], []⟩ = pure [(b, u)])
    (je1 : JE X W e1 f1) (je2 : JE X W e2 f2)
    (jb : ∀ (A : Around) (outer : List Env) (s : Shared) (H : Hp) (f c' : Addr), RoomG k (A.deeper (LamX.lamEnv X scope s.heap.objs.size f c')) → JE (lamCx1 X A outer s H (fun _ _ _ => False) scope b f c') noW body fb)
    (hs1 : starEach [e1, e2, .Lambda params body scope lpos] X.env = (false, eval e1 X.env) :: starEach [e2, .Lambda params body scope lpos] X.env := by rfl)
    (hs2 : starEach [e2, .Lambda params body scope lpos] X.env = (false, eval e2 X.env) :: (false, eval (.Lambda params body scope lpos) X.env) :: starEach [] X.env := by rfl)
    (hdb : (x == ("__debug__" : Str)) = false := by decide) (hd : (a == ("__debug__" : Str)) = false := by decide) (hcd : (a == ("__classdict__" : Str)) = false := by decide) :
    JE X W (.Call (.Name x p) [e1, e2, .Lambda params body scope lpos] [] pos) (dWhere n f1 f2 fb) := ⟨fun {G S H ρ m env σ Q} M E h => by
  obtain ⟨oc, od, dV, kV, doc, pm, an, cdg, ct, osl, rfl, lk, hcdg, _, _⟩ := F.ex
  refine we_of (pe_lamcall3 (T := tabsK X.K) (TT := TWhere (gd X) n) (k := k) (c := cM) (P := PM) (t := fun σ H Q => ∀ (A : Around) (outer : List Env) (s : Shared) (H0 : Hp) (f c' : Addr), Room k (A.deeper (LamX.lamEnv X scope s.heap.objs.size f c')) → WE (lamCx1 X A outer s H0 (fun _ _ _ => False) scope b f c') body σ H Q)
    hg hm F.kp lk hcdg hb Sg hNg hva (hG _) TB hcode hmT hu hr.rm L hdef hbind pe_we pe_we
    (fun A outer s H f c' hrm => ⟨fun pins s' σ H' Q I ht => ht A outer s H f c' hrm pins s' I⟩) hs1 hs2 hdb hd hcd) ?_
  refine je1.run M E (wpr_monoQ (wpr_bnd h) fun v1 m1 hv => ?_)
  intro S1 H1 ρ1 vv1 x1 M1 r1
  refine je2.run M1 (E.mono x1) (wpr_mono (wpr_bnd hv) (fun v2 m2 hv2 => ?_) fun _ _ z => qx_ext x1 z)
  intro S2 H2 ρ2 vv2 x2 M2 r2
  unfold whrV at hv2
  split at hv2
  · rename_i lo hi
    have r1' := r1.mono x2
    cases r1'
    cases r2
    refine ⟨M2.tab.tb, fun f H3 eN T3 => ?_⟩
    unfold lwE at hv2
    split at hv2
    · rename_i kk m' hlw
      have hin : (ρ2 ++ [f])[m2.length]? = some f := by
        rw [List.getElem?_append_right (by rw [M2.len]; exact Nat.le_refl _), M2.len]
        simp
      have xf : Ext S2 ρ2 S2 (ρ2 ++ [f]) := ⟨Same.refl _, fun i a q => by rw [List.getElem?_append_left (List.getElem?_eq_some_iff.mp q).1]; exact q⟩
      refine ⟨G, S2, ρ2 ++ [f], m2 ++ [.dead], lo, hi, m2.length, rfl, rfl, (M2.extN eN T3).dead f, hin, ?_⟩
      refine lw_run (φ := fun i => fb (env ++ [some (.dat (.int i))])) (S0 := S2) (ρ0 := ρ2 ++ [f]) ?_ n lo hi S2 (ρ2 ++ [f]) (m2 ++ [.dead]) m' kk (Ext.refl _ _) hlw ?_
      · intro i S' H' ρ' ma mb bb K xa Ma hb' hK A outer s0 H0 f' c' hrm
        refine (jb A outer s0 H0 f' c' ⟨hrm, fun z => by rw [hrp] at z; cases z⟩).run Ma (ER.snoc (E.mono ((x1.trans x2).trans (xf.trans xa))) (v := .dat (.int i)) (vv := .int i) (.int i)) ?_
        rw [hb']
        intro S3 H3' ρ3 vv x3 M3 r3
        cases r3
        exact hK S3 H3' ρ3 x3 M3
      · intro S' H' ρ' xa Ma
        have xt : Ext S2 ρ2 S' (ρ'.take m2.length) := ⟨xa.s, fun i a q => by
          rw [List.getElem?_take_of_lt (by rw [← M2.len]; exact (List.getElem?_eq_some_iff.mp q).1)]
          exact (xf.trans xa).r i a q⟩
        exact hv2 S' H' (ρ'.take m2.length) (.int kk) (x1.trans x2 |>.trans xt |> fun z => by
          first
            | exact xt
            | exact z) (Ma.take m2.length) (.int kk)
    · exact hv2.elim
  · exact hv2.elim⟩
end
/-- one of several makers: its code object and its table -/
structure MkrT (K : PySem.W.Frag) (mg : Str → Option Value) (base : Heap) (x0 : Str) (cdv : Value) : Prop where
  ex : ∃ c P, PySem.W.tabIn K x0 = some (c, P) ∧ cdv = .ref c ∧ LamX.TabB base mg c P ∧ (P, lamN x0) ∈ tabsK K ∧ ∀ p ∈ tabsK K, p.1 = P → p.2 = lamN x0
section
variable {X : Cx} {W : WX}
theorem je_whereM {x a a1 a2 b x0 : Str} {k n : Nat} {st : Stmt} {Ng : List Str} {f0 : Addr} {fd : FuncData} {params : Arguments} {body e1 e2 : Expr} {scope : Scope} {f1 f2 fb : En → P SV} {p lpos pos : Pos}
    (hg : Gl X x) (hm : X.mg x = some (.ref f0)) (F : FunD X.K x x (defArgs st) (defBody st) (defScope st) [] [] f0 fd) (hb : Binds X.K fd [a1, a2, a] []) (Sg : FnScope Ng [a1, a2, a] (defScope st)) (hNg : Ng[2]? = some a) (hva : Vis (defScope st) a)
    (hG : ∀ cdg, Gives3 X Ng x (defScope st) f0 cdg (defBody st) a (X.env.qual ++ "<lambda>") (TWhere (gd X) n))
    (mk : MkrT X.K X.mg X.base x0 X.env.code) (hq : X.env.qual ++ "<lambda>" = lamN x0)
    (hr : RoomG (k + 2) X.A) (hrp : reprs = false) (L : Lam1 X.N X.env.scope scope b) (hdef : defaultsOf params X.env = ([], []))
    (hbind : ∀ (q : Str) (cl : List (Str × Addr)) (pm cv ctv u : Value), bindArgs (PySem.W.kla_fn "<lambda>" q params body scope cl pm cv ctv) ⟨[u], []⟩ = pure [(b, u)])
    (je1 : JE X W e1 f1) (je2 : JE X W e2 f2)
    (jb : ∀ (A : Around) (outer : List Env) (s : Shared) (H : Hp) (f c' : Addr), RoomG k (A.deeper (LamX.lamEnv X scope s.heap.objs.size f c')) → Takes (lamCx1 X A outer s H (fun _ _ _ => False) scope b f c') noW → JE (lamCx1 X A outer s H (fun _ _ _ => False) scope b f c') noW body fb)
    (hs1 : starEach [e1, e2, .Lambda params body scope lpos] X.env = (false, eval e1 X.env) :: starEach [e2, .Lambda params body scope lpos] X.env := by rfl)
    (hs2 : starEach [e2, .Lambda params body scope lpos] X.env = (false, eval e2 X.env) :: (false, eval (.Lambda params body scope lpos) X.env) :: starEach [] X.env := by rfl)
    (hdb : (x == ("__debug__" : Str)) = false := by decide) (hd : (a == ("__debug__" : Str)) = false := by decide) (hcd : (a == ("__classdict__" : Str)) = false := by decide) :
    JE X W (.Call (.Name x p) [e1, e2, .Lambda params body scope lpos] [] pos) (dWhere n f1 f2 fb) := by
  obtain ⟨c, P, ht, hcode, TB, m1, m2⟩ := mk.ex
  rw [← hq] at m1
  exact je_where hg hm F hb Sg hNg hva hG TB hcode m1 (fun p h1 h2 => by rw [hq]; exact m2 p h1 h2) hr hrp L hdef hbind je1 je2 (fun A outer s H f c' hr => jb A outer s H f c' hr LamX.takes0) hs1 hs2 hdb hd hcd
end
/-! ### two makers of lambdas -/
def tabB2 (K : PySem.W.Frag) (x0 x1 : Str) : Bool := match PySem.W.tabIn K x0, PySem.W.tabIn K x1 with
  | some a, some b => decide (a.2 ≠ b.2)
  | _, _ => false
theorem tabB2_ok {K : PySem.W.Frag} {x0 x1 : Str} {c0 P0 c1 P1 : Addr} (h : tabB2 K x0 x1 = true) (h0 : PySem.W.tabIn K x0 = some (c0, P0)) (h1 : PySem.W.tabIn K x1 = some (c1, P1)) : P0 ≠ P1 := by
  unfold tabB2 at h
  rw [h0, h1] at h
  simpa using h
theorem tabs2 {K : PySem.W.Frag} {x0 x1 : Str} {c0 P0 c1 P1 : Addr} (hl : lamDefs = [x0, x1]) (h0 : PySem.W.tabIn K x0 = some (c0, P0)) (h1 : PySem.W.tabIn K x1 = some (c1, P1)) : tabsK K = [(P0, lamN x0), (P1, lamN x1)] := by
  unfold tabsK
  rw [hl]
  simp [h0, h1]
theorem mkr0 {K : PySem.W.Frag} {mg : Str → Option Value} {base : Heap} {x0 x1 : Str} {c0 P0 c1 P1 : Addr} {cdv : Value} (hl : lamDefs = [x0, x1]) (h0 : PySem.W.tabIn K x0 = some (c0, P0)) (h1 : PySem.W.tabIn K x1 = some (c1, P1)) (hne : tabB2 K x0 x1 = true) (hc : cdv = .ref c0) (TB : LamX.TabB base mg c0 P0) : MkrT K mg base x0 cdv := by
  have n := tabB2_ok hne h0 h1
  refine ⟨c0, P0, h0, hc, TB, by rw [tabs2 hl h0 h1]; simp, fun p hp e => ?_⟩
  rw [tabs2 hl h0 h1] at hp
  simp at hp
  rcases hp with rfl | rfl
  · rfl
  · exact absurd e.symm n
theorem mkr1 {K : PySem.W.Frag} {mg : Str → Option Value} {base : Heap} {x0 x1 : Str} {c0 P0 c1 P1 : Addr} {cdv : Value} (hl : lamDefs = [x0, x1]) (h0 : PySem.W.tabIn K x0 = some (c0, P0)) (h1 : PySem.W.tabIn K x1 = some (c1, P1)) (hne : tabB2 K x0 x1 = true) (hc : cdv = .ref c1) (TB : LamX.TabB base mg c1 P1) : MkrT K mg base x1 cdv := by
  have n := tabB2_ok hne h0 h1
  refine ⟨c1, P1, h1, hc, TB, by rw [tabs2 hl h0 h1]; simp, fun p hp e => ?_⟩
  rw [tabs2 hl h0 h1] at hp
  simp at hp
  rcases hp with rfl | rfl
  · exact absurd e n
  · rfl
/-- the law itself, with two makers of lambdas -/
theorem walk_lawT2 {l : PySem.W.OpenLaw} {n k : Nat} {q : Program} {loose : List Str} {XP : (Str → Option Value) → Heap → Prop} {YP : World → Heap → Prop} {d d0 d1 : DefRec} {x x0 x1 : Str} {F : List SV → PL.P SV}
    (hlam : lamDefs = [x0, x1]) (hrp : reprs = false) (hfd : (PyProof.Rows.recsOf q).find? (fun e => e.name == x0) = some d0) (hfd1 : (PyProof.Rows.recsOf q).find? (fun e => e.name == x1) = some d1) (hn : l.most = some n) (hn2 : n ≤ sizeLine) (hdf : d.params.defaults = []) (hr : Room k callerA)
    (hF : ∀ (w : World) (mg : Str → Option Value) (h : Heap), YP w h → h.Ns mainGlobals mg → ∃ (K : PySem.W.Frag) (f : Addr) (fd : FuncData) (c P c1 P1 : Addr), K.In h ∧ mg d.name = some (.ref f) ∧ PySem.W.tabIn K x0 = some (c, P) ∧ K.lookup P = none ∧ PySem.W.tabIn K x1 = some (c1, P1) ∧ K.lookup P1 = none ∧ (∀ (s : Shared) (u : Value), BindsTo s fd ⟨[u], []⟩ [(x, u)]) ∧
      ∀ base : Heap, LamX.TabB base mg c P → LamX.TabB base mg c1 P1 → FnG l.prog w K mg base k f fd [x] (spF ⟨K, mg⟩ 1 F))
    (hl : ∀ ns : List Int, ns.length ≤ n → ∃ m', F [.dat (.scr ns)] [] = .ok (.dat (.bl true)) m') :
    PySem.W.WalkO q loose XP YP l.row.toRowW d [] (fun f vs => PySem.call f vs) := by
  refine Att.attach_call hn hdf fun w s₀ s₁ mg mb fa o pm cd doc a vs ns G Y ho hd hcd hmg hobj hints hlen hg => ?_
  obtain ⟨K, f, fd, c, P, c1, P1, KX, hm, htab, hPn, htab1, hPn1, hb, hok⟩ := hF w mg _ Y G.T.g
  rw [hmg] at hm
  cases hm
  have tb := PySem.W.tab_of G.T KX hfd htab
  have tb1 := PySem.W.tab_of G.T KX hfd1 htab1
  have all2 : ∀ {R : Addr × Addr → Prop}, R (c, P) → R (c1, P1) → ∀ p ∈ [(c, P), (c1, P1)], R p := fun {R} r0 r1 p hp => by
    simp at hp
    rcases hp with rfl | rfl
    · exact r0
    · exact r1
  refine LamX.law_callTs (cs := [(c, P), (c1, P1)]) (CX := L2.CX l.prog w) (sp := spF ⟨K, mg⟩ 1 F) KX G.T.g G.T.b G.T.builtins G.T.nolimit hg (all2 tb.2 tb1.2) (all2 hPn hPn1) (all2 tb.1 tb1.1) G.T.bmain hobj hints (Nat.le_trans hlen hn2) hr (fun base _ _ hT => ?_) hb (fun H hH hS => ?_) fun H e s' hx => ?_
  · have hF := hok base (hT (c, P) (by simp)) (hT (c1, P1) (by simp))
    exact ⟨hF.ln, fun A o s H args us vs Q E r => hF.go A o s H args us vs Q E ⟨r, fun z => by rw [hrp] at z; cases z⟩⟩
  · obtain ⟨m', e⟩ := hl ns hlen
    have hP := hH (c, P) (by simp)
    have hP1 := hH (c1, P1) (by simp)
    refine ⟨rfl, fun _ => none, noTab H, [], [], [.dat (.scr ns)], ⟨noTab_sub H, (fun b o e => by cases e), (fun b o e => by cases e), rfl, (fun i xs e => by simp at e), (fun i j xs ys a e => by simp at e), ⟨noTab_nt H, (fun b o e => by cases e), ?_⟩, ⟨(fun i kvs e => by simp at e), (fun i j xs ys a e => by simp at e)⟩, MixR.none⟩, .cons (.scr (noTab_seq hS)) .nil, ?_⟩
    · intro p hp
      rw [tabs2 hlam htab htab1] at hp
      simp at hp
      rcases hp with rfl | rfl
      · exact LamX.TabS.nil hP
      · exact LamX.TabS.nil hP1
    rw [e]
    intro S' H' ρ' vv _ _ r
    cases r
    rfl
  · obtain ⟨_, _, _, _, _, _, _, _, _, _, _, _, z⟩ := hx
    exact z
end PL

/-! PL23: sorted(d), d an own dict with int keys. -/
namespace PL
open PySem PySem.Spec PyProof.Rows L2
def keyI : List (Key × D) → Option (List Int)
  | [] => some []
  | (.inl k, _) :: r => (match keyI r with | some ks => some (k :: ks) | none => none)
  | (.inr _, _) :: _ => none
def rSortedD : List V → Hp → VK → Prop := fun vs H Q => ∃ (a : Addr) (kvs : List (Key × V)) (ns : List Int), vs = [V.ref a] ∧ H a = some (.dK kvs) ∧ kvs.map (·.1) = ns.map (Sum.inl : Int → Key) ∧
  ∀ (ns' : List Int) (p : Addr), ns'.Perm ns → ns'.Pairwise (· ≤ ·) → H p = none → Q (.ref p) (upd H p (.lst (ns'.map V.int)))
theorem ints_at : ∀ {vs : List Value} {ns : List Int}, vs.length = ns.length → (∀ (j : Nat) (v : Value), vs[j]? = some v → ∃ k t, ns[j]? = some k ∧ v = Value.int k t) → IntsAre vs ns
  | [], [], _, _ => .nil
  | [], _ :: _, h, _ => by simp at h
  | _ :: _, [], h, _ => by simp at h
  | v :: vs, k :: ns, h, q => by
    obtain ⟨k', t, e1, rfl⟩ := q 0 v rfl
    cases e1
    exact .cons k t (ints_at (by simpa using h) fun j u hu => q (j + 1) u hu)
section
variable {X : Cx} {W : WX}
theorem cr_sortedD (hc : X.calm = true) : CallR X (.builtin "sorted") rSortedD := by
  intro pins s σ H vs us Q I r h
  obtain ⟨a, kvs, ns, rfl, ha, hk, q⟩ := h
  rw [Vals.ref1 r]
  obtain ⟨hz, hsys, kvv, rel, hD⟩ := dk_of I.hok ha
  obtain ⟨ep, hat⟩ := hD.dictAt
  have hh : X.A.handled = none := I.ok.hd hc
  have l1 : kvs.length = kvv.length := Paired.length rel
  have l2 : kvs.length = ns.length := by have := congrArg List.length hk; simpa using this
  refine Calls.call_function_entry kind_sorted plain_sorted entry_sorted (args_sorted1 _) ?_
  unfold Builtin.«sorted»
  refine wpAny_bind (m := checkCount "sorted" 1 1 _) (wpAny_pure ?_)
  refine wpAny_bind (PySem.W.kdu_collect (A := X.A.in1) (PySem.W.kdl_dict (knd := mixKind X.prog X.w) (kvs := kvv) (ep := ep) hsys) hh hat (by rw [← l1]; exact hz) fun h' tk acc kp hacc => ?_)
  have hl : acc.toList.length = kvv.length := by rw [Array.length_toList]; exact hacc.1
  have hzz : acc.toList.length ≤ sizeLine := by rw [hl, ← l1]; exact hz
  refine wpAny_bind (wpAny_newList ?_ hzz)
  have hI : IntsAre acc.toList ns := ints_at (by omega) fun j v hv => by
    obtain ⟨k, x, e1, e2⟩ := hacc.2 j v (by rw [← Array.getElem?_toList]; exact hv)
    have e1' : kvs[j]?.map (·.1) = some k := by
      obtain ⟨p, e3, e4⟩ := paired_back rel e1
      rw [e3]
      simp [e4.1]
    have e5 : (ns.map (Sum.inl : Int → Key))[j]? = some k := by rw [← hk, List.getElem?_map]; exact e1'
    rw [List.getElem?_map] at e5
    obtain ⟨i, e6, rfl⟩ := Option.map_eq_some_iff.mp e5
    obtain ⟨t, e8⟩ := Value.isInt_shape (k := i) (v := v) e2
    exact ⟨i, t, e6, e8⟩
  have hoL : (h'.push (seqObj "list" acc.toList.toArray 0)).get? h'.objs.size = some (seqObj "list" acc.toList.toArray 0) := Heap.get?_push_size _ rfl
  refine wpAny_bind (wpAny_holding (wpAny_call_entry slot_list_sort ⟨_, hoL, rfl⟩ entry_list_sort (SrtO.list_sort_ord SrtO.swo_int hoL hzz (fun h2 => SrtO.ints_sortable hI h2) fun out h1 h2 => ⟨_, rfl, ?_⟩) (args_list_sort _)))
  obtain ⟨k1, k2, k3⟩ := SrtO.ints_out hI h1 h2
  obtain ⟨c, hc'⟩ := sortedHeap_at (vs := acc.toList) (out := out.toArray) hoL
  have hlen : ((out.map SrtO.iv).map V.int).length ≤ sizeLine := by
    rw [List.length_map, k2.length_eq, ← l2]
    exact hz
  have I' : Inv X pins σ H { s with heap := h', toks := tk } := I.kept (t' := tk) kp
  have old : ∀ b u, h'.get? b = some u → (sortedHeap (h'.push (seqObj "list" acc.toList.toArray 0)) h'.objs.size acc.toList out.toArray).get? b = some u := fun b u q => by
    have hlt := Heap.lt_size q
    rw [sortedHeap_old (Nat.ne_of_lt hlt) (by rw [size_push']; exact Nat.lt_succ_of_lt hlt)]
    exact Heap.get?_push_of_some _ q
  refine wpAny_pure ⟨_, rfl, ?_⟩
  exact ⟨.ref _, upd H h'.objs.size (.lst ((out.map SrtO.iv).map V.int)), I'.laid (t' := tk) old (Nat.le_refl _) ⟨hlen, out, c, vals_of_ints k1, hc'⟩, rfl, q _ _ k2 k3 (I'.hok.fresh (Nat.le_refl _))⟩
theorem keyI_ok {Γ : Gd} {S : Hp} {vs : List (Key × V)} {kvs : List (Key × D)} (r : KvR Γ S vs kvs) : ∀ {ns : List Int}, keyI kvs = some ns → vs.map (·.1) = ns.map (Sum.inl : Int → Key) := by
  induction r with
  | nil => intro ns h; cases h; rfl
  | @cons k v d vs kvs _ _ ih =>
    intro ns h
    cases k with
    | inr x => cases h
    | inl i =>
      unfold keyI at h
      split at h
      · rename_i ks hks
        cases h
        simp [ih hks]
      · cases h
def sortDC (c : Option Cell) : P SV := fun m => match c with
  | some (.dct kvs) => (match keyI kvs with | some ns => .ok (.dat (.lst ((sortI ns).map D.int))) m | none => .stuck)
  | _ => .stuck
/-- sorted(d) -/
def sortDV (xs : List SV) : P SV := fun m => match xs with
  | [.ref n] => sortDC m[n]? m
  | _ => .stuck
theorem jc_sortedD (hc : X.calm = true) : JC X W (.builtin "sorted") sortDV := ⟨fun {G S H ρ m σ xs xvs Q} M rx q => by
  unfold sortDV at q
  split at q
  · rename_i n
    unfold sortDC at q
    split at q
    · rename_i kvs hq
      split at q
      · rename_i ns hns
        obtain ⟨v, rfl, r⟩ := paired1 rx
        obtain ⟨a, ha, rfl⟩ := r
        obtain ⟨a', vs, g1, g2, g3, _⟩ := M.dic.cell n kvs hq
        rw [ha] at g1
        cases g1
        refine wc_of (cr_sortedD hc) ⟨a, vs, ns, rfl, g2, keyI_ok g3 hns, fun ns' p hp hu hn => ?_⟩
        rw [sortI_eq hp hu]
        obtain ⟨s1, M2⟩ := M.grow hn (.lst ((sortI ns).map V.int))
        exact q _ _ ρ _ ⟨s1, fun _ _ z => z⟩ M2 (.lst upd_same ((rpAll_ints _).mono s1))
      · exact q.elim
    · exact q.elim
  · exact q.elim⟩
end
@[simp] theorem sortDV_ap (n : Nat) (m : Mem) : sortDV [.ref n] m = sortDC m[n]? m := (rfl)
theorem sortDC_ap {kvs : List (Key × D)} {ns : List Int} (h : keyI kvs = some ns) (m : Mem) : sortDC (some (.dct kvs)) m = .ok (.dat (.lst ((sortI ns).map D.int))) m := by simp [sortDC, h]
/-! ### the search, how it reckons -/
def lwP (t : Int → Bool) : Nat → Int → Int → Option Int
  | 0, _, _ => none
  | n + 1, lo, hi => if lo < hi then (if t (mid lo hi) = true then lwP t n lo (mid lo hi) else lwP t n (mid lo hi + 1) hi) else some lo
theorem lwR_ok {φ : Int → P SV} {t : Int → Bool} {m : Mem} (h : ∀ i, φ i m = .ok (.dat (.bl (t i))) m) : ∀ (n : Nat) (lo hi k : Int), lwP t n lo hi = some k → lwR φ n lo hi m = .ok k m
  | 0, lo, hi, k, q => by cases q
  | n + 1, lo, hi, k, q => by
    unfold lwP at q
    unfold lwR
    by_cases hlt : lo < hi
    · rw [if_pos hlt] at q ⊢
      rw [h]
      cases ht : t (mid lo hi) with
      | true =>
        rw [ht, if_pos rfl] at q
        exact lwR_ok h n _ _ k q
      | false =>
        rw [ht, if_neg Bool.false_ne_true] at q
        exact lwR_ok h n _ _ k q
    · rw [if_neg hlt] at q ⊢
      cases q
      rfl
theorem where_ok {n : Nat} {f1 f2 fb : En → P SV} {env : En} {m : Mem} {lo hi k : Int} {t : Int → Bool} (h1 : f1 env m = .ok (.dat (.int lo)) m) (h2 : f2 env m = .ok (.dat (.int hi)) m) (hb : ∀ (i : Int) (m : Mem), fb (env ++ [some (.dat (.int i))]) m = .ok (.dat (.bl (t i))) m) (hk : lwP t n lo hi = some k) :
    dWhere n f1 f2 fb env m = .ok (.dat (.int k)) m := by
  unfold dWhere P.bnd
  rw [h1]
  show R.bnd (f2 env m) _ = _
  rw [h2]
  show lwE m.length (lwR _ n lo hi (m ++ [.dead])) = _
  rw [lwR_ok (t := t) (fun i => hb i _) n lo hi k hk]
  simp [lwE]
end PL

/-! PL24: dict([(tuple of ints, value), ..]) that stays as it is: in, not in, d[k], len, its keys one by one. -/
namespace PL
open PySem PySem.Spec PyProof.Rows L2
abbrev knd (P : Program) (w : World) : HeapKind P w (List L2.Key) := tupleKind (mixKind P w)
theorem hashI (P : Program) (w : World) (P' : Program) (w' : World) (k : List Int) : (knd P w).hash (k.map Sum.inl) = (knd P' w').hash (k.map Sum.inl) := by
  show tupleKeyHash (mixKind P w) (k.map Sum.inl) = tupleKeyHash (mixKind P' w') (k.map Sum.inl)
  unfold tupleKeyHash
  have : ∀ (P : Program) (w : World), (k.map Sum.inl).map (mixKind P w).hash = k.map hashInt := fun P w => by
    rw [List.map_map]
    rfl
  rw [this, this]
theorem inl_inj : ∀ {a b : List Int}, a.map (Sum.inl : Int → L2.Key) = b.map Sum.inl → a = b
  | [], [], _ => rfl
  | [], _ :: _, e => by simp at e
  | _ :: _, [], e => by simp at e
  | x :: xs, y :: ys, e => by
    rw [List.map_cons, List.map_cons] at e
    injection e with e1 e2
    injection e1 with e1
    rw [e1, inl_inj e2]
theorem kV_inl (k : List Int) : (k.map (Sum.inl : Int → L2.Key)).map kV = k.map V.int := by rw [List.map_map]; rfl
section
variable {X : Cx} {pins : List (Addr × Obj)} {σ : St} {H : Hp} {s : Shared}
theorem key_sq (I : Inv X pins σ H s) {b : Addr} {k : List Int} (q : SqT X.K H b (k.map V.int)) : (knd X.prog X.w).is s.heap (k.map Sum.inl) b := by
  obtain ⟨its, r, ⟨o, h1, h2, n, h3⟩, _⟩ := I.tuple q
  rw [← kV_inl] at r
  exact ⟨o, its.toArray, n, h1, h2, h3, by simpa using items_are r⟩
/-- what the entries tell -/
def RowR (x : List L2.Key × Addr × Value) (p : List Int × V) : Prop := x.1 = p.1.map Sum.inl ∧ RelV p.2 x.2.2
theorem ent_rows (I : Inv X pins σ H s) : ∀ {es : List DictEntry} {kss : List (List Int)} {vs : List V}, EntR X.K H es kss vs → ∃ xs : List (List L2.Key × Addr × Value), es = xs.map (entryOfKey (knd X.prog X.w)) ∧ (∀ x ∈ xs, (knd X.prog X.w).is s.heap x.1 x.2.1) ∧ xs.map (·.1) = kss.map (·.map Sum.inl) ∧ Paired RowR xs (kss.zip vs)
  | _, _, _, .nil => ⟨[], rfl, (fun x hx => by cases hx), rfl, .nil⟩
  | _, _, _, .cons (e := e) (b := b) (k := k) h1 h2 h3 h4 r => by
    obtain ⟨xs, e1, e2, e3, e4⟩ := ent_rows I r
    refine ⟨(k.map Sum.inl, b, e.val) :: xs, ?_, fun x hx => ?_, by rw [List.map_cons, List.map_cons, e3], .cons ⟨rfl, h4⟩ e4⟩
    · rw [List.map_cons, ← e1]
      congr 1
      obtain ⟨eh, ek, ev⟩ := e
      simp only at h2
      subst h2
      have := h1 X.prog X.w
      simp only at this
      subst this
      rfl
    · rcases List.mem_cons.mp hx with rfl | hx
      · exact key_sq I h3
      · exact e2 x hx
theorem nodup_inl : ∀ {kss : List (List Int)}, kss.Nodup → (kss.map (·.map (Sum.inl : Int → L2.Key))).Nodup
  | [], _ => List.nodup_nil
  | k :: kss, h => by
    rw [List.nodup_cons] at h
    rw [List.map_cons, List.nodup_cons]
    refine ⟨fun z => ?_, nodup_inl h.2⟩
    obtain ⟨k', h1, h2⟩ := List.mem_map.mp z
    exact h.1 (inl_inj h2 ▸ h1)
theorem ent_dict (I : Inv X pins σ H s) {o : Obj} {es : Array DictEntry} {ep : Nat} {a : Addr} {kss : List (List Int)} {vs : List V} (ho : s.heap.get? a = some o) (hx : o.ExactDict) (hd : o.data = .dict es ep) (nd : kss.Nodup) (q : EntR X.K H es.toList kss vs) :
    ∃ xs, s.heap.DictOfH (knd X.prog X.w) a xs ∧ Paired RowR xs (kss.zip vs) := by
  obtain ⟨xs, e1, e2, e3, e4⟩ := ent_rows I q
  exact ⟨xs, ⟨o, es, ep, ho, hx, hd, e1, e2, by rw [e3]; exact nodup_inl nd⟩, e4⟩
end
theorem EntR.lens {K : PySem.W.Frag} {S : Hp} {es : List DictEntry} {kss : List (List Int)} {vs : List V} (h : EntR K S es kss vs) : es.length = kss.length ∧ vs.length = kss.length := by
  induction h with
  | nil => exact ⟨rfl, rfl⟩
  | cons _ _ _ _ _ ih => simp [ih.1, ih.2]
/-! ### looking up -/
def getT : List (List Int) → List D → List Int → Option D
  | k' :: kss, d :: ds, k => if k' = k then some d else getT kss ds k
  | _, _, _ => none
theorem getT_isSome : ∀ {kss : List (List Int)} {ds : List D} {k : List Int}, kss.length = ds.length → (getT kss ds k).isSome = decide (k ∈ kss)
  | [], [], _, _ => by simp [getT]
  | k' :: kss, d :: ds, k, h => by
    unfold getT
    by_cases e : k' = k
    · simp [e]
    · rw [if_neg e, getT_isSome (by simpa using h)]
      have e' : ¬ k = k' := fun z => e z.symm
      simp [e']
  | [], _ :: _, _, h => by simp at h
  | _ :: _, [], _, h => by simp at h
theorem rows_get {Γ : Gd} {S : Hp} {k : List Int} : ∀ {xs : List (List L2.Key × Addr × Value)} {kss : List (List Int)} {vs : List V} {ds : List D}, Paired RowR xs (kss.zip vs) → kss.length = vs.length → RpAll Γ S vs ds →
    (∃ p v d, atKey xs (k.map Sum.inl) = some p ∧ getT kss ds k = some d ∧ RelV v p.2 ∧ Rp Γ S v d) ∨ (atKey xs (k.map Sum.inl) = none ∧ getT kss ds k = none)
  | [], kss, vs, ds, h, hl, r => by
    right
    cases kss with
    | nil => exact ⟨rfl, by simp [getT]⟩
    | cons _ _ =>
      cases vs with
      | nil => simp at hl
      | cons _ _ => cases h
  | x :: xs, [], vs, ds, h, _, _ => by cases h
  | x :: xs, k' :: kss, [], ds, h, hl, _ => by simp at hl
  | x :: xs, k' :: kss, v :: vs, ds, h, hl, r => by
    cases r with
    | cons r1 rs =>
      rename_i d ds
      have h : Paired RowR (x :: xs) ((k', v) :: kss.zip vs) := h
      cases h with
      | cons h1 ht =>
        by_cases e : k' = k
        · left
          subst e
          refine ⟨x.2, v, d, ?_, by simp [getT], h1.2, r1⟩
          simp [atKey, List.find?_cons, h1.1]
        · have e1 : ¬ x.1 = k.map Sum.inl := fun z => e (inl_inj (h1.1.symm.trans z))
          have e2 : atKey (x :: xs) (k.map Sum.inl) = atKey xs (k.map Sum.inl) := by simp [atKey, List.find?_cons, e1]
          have e3 : getT (k' :: kss) (d :: ds) k = getT kss ds k := by simp [getT, e]
          rw [e2, e3]
          exact rows_get ht (by simpa using hl) rs
/-! ### in, not in -/
def keyT : SV → Option (List Int)
  | .dat (.tup ts) => asIs ts
  | _ => none
theorem keyT_ok {Γ : Gd} {S : Hp} {ρ : List Addr} {v : V} {x : SV} {k : List Int} (r : RSV Γ S ρ v x) (h : keyT x = some k) : ∃ b, v = .ref b ∧ SqT Γ.K S b (k.map V.int) := by
  unfold keyT at h
  split at h
  · rename_i ts
    have r : Rp Γ S v (.tup ts) := r
    cases r with
    | tup h1 rr =>
      have := rpAll_is rr h
      subst this
      exact ⟨_, rfl, h1⟩
  · cases h
def inTV (x y : SV) : P SV := fun m => match y with
  | .dat (.dt kss ds) => (match keyT x with | some k => .ok (.dat (.bl (decide (k ∈ kss)))) m | none => .stuck)
  | _ => .stuck
def notInTV (x y : SV) : P SV := fun m => match y with
  | .dat (.dt kss ds) => (match keyT x with | some k => .ok (.dat (.bl (!decide (k ∈ kss)))) m | none => .stuck)
  | _ => .stuck
def itemTV (x y : SV) : P SV := fun m => match x with
  | .dat (.dt kss ds) => (match keyT y with | some k => (match getT kss ds k with | some d => .ok (.dat d) m | none => .stuck) | none => .stuck)
  | _ => .stuck
def lenTV (xs : List SV) : P SV := fun m => match xs with
  | [.dat (.dt kss ds)] => .ok (.dat (.int kss.length)) m
  | _ => .stuck
section
variable {X : Cx} {W : WX} {pos p : Pos} {tg a o i : Expr} {fa fb : En → P SV}
theorem jo_inT (hu : X.A.units + 1 < cLine) : JO X W (compareOp .In) inTV := ⟨fun {G S H ρ m σ x y xv yv Q} M rx ry q pins s v u I r1 r2 => by
  unfold inTV at q
  split at q
  · rename_i kss ds
    split at q
    · rename_i k hk
      obtain ⟨b, rfl, kb⟩ := keyT_ok rx hk
      have ry : Rp (gd X) S yv (.dt kss ds) := ry
      cases ry with
      | dt h1 h2 h3 h4 h5 h6 h7 h8 =>
        rename_i a ob es ep vs
        obtain rfl : v = Value.ref b := r1
        obtain rfl : u = Value.ref a := r2
        have ho := (I.hok a _ (M.sub a _ h1)).1
        obtain ⟨xs, dd, pr⟩ := ent_dict I ho h2 h3 h6 (h7.mono M.sub)
        refine wpAny_in_heap (tupleKind_room_in1 hu) (key_sq I (Same.seqT M.sub kb)) h4 dd ?_
        have hl := h7.lens.2
        have e : (atKey xs (k.map Sum.inl)).isSome = decide (k ∈ kss) := by
          rw [← getT_isSome (ds := ds) (by rw [← hl]; exact h8.length)]
          rcases rows_get (k := k) pr hl.symm h8 with ⟨_, _, _, e1, e2, _⟩ | ⟨e1, e2⟩ <;> rw [e1, e2] <;> rfl
        rw [e]
        exact ⟨.bl _, H, I.tok _, rfl, q S H ρ _ (Ext.refl _ _) M (.bl _)⟩
    · exact q.elim
  · exact q.elim⟩
theorem jo_notInT (hu : X.A.units + 1 < cLine) : JO X W (compareOp .NotIn) notInTV := ⟨fun {G S H ρ m σ x y xv yv Q} M rx ry q pins s v u I r1 r2 => by
  unfold notInTV at q
  split at q
  · rename_i kss ds
    split at q
    · rename_i k hk
      obtain ⟨b, rfl, kb⟩ := keyT_ok rx hk
      have ry : Rp (gd X) S yv (.dt kss ds) := ry
      cases ry with
      | dt h1 h2 h3 h4 h5 h6 h7 h8 =>
        rename_i a ob es ep vs
        obtain rfl : v = Value.ref b := r1
        obtain rfl : u = Value.ref a := r2
        have ho := (I.hok a _ (M.sub a _ h1)).1
        obtain ⟨xs, dd, pr⟩ := ent_dict I ho h2 h3 h6 (h7.mono M.sub)
        refine wpAny_notIn_heap (tupleKind_room_in1 hu) (key_sq I (Same.seqT M.sub kb)) h4 dd ?_
        have hl := h7.lens.2
        have e : (atKey xs (k.map Sum.inl)).isSome = decide (k ∈ kss) := by
          rw [← getT_isSome (ds := ds) (by rw [← hl]; exact h8.length)]
          rcases rows_get (k := k) pr hl.symm h8 with ⟨_, _, _, e1, e2, _⟩ | ⟨e1, e2⟩ <;> rw [e1, e2] <;> rfl
        rw [e]
        exact ⟨.bl _, H, I.tok _, rfl, q S H ρ _ (Ext.refl _ _) M (.bl _)⟩
    · exact q.elim
  · exact q.elim⟩
/-! ### d[k] -/
theorem je_dixT (hu : X.A.units + 1 < cLine) (ja : JE X W o fa) (jb : JE X W i fb) (hs : NoSl i := by exact fun _ _ => rfl) : JE X W (.Subscript o i pos) (d2 itemTV fa fb) := ⟨fun {G S H ρ m env σ Q} M E h pins s I => by
  refine subD_of PySem.F.slot_dict_getitem.lookup hs (thn (ja.run (Q := fun x H1 => WE X i σ H1 fun y H2 => ∀ s2, Inv X pins σ H2 s2 → ∀ u iv, RelV x u → RelV y iv → s2.TypeIs u "dict" ∧ wpAny (model X.prog X.w) X.A (getItem u iv) (EP X pins σ Q) X.xe s2) M E (wpr_monoQ (wpr_bnd h) fun d m1 hd => ?_) pins s I) fun u s1 ⟨x, H1, I1, rx, q1⟩ => thn (q1 pins s1 I1) fun iv s2 ⟨y, H2, I2, ry, q2⟩ => q2 s2 I2 u iv rx ry)
  intro S1 H1 ρ1 dv e1 M1 rd
  refine jb.run M1 (E.mono e1) (wpr_mono (wpr_bnd hd) (fun k m2 hk => ?_) fun _ _ z => qx_ext e1 z)
  intro S2 H2 ρ2 kv e2 M2 rk s2 I2 u iv ru riv
  unfold itemTV at hk
  split at hk
  · rename_i kss ds
    split at hk
    · rename_i kk hkk
      split at hk
      · rename_i dx hdx
        obtain ⟨b, rfl, kb⟩ := keyT_ok rk hkk
        have rd : Rp (gd X) S2 dv (.dt kss ds) := Rp.mono e2.s rd
        cases rd with
        | dt h1 h2 h3 h4 h5 h6 h7 h8 =>
          rename_i a ob es ep vs
          obtain rfl : iv = Value.ref b := riv
          obtain rfl : u = Value.ref a := ru
          have ho := (I2.hok a _ (M2.sub a _ h1)).1
          obtain ⟨xs, dd, pr⟩ := ent_dict I2 ho h2 h3 h6 (h7.mono M2.sub)
          refine ⟨dd.typeIs, ?_⟩
          rcases rows_get (k := kk) pr h7.lens.2.symm h8 with ⟨p, v, d, g1, g2, g3, g4⟩ | ⟨_, g2⟩
          · rw [hdx] at g2
            cases g2
            exact wpAny_getItem_heap (tupleKind_room_in1 hu) (key_sq I2 (Same.seqT M2.sub kb)) dd g1 ⟨v, H2, I2.tok _, g3, hk S2 H2 ρ2 v (e1.trans e2) M2 g4⟩
          · rw [hdx] at g2
            cases g2
      · exact hk.elim
    · exact hk.elim
  · exact hk.elim⟩
/-! ### len(d) -/
theorem jc_lenT : JC X W (.builtin "len") lenTV := ⟨fun {G S H ρ m σ xs xvs Q} M rx q pins s us I r => by
  unfold lenTV at q
  split at q
  · rename_i kss ds
    cases rx with
    | cons r1 r2 =>
      cases r2
      have r1 : Rp (gd X) S _ (.dt kss ds) := r1
      cases r1 with
      | dt h1 h2 h3 h4 h5 h6 h7 h8 =>
        rename_i a ob es ep vs
        rw [Vals.ref1 r]
        have ho := (I.hok a _ (M.sub a _ h1)).1
        obtain ⟨xs, dd, pr⟩ := ent_dict I ho h2 h3 h6 (h7.mono M.sub)
        have hl : xs.length = kss.length := by
          have := Paired.length pr
          rw [List.length_zip, h7.lens.2, Nat.min_self] at this
          exact this
        have h5' : kss.length ≤ 16777216 := by
          have := h7.lens.1
          rw [sizeLine_eq] at h5
          rw [← this]
          simpa using h5
        refine call_len_dictH h4 dd (by rw [hl]; omega) ?_
        rw [hl]
        exact ⟨.int kss.length, H, I.tok _, ⟨_, rfl⟩, q S H ρ _ (Ext.refl _ _) M (.int _)⟩
  · exact q.elim⟩
/-! ### the keys, one by one -/
abbrev Known : HO := .ext fun _ => True
def ItT (d : Addr) (o : Obj) (es : Array DictEntry) : It :=
  ⟨fun i H => H d = some (.frz o Known) ∧ i < es.size, fun i H x H' => H' = H ∧ ∃ (en : DictEntry) (q : Addr), es[i]? = some en ∧ en.key = .ref q ∧ x = .ref q, fun i H => H d = some (.frz o Known) ∧ es.size ≤ i⟩
theorem turn_T {P : Program} {w : World} {K : PySem.W.Frag} {tg : Expr} {d : Addr} {o : Obj} {es : Array DictEntry} {ep : Nat} (it : Addr) (hod : o.data = .dict es ep) (href : ∀ (i : Nat) (en : DictEntry), es[i]? = some en → ∃ q, en.key = Value.ref q) : Turn P w K tg (ItT d o es) [it] it (fun i h => h.IsKeyIter it d i es.size ep) where
  mem := by simp
  obj := fun i h st b hb => by
    have e : b = it := by simpa using hb
    subst e
    obtain ⟨oi, e, c, dd⟩ := st
    exact ⟨oi, e, fun v z => by rw [dd] at z; cases z⟩
  keep := fun i h h' st k => st.at fun oi e => k it (by simp) oi e
  item := by
    intro X hP hw hK hc i pins s σ H E I hf st hg
    subst hP hw hK
    obtain ⟨hd, hi⟩ := hg
    obtain ⟨f0, f1, f2, f3, f4, f5⟩ := hf it (by simp)
    have hgd := (I.hok d _ hd).1
    have hen : es[i]? = some es[i] := Array.getElem?_eq_getElem hi
    obtain ⟨q, hkey⟩ := href i _ hen
    refine next_key_item st hgd hod rfl hen fun h' st' sb => ?_
    have I1 : Inv X pins σ H { s with heap := h' } := I.turned (t' := s.toks) (fun b ob hb e => (sb.2 b hb).trans e) f0 f1 f3 f4 f5
    obtain ⟨oi, e, c, dd⟩ := id st'
    exact ⟨es[i].key, rfl, go_of (s := { s with heap := h' }) e c dd (by decide) ⟨.ref q, H, I1, hkey, ⟨rfl, _, q, hen, hkey, rfl⟩, st', fun b hb => (hf b hb).1⟩⟩
  done := by
    intro X hP hw hK hc i pins s σ H E I hf st hg
    subst hP hw hK
    obtain ⟨hd, hi⟩ := hg
    obtain ⟨f0, f1, f2, f3, f4, f5⟩ := hf it (by simp)
    have hgd := (I.hok d _ hd).1
    exact next_key_end (I.ok.hd hc) st hgd hod rfl hi fun h' eb => ⟨rfl, I.turned (t' := s.toks) (fun b ob hb e => eb b ob hb e) f0 f1 f3 f4 f5⟩
  self := fun A i s Q E st h => by
    refine wpAny_pyIter_slot st.typeIs F.slot_dict_keyiterator_iter (wpAny_call_entry F.slot_dict_keyiterator_iter st.typeIs F.entry_dict_keyiterator_iter ?_ (F.args_dict_keyiterator_iter_1 _))
    show wpAny _ _ (ret (.ref it)) _ _ s
    exact wpAny_pure ⟨_, rfl, "dict_keyiterator", _, st.typeIs, F.slot_dict_keyiterator_next.lookup, h⟩
theorem EntR.get {K : PySem.W.Frag} {S : Hp} : ∀ {es : List DictEntry} {kss : List (List Int)} {vs : List V} {i : Nat} {en : DictEntry}, EntR K S es kss vs → es[i]? = some en → ∃ q k, en.key = .ref q ∧ kss[i]? = some k ∧ SqT K S q (k.map V.int)
  | _, _, _, _, _, .nil, h => by simp at h
  | _, _, _, 0, _, .cons h1 h2 h3 h4 r, h => by simp at h; subst h; exact ⟨_, _, h2, rfl, h3⟩
  | _, _, _, i + 1, en, .cons h1 h2 h3 h4 r, h => by
    obtain ⟨q, k, g1, g2, g3⟩ := EntR.get (i := i) (en := en) r (by simpa using h)
    exact ⟨q, k, g1, by simpa using g2, g3⟩
def itemsT (v : SV) : P (List D) := fun m => match v with
  | .dat (.dt kss _) => .ok (kss.map fun k => D.tup (k.map D.int)) m
  | _ => .stuck
def dItT (fa : En → P SV) : En → P (List D) := fun env => (fa env).bnd itemsT
theorem itS_T {Γ : Gd} {S0 : Hp} {a : Addr} {o : Obj} {es : Array DictEntry} {kss : List (List Int)} {vs : List V} (h : S0 a = some (.frz o Known)) (r : EntR Γ.K S0 es.toList kss vs) : ItS Γ S0 (ItT a o es) (kss.map fun k => D.tup (k.map D.int)) := fun i {G S H ρ m} s M => by
  have q : H a = some (.frz o Known) := M.sub a _ (s a _ h)
  have hl : es.size = kss.length := by have := r.lens.1; simpa using this
  refine ⟨fun hi => ⟨q, by simp at hi; omega⟩, fun d hd => ?_⟩
  have hlt := (List.getElem?_eq_some_iff.mp hd).1
  refine ⟨⟨q, by simp at hlt; omega⟩, fun x H' hy => ?_⟩
  obtain ⟨rfl, en, qq, hen, hk, rfl⟩ := hy
  obtain ⟨q2, k, g1, g2, g3⟩ := r.get (i := i) (en := en) (by rw [Array.getElem?_toList]; exact hen)
  rw [hk] at g1
  cases g1
  rw [List.getElem?_map, g2] at hd
  cases hd
  exact ⟨S, Ext.refl _ _, M, .tup (Same.seqT s g3) (rpAll_int _ _ _)⟩
theorem ji_T (ja : JE X W a fa) : JI X W tg a (dItT fa) := ⟨fun {G S H ρ m env σ Rr} M E h pins s I => by
  refine thn (ja.run (Q := fun x H1 => ∃ d o es ep kss vs, x = .ref d ∧ H1 d = some (.frz o Known) ∧ o.ExactDict ∧ o.data = .dict es ep ∧ (d == sysModules) = false ∧ EntR X.K H1 es.toList kss vs ∧ Rr (ItT d o es) H1) M E (wpr_monoQ (wpr_bnd h) fun v m1 hv => ?_) pins s I) fun u s1 ⟨x, H1, I1, rx, d, o, es, ep, kss, vs, ex, h1, h2, h3, h4, h5, q⟩ => ?_
  · intro S1 H1 ρ1 xv e1 M1 rx
    unfold itemsT at hv
    split at hv
    · rename_i kss ds
      have rx : Rp (gd X) S1 xv (.dt kss ds) := rx
      cases rx with
      | dt h1 h2 h3 h4 h5 h6 h7 h8 =>
        rename_i a o es ep vs
        exact ⟨a, o, es, ep, kss, vs, rfl, M1.sub a _ h1, h2, h3, h4, h7.mono M1.sub, hv S1 H1 ρ1 _ e1 M1 (itS_T h1 h7)⟩
    · exact hv.elim
  · subst ex
    obtain rfl : u = Value.ref d := rx
    have hgd := (I1.hok d _ h1).1
    exact iter_keys h4 hgd h2 h3 (pi_one (tk := s1.toks) I1 _ (turn_T _ h3 fun i en he => by
      obtain ⟨q, _, g1, _⟩ := h5.get (i := i) (en := en) (by rw [Array.getElem?_toList]; exact he)
      exact ⟨q, g1⟩) ⟨_, Heap.get?_push_size _ rfl, rfl, rfl⟩ q)⟩
end
/-! ### dict(pairs) -/
def putP (kvs : List (List Int × D)) (k : List Int) (d : D) : List (List Int × D) :=
  if (kvs.any fun q => decide (q.1 = k)) = true then kvs.map (fun q => if q.1 = k then (q.1, d) else q) else kvs ++ [(k, d)]
def mrgT (acc kvs : List (List Int × D)) : List (List Int × D) := kvs.foldl (fun a q => putP a q.1 q.2) acc
def asKV : List D → Option (List (List Int × D))
  | [] => some []
  | .tup [.tup ts, d] :: r => (match asIs ts, asKV r with | some k, some kvs => some ((k, d) :: kvs) | _, _ => none)
  | _ => none
def dictTV (xs : List SV) : P SV := fun m => match xs with
  | [.dat (.lst ds)] => (match asKV ds with | some kvs => .ok (.dat (.dt ((mrgT [] kvs).map (·.1)) ((mrgT [] kvs).map (·.2)))) m | none => .stuck)
  | _ => .stuck
def PrR (Γ : Gd) (S : Hp) (p : Addr) (kv : List Int × D) : Prop := ∃ b v, SqT Γ.K S p [.ref b, v] ∧ SqT Γ.K S b (kv.1.map V.int) ∧ Rp Γ S v kv.2
theorem asKV_pairs {Γ : Gd} {S : Hp} : ∀ {ds : List D} {vs : List V} {kvs : List (List Int × D)}, RpAll Γ S vs ds → asKV ds = some kvs → ∃ ps : List Addr, vs = ps.map V.ref ∧ Paired (PrR Γ S) ps kvs
  | [], _, _, .nil, h => by
    cases h
    exact ⟨[], rfl, .nil⟩
  | d :: ds, _, kvs, .cons (v := v) (vs := vs) r rs, h => by
    unfold asKV at h
    split at h
    · rename_i e; cases e
    · rename_i ts dx r' e
      obtain ⟨e1, e2⟩ := List.cons.inj e
      subst e1 e2
      split at h
      · rename_i k kvs' hk hkv
        cases h
        obtain ⟨ps, e3, e4⟩ := asKV_pairs rs hkv
        cases r with
        | tup h1 r1 =>
          rename_i a us
          cases r1 with
          | cons q1 r2 =>
            cases q1 with
            | tup h2 rr =>
              rename_i b ws
              have := rpAll_is rr hk
              subst this
              cases r2 with
              | cons q2 r3 =>
                cases r3
                exact ⟨a :: ps, by rw [e3]; rfl, .cons ⟨b, _, h1, h2, q2⟩ e4⟩
      · cases h
    · cases h
/-- the pairs as the heap has them -/
def TrR (Γ : Gd) (S : Hp) (x : List L2.Key × Addr × Value) (kv : List Int × D) : Prop := x.1 = kv.1.map Sum.inl ∧ SqT Γ.K S x.2.1 (kv.1.map V.int) ∧ ∃ v, RelV v x.2.2 ∧ Rp Γ S v kv.2
theorem rows_of {X : Cx} {pins : List (Addr × Obj)} {σ : St} {H S : Hp} {s : Shared} (I : Inv X pins σ H s) (e : Same S H) : ∀ {ps : List Addr} {kvs : List (List Int × D)}, Paired (PrR (gd X) S) ps kvs →
    ∃ trs : List (List L2.Key × Addr × Value), Paired (TrR (gd X) S) trs kvs ∧ trs.length = ps.length ∧ ∀ (j : Nat) (q : List L2.Key × Addr × Value), trs[j]? = some q → ∃ b, ps[j]? = some b ∧ IsTup s.heap b #[.ref q.2.1, q.2.2] ∧ (knd X.prog X.w).is s.heap q.1 q.2.1
  | _, _, .nil => ⟨[], .nil, rfl, fun j q e => by simp at e⟩
  | _, _, .cons (a := p) (b := kv) h t => by
    obtain ⟨trs, r, hl, hp⟩ := rows_of I e t
    obtain ⟨b, v, g1, g2, g3⟩ := h
    obtain ⟨its, rv, ht, _⟩ := I.tuple (Same.seqT e g1)
    obtain ⟨u, y, ei, ru, ry⟩ := vals2 rv
    subst ei
    obtain rfl : u = Value.ref b := ru
    refine ⟨(kv.1.map Sum.inl, b, y) :: trs, .cons ⟨rfl, g2, v, ry, g3⟩ r, by rw [List.length_cons, List.length_cons, hl], fun j q e' => ?_⟩
    cases j with
    | zero =>
      have e'' : (kv.1.map Sum.inl, b, y) = q := Option.some.inj e'
      subst e''
      exact ⟨p, rfl, ht, key_sq I (Same.seqT e g2)⟩
    | succ j =>
      obtain ⟨b', e1, e2, e3⟩ := hp j q (by simpa using e')
      exact ⟨b', by simpa using e1, e2, e3⟩
theorem trs_any {Γ : Gd} {S : Hp} {k : List Int} : ∀ {xs : List (List L2.Key × Addr × Value)} {kvs : List (List Int × D)}, Paired (TrR Γ S) xs kvs → (atKey xs (k.map Sum.inl)).isSome = kvs.any fun q => decide (q.1 = k)
  | _, _, .nil => rfl
  | _, _, .cons (a := x) (b := kv) (l₁ := xs) (l₂ := kvs) h t => by
    have ih := trs_any (k := k) t
    by_cases e : kv.1 = k
    · have : x.1 = k.map Sum.inl := by rw [← e]; exact h.1
      simp [atKey, List.find?_cons, this, e]
    · have : ¬ x.1 = k.map Sum.inl := fun z => e (inl_inj (h.1.symm.trans z))
      have e2 : atKey (x :: xs) (k.map Sum.inl) = atKey xs (k.map Sum.inl) := by simp [atKey, List.find?_cons, this]
      rw [e2, ih, List.any_cons, decide_eq_false e, Bool.false_or]
theorem trs_map {Γ : Gd} {S : Hp} {k : List Int} {d : D} {v : V} {u : Value} (ru : RelV v u) (rd : Rp Γ S v d) : ∀ {xs : List (List L2.Key × Addr × Value)} {kvs : List (List Int × D)}, Paired (TrR Γ S) xs kvs →
    Paired (TrR Γ S) (xs.map (putAt (k.map Sum.inl) u)) (kvs.map (fun q => if q.1 = k then (q.1, d) else q))
  | _, _, .nil => .nil
  | _, _, .cons (a := x) (b := kv) h t => by
    rw [List.map_cons, List.map_cons]
    refine .cons ?_ (trs_map ru rd t)
    unfold putAt
    by_cases e : kv.1 = k
    · have : x.1 = k.map Sum.inl := by rw [← e]; exact h.1
      rw [if_pos this, if_pos e]
      exact ⟨h.1, h.2.1, v, ru, rd⟩
    · have : ¬ x.1 = k.map Sum.inl := fun z => e (inl_inj (h.1.symm.trans z))
      rw [if_neg this, if_neg e]
      exact h
theorem trs_put {Γ : Gd} {S : Hp} {k : List Int} {d : D} {v : V} {b : Addr} {u : Value} (hb : SqT Γ.K S b (k.map V.int)) (ru : RelV v u) (rd : Rp Γ S v d) {xs : List (List L2.Key × Addr × Value)} {kvs : List (List Int × D)} (h : Paired (TrR Γ S) xs kvs) :
    Paired (TrR Γ S) (storedH xs (k.map Sum.inl) b u) (putP kvs k d) := by
  unfold storedH putP
  rw [trs_any h]
  split
  · exact trs_map ru rd h
  · exact Paired.snoc h ⟨rfl, hb, v, ru, rd⟩
theorem trs_all {Γ : Gd} {S : Hp} : ∀ {trs : List (List L2.Key × Addr × Value)} {kvs : List (List Int × D)} {xs : List (List L2.Key × Addr × Value)} {acc : List (List Int × D)}, Paired (TrR Γ S) trs kvs → Paired (TrR Γ S) xs acc → Paired (TrR Γ S) (storedAllH xs trs) (mrgT acc kvs)
  | _, _, _, _, .nil, h => h
  | _, _, xs, acc, .cons (a := x) (b := kv) h t, ha => by
    obtain ⟨h1, h2, v, h3, h4⟩ := h
    have := trs_all t (trs_put (k := kv.1) h2 h3 h4 ha)
    rw [← h1] at this
    exact this
theorem trs_ent {P : Program} {w : World} {Γ : Gd} {S : Hp} : ∀ {xs : List (List L2.Key × Addr × Value)} {kvs : List (List Int × D)}, Paired (TrR Γ S) xs kvs → ∃ vs, EntR Γ.K S (xs.map (entryOfKey (knd P w))) (kvs.map (·.1)) vs ∧ RpAll Γ S vs (kvs.map (·.2))
  | _, _, .nil => ⟨[], .nil, .nil⟩
  | _, _, .cons (a := x) (b := kv) h t => by
    obtain ⟨vs, e1, e2⟩ := trs_ent (P := P) (w := w) t
    obtain ⟨h1, h2, v, h3, h4⟩ := h
    refine ⟨v :: vs, .cons (fun P' w' => ?_) rfl h2 h3 e1, .cons h4 e2⟩
    show (knd P w).hash x.1 = _
    rw [h1]
    exact hashI P w P' w' kv.1
theorem trs_keys {Γ : Gd} {S : Hp} : ∀ {xs : List (List L2.Key × Addr × Value)} {kvs : List (List Int × D)}, Paired (TrR Γ S) xs kvs → xs.map (·.1) = (kvs.map (·.1)).map (·.map Sum.inl)
  | _, _, .nil => rfl
  | _, _, .cons (a := x) (b := kv) h t => by rw [List.map_cons, List.map_cons, List.map_cons, trs_keys t, h.1]
theorem nodup_of_inl : ∀ {kss : List (List Int)}, (kss.map (·.map (Sum.inl : Int → L2.Key))).Nodup → kss.Nodup
  | [], _ => List.nodup_nil
  | k :: kss, h => by
    rw [List.map_cons, List.nodup_cons] at h
    rw [List.nodup_cons]
    exact ⟨fun z => h.1 (List.mem_map.mpr ⟨k, z, rfl⟩), nodup_of_inl h.2⟩
theorem jc_dictT {X : Cx} {W : WX} (hc : X.calm = true) (hu : X.A.units + 2 < cLine) : JC X W (.type "dict") dictTV := ⟨fun {G S H ρ m σ xs xvs Q} M rx q pins s us I r => by
  unfold dictTV at q
  split at q
  · rename_i ds
    split at q
    · rename_i kvs hk
      cases rx with
      | cons r1 r2 =>
        cases r2
        have r1 : Rp (gd X) S _ (.lst ds) := r1
        cases r1 with
        | lst h1 rr =>
          rename_i a vs
          obtain ⟨ps, e1, e2⟩ := asKV_pairs rr hk
          subst e1
          rw [Vals.ref1 r]
          obtain ⟨its, rv, pl, hz⟩ := I.list (.inl (.inl (M.sub a _ h1)) : SqL X.K H a (ps.map V.ref))
          have ei := refs_at rv
          subst ei
          rw [List.length_map] at hz
          obtain ⟨trs, t1, t2, t3⟩ := rows_of I M.sub e2
          obtain ⟨o, n, ho, hcl, hd, hdat⟩ := pl
          have hps : ∀ (j : Nat) (k v : Value), (trs.map fun x => (Value.ref x.2.1, x.2.2))[j]? = some (k, v) → ∃ q, trs[j]? = some q ∧ k = .ref q.2.1 ∧ v = q.2.2 := fun j k v e => by
            rw [List.getElem?_map] at e
            cases z : trs[j]? with
            | none => rw [z] at e; cases e
            | some q =>
              rw [z] at e
              cases e
              exact ⟨q, rfl, rfl, rfl⟩
          have PA := PairArg.list (prog := X.prog) (w := X.w) a (ps.map Value.ref).toArray (fun j => (ps[j]?).getD 0) (trs.map fun x => (Value.ref x.2.1, x.2.2))
          refine call_dict_pairsH (knd := knd X.prog X.w) (ps := trs) PA (I.ok.hd hc) hu ⟨⟨o, n, ho, hcl, hd, hdat⟩, by simp [t2], fun j k v e => ?_⟩ ⟨by simp, fun j k v e => ?_⟩ (fun h' hk' x hx => ?_) (by rw [List.length_map, t2]; exact hz) fun h' tk dd kp => ?_
          · obtain ⟨q, g1, rfl, rfl⟩ := hps j k v e
            obtain ⟨b, e3, e4, _⟩ := t3 j q g1
            refine ⟨by simp [e3], ?_⟩
            simp only [e3, Option.getD_some]
            exact .inl e4
          · obtain ⟨q, g1, rfl, rfl⟩ := hps j k v e
            exact ⟨q.1, q.2.1, g1, rfl⟩
          · obtain ⟨j, hj⟩ := List.mem_iff_getElem?.mp hx
            obtain ⟨b, _, _, e5⟩ := t3 j x hj
            obtain ⟨o', its', n', g1, g2⟩ := e5
            exact ⟨o', its', n', hk' _ _ (Nat.ne_of_lt (Heap.lt_size g1)) (fun z => nomatch z) g1, g2⟩
          · obtain ⟨od, es, ep, d1, d2, d3, d4, d5, d6⟩ := dd
            have hp : H s.heap.objs.size = none := I.hok.fresh (Nat.le_refl _)
            have I2 : Inv X pins σ (upd H s.heap.objs.size (.frz od Known)) { s with heap := h', toks := tk } := I.laid (t' := tk) (fun b u z => kp b u (fun z => nomatch z) z) (Nat.le_refl _) ⟨d1, trivial, ⟨od, d1⟩, fun _ _ _ _ => trivial⟩
            obtain ⟨s1, M1⟩ := M.grow hp (.frz od Known)
            have pa := trs_all t1 (.nil : Paired (TrR (gd X) S) [] [])
            obtain ⟨vs, n1, n2⟩ := trs_ent (P := X.prog) (w := X.w) pa
            refine ⟨.ref s.heap.objs.size, _, I2, rfl, q _ _ ρ _ ⟨s1, fun _ _ z => z⟩ M1 (.dt upd_same d2 d3 (beq_eq_false_iff_ne.mpr (Nat.ne_of_gt I.big)) ?_ (nodup_of_inl (by rw [← trs_keys pa]; exact d6)) ?_ (n2.mono s1))⟩
            · have l1 : es.size = (storedAllH [] trs).length := size_of_entries d4
              have l2 := storedAllH_length trs []
              rw [l1]
              simp only [List.length_nil, Nat.zero_add] at l2
              omega
            · rw [d4]
              exact n1.mono s1
    · exact q.elim
  · exact q.elim⟩
/-! ### sorted of data -/
def tupD1 : D → Bool
  | .tup (_ :: _) => true
  | _ => false
def alikeS (ds : List D) : Bool := ds.all fun x => (ds.all fun y => PySem.W.alike (toPy x) (toPy y)) && tupD1 x
def srtD (ds : List D) : List D := ds.mergeSort (PySem.W.dataLe false toPy)
def sortDatV (xs : List SV) : P SV := fun m => match xs with
  | [.dat (.lst ds)] => if (okD (.lst ds) && alikeS ds) = true then .ok (.dat (.lst (srtD ds))) m else .stuck
  | _ => .stuck
theorem each_of {Γ : Gd} {S : Hp} : ∀ {vs : List V} {us : List Value} {ds : List D}, Vals vs us → RpAll Γ S vs ds → PySem.W.EachIs (fun u d => ∃ v, RelV v u ∧ Rp Γ S v d) us ds
  | _, _, _, .nil, .nil => .nil
  | _, _, _, .cons h t, .cons r rs => .cons ⟨_, h, r⟩ (each_of t rs)
theorem of_each {Γ : Gd} {S : Hp} : ∀ {us : List Value} {ds : List D}, PySem.W.EachIs (fun u d => ∃ v, RelV v u ∧ Rp Γ S v d) us ds → ∃ vs, Vals vs us ∧ RpAll Γ S vs ds
  | _, _, .nil => ⟨[], .nil, .nil⟩
  | _, _, .cons ⟨v, h, r⟩ t => by
    obtain ⟨vs, h1, h2⟩ := of_each t
    exact ⟨v :: vs, .cons h h1, .cons r h2⟩
theorem each_reads {X : Cx} {pins : List (Addr × Obj)} {σ : St} {H S : Hp} {s : Shared} (I : Inv X pins σ H s) (e : Same S H) : ∀ {us : List Value} {ds : List D}, plains ds = true → PySem.W.EachIs (fun u d => ∃ v, RelV v u ∧ Rp (gd X) S v d) us ds → PySem.W.EachIs (fun u d => ∃ as, Reads s.heap u (toPy d) as) us ds
  | _, _, _, .nil => .nil
  | _, _, pl, .cons ⟨v, h, r⟩ t => by
    simp only [plains, Bool.and_eq_true] at pl
    obtain ⟨as, hr⟩ := Dp.reads I _ v _ ((r.mono e).dp pl.1) h
    exact .cons ⟨as, hr⟩ (each_reads I e pl.2 t)
theorem dep_mem : ∀ {xs : List D} {x : D}, x ∈ xs → dep x ≤ deps xs
  | y :: ys, x, hx => by
    simp only [deps]
    rcases List.mem_cons.mp hx with rfl | hx
    · omega
    · have := dep_mem hx; omega
theorem jc_sortDat {X : Cx} {W : WX} (hu : X.A.units + 66 < cLine) : JC X W (.builtin "sorted") sortDatV := ⟨fun {G S H ρ m σ xs xvs Q} M rx q pins s us I r => by
  unfold sortDatV at q
  split at q
  · rename_i ds
    split at q
    · rename_i ok
      rw [Bool.and_eq_true] at ok
      have ok1 := ok.1
      have ok2 := ok.2
      cases rx with
      | cons r1 r2 =>
        cases r2
        have r1 : Rp (gd X) S _ (.lst ds) := r1
        cases r1 with
        | lst h1 ra =>
          rename_i a vs
          have hq : SqL X.K H a vs := .inl (.inl (M.sub a _ h1))
          obtain ⟨its, rv, hl, hz⟩ := I.list hq
          rw [Vals.ref1 r]
          simp only [okD, Bool.and_eq_true, decide_eq_true_eq] at ok1
          have pl : plains ds = true := by simpa [plain] using ok1.1
          have dp : deps ds + 1 ≤ 64 := by simpa [dep] using ok1.2
          unfold alikeS at ok2
          simp only [List.all_eq_true, Bool.and_eq_true] at ok2
          have ea := each_of rv ra
          have lz : ds.length ≤ sizeLine := by rw [← ra.length]; exact hz
          refine PySem.W.sorted_data (enc := toPy) (bs := ds) (R := fun u d => ∃ v, RelV v u ∧ Rp (gd X) S v d) hl.isList ea (each_reads I M.sub pl ea) ?_ (.inl ?_) lz ?_ fun out lo eo => ?_
          · intro d hd d' hd'
            obtain ⟨x, hx, rfl⟩ := List.mem_map.mp hd
            obtain ⟨y, hy, rfl⟩ := List.mem_map.mp hd'
            exact (ok2 x hx).1 y hy
          · intro d hd
            obtain ⟨x, hx, rfl⟩ := List.mem_map.mp hd
            have := (ok2 x hx).2
            unfold tupD1 at this
            split at this
            · rename_i y r
              exact ⟨toPy y, toPys r, by simp [toPy, toPys]⟩
            · cases this
          · intro b hb
            rw [toPy_dep]
            have := dep_mem hb
            omega
          · obtain ⟨ws, w1, w2⟩ := of_each eo
            obtain ⟨e, he⟩ := sortedAll_at s.heap its (List.toArray out)
            have hp : H (s.heap.objs.size + 1) = none := I.hok.fresh (Nat.le_succ _)
            have lw : ws.length ≤ sizeLine := by
              rw [w2.length]
              show (ds.mergeSort _).length ≤ _
              rw [List.length_mergeSort]
              exact lz
            have I2 : Inv X pins σ (upd H (s.heap.objs.size + 1) (.lst ws)) { s with heap := sortedAll s.heap its (List.toArray out) } := I.laid (t' := s.toks) (fun b u z => sortedAll_old z) (Nat.le_succ _) ⟨lw, out, e, w1, he⟩
            obtain ⟨s1, M1⟩ := M.grow hp (.lst ws)
            exact ⟨.ref (s.heap.objs.size + 1), _, I2, rfl, q _ _ ρ _ ⟨s1, fun _ _ z => z⟩ M1 (.lst upd_same (w2.mono s1))⟩
    · exact q.elim
  · exact q.elim⟩
/-! ### how they reckon -/
@[simp] theorem keyT_tup (k : List Int) : keyT (.dat (.tup (k.map D.int))) = some k := asIs_ints k
theorem inTV_ap (k : List Int) (kss : List (List Int)) (ds : List D) (m : Mem) : inTV (.dat (.tup (k.map D.int))) (.dat (.dt kss ds)) m = .ok (.dat (.bl (decide (k ∈ kss)))) m := by simp [inTV]
theorem notInTV_ap (k : List Int) (kss : List (List Int)) (ds : List D) (m : Mem) : notInTV (.dat (.tup (k.map D.int))) (.dat (.dt kss ds)) m = .ok (.dat (.bl (!decide (k ∈ kss)))) m := by simp [notInTV]
theorem itemTV_ap {k : List Int} {kss : List (List Int)} {ds : List D} {d : D} (h : getT kss ds k = some d) (m : Mem) : itemTV (.dat (.dt kss ds)) (.dat (.tup (k.map D.int))) m = .ok (.dat d) m := by simp [itemTV, h]
@[simp] theorem lenTV_ap (kss : List (List Int)) (ds : List D) (m : Mem) : lenTV [.dat (.dt kss ds)] m = .ok (.dat (.int kss.length)) m := (rfl)
@[simp] theorem itemsT_ap (kss : List (List Int)) (ds : List D) (m : Mem) : itemsT (.dat (.dt kss ds)) m = .ok (kss.map fun k => D.tup (k.map D.int)) m := (rfl)
@[simp] theorem dItT_ap (fa : En → P SV) (env : En) (m : Mem) : dItT fa env m = (fa env m).bnd itemsT := (rfl)
@[simp] theorem dictTV_ap (ds : List D) (m : Mem) : dictTV [.dat (.lst ds)] m = (match asKV ds with | some kvs => .ok (.dat (.dt ((mrgT [] kvs).map (·.1)) ((mrgT [] kvs).map (·.2)))) m | none => .stuck) := (rfl)
@[simp] theorem sortDatV_ap (ds : List D) (m : Mem) : sortDatV [.dat (.lst ds)] m = if (okD (.lst ds) && alikeS ds) = true then .ok (.dat (.lst (srtD ds))) m else .stuck := (rfl)
theorem asKV_of {f : α → List Int} {g : α → D} : ∀ xs : List α, asKV (xs.map fun x => D.tup [D.tup ((f x).map D.int), g x]) = some (xs.map fun x => (f x, g x))
  | [] => rfl
  | x :: xs => by simp [asKV, asIs_ints, asKV_of xs]
theorem RoomG.units2 {k : Nat} {A : Around} (r : RoomG k A) : A.units + 2 < cLine := by have := r.rm.un; omega
end PL

/-! PL25: a def as a value, called by a local name; own pairs (data, own list). -/
namespace PL
open PySem PySem.Spec PyProof.Rows L2
/-! ### a def as a value -/
section
variable {X : Cx} {W : WX} {e : Expr} {es : List Expr} {pos p : Pos} {fs : En → P (List SV)}
theorem je_gfn {x : Str} {k : Nat} {ps : List Str} {F : List SV → PL.P SV} {pos : Pos} (hg : Gl X x) (C : Cal X.prog X.w X.K X.mg X.base k x ps F) (hd : (x == ("__debug__" : Str)) = false := by decide) : JE X W (.Name x pos) (dC (.fn x)) := by
  obtain ⟨f, fd, hm, _⟩ := C.ex
  exact je_c (pe_glob (v := .ref f) hg hm rfl hd) (fun _ _ _ h => h) fun _ => .fn hm
/-- the defs that a local name may hold -/
abbrev FTab := List (Str × Nat × (List SV → P SV))
def dCallV (i : Nat) (tab : FTab) (fs : En → P (List SV)) : En → P SV := fun env m => match env[i]? with
  | some (some (.dat (.fn x))) => (match tab.lookup x with | some nF => ((fs env).bnd (chk nF.1 nF.2)) m | none => .stuck)
  | _ => .stuck
theorem je_callV {i k : Nat} {x : Str} {tab : FTab} (C : ∀ y n F, tab.lookup y = some (n, F) → ∃ ps, ps.length = n ∧ Cal X.prog X.w X.K X.mg X.base k y ps F) (hr : RoomG k X.A) (tk : Takes X W) (js : JA X W (e :: es) fs)
    (hN : X.N[i]? = some x := by rfl) (hv : Vis X.env.scope x := by first | exact Or.inl rfl | exact Or.inr (Or.inl rfl) | exact Or.inr (Or.inr rfl)) (hdb : (x == ("__debug__" : Str)) = false := by decide) (hcd : (x == ("__classdict__" : Str)) = false := by decide)
    (he : starEach (e :: es) X.env = (false, eval e X.env) :: starEach es X.env := by rfl) (hpl : (backTo pos (starEach es X.env)).any (·.1) = false := by rfl) :
    JE X W (.Call (.Name x p) (e :: es) [] pos) (dCallV i tab fs) := ⟨fun {G S H ρ m env σ Q} M E h pins s I => by
  unfold dCallV at h
  split at h
  · rename_i y hy
    split at h
    · rename_i nF hF
      obtain ⟨n, F⟩ := nF
      obtain ⟨ps, rfl, c⟩ := C y n F hF
      obtain ⟨f, fd, hm, hk, hb, hG⟩ := c.ex
      obtain ⟨vv, hσ, rv⟩ := E.at_ i _ hy
      have rv : Rp (gd X) S vv (.fn y) := rv
      cases rv with
      | fn hm' =>
        rename_i a
        have hm2 : X.mg y = some (.ref a) := hm'
        rw [hm] at hm2
        cases hm2
        refine wpAny_Call_Name_kw (thn ((pe_var (pos := p) hN hv hdb hcd).run pins s σ H (fun v H1 => v = .ref f ∧ H1 = H) I ⟨.ref f, hσ, rfl, rfl⟩) fun u s0 ⟨v, H0, I0, r0, q0⟩ => ?_)
        obtain ⟨rfl, rfl⟩ := q0
        obtain rfl : u = Value.ref f := r0
        refine PySem.W.callWith_K (h₀ := X.base) I.ok.mod.kin hk (thn (js.run (Q := fun vs H1 => spF ⟨X.K, X.mg⟩ ps.length F vs H1 Q fun cls d H => W cls d σ H) M E (wpr_monoQ (wpr_bnd h) fun xs m1 hx => ?_) pos pins s0 I0) fun us s1 ⟨vs, H1, I1, r, q⟩ => ⟨I1.kIn, ?_⟩) he hpl
        · intro S1 H1 ρ1 xv e1 M1 rx
          unfold chk at hx
          split at hx
          · rename_i hl
            exact ⟨by rw [Paired.length rx]; exact hl, G, S1, ρ1, m1, xs, M1, rx, wpr_mono hx (fun v m2 hv => qv_ext e1 hv) fun x m2 hv => qx_ext e1 hv⟩
          · exact hx.elim
        · have hl : us.length = ps.length := by rw [← r.length]; exact hG.ln _ _ _ _ q
          have b := hb s1 us I1.kIn (by rw [List.append_nil]; exact hl)
          rw [List.append_nil] at b
          exact wpAny_call (codeAny_mono (hG.go X.A X.stack s1 H1 _ us vs Q _ hr I1.env0 b r q) fun rr s' hq => after_go tk I1 hq)
    · exact h.elim
  · exact h.elim⟩
end
/-! ### own pairs -/
section
variable {Γ : Gd} {G S H : Hp} {ρ : List Addr} {m : Mem}
theorem MixA.set_dead {n i : Nat} {b : Addr} (h : MixA S ρ (m.set n .dead) i b) : MixA S ρ m i b := by
  rcases h with ⟨d, xs, a, v, h1, h2, h3⟩ | ⟨kss, ds, h1, h2⟩
  · exact .inl ⟨d, xs, a, v, mix_set rfl h1 rfl, h2, h3⟩
  · exact .inr ⟨kss, ds, mix_set rfl h1 rfl, h2⟩
/-- a cell forgotten -/
theorem MR.kill (M : MR Γ G S H ρ m) (n : Nat) : MR Γ G S H ρ (m.set n .dead) := by
  have low : ∀ (j : Nat) (xs : List D), (m.set n Cell.dead)[j]? = some (.lst xs) → m[j]? = some (.lst xs) := fun j xs q => lst_set (fun _ z => by cases z) q
  refine ⟨M.sub, M.gsub, M.dis, by rw [List.length_set]; exact M.len, fun j xs q => M.cell j xs (low j xs q), fun i j xs ys a q1 q2 q3 q4 => M.inj i j xs ys a (low i xs q1) (low j ys q2) q3 q4, M.tab, M.dic.cells (fun i kvs q => dct_set (fun _ z => by cases z) q) fun i a kvs _ q => q, ?_⟩
  exact M.mix.step (Same.refl S) (fun i b q => ⟨(M.mix.own q).1, (M.mix.own q).2.1, rfl⟩) (fun i c q1 q2 => mix_set rfl q1 q2) (fun _ _ _ _ _ q => q) fun i b j xs q1 q2 q3 => M.mix.crs i j b xs q1 (low j xs q2) q3
/-- no cell stands where a list stood that is forgotten -/
theorem MR.noLst (M : MR Γ G S H ρ m) {n : Nat} {xs : List D} {b : Addr} (hm : m[n]? = some (.lst xs)) (hb : ρ[n]? = some b) : NoCell S ρ (m.set n .dead) b := by
  refine ⟨fun i ys q z => ?_, fun i q => M.mix.crs i n b xs q.set_dead hm hb⟩
  have q' : m[i]? = some (.lst ys) := lst_set (fun _ z => by cases z) q
  have e := M.inj i n ys xs b q' hm z hb
  subst e
  rw [List.getElem?_set_self (List.getElem?_eq_some_iff.mp hm).1] at q
  cases q
theorem MR.noPair (M : MR Γ G S H ρ m) {n : Nat} {b : Addr} (hm : MixA S ρ m n b) : NoCell S ρ (m.set n .dead) b := by
  refine ⟨fun i ys q z => M.mix.crs n i b ys hm (lst_set (fun _ z => by cases z) q) z, fun i q => ?_⟩
  have e := M.mix.inj i n b q.set_dead hm
  subst e
  have hi : i < m.length := by
    rcases hm with ⟨_, _, _, _, h1, _⟩ | ⟨_, _, h1, _⟩ <;> exact (List.getElem?_eq_some_iff.mp h1).1
  rcases q with ⟨_, _, _, _, h1, _⟩ | ⟨_, _, h1, _⟩ <;> (rw [List.getElem?_set_self hi] at h1; cases h1)
/-- a pair more -/
theorem MR.addPair (M : MR Γ G S H ρ m) {a b : Addr} {v : V} {vs : List V} {d : D} {xs : List D} (ha : S a = some (.tup [v, .ref b])) (rv : Rp Γ S v d) (hb : H b = some (.lst vs)) (r : RpAll Γ S vs xs) (sb : S b = none) (gb : G b = none) (nc : NoCell S ρ m b) :
    Ext S ρ S (ρ ++ [a]) ∧ MR Γ G S H (ρ ++ [a]) (m ++ [.pair d xs]) := by
  have low : ∀ (j : Nat) (ys : List D), (m ++ [Cell.pair d xs])[j]? = some (.lst ys) → m[j]? = some (.lst ys) := fun j ys q => lst_app (fun _ z => by cases z) q
  have hin : ∀ (j : Nat) (ys : List D), m[j]? = some (.lst ys) → j < ρ.length := fun j ys q => by rw [M.len]; exact (List.getElem?_eq_some_iff.mp q).1
  have ra : ∀ {j : Nat}, j < ρ.length → (ρ ++ [a])[j]? = ρ[j]? := fun {j} hj => List.getElem?_append_left hj
  have old : ∀ (i : Nat) (c : Addr), MixA S (ρ ++ [a]) (m ++ [.pair d xs]) i c → MixA S ρ m i c ∨ (i = m.length ∧ c = b) := fun i c q => by
    by_cases hi : i < m.length
    · left
      rcases q with ⟨d', xs', a', v', h1, h2, h3⟩ | ⟨kss, ds, h1, h2⟩
      · rw [List.getElem?_append_left hi] at h1
        rw [ra (by rw [M.len]; exact hi)] at h2
        exact .inl ⟨d', xs', a', v', h1, h2, h3⟩
      · rw [List.getElem?_append_left hi] at h1
        rw [ra (by rw [M.len]; exact hi)] at h2
        exact .inr ⟨kss, ds, h1, h2⟩
    · right
      have last : ∀ {c' : Cell}, (m ++ [Cell.pair d xs])[i]? = some c' → i = m.length := fun {c'} h => by
        have := (List.getElem?_eq_some_iff.mp h).1
        simp at this
        omega
      rcases q with ⟨d', xs', a', v', h1, h2, h3⟩ | ⟨kss, ds, h1, h2⟩
      · have e := last h1
        subst e
        have e2 : a = a' := by rw [← M.len] at h2; simpa using h2
        subst e2
        rw [ha] at h3
        cases h3
        exact ⟨rfl, rfl⟩
      · have e := last h1
        subst e
        simp at h1
  refine ⟨⟨Same.refl S, fun i c q => r_app q⟩, ⟨M.sub, M.gsub, M.dis, by simp [M.len], fun j ys q => ?_, fun i j xs' ys a' q1 q2 q3 q4 => ?_, M.tab, M.dic.cells (fun i kvs q => dct_app (fun _ z => by cases z) q) (fun i c kvs _ q => r_app q), ⟨fun i d' xs' q => ?_, fun i kss ds q => ?_, fun i j c q1 q2 => ?_, fun i j c ys q1 q2 => ?_⟩⟩⟩
  · obtain ⟨a', vs', g1, g2⟩ := M.cell j ys (low j ys q)
    exact ⟨a', vs', r_app g1, g2⟩
  · have l1 := low i xs' q1
    have l2 := low j ys q2
    rw [ra (hin i _ l1)] at q3
    rw [ra (hin j _ l2)] at q4
    exact M.inj i j xs' ys a' l1 l2 q3 q4
  · by_cases hi : i < m.length
    · rw [List.getElem?_append_left hi] at q
      obtain ⟨a', b', v', vs', g1, g2⟩ := M.mix.pair i d' xs' q
      exact ⟨a', b', v', vs', r_app g1, g2⟩
    · have e : i = m.length := by
        have := (List.getElem?_eq_some_iff.mp q).1
        simp at this
        omega
      subst e
      have e2 : Cell.pair d xs = Cell.pair d' xs' := by simpa using q
      cases e2
      exact ⟨a, b, v, vs, by rw [← M.len]; simp, ha, rv, hb, r, sb, gb⟩
  · by_cases hi : i < m.length
    · rw [List.getElem?_append_left hi] at q
      obtain ⟨a', es, vs', g1, g2⟩ := M.mix.dtc i kss ds q
      exact ⟨a', es, vs', r_app g1, g2⟩
    · have e : i = m.length := by
        have := (List.getElem?_eq_some_iff.mp q).1
        simp at this
        omega
      subst e
      simp at q
  · rcases old i c q1 with z1 | ⟨z1, w1⟩
    · rcases old j c q2 with z2 | ⟨z2, w2⟩
      · exact M.mix.inj i j c z1 z2
      · subst w2
        exact absurd z1 (nc.2 i)
    · rcases old j c q2 with z2 | ⟨z2, w2⟩
      · subst w1
        exact absurd z2 (nc.2 j)
      · rw [z1, z2]
  · have l := low j ys q2
    rw [ra (hin j _ l)]
    rcases old i c q1 with z1 | ⟨z1, w1⟩
    · exact M.mix.crs i j c ys z1 l
    · subst w1
      exact nc.1 j ys l
/-- a pair frozen -/
theorem MR.freezeP (M : MR Γ G S H ρ m) {i : Nat} {d : D} {xs : List D} (hm : m[i]? = some (.pair d xs)) :
    ∃ a S', ρ[i]? = some a ∧ Ext S ρ S' ρ ∧ MR Γ G S' H ρ (m.set i .dead) ∧ Rp Γ S' (.ref a) (.tup [d, .lst xs]) := by
  obtain ⟨a, b, v, vs, g1, g2, g3, g4, g5, g6, g7⟩ := M.mix.pair i d xs hm
  have nc := M.noPair (.inl ⟨d, xs, a, v, hm, g1, g2⟩ : MixA S ρ m i b)
  obtain ⟨s1, M1⟩ := (M.kill i).adopt g4 g6 g7 nc
  exact ⟨a, _, g1, ⟨s1, fun _ _ z => z⟩, M1, .tup (.inl (.inl (s1 _ _ g2))) (.cons (g3.mono s1) (.cons (.lst upd_same (g5.mono s1)) .nil))⟩
end
end PL

/-! PL26: own pairs made, handed out, frozen, appended to; for over a display of own things; list(zip(a, b)). -/
namespace PL
open PySem PySem.Spec PyProof.Rows L2
/-! ### (data, own list) -/
section
variable {X : Cx} {W : WX} {es : List Expr} {e a b : Expr} {pos : Pos} {fs : En → P (List SV)} {fa fb f : En → P SV}
def mkPairC (d : D) (n : Nat) (c : Option Cell) : P SV := fun m => match c with
  | some (.lst ys) => .ok (.ref m.length) (m.set n .dead ++ [.pair d ys])
  | _ => .stuck
def mkPair (xs : List SV) : P SV := fun m => match xs with
  | [.dat d, .ref n] => mkPairC d n m[n]? m
  | _ => .stuck
theorem je_pair {k} (js : JA X W es fs) : JE X W (.Tuple es k pos) (dA mkPair fs) := ⟨fun {G S H ρ m env σ Q} M E h => by
  refine we_of (pe_tup pa_wa) (js.run M E (wpr_monoQ (wpr_bnd h) fun xs m1 hx => ?_))
  intro S1 H1 ρ1 xv e1 M1 rx
  unfold mkPair at hx
  split at hx
  · rename_i d n
    unfold mkPairC at hx
    split at hx
    · rename_i ys hys
      obtain ⟨v, w, rfl, r1, r2⟩ := paired2 rx
      obtain ⟨b, hb, rfl⟩ := r2
      refine ⟨by rw [sizeLine_eq]; show 2 ≤ 16777216; omega, fun p hp => ?_⟩
      obtain ⟨s1, M2⟩ := M1.grow hp (.tup [v, .ref b])
      obtain ⟨b', vs, g1, g2, g3, g4, g5⟩ := M2.cell n ys hys
      rw [hb] at g1
      cases g1
      obtain ⟨e3, M3⟩ := (M2.kill n).addPair (d := d) (xs := ys) (a := p) (b := b) (v := v) (vs := vs) upd_same (Rp.mono s1 r1) g2 g3 g4 g5 (M2.noLst hys hb)
      refine hx _ _ _ _ ((e1.trans ⟨s1, fun _ _ q => q⟩).trans e3) M3 ⟨p, ?_, rfl⟩
      rw [← M1.len]
      simp
    · exact hx.elim
  · exact hx.elim⟩
/-- what is handed out: data, or an own pair -/
def exitP (k : Nat) (v : SV) (m : Mem) : R SV := match v with
  | .dat d => .ok (.dat d) (m.take k)
  | .ref i => if i < k then .stuck else (match m[i]? with | some (.pair d xs) => .ok (.ref k) (m.take k ++ [.pair d xs]) | _ => .stuck)
theorem exitP_ok : ExitOk exitP := by
  intro Γ G S H ρ m k v vv Q E M r hk h
  unfold exitP at h
  split at h
  · exact ⟨S, ρ.take k, _, _, h, Same.refl _, fun i a hi q => take_get hi q, M.take k, r⟩
  · rename_i i
    split at h
    · exact h.elim
    · rename_i hi
      split at h
      · rename_i d xs hx
        obtain ⟨a, z1, rfl⟩ := r
        obtain ⟨a', b, v, vs, g1, g2, g3, g4, g5, g6, g7⟩ := M.mix.pair i d xs hx
        rw [z1] at g1
        cases g1
        have hA : MixA S ρ m i b := .inl ⟨d, xs, a, v, hx, z1, g2⟩
        have M2 := M.take k
        have low : ∀ {j : Nat} {c : Cell}, (m.take k)[j]? = some c → j < k := fun {j c} q => by
          have := (List.getElem?_eq_some_iff.mp q).1
          rw [List.length_take] at this
          omega
        have nc : NoCell S (ρ.take k) (m.take k) b := by
          refine ⟨fun j ys q z => ?_, fun j q => ?_⟩
          · have hj := low q
            rw [List.getElem?_take_of_lt hj] at q z
            exact M.mix.crs i j b ys hA q z
          · have hj : j < k := by
              rcases q with ⟨_, _, _, _, q, _⟩ | ⟨_, _, q, _⟩ <;> exact low q
            have q' : MixA S ρ m j b := by
              rcases q with ⟨d', xs', a', v', q1, q2, q3⟩ | ⟨kss, ds, q1, q2⟩
              · rw [List.getElem?_take_of_lt hj] at q1 q2
                exact .inl ⟨d', xs', a', v', q1, q2, q3⟩
              · rw [List.getElem?_take_of_lt hj] at q1 q2
                exact .inr ⟨kss, ds, q1, q2⟩
            have := M.mix.inj j i b q' hA
            omega
        obtain ⟨e3, M3⟩ := M2.addPair (d := d) (xs := xs) g2 g3 g4 g5 g6 g7 nc
        have el : (ρ.take k).length = k := by rw [List.length_take, M.len]; omega
        refine ⟨S, _, _, _, h, Same.refl _, fun j a' hj q => e3.r j a' (take_get hj q), M3, a, ?_, rfl⟩
        rw [List.getElem?_append_right (by omega), el]
        simp
      · exact h.elim
/-- the newest own thing becomes data -/
def fzC (n : Nat) (c : Option Cell) : P SV := fun m => match c with
  | some (.pair d xs) => .ok (.dat (.tup [d, .lst xs])) (m.take n)
  | some (.lst xs) => .ok (.dat (.lst xs)) (m.take n)
  | _ => .stuck
def fzL (k : Nat) (v : SV) : P SV := fun m => match v with
  | .ref n => if k ≤ n then fzC n m[n]? m else .stuck
  | .dat d => .ok (.dat d) m
def dFz (f : En → P SV) : En → P SV := fun env m => (f env m).bnd (fzL m.length)
theorem je_fz (ja : JE X W a f) : JE X W a (dFz f) := ⟨fun {G S H ρ m env σ Q} M E h => by
  unfold dFz at h
  refine ja.run M E ?_
  have h' : wpr (f env m) (fun x m' => wpr (fzL m.length x m') (QV X G S ρ Q) (QX X W G S ρ σ)) (QX X W G S ρ σ) := by
    cases e : f env m with
    | ok x m' => rw [e] at h; exact h
    | exc y m' => rw [e] at h; exact h
    | stuck => rw [e] at h; exact h
  refine wpr_monoQ h' fun x m1 hx => ?_
  intro S1 H1 ρ1 xv e1 M1 rx
  unfold fzL at hx
  split at hx
  · rename_i n
    split at hx
    · rename_i hn
      obtain ⟨a', z1, rfl⟩ := rx
      have keep : ∀ {S2 : Hp}, Ext S1 ρ1 S2 ρ1 → Ext S ρ S2 (ρ1.take n) := fun {S2} e2 => ⟨(e1.trans e2).s, fun i b q => take_get (by have := (List.getElem?_eq_some_iff.mp q).1; rw [M.len] at this; omega) (e1.r i b q)⟩
      have tk : (m1.set n Cell.dead).take n = m1.take n := by rw [List.take_set_of_le (by omega)]
      unfold fzC at hx
      split at hx
      · rename_i d xs hc
        obtain ⟨a2, S2, g1, e2, M2, r2⟩ := M1.freezeP hc
        rw [z1] at g1
        cases g1
        have M3 := M2.take n
        rw [tk] at M3
        exact hx S2 H1 _ _ (keep e2) M3 r2
      · rename_i xs hc
        obtain ⟨a2, vs, g1, e2, M2, r2⟩ := M1.freeze hc
        rw [z1] at g1
        cases g1
        have M3 := M2.take n
        rw [tk] at M3
        exact hx _ H1 _ _ (keep e2) M3 r2
      · exact hx.elim
    · exact hx.elim
  · exact hx S1 H1 ρ1 xv e1 M1 rx⟩
end
/-! ### x[1].append(e) -/
section
variable {Γ : Gd} {G S H : Hp} {ρ : List Addr} {m : Mem}
theorem MR.writeP (M : MR Γ G S H ρ m) {n : Nat} {d : D} {xs ys : List D} {a b : Addr} {v : V} {ws : List V} (hm : m[n]? = some (.pair d xs)) (ha : ρ[n]? = some a) (hS : S a = some (.tup [v, .ref b])) (r : RpAll Γ S ws ys) :
    MR Γ G S (upd H b (.lst ws)) ρ (m.set n (.pair d ys)) := by
  have hn : n < m.length := (List.getElem?_eq_some_iff.mp hm).1
  obtain ⟨a', b', v', vs, g1, g2, g3, g4, g5, g6, g7⟩ := M.mix.pair n d xs hm
  rw [ha] at g1
  cases g1
  rw [hS] at g2
  cases g2
  have hA : MixA S ρ m n b := .inl ⟨d, xs, a, v, hm, ha, hS⟩
  have low : ∀ (j : Nat) (zs : List D), (m.set n (Cell.pair d ys))[j]? = some (.lst zs) → m[j]? = some (.lst zs) := fun j zs q => lst_set (fun _ z => by cases z) q
  have at_ : ∀ {j : Nat} {c : Cell}, (m.set n (Cell.pair d ys))[j]? = some c → (j = n ∧ c = .pair d ys) ∨ (j ≠ n ∧ m[j]? = some c) := fun {j c} q => by
    by_cases e : n = j
    · subst e
      rw [List.getElem?_set_self hn] at q
      exact .inl ⟨rfl, (Option.some.inj q).symm⟩
    · rw [List.getElem?_set_ne e] at q
      exact .inr ⟨Ne.symm e, q⟩
  have old : ∀ (i : Nat) (c : Addr), MixA S ρ (m.set n (.pair d ys)) i c → MixA S ρ m i c := fun i c q => by
    rcases q with ⟨d', xs', a', v', h1, h2, h3⟩ | ⟨kss, ds, h1, h2⟩
    · rcases at_ h1 with ⟨rfl, e⟩ | ⟨_, h1⟩
      · cases e
        exact .inl ⟨d, xs, a', v', hm, h2, h3⟩
      · exact .inl ⟨d', xs', a', v', h1, h2, h3⟩
    · rcases at_ h1 with ⟨rfl, e⟩ | ⟨_, h1⟩
      · cases e
      · exact .inr ⟨kss, ds, h1, h2⟩
  refine ⟨fun c x q => ?_, fun c x q => ?_, M.dis, by rw [List.length_set]; exact M.len, fun j zs q => ?_, fun i j zs ws' c q1 q2 q3 q4 => M.inj i j zs ws' c (low i zs q1) (low j ws' q2) q3 q4, M.tab.h (.inr ⟨_, g4⟩) _, (M.dic.h (.inr ⟨_, g4⟩) _).cells (fun i kvs q => dct_set (fun _ z => by cases z) q) fun i c kvs _ q => q, ⟨fun i d' zs q => ?_, fun i kss ds q => ?_, fun i j c q1 q2 => M.mix.inj i j c (old i c q1) (old j c q2), fun i j c zs q1 q2 => M.mix.crs i j c zs (old i c q1) (low j zs q2)⟩⟩
  · rw [upd_ne (ne_of_none q g6)]; exact M.sub c x q
  · rw [upd_ne (ne_of_none q g7)]; exact M.gsub c x q
  · obtain ⟨c, us, k1, k2, k3, k4, k5⟩ := M.cell j zs (low j zs q)
    refine ⟨c, us, k1, ?_, k3, k4, k5⟩
    rw [upd_ne (fun z => M.mix.crs n j b zs hA (low j zs q) (by rw [← z]; exact k1))]
    exact k2
  · rcases at_ q with ⟨rfl, e⟩ | ⟨ne, q⟩
    · cases e
      exact ⟨a, b, v, ws, ha, hS, g3, upd_same, r, g6, g7⟩
    · obtain ⟨a2, b2, v2, vs2, k1, k2, k3, k4, k5⟩ := M.mix.pair i d' zs q
      refine ⟨a2, b2, v2, vs2, k1, k2, k3, ?_, k5⟩
      rw [upd_ne (fun z => ne (M.mix.inj i n b (.inl ⟨d', zs, a2, v2, q, k1, by rw [← z]; exact k2⟩) hA))]
      exact k4
  · rcases at_ q with ⟨rfl, e⟩ | ⟨ne, q⟩
    · cases e
    · obtain ⟨a2, es, vs2, k1, k2, k3⟩ := M.mix.dtc i kss ds q
      refine ⟨a2, es, vs2, k1, ?_, k3⟩
      rw [upd_ne (fun z => ne (M.mix.inj i n b (.inr ⟨kss, ds, q, by rw [← z]; exact k1⟩) hA))]
      exact k2
end
section
variable {X : Cx} {W : WX} {a b e : Expr} {pos : Pos} {fs : En → P (List SV)} {fa fb f : En → P SV}
def isPr (c : Option Cell) : Bool := match c with
  | some (.pair _ _) => true
  | _ => false
def appPC (env : En) (n : Nat) (d : D) (c : Option Cell) : P Out := fun m => match c with
  | some (.pair d0 xs) => if xs.length < 16777216 then .ok (.nx env) (m.set n (.pair d0 (xs ++ [d]))) else .stuck
  | _ => .stuck
def appP2 (env : En) (n : Nat) (y : SV) : P Out := fun m => match y with
  | .dat d => appPC env n d m[n]? m
  | _ => .stuck
def appP1 (fb : En → P SV) (env : En) (x : SV) : P Out := fun m => match x with
  | .ref n => if isPr m[n]? = true then (fb env m).bnd (appP2 env n) else .stuck
  | _ => .stuck
def dAppP (fa fb : En → P SV) : DS := fun env m => (fa env m).bnd (appP1 fb env)
theorem js_appendP {apos cpos spos kpos : Pos} {jj : Nat} (ja : JE X W a fa) (jb : JE X W b fb) (hbase : attributeBase (.Subscript a (.Constant (.int 1) jj kpos) spos) "append" X.env (eval (.Subscript a (.Constant (.int 1) jj kpos) spos) X.env) = eval (.Subscript a (.Constant (.int 1) jj kpos) spos) X.env := by rfl)
    (hfew : ((backTo cpos (starEach [b] X.env)).all (fun x => !x.1) && (backToKw cpos (keywordEach [] X.env)).all (fun x => x.1.isSome)
      && decide ([b].length + ([] : List Keyword).length + (if ([] : List Keyword).isEmpty then 0 else 1) < 30)) = true := by rfl)
    (hline : (apos.endLine == cpos.line) = true := by rfl) (hs1 : starEach [b] X.env = (false, eval b X.env) :: starEach [] X.env := by rfl) (hplain : (backTo cpos (starEach [] X.env)).any (·.1) = false := by rfl)
    (hs : swapsWith (.Call (.Attribute (.Subscript a (.Constant (.int 1) jj kpos) spos) "append" apos) [b] [] cpos) none pos.line X.env = pure false := by rfl) : JS X W (.Expr (.Call (.Attribute (.Subscript a (.Constant (.int 1) jj kpos) spos) "append" apos) [b] [] cpos) pos) (dAppP fa fb) := ⟨fun {G S H ρ m env σ D} M E h => by
  refine ws_of (ps_expr (pe_bm PySem.F.plainAttrs_list PySem.F.slot_list_append PySem.F.type_list_append mt_append pe_we (pa_cons pe_we pa_nil hs1) hbase hfew hline hs1 hplain) hs) ?_
  refine we_of (pe_ix ix_seq pe_we pe_int (by exact fun _ _ => rfl)) (ja.run M E ?_)
  have h' : wpr (fa env m) (fun x m' => wpr (appP1 fb env x m') (QS X G S ρ D) (QXs X W G S ρ)) (QXs X W G S ρ) := by
    unfold dAppP at h
    cases e : fa env m with
    | ok x m' => rw [e] at h; exact h
    | exc y m' => rw [e] at h; exact h
    | stuck => rw [e] at h; exact h
  refine wpr_mono h' (fun x m1 hx => ?_) fun _ _ z => qx_of z
  intro S1 H1 ρ1 xv e1 M1 rx
  unfold appP1 at hx
  split at hx
  · rename_i n
    split at hx
    · rename_i hp
      obtain ⟨d0, xs0, hc⟩ : ∃ d0 xs0, m1[n]? = some (.pair d0 xs0) := by
        unfold isPr at hp
        split at hp
        · rename_i d0 xs0 hc; exact ⟨d0, xs0, hc⟩
        · cases hp
      obtain ⟨a', z1, rfl⟩ := rx
      obtain ⟨a2, p, v, vs, g1, g2, g3, g4, g5, g6, g7⟩ := M1.mix.pair n d0 xs0 hc
      rw [z1] at g1
      cases g1
      refine .inr (.inl ⟨a', [v, .ref p], 1, .ref p, rfl, rfl, .inl (.inl (M1.sub _ _ g2)), rfl, ?_⟩)
      refine ⟨.inl ⟨rfl, vs, .inl (.inl g4)⟩, jb.run M1 (E.mono e1) (wpr_mono (wpr_bnd hx) (fun y m2 hy => ?_) fun _ _ z => qx_ext e1 (qx_of z))⟩
      intro S2 H2 ρ2 yv e2 M2 ry
      unfold appP2 at hy
      split at hy
      · rename_i d
        unfold appPC at hy
        split at hy
        · rename_i d1 xs hxs
          split at hy
          · rename_i hl
            obtain ⟨a3, p3, v3, ws, k1, k2, k3, k4, k5, k6, k7⟩ := M2.mix.pair n d1 xs hxs
            have ea := e2.r n _ z1
            rw [k1] at ea
            cases ea
            have eb := e2.s _ _ g2
            rw [k2] at eb
            cases eb
            refine ⟨p, ws, yv, rfl, rfl, k4, by rw [k5.length, sizeLine_eq]; exact hl, ?_⟩
            exact hy S2 _ ρ2 σ (e1.trans e2) (M2.writeP hxs k1 k2 (k5.append (.cons ry .nil))) ((E.mono e1).mono e2)
          · exact hy.elim
        · exact hy.elim
      · exact hy.elim
    · exact hx.elim
  · exact hx.elim⟩
/-! ### for x in (e1, e2): own things -/
theorem paired_at {α β : Type} {F : α → β → Prop} : ∀ {vs : List α} {xs : List β} {i : Nat} {x : β}, Paired F vs xs → xs[i]? = some x → ∃ v, vs[i]? = some v ∧ F v x
  | _, _, _, _, .nil, e => by simp at e
  | _, _, 0, _, .cons r _, e => by
    simp at e
    subst e
    exact ⟨_, rfl, r⟩
  | _, _, i + 1, x, .cons _ t, e => by
    obtain ⟨v, h1, h2⟩ := paired_at (i := i) (x := x) t (by simpa using e)
    exact ⟨v, by simpa using h1, h2⟩
def loopT (i : Nat) (body : DS) : List SV → En → P Out
  | [], env => P.ret (.nx env)
  | v :: r, env => fun m => ((body (env.set i (some v))).bnd fun o => match o with
      | .nx e => loopT i body r e
      | .ct e => loopT i body r e
      | .bk e => P.ret (.nx e)
      | .rt v => P.ret (.rt v)) m
def dForT (i : Nat) (fs : En → P (List SV)) (body : DS) : DS := fun env => (fs env).bnd fun vs m => if vs.length ≤ 16777216 then loopT i body vs env m else .stuck
theorem js_forT {es : List Expr} {kk : Nat} {x : Str} {xpos tpos : Pos} {body : List Stmt} {i : Nat} {g : DS} (hp : PassesOwn (model X.prog X.w) X.A X.env X.xe) (hc : X.calm = true) (hN : X.N.Nodup) (ja : JA X W es fs) (jb : JB X W body g)
    (hi : X.N[i]? = some x := by rfl) (hx : Loc X.env.scope x := by first | exact Or.inl rfl | exact Or.inr rfl) (hf : X.fn x = true ∨ X.env.scope.names.lookup x = some .local := by first | exact .inl rfl | exact .inr rfl | assumption)
    (hs : ∀ x, foldedSetIterable (.Tuple es kk tpos) X.env x = pure x := by intro _; rfl) : JS X W (.For (.Name x xpos) (.Tuple es kk tpos) body [] pos) (dForT i fs g) := ⟨fun {G S H ρ m env σ D} M E h => by
  refine ws_of (ps_for hp hc pi_wi pg_wg pss_wss hs) ?_
  have key : ∀ {Rr : It → Hp → Prop}, WE X (.Tuple es kk tpos) σ H (fun x H1 => ∃ q xs, x = .ref q ∧ SqT X.K H1 q xs ∧ Rr (Itt X.K q) H1) → WI X (.Name x xpos) (.Tuple es kk tpos) σ H Rr := fun {Rr} w pins s I =>
    thn (w pins s I) fun v s1 ⟨x, H1, I1, r1, q, xs, ex, h1, h2⟩ => by
      subst ex
      cases r1
      exact iter_tup I1 h1 h2
  refine key (we_of (pe_tup pa_wa) (ja.run M E (wpr_mono (wpr_bnd h) (fun vs m1 hv => ?_) fun _ _ z => qx_of z)))
  intro S1 H1 ρ1 xv e1 M1 rx
  split at hv
  · rename_i hl
    have hlen : xv.length = vs.length := Paired.length rx
    refine ⟨by rw [hlen, sizeLine_eq]; exact hl, fun p hp' => ?_⟩
    obtain ⟨s1, M2⟩ := M1.grow hp' (.tup xv)
    have e2 : Ext S1 ρ1 (upd S1 p (.tup xv)) ρ1 := ⟨s1, fun _ _ q => q⟩
    have rx2 := paired_mono e2 rx
    have hS : upd S1 p (.tup xv) p = some (.tup xv) := upd_same
    refine ⟨p, xv, rfl, .inl (.inl (M2.sub _ _ hS)), fun i' k σ' H' => ∃ S' ρ' m' env', Ext (upd S1 p (.tup xv)) ρ1 S' ρ' ∧ MR (gd X) G S' H' ρ' m' ∧ ER (gd X) S' ρ' env' σ' ∧ i' + k = vs.length ∧ wpr (loopT i g (vs.drop i') env' m') (QS X G S ρ D) (QXs X W G S ρ),
      ⟨vs.length, _, ρ1, m1, env, Ext.refl _ _, M2, (E.mono e1).mono e2, Nat.zero_add _, by rw [List.drop_zero]; exact hv⟩, ?_⟩
    rintro i' k σ' H' ⟨S', ρ', m', env', x1, x2, x3, x4, x5⟩
    have hq : SqT X.K H' p xv := .inl (.inl (x2.sub _ _ (x1.s _ _ hS)))
    cases hd : vs[i']? with
    | none =>
      have hge : vs.length ≤ i' := List.getElem?_eq_none_iff.mp hd
      rw [List.drop_of_length_le hge] at x5
      exact .inl ⟨⟨xv, hq, by omega⟩, x5 S' H' ρ' σ' ((e1.trans e2).trans x1) x2 x3⟩
    | some d =>
      obtain ⟨hlt, hdd⟩ := List.getElem?_eq_some_iff.mp hd
      rw [List.drop_eq_getElem_cons hlt, hdd] at x5
      obtain ⟨v, hv2, rv⟩ : ∃ v, xv[i']? = some v ∧ RSV (gd X) (upd S1 p (.tup xv)) ρ1 v d := paired_at rx2 hd
      refine .inr ⟨⟨xv, v, hq, hv2⟩, fun σ2 H2 => ∃ S2 ρ2 m2 env2, Ext (upd S1 p (.tup xv)) ρ1 S2 ρ2 ∧ MR (gd X) G S2 H2 ρ2 m2 ∧ ER (gd X) S2 ρ2 env2 σ2 ∧ wpr (loopT i g (vs.drop (i' + 1)) env2 m2) (QS X G S ρ D) (QXs X W G S ρ), fun σ2 H2 hN => ?_, fun y H2 hy => ?_⟩
      · obtain ⟨S2, ρ2, m2, env2, y1, y2, y3, y4⟩ := hN
        exact ⟨k - 1, by omega, S2, ρ2, m2, env2, y1, y2, y3, by omega, y4⟩
      · obtain ⟨ee, yy⟩ := hy
        subst ee
        have ev := yy xv hq
        rw [hv2] at ev
        cases ev
        refine wg_of (pg_name hN hi hx hf) ?_
        refine jb.run x2 (x3.set i (rv.mono x1)) ?_
        have e02 : Ext S ρ S' ρ' := (e1.trans e2).trans x1
        unfold loopT at x5
        refine wpr_mono (wpr_bnd x5) (fun o m3 ho => ?_) fun _ _ z => qxs_ext e02 z
        cases o with
        | nx env4 => exact fun S4 H4 ρ4 σ4 e4 M4 E4 => ⟨S4, ρ4, m3, env4, x1.trans e4, M4, E4, ho⟩
        | ct env4 => exact fun S4 H4 ρ4 σ4 e4 M4 E4 => ⟨S4, ρ4, m3, env4, x1.trans e4, M4, E4, ho⟩
        | bk env4 => exact fun S4 H4 ρ4 σ4 e4 M4 E4 => ho S4 H4 ρ4 σ4 (e02.trans e4) M4 E4
        | rt v => exact fun S4 H4 ρ4 σ4 e4 M4 E4 => ho S4 H4 ρ4 σ4 (e02.trans e4) M4 E4
  · exact hv.elim⟩
end
end PL

/-! PL27: list(zip(a, b)) of two lists. -/
namespace ZL
open PySem PySem.W PySem.Calls PyProof.Rows PyProof.V PySem.Spec
theorem nolen_zip : typeLookup (.type "zip") "__len__" = pure none := by rw [typeLookup_type, builtinLookup_eq_fast]; kernel_rfl
theorem nohint_zip : typeLookup (.type "zip") "__length_hint__" = pure none := by rw [typeLookup_type, builtinLookup_eq_fast]; kernel_rfl
structure ZSt (h : Heap) (z TI TO i1 i2 l1 l2 S : Addr) (xs ys : Array Value) (i : Nat) : Prop where
  ti : IsPair h TI (.ref i1) (.ref i2)
  h1 : h.IsListIter i1 l1 i
  h2 : h.IsListIter i2 l2 i
  l1 : h.IsList l1 xs
  l2 : h.IsList l2 ys
  z : (IsZip h z TI TO .none ∧ ∃ a b, IsPair h TO a b) ∨ ∃ T f oT, IsZipHeld h z TI TO T f ∧ h.get? T = some oT ∧ T ≠ z ∧ T ≠ i1 ∧ T ≠ i2 ∧ T ≠ S
structure Off (S z TI TO i1 i2 l1 l2 : Addr) : Prop where
  z : z < S
  TI : TI < S
  TO : TO < S
  i1 : i1 < S
  i2 : i2 < S
  l1 : l1 < S
  l2 : l2 < S
theorem ZSt.keep {h h' : Heap} {z TI TO i1 i2 l1 l2 S : Addr} {xs ys : Array Value} {i : Nat} (st : ZSt h z TI TO i1 i2 l1 l2 S xs ys i) (O : Off S z TI TO i1 i2 l1 l2) (k : ∀ b o, b ≠ S → h.get? b = some o → h'.get? b = some o) : ZSt h' z TI TO i1 i2 l1 l2 S xs ys i := by
  refine ⟨k _ _ (Nat.ne_of_lt O.TI) st.ti, st.h1.at fun o e => k _ o (Nat.ne_of_lt O.i1) e, st.h2.at fun o e => k _ o (Nat.ne_of_lt O.i2) e, st.l1.at fun o e => k _ o (Nat.ne_of_lt O.l1) e, st.l2.at fun o e => k _ o (Nat.ne_of_lt O.l2) e, ?_⟩
  rcases st.z with ⟨hz, a, b, hTO⟩ | ⟨T, f, oT, hz, hT, r1, r2, r3, r4⟩
  · exact .inl ⟨k _ _ (Nat.ne_of_lt O.z) hz, a, b, k _ _ (Nat.ne_of_lt O.TO) hTO⟩
  · exact .inr ⟨T, f, oT, k _ _ (Nat.ne_of_lt O.z) hz, k _ _ r4 hT, r1, r2, r3, r4⟩
section
variable {prog : Program} {w : World} {A : Around} {E : Value → Shared → Prop} {s : Shared} {z TI TO i1 i2 l1 l2 S : Addr} {xs ys : Array Value} {i : Nat}
theorem nxtZ {Q : Option Value → Shared → Prop} (D : ZipApart z TI TO i1 i2 l1 l2) (st : ZSt s.heap z TI TO i1 i2 l1 l2 S xs ys i) (hS : S < s.heap.objs.size) (hx : i < xs.size) (hy : i < ys.size)
    (hQ : ∀ h', ZSt h' z TI TO i1 i2 l1 l2 S xs ys (i + 1) → IsPair h' s.heap.objs.size xs[i] ys[i] → h'.objs.size = s.heap.objs.size + 1 →
      (∀ c o, c ≠ z → c ≠ TO → c ≠ i1 → c ≠ i2 → s.heap.get? c = some o → h'.get? c = some o) → Q (some (.ref s.heap.objs.size)) { s with heap := h' }) :
    wpAny (model prog w) A (pyNext (.ref z)) Q E s := by
  have ex := Array.getElem?_eq_getElem hx
  have ey := Array.getElem?_eq_getElem hy
  have lt : ∀ {c o}, s.heap.get? c = some o → s.heap.objs.size ≠ c := fun e => Nat.ne_of_gt (Heap.lt_size e)
  have n1 : s.heap.objs.size ≠ i1 := let ⟨_, e, _⟩ := st.h1; lt e
  have n2 : s.heap.objs.size ≠ i2 := let ⟨_, e, _⟩ := st.h2; lt e
  rcases st.z with ⟨hz, a, b, hTO⟩ | ⟨T, f, oT, hz, hT, r1, r2, r3, r4⟩
  · refine wpAny_pyNext_zip_item D hz st.ti hTO st.h1 st.h2 st.l1 st.l2 ex ey fun h' a1 a2 a3 a4 a5 a6 hk => ?_
    exact hQ h' ⟨hk _ _ D.TIz D.TITO D.TIi1 D.TIi2 st.ti, a3, a4, st.l1.at fun o e => hk _ o D.l1z D.l1TO D.l1i1 D.l1i2 e, st.l2.at fun o e => hk _ o D.l2z D.l2TO D.l2i1 D.l2i2 e,
      .inr ⟨s.heap.objs.size, false, _, a1, a5, lt hz, n1, n2, Nat.ne_of_gt hS⟩⟩ a5 a6 hk
  · refine wpAny_pyNext_zip_item_held D hz hT st.ti st.h1 st.h2 st.l1 st.l2 ex ey fun h' a1 a3 a4 a5 a6 hk => ?_
    exact hQ h' ⟨hk _ _ D.TIz D.TIi1 D.TIi2 st.ti, a3, a4, st.l1.at fun o e => hk _ o D.l1z D.l1i1 D.l1i2 e, st.l2.at fun o e => hk _ o D.l2z D.l2i1 D.l2i2 e,
      .inr ⟨T, true, oT, a1, hk _ _ r1 r2 r3 hT, r1, r2, r3, r4⟩⟩ a5 a6 fun c o c1 _ c3 c4 e => hk c o c1 c3 c4 e
theorem finZ {Q : Option Value → Shared → Prop} (hh : A.handled = none) (D : ZipApart z TI TO i1 i2 l1 l2) (st : ZSt s.heap z TI TO i1 i2 l1 l2 S xs ys i) (hge : xs.size ≤ i ∨ ys.size ≤ i)
    (hQ : ∀ h', (∀ c o, c ≠ z → c ≠ TO → c ≠ i1 → c ≠ i2 → s.heap.get? c = some o → h'.get? c = some o) → Q none { s with heap := h' }) : wpAny (model prog w) A (pyNext (.ref z)) Q E s := by
  have hend : xs[i]? = none ∨ ys[i]? = none := hge.elim (fun h => .inl (Array.getElem?_eq_none h)) fun h => .inr (Array.getElem?_eq_none h)
  rcases st.z with ⟨hz, a, b, hTO⟩ | ⟨T, f, oT, hz, hT, r1, r2, r3, r4⟩
  · exact wpAny_pyNext_zip_end hh D hz st.ti hTO st.h1 st.h2 st.l1 st.l2 hend hQ
  · exact wpAny_pyNext_zip_end_held hh D hz hT st.ti st.h1 st.h2 st.l1 st.l2 hend fun h' hk => hQ h' fun c o c1 _ c3 c4 e => hk c o c1 c3 c4 e
end
structure Made (xs ys : Array Value) (lo : Addr) (h : Heap) (as : List Addr) : Prop where
  rise : as.Pairwise (· < ·)
  above : ∀ a ∈ as, lo < a
  pairs : ∀ (j : Nat) (a : Addr), as[j]? = some a → ∃ x y, xs[j]? = some x ∧ ys[j]? = some y ∧ IsPair h a x y
theorem Made.there {xs ys : Array Value} {lo : Addr} {h : Heap} {as : List Addr} (g : Made xs ys lo h as) {a : Addr} (ha : a ∈ as) : a < h.objs.size := by
  obtain ⟨j, hj⟩ := List.mem_iff_getElem?.mp ha
  obtain ⟨_, _, _, _, e⟩ := g.pairs j a hj
  exact Heap.lt_size e
section
variable {prog : Program} {w : World} {A : Around} {s : Shared} {R : Result → Shared → Prop} {z TI TO i1 i2 l1 l2 S : Addr} {xs ys : Array Value}
theorem loopZ (hh : A.handled = none) (D : ZipApart z TI TO i1 i2 l1 l2) (O : Off S z TI TO i1 i2 l1 l2) (hn : min xs.size ys.size ≤ sizeLine) (res : Value) {h₁ : Heap}
    (hR : ∀ h' tk acc c as, (∀ b o, b ≠ S → b ≠ z → b ≠ TO → b ≠ i1 → b ≠ i2 → h₁.get? b = some o → h'.get? b = some o) → h'.get? S = some { cls := .type "list", dict := none, data := .seq acc c, slots := #[] } → as.length = min xs.size ys.size → Made xs ys S h' as →
      acc.toList = as.map Value.ref → R (.ok (.ret res)) { s with heap := h', toks := tk }) :
    ∀ (k i : Nat) (h : Heap) (tk c : Nat) (acc : Array Value) (as : List Addr), min xs.size ys.size - i = k → i ≤ min xs.size ys.size → ZSt h z TI TO i1 i2 l1 l2 S xs ys i → (∀ b o, b ≠ S → b ≠ z → b ≠ TO → b ≠ i1 → b ≠ i2 → h₁.get? b = some o → h.get? b = some o) →
      h.get? S = some { cls := .type "list", dict := none, data := .seq acc c, slots := #[] } → acc.toList = as.map Value.ref → as.length = i → Made xs ys S h as →
      codeAny (model prog w) A (.builtin "list.extend.loop" ⟨[.ref S, .ref z, res], []⟩) R { s with heap := h, toks := tk } := by
  have nS : S ≠ z ∧ S ≠ TO ∧ S ≠ i1 ∧ S ≠ i2 := ⟨Nat.ne_of_gt O.z, Nat.ne_of_gt O.TO, Nat.ne_of_gt O.i1, Nat.ne_of_gt O.i2⟩
  have up4 : ∀ {a : Addr}, S < a → a ≠ z ∧ a ≠ TO ∧ a ≠ i1 ∧ a ≠ i2 := fun {a} h => ⟨Nat.ne_of_gt (Nat.lt_trans O.z h), Nat.ne_of_gt (Nat.lt_trans O.TO h), Nat.ne_of_gt (Nat.lt_trans O.i1 h), Nat.ne_of_gt (Nat.lt_trans O.i2 h)⟩
  intro k
  induction k with
  | zero =>
    intro i h tk c acc as hk hi hst hkeep hS hacc hal hG
    refine codeAny_builtin PySem.F.entry_extend_loop ?_
    rw [Around.under_plainId PySem.F.plain_extend_loop _]
    show wpAny _ A.in1 (pyNext (.ref z) >>= _) _ _ _
    refine wpAny_bind (finZ (s := { s with heap := h, toks := tk }) (A := A.in1) hh D hst (by omega) fun h' he => ?_)
    refine wpAny_pure (hR h' tk acc c as (fun b o h1 h2 h3 h4 h5 e => he b o h2 h3 h4 h5 (hkeep b o h1 h2 h3 h4 h5 e)) (he S _ nS.1 nS.2.1 nS.2.2.1 nS.2.2.2 hS) (by omega) ⟨hG.rise, hG.above, fun j a hj => ?_⟩ hacc)
    obtain ⟨x, y, e1, e2, e3⟩ := hG.pairs j a hj
    obtain ⟨u1, u2, u3, u4⟩ := up4 (hG.above a (List.mem_of_getElem? hj))
    exact ⟨x, y, e1, e2, he a _ u1 u2 u3 u4 e3⟩
  | succ k ih =>
    intro i h tk c acc as hk hi hst hkeep hS hacc hal hG
    have hx : i < xs.size := by omega
    have hy : i < ys.size := by omega
    have hsz : acc.size = i := by rw [← Array.length_toList, hacc, List.length_map, hal]
    have hSl : S < h.objs.size := Heap.lt_size hS
    refine codeAny_builtin PySem.F.entry_extend_loop ?_
    rw [Around.under_plainId PySem.F.plain_extend_loop _]
    show wpAny _ A.in1 (pyNext (.ref z) >>= _) _ _ _
    refine wpAny_bind (nxtZ (s := { s with heap := h, toks := tk }) (S := S) D hst hSl hx hy fun h' hst' ht hz hkp => ?_)
    dsimp only at ht hz hkp ⊢
    have hS' := hkp S _ nS.1 nS.2.1 nS.2.2.1 nS.2.2.2 hS
    have up : ∀ b o, b ≠ S → h'.get? b = some o → (h'.update S (Obj.mapSeq (·.push (Value.ref h.objs.size)))).get? b = some o := fun b o hb e => (Heap.get?_update_other _ _ (Ne.symm hb)).trans e
    show wpAny _ A.in1 (updateSeq S (·.push (Value.ref h.objs.size)) >>= _) _ _ _
    refine wpAny_bind ?_
    refine wpAny_updateSeq hS' rfl (wpAny_pure ⟨plainId_quiet PySem.F.plain_extend_loop _, ih (i + 1) _ tk _ (acc.push (Value.ref h.objs.size)) (as ++ [h.objs.size]) (by omega) (by omega) (hst'.keep O up)
      (fun b o h1 h2 h3 h4 h5 e => up b o h1 (hkp b o h2 h3 h4 h5 (hkeep b o h1 h2 h3 h4 h5 e))) (Heap.get?_update_self _ hS' rfl) (by rw [Array.toList_push, hacc, List.map_append]; rfl) (by rw [List.length_append, hal]; rfl) ⟨?_, ?_, ?_⟩⟩) (by rw [hsz]; omega) (by show (acc.push (Value.ref h.objs.size)).size ≤ sizeLine + 1; rw [Array.size_push, hsz]; omega)
    · refine List.pairwise_append.mpr ⟨hG.rise, List.pairwise_singleton _ _, fun a ha b hb => ?_⟩
      rw [List.mem_singleton.mp hb]
      exact hG.there ha
    · intro a ha
      rcases List.mem_append.mp ha with ha | ha
      · exact hG.above a ha
      · rw [List.mem_singleton.mp ha]; exact hSl
    · intro j b hj
      rcases Nat.lt_trichotomy j as.length with h1 | h1 | h1
      · rw [List.getElem?_append_left h1] at hj
        obtain ⟨x, y, e1, e2, e3⟩ := hG.pairs j b hj
        have hb := hG.above b (List.mem_of_getElem? hj)
        obtain ⟨u1, u2, u3, u4⟩ := up4 hb
        exact ⟨x, y, e1, e2, up b _ (Nat.ne_of_gt hb) (hkp b _ u1 u2 u3 u4 e3)⟩
      · subst h1
        have hb : h.objs.size = b := by simpa using hj
        subst hb
        subst hal
        exact ⟨_, _, Array.getElem?_eq_getElem hx, Array.getElem?_eq_getElem hy, up _ _ (Nat.ne_of_gt hSl) ht⟩
      · have hnone : (as ++ [h.objs.size])[j]? = none := List.getElem?_eq_none (by rw [List.length_append, List.length_singleton]; omega)
        rw [hnone] at hj; cases hj
end
section
variable {prog : Program} {w : World} {A : Around} {E : Value → Shared → Prop} {s : Shared} {z TI TO i1 i2 l1 l2 S : Addr} {xs ys : Array Value}
theorem extZ {R : Result → Shared → Prop} (hh : A.handled = none) (D : ZipApart z TI TO i1 i2 l1 l2) (O : Off S z TI TO i1 i2 l1 l2) (hz : IsZip s.heap z TI TO .none) (hTO : ∃ a b, IsPair s.heap TO a b) (hTI : IsPair s.heap TI (.ref i1) (.ref i2))
    (h1 : s.heap.IsListIter i1 l1 0) (h2 : s.heap.IsListIter i2 l2 0) (hl1 : s.heap.IsList l1 xs) (hl2 : s.heap.IsList l2 ys) (res : Value) (c₀ : Nat) (hS : s.heap.get? S = some { cls := .type "list", data := .seq #[] c₀ })
    (hR : ∀ h' tk acc c as, (∀ b o, b ≠ S → b ≠ z → b ≠ TO → b ≠ i1 → b ≠ i2 → s.heap.get? b = some o → h'.get? b = some o) → h'.get? S = some { cls := .type "list", dict := none, data := .seq acc c, slots := #[] } → as.length = min xs.size ys.size → Made xs ys S h' as →
      acc.toList = as.map Value.ref → R (.ok (.ret res)) { s with heap := h', toks := tk }) (hn : min xs.size ys.size ≤ sizeLine) :
    wpAny (model prog w) A.in1 (Builtin.List.listExtendWith (.ref S) (.ref z) res)
      (fun fin s' => match fin with | .done f => R (.ok f) s' | .again c' => c'.quiet = true ∧ codeAny (model prog w) A c' R s') (fun e s' => R (.error e) s') s := by
  have hT : s.TypeIs (.ref z) "zip" := ⟨_, hz, rfl⟩
  obtain ⟨a0, b0, hTO⟩ := hTO
  have st : ZSt s.heap z TI TO i1 i2 l1 l2 S xs ys 0 := ⟨hTI, h1, h2, hl1, hl2, .inl ⟨hz, a0, b0, hTO⟩⟩
  unfold Builtin.List.listExtendWith
  refine wpAny_bind (wpAny_typeOf (T := "zip") hT ?_)
  have e1 : Builtin.List.listSameRef (.ref S) (.ref z) = false := by simp [Builtin.List.listSameRef, Nat.ne_of_gt O.z]
  have e2 : (Value.type "zip" == Value.type "list") = false := by decide
  have e3 : (Value.type "zip" == Value.type "tuple") = false := by decide
  simp only [e1, e2, e3, Bool.or_false, Bool.false_eq_true, if_false]
  refine wpAny_bind (wpAny_pyIter_zip hz ?_)
  refine wpAny_bind (wpAny_holding ?_)
  unfold Builtin.List.listLengthHint
  refine wpAny_bind (wpAny_specialOf hT nolen_zip ?_)
  show wpAny _ A.in1 (specialOf (Value.ref z) (Str.ofString "__length_hint__") >>= _) _ _ _
  refine wpAny_bind (wpAny_specialOf hT nohint_zip ?_)
  refine wpAny_pure ?_
  show wpAny _ A.in1 (rule "list.extend.makes-room" >>= fun _ => Builtin.List.listTouch (.ref S) >>= fun _ =>
    again (.builtin "list.extend.loop" ⟨[.ref S, .ref z, res], []⟩)) _ _ _
  refine wpAny_bind (wpAny_rule ?_)
  refine wpAny_bind ?_
  show wpAny _ A.in1 (updateSeq S (·.push .none) >>= fun _ => updateSeq S (·.pop)) _ _ _
  refine wpAny_bind (wpAny_updateSeq hS rfl ?_)
  have hS₂ := Heap.get?_update_self (Obj.mapSeq (·.push Value.none)) hS rfl
  refine wpAny_updateSeq (hz := by seq_fits) hS₂ rfl ?_
  have hS₃ := Heap.get?_update_self (Obj.mapSeq (·.pop)) hS₂ rfl
  have oth : ∀ b o, b ≠ S → s.heap.get? b = some o → ((s.heap.update S (Obj.mapSeq (·.push Value.none))).update S (Obj.mapSeq (·.pop))).get? b = some o :=
    fun b o hb e => (Heap.get?_update_other _ _ (Ne.symm hb)).trans ((Heap.get?_update_other _ _ (Ne.symm hb)).trans e)
  refine wpAny_pure ⟨plainId_quiet PySem.F.plain_extend_loop _, loopZ (s := s) (h₁ := s.heap) hh D O hn res hR (min xs.size ys.size) 0 _ s.toks _ #[] [] (Nat.sub_zero _) (Nat.zero_le _) (st.keep O oth) (fun b o hb _ _ _ _ e => oth b o hb e) hS₃ rfl rfl
    ⟨List.Pairwise.nil, (fun _ ha => nomatch ha), (fun j a hj => by simp at hj)⟩⟩
theorem callZ {Q : Value → Shared → Prop} (hh : A.handled = none) (D : ZipApart z TI TO i1 i2 l1 l2) (O : Off s.heap.objs.size z TI TO i1 i2 l1 l2) (hz : IsZip s.heap z TI TO .none) (hTO : ∃ a b, IsPair s.heap TO a b) (hTI : IsPair s.heap TI (.ref i1) (.ref i2))
    (h1 : s.heap.IsListIter i1 l1 0) (h2 : s.heap.IsListIter i2 l2 0) (hl1 : s.heap.IsList l1 xs) (hl2 : s.heap.IsList l2 ys) (hn : min xs.size ys.size ≤ sizeLine)
    (hQ : ∀ h' tk acc c as, (∀ b o, b ≠ z → b ≠ TO → b ≠ i1 → b ≠ i2 → s.heap.get? b = some o → h'.get? b = some o) → h'.get? s.heap.objs.size = some { cls := .type "list", dict := none, data := .seq acc c, slots := #[] } → as.length = min xs.size ys.size → Made xs ys s.heap.objs.size h' as →
      acc.toList = as.map Value.ref → Q (.ref s.heap.objs.size) { s with heap := h', toks := tk }) :
    wpAny (model prog w) A (call (.type "list") [.ref z]) Q E s := by
  refine callType_codes (Q₁ := fun obj s₁ => obj = .ref s.heap.objs.size ∧ s₁ = { s with heap := s.heap.push { cls := .type "list", data := .seq #[] } }) PySem.F.called_list (PySem.F.typeCall_list_1 _) PySem.F.entry_list_init
    (code_list_new _ ⟨rfl, rfl⟩) fun obj s₁ h₁ => ?_
  obtain ⟨rfl, rfl⟩ := h₁
  have hS : (s.heap.push { cls := .type "list", data := .seq #[] }).get? s.heap.objs.size = some { cls := .type "list", data := .seq #[] } := Heap.get?_push_size _ rfl
  refine ⟨⟨_, hS, rfl⟩, PySem.F.args_list_init_2 _ _, ?_⟩
  show wpAny _ _ (do let old ← Builtin.List.listItems (.ref s.heap.objs.size); Builtin.List.listUpdate (.ref s.heap.objs.size) (fun _ => #[]); letGo old.toList.reverse; Builtin.List.listExtendWith (.ref s.heap.objs.size) (.ref z) .none) _ _ _
  refine wpAny_bind ?_
  unfold Builtin.List.listItems
  refine wpAny_bind (wpAny_seqItems hS rfl (wpAny_pure ?_))
  show wpAny _ _ (updateSeq s.heap.objs.size (fun _ => #[]) >>= fun _ => letGo (#[] : Array Value).toList.reverse >>= fun _ => Builtin.List.listExtendWith (.ref s.heap.objs.size) (.ref z) .none) _ _ _
  refine wpAny_bind (wpAny_updateSeq hS rfl ?_)
  have hS₂ := Heap.get?_update_self (Obj.mapSeq (fun _ => (#[] : Array Value))) hS rfl
  have oth : ∀ b o, s.heap.get? b = some o → ((s.heap.push { cls := .type "list", data := .seq #[] }).update s.heap.objs.size (Obj.mapSeq (fun _ => (#[] : Array Value)))).get? b = some o :=
    fun b o e => (Heap.get?_update_other _ _ (Nat.ne_of_gt (Heap.lt_size e))).trans (Heap.get?_push_of_some _ e)
  refine wpAny_bind (wpAny_letGo ?_)
  obtain ⟨a0, b0, hTO⟩ := hTO
  refine extZ (A := A.in1) hh D O (oth _ _ hz) ⟨a0, b0, oth _ _ hTO⟩ (oth _ _ hTI) (h1.at fun o e => oth _ o e) (h2.at fun o e => oth _ o e) (hl1.at fun o e => oth _ o e) (hl2.at fun o e => oth _ o e) .none _ hS₂ (fun h' tk acc c as hk hS' hl hG hacc => ?_) hn
  exact ⟨rfl, hQ h' tk acc c as (fun b o c1 c2 c3 c4 e => hk b o (Nat.ne_of_lt (Heap.lt_size e)) c1 c2 c3 c4 (oth b o e)) hS' hl hG hacc⟩
end
end ZL
namespace PL
open PySem PySem.Spec PyProof.Rows L2
section
variable {X : Cx} {pins : List (Addr × Obj)} {σ : St} {s : Shared} {h' : Heap} {tk : Nat}
/-- pairs that were laid become known -/
theorem take_pairs {H0 : Hp} (I0 : Inv X pins σ H0 s) {G : Hp} {ρ : List Addr} {m : Mem} : ∀ (L : List (Addr × V × V)) {H S : Hp}, Inv X pins σ H { s with heap := h', toks := tk } → MR (gd X) G S H ρ m → (L.map (·.1)).Nodup →
    (∀ q ∈ L, s.heap.objs.size ≤ q.1 ∧ H q.1 = none ∧ ∃ ux uy, RelV q.2.1 ux ∧ RelV q.2.2 uy ∧ h'.get? q.1 = some { cls := .type "tuple", data := .seq #[ux, uy] }) →
    ∃ H' S', Inv X pins σ H' { s with heap := h', toks := tk } ∧ Same S S' ∧ MR (gd X) G S' H' ρ m ∧ (∀ q ∈ L, S' q.1 = some (.tup [q.2.1, q.2.2])) ∧ ∀ b, (∀ q ∈ L, q.1 ≠ b) → H' b = H b
  | [], H, S, I, M, _, _ => ⟨H, S, I, Same.refl S, M, (fun q hq => by cases hq), fun b _ => rfl⟩
  | q :: L, H, S, I, M, hn, h => by
    obtain ⟨h1, h2, ux, uy, r1, r2, e⟩ := h q (List.mem_cons_self ..)
    have new : ObjOk X.prog X.w (upd H q.1 (.tup [q.2.1, q.2.2])) h' q.1 (.tup [q.2.1, q.2.2]) := ⟨by rw [sizeLine_eq]; show 2 ≤ 16777216; omega, [ux, uy], .cons r1 (.cons r2 .nil), _, e, rfl, 0, rfl⟩
    have I2 : Inv X pins σ (upd H q.1 (.tup [q.2.1, q.2.2])) { s with heap := h', toks := tk } := I.take (h' := h') (t' := tk) (fun b ob _ e => e) (I0.fpOk h1 h2) new
    obtain ⟨s1, M2⟩ := M.grow h2 (.tup [q.2.1, q.2.2])
    rw [List.map_cons, List.nodup_cons] at hn
    have ne : ∀ p ∈ L, p.1 ≠ q.1 := fun p hp z => hn.1 (by rw [← z]; exact List.mem_map.mpr ⟨p, hp, rfl⟩)
    obtain ⟨H', S', I3, s2, M3, k1, k2⟩ := take_pairs I0 L I2 M2 hn.2 fun p hp => by
      obtain ⟨c1, c2, c3⟩ := h p (List.mem_cons_of_mem _ hp)
      exact ⟨c1, by rw [upd_ne (ne p hp)]; exact c2, c3⟩
    refine ⟨H', S', I3, s1.trans s2, M3, fun p hp => ?_, fun b hb => ?_⟩
    · rcases List.mem_cons.mp hp with rfl | hp
      · exact s2 _ _ upd_same
      · exact k1 p hp
    · rw [k2 b fun p hp => hb p (List.mem_cons_of_mem _ hp), upd_ne (fun z => hb q (List.mem_cons_self ..) z.symm)]
end
def zip2D (xs ys : List D) : List D := List.zipWith (fun x y => .tup [x, y]) xs ys
theorem rp_pairs {Γ : Gd} {S : Hp} : ∀ {as : List Addr} {vs ws : List V} {xs ys : List D}, RpAll Γ S vs xs → RpAll Γ S ws ys → as.length = min vs.length ws.length → (∀ q ∈ as.zip (vs.zip ws), S q.1 = some (.tup [q.2.1, q.2.2])) → RpAll Γ S (as.map V.ref) (zip2D xs ys)
  | [], vs, ws, xs, ys, r1, r2, hl, _ => by
    cases r1 with
    | nil => exact .nil
    | cons a b =>
      cases r2 with
      | nil => exact .nil
      | cons c d => simp at hl
  | a :: as, vs, ws, xs, ys, r1, r2, hl, h => by
    cases r1 with
    | nil => simp at hl
    | cons p1 p2 =>
      cases r2 with
      | nil => simp at hl
      | cons q1 q2 =>
        refine .cons (.tup (.inl (.inl (h _ (List.mem_cons_self ..)))) (.cons p1 (.cons q1 .nil))) (rp_pairs p2 q2 (by simp at hl; omega) fun q hq => h q (List.mem_cons_of_mem _ hq))
def lzipV (xs : List SV) : P SV := fun m => match xs with
  | [.dat (.lst a), .dat (.lst b)] => if a.length ≤ 16777216 then .ok (.dat (.lst (zip2D a b))) m else .stuck
  | _ => .stuck
theorem je_listZip {X : Cx} {W : WX} {a b : Expr} {fs : En → P (List SV)} {p p2 q pos : Pos} (hc : X.calm = true) (hg : Gl X "list") (hm : X.mg "list" = none) (hg2 : Gl X "zip") (hm2 : X.mg "zip" = none) (ja : JA X W [a, b] fs)
    (hs : starEach [a, b] X.env = (false, eval a X.env) :: starEach [b] X.env := by rfl) (hpl : (backTo q (starEach [b] X.env)).any (·.1) = false := by rfl)
    (na : starEach [.Call (.Name "zip" p2) [a, b] [] q] X.env = (false, eval (.Call (.Name "zip" p2) [a, b] [] q) X.env) :: starEach [] X.env := by rfl) :
    JE X W (.Call (.Name "list" p) [.Call (.Name "zip" p2) [a, b] [] q] [] pos) (dA lzipV fs) := ⟨fun {G S H ρ m env σ Q} M E h pins s I => by
  refine Call_ (ld_blt I hg hm boot_list ?_)
  refine PyProof.Rows.callWith_type1 (PyProof.Rows.args_cons ?_ na) na rfl
  refine Call_ (ld_blt I hg2 hm2 PyProof.Rows.boot_zip ?_)
  refine PyProof.Rows.callWith_type1 (thn (ja.run (Q := fun vs H1 => ∃ (S1 : Hp) (ρ1 : List Addr) (m1 : Mem) (a1 a2 : Addr) (v1 v2 : List V) (d1 d2 : List D), vs = [.ref a1, .ref a2] ∧ MR (gd X) G S1 H1 ρ1 m1 ∧ Ext S ρ S1 ρ1 ∧ S1 a1 = some (.lst v1) ∧ S1 a2 = some (.lst v2) ∧ RpAll (gd X) S1 v1 d1 ∧ RpAll (gd X) S1 v2 d2 ∧ d1.length ≤ 16777216 ∧ QV X G S ρ Q (.dat (.lst (zip2D d1 d2))) m1) M E (wpr_monoQ (wpr_bnd h) fun xs m1 hx => ?_) q pins s I) fun us s1 ⟨vs, H1, I1, r1, q1⟩ => ?_) hs hpl
  · intro S1 H1 ρ1 xv e1 M1 rx
    unfold lzipV at hx
    split at hx
    · split at hx
      · rename_i d1 d2 hl
        obtain ⟨v, w, rfl, r1, r2⟩ := paired2 rx
        have r1 : Rp (gd X) S1 v (.lst d1) := r1
        have r2 : Rp (gd X) S1 w (.lst d2) := r2
        cases r1 with
        | lst h1 k1 =>
          cases r2 with
          | lst h2 k2 => exact ⟨S1, ρ1, m1, _, _, _, _, d1, d2, rfl, M1, e1, h1, h2, k1, k2, hl, hx⟩
      · exact hx.elim
    · exact hx.elim
  · obtain ⟨S1, ρ1, m1, a1, a2, v1, v2, d1, d2, rfl, M1, e1, h1, h2, k1, k2, hl, hq⟩ := q1
    obtain ⟨u1, u2, rfl, ru1, ru2⟩ := vals2 r1
    cases ru1
    cases ru2
    obtain ⟨its, rv, p1, _⟩ := I1.list (.inl (.inl (M1.sub _ _ h1)) : SqL X.K H1 a1 v1)
    obtain ⟨its2, rv2, p2', _⟩ := I1.list (.inl (.inl (M1.sub _ _ h2)) : SqL X.K H1 a2 v2)
    have hl1 := rv.length
    have hl2 := rv2.length
    refine call_zip_2 p1.isList p2'.isList fun h' hz hTI hTO z1 z2 hsz hk => PyProof.Rows.args_nil ?_
    have b1 : a1 < s1.heap.objs.size := p1.lt
    have b2 : a2 < s1.heap.objs.size := p2'.lt
    refine ZL.callZ (s := { s1 with heap := h' }) (I1.ok.hd hc) (PySem.W.ktu_apart s1.heap.objs.size a1 a2 p1.lt p2'.lt) ?_ hz ⟨_, _, hTO⟩ hTI z1 z2 (p1.isList.at fun o e => hk _ o e) (p2'.isList.at fun o e => hk _ o e) ?_ fun h2' tk acc c as kp hS hlen hG hacc => ?_
    · have hlo : s1.heap.objs.size ≤ h'.objs.size := by rw [hsz]; omega
      have i5 : ∀ j : Nat, j < 5 → s1.heap.objs.size + j < h'.objs.size := fun j hj => by rw [hsz]; omega
      exact ⟨i5 4 (by omega), i5 2 (by omega), i5 3 (by omega), i5 0 (by omega), i5 1 (by omega), Nat.lt_of_lt_of_le b1 hlo, Nat.lt_of_lt_of_le b2 hlo⟩
    · rw [sizeLine_eq]
      have := k1.length
      simp only [List.size_toArray]
      omega
    · have hlo : s1.heap.objs.size ≤ h'.objs.size := by rw [hsz]; omega
      have kp0 : ∀ b o, s1.heap.get? b = some o → h2'.get? b = some o := fun b o e => by
        have hb : b < s1.heap.objs.size := Heap.lt_size e
        have nb : ∀ j : Nat, b ≠ s1.heap.objs.size + j := fun j => Nat.ne_of_lt (Nat.lt_of_lt_of_le hb (Nat.le_add_right _ _))
        exact kp b o (nb 4) (nb 3) (nb 0) (nb 1) (hk b o e)
      have I2 : Inv X pins σ H1 { s1 with heap := h2', toks := tk } := I1.kept kp0
      have lenv : as.length = min v1.length v2.length := by rw [hlen, List.size_toArray, List.size_toArray, ← hl1, ← hl2]
      have asnd : as.Nodup := List.Pairwise.imp (fun h => Nat.ne_of_lt h) hG.rise
      have fresh : ∀ b, h'.objs.size ≤ b → H1 b = none := fun b hb => I1.hok.fresh (Nat.le_trans hlo hb)
      have mz : (as.zip (v1.zip v2)).map (·.1) = as := List.map_fst_zip (by rw [List.length_zip]; omega)
      obtain ⟨H3, S3, I3, s3, M3, k3, n3⟩ := take_pairs I1 (as.zip (v1.zip v2)) I2 M1 (by rw [mz]; exact asnd) fun q hq => by
        obtain ⟨j, hj⟩ := List.mem_iff_getElem?.mp hq
        obtain ⟨j1, j2⟩ := List.getElem?_zip_eq_some.mp hj
        obtain ⟨j3, j4⟩ := List.getElem?_zip_eq_some.mp j2
        obtain ⟨x, y, g1, g2, g3⟩ := hG.pairs j q.1 j1
        have hab := hG.above q.1 (List.mem_of_getElem? j1)
        obtain ⟨ux, f1, f2⟩ := rv.get j3
        obtain ⟨uy, f3, f4⟩ := rv2.get j4
        have ex : x = ux := by
          have : its[j]? = some x := by simpa using g1
          rw [f1] at this
          exact (Option.some.inj this).symm
        have ey : y = uy := by
          have : its2[j]? = some y := by simpa using g2
          rw [f3] at this
          exact (Option.some.inj this).symm
        subst ex ey
        have hab : h'.objs.size < q.1 := hab
        exact ⟨Nat.le_trans hlo (Nat.le_of_lt hab), fresh _ (Nat.le_of_lt hab), x, y, f2, f4, g3⟩
      have hSn : H3 h'.objs.size = none := by
        rw [n3 _ fun q hq z => ?_]
        · exact fresh _ (Nat.le_refl _)
        · obtain ⟨j, hj⟩ := List.mem_iff_getElem?.mp hq
          have := hG.above q.1 (List.mem_of_getElem? (List.getElem?_zip_eq_some.mp hj).1)
          have this : h'.objs.size < q.1 := this
          rw [z] at this
          exact Nat.lt_irrefl _ this
      have hz3 : (as.map V.ref).length ≤ sizeLine := by
        rw [List.length_map, lenv, sizeLine_eq]
        have := k1.length
        omega
      have rvs : Vals (as.map V.ref) acc.toList := by rw [hacc]; exact vals_refs as
      have I4 : Inv X pins σ (upd H3 h'.objs.size (.lst (as.map V.ref))) { s1 with heap := h2', toks := tk } :=
        I3.take (h' := h2') (t' := tk) (fun b ob _ e => e) (I1.fpOk hlo hSn) ⟨hz3, acc.toList, c, rvs, by rw [Array.toArray_toList]; exact hS⟩
      obtain ⟨s4, M4⟩ := M3.grow hSn (.lst (as.map V.ref))
      have rp := rp_pairs (Γ := gd X) (k1.mono (s3.trans s4)) (k2.mono (s3.trans s4)) lenv fun q hq => s4 _ _ (k3 q hq)
      exact ⟨.ref h'.objs.size, _, I4, rfl, hq _ _ ρ1 _ (e1.trans ⟨s3.trans s4, fun _ _ z => z⟩) M4 (.lst upd_same rp)⟩⟩
end PL

/-! PL28: own dicts whose keys are tuples of ints: {}, d[k] = v, d[k]. -/
namespace PL
open PySem PySem.Spec PyProof.Rows L2
section
variable {Γ : Gd} {G S H : Hp} {ρ : List Addr} {m : Mem} {p : Addr}
theorem dtW_tbl {a : Addr} {es : List DictEntry} {ps : Array Value} : dtW a es ≠ .tbl ps := fun z => by unfold dtW at z; cases z
theorem MR.allocT (M : MR Γ G S H ρ m) (hp : H p = none) (hs : (p == sysModules) = false) : Ext S ρ S (ρ ++ [p]) ∧ MR Γ G S (upd H p (dtW p [])) (ρ ++ [p]) (m ++ [.dtc [] []]) := by
  have sp : S p = none := M.sub.free hp
  have gp : G p = none := M.gsub.free hp
  have low : ∀ (j : Nat) (ys : List D), (m ++ [Cell.dtc [] []])[j]? = some (.lst ys) → m[j]? = some (.lst ys) := fun j ys q => lst_app (fun _ z => by cases z) q
  have hin : ∀ (j : Nat) (ys : List D), m[j]? = some (.lst ys) → j < ρ.length := fun j ys q => by rw [M.len]; exact (List.getElem?_eq_some_iff.mp q).1
  have ra : ∀ {j : Nat}, j < ρ.length → (ρ ++ [p])[j]? = ρ[j]? := fun {j} hj => List.getElem?_append_left hj
  have last : ∀ {i : Nat} {c' : Cell}, ¬ i < m.length → (m ++ [Cell.dtc [] []])[i]? = some c' → i = m.length ∧ c' = .dtc [] [] := fun {i c'} hi h => by
    have := (List.getElem?_eq_some_iff.mp h).1
    simp at this
    have e : i = m.length := by omega
    subst e
    exact ⟨rfl, by simpa using h.symm⟩
  have old : ∀ (i : Nat) (c : Addr), MixA S (ρ ++ [p]) (m ++ [.dtc [] []]) i c → MixA S ρ m i c ∨ (i = m.length ∧ c = p) := fun i c q => by
    by_cases hi : i < m.length
    · left
      rcases q with ⟨d', xs', a', v', h1, h2, h3⟩ | ⟨kss, ds, h1, h2⟩
      · rw [List.getElem?_append_left hi] at h1
        rw [ra (by rw [M.len]; exact hi)] at h2
        exact .inl ⟨d', xs', a', v', h1, h2, h3⟩
      · rw [List.getElem?_append_left hi] at h1
        rw [ra (by rw [M.len]; exact hi)] at h2
        exact .inr ⟨kss, ds, h1, h2⟩
    · right
      rcases q with ⟨d', xs', a', v', h1, h2, h3⟩ | ⟨kss, ds, h1, h2⟩
      · cases (last hi h1).2
      · obtain ⟨e, _⟩ := last hi h1
        subst e
        rw [← M.len] at h2 ⊢
        exact ⟨rfl, by simpa using h2.symm⟩
  have nm : ∀ {i : Nat} {c : Addr}, MixA S ρ m i c → c ≠ p := fun {i c} q => M.mix.ne q hp
  refine ⟨⟨Same.refl S, fun i a q => r_app q⟩, ⟨fun b x q => ?_, fun b x q => ?_, M.dis, by rw [List.length_append, List.length_append, M.len]; rfl, fun j ys q => ?_, fun i j xs' ys a' q1 q2 q3 q4 => ?_, M.tab.h (.inl hp) _, (M.dic.h (.inl hp) _).cells (fun i kvs q => dct_app (fun _ z => by cases z) q) (fun i c kvs _ q => r_app q), ⟨fun i d' xs' q => ?_, fun i kss ds q => ?_, fun i j c q1 q2 => ?_, fun i j c ys q1 q2 => ?_⟩⟩⟩
  · rw [upd_ne (ne_of_none q sp)]; exact M.sub b x q
  · rw [upd_ne (ne_of_none q gp)]; exact M.gsub b x q
  · obtain ⟨a', vs', g1, g2, g3⟩ := M.cell j ys (low j ys q)
    exact ⟨a', vs', r_app g1, by rw [upd_ne (ne_of_none g2 hp)]; exact g2, g3⟩
  · have l1 := low i xs' q1
    have l2 := low j ys q2
    rw [ra (hin i _ l1)] at q3
    rw [ra (hin j _ l2)] at q4
    exact M.inj i j xs' ys a' l1 l2 q3 q4
  · by_cases hi : i < m.length
    · rw [List.getElem?_append_left hi] at q
      obtain ⟨a', b', v', vs', g1, g2, g3, g4, g5⟩ := M.mix.pair i d' xs' q
      exact ⟨a', b', v', vs', r_app g1, g2, g3, by rw [upd_ne (nm (.inl ⟨d', xs', a', v', q, g1, g2⟩))]; exact g4, g5⟩
    · cases (last hi q).2
  · by_cases hi : i < m.length
    · rw [List.getElem?_append_left hi] at q
      obtain ⟨a', es, vs', g1, g2, g3⟩ := M.mix.dtc i kss ds q
      exact ⟨a', es, vs', r_app g1, by rw [upd_ne (nm (.inr ⟨kss, ds, q, g1⟩))]; exact g2, g3⟩
    · obtain ⟨e, e2⟩ := last hi q
      cases e2
      subst e
      exact ⟨p, [], [], by rw [← M.len]; simp, upd_same, hs, Nat.zero_le _, List.nodup_nil, .nil, .nil, sp, gp⟩
  · rcases old i c q1 with z1 | ⟨z1, w1⟩
    · rcases old j c q2 with z2 | ⟨z2, w2⟩
      · exact M.mix.inj i j c z1 z2
      · exact absurd w2 (nm z1)
    · rcases old j c q2 with z2 | ⟨z2, w2⟩
      · exact absurd w1 (nm z2)
      · rw [z1, z2]
  · have l := low j ys q2
    rw [ra (hin j _ l)]
    rcases old i c q1 with z1 | ⟨z1, w1⟩
    · exact M.mix.crs i j c ys z1 l
    · subst w1
      intro z
      obtain ⟨a', vs', g1, g2, _⟩ := M.cell j ys l
      rw [z] at g1
      cases g1
      rw [hp] at g2
      cases g2
theorem MR.writeT (M : MR Γ G S H ρ m) {n : Nat} {kss kss' : List (List Int)} {ds ds' : List D} {a : Addr} {es' : List DictEntry} {vs' : List V} (hm : m[n]? = some (.dtc kss ds)) (ha : ρ[n]? = some a) (hl : es'.length ≤ sizeLine) (nd : kss'.Nodup) (er : EntR Γ.K S es' kss' vs') (r : RpAll Γ S vs' ds') :
    MR Γ G S (upd H a (dtW a es')) ρ (m.set n (.dtc kss' ds')) := by
  have hn : n < m.length := (List.getElem?_eq_some_iff.mp hm).1
  obtain ⟨a', es, vs, g1, g2, g3, g4, g5, g6, g7, g8, g9⟩ := M.mix.dtc n kss ds hm
  rw [ha] at g1
  cases g1
  have hA : MixA S ρ m n a := .inr ⟨kss, ds, hm, ha⟩
  have low : ∀ (j : Nat) (zs : List D), (m.set n (Cell.dtc kss' ds'))[j]? = some (.lst zs) → m[j]? = some (.lst zs) := fun j zs q => lst_set (fun _ z => by cases z) q
  have at_ : ∀ {j : Nat} {c : Cell}, (m.set n (Cell.dtc kss' ds'))[j]? = some c → (j = n ∧ c = .dtc kss' ds') ∨ (j ≠ n ∧ m[j]? = some c) := fun {j c} q => by
    by_cases e : n = j
    · subst e
      rw [List.getElem?_set_self hn] at q
      exact .inl ⟨rfl, (Option.some.inj q).symm⟩
    · rw [List.getElem?_set_ne e] at q
      exact .inr ⟨Ne.symm e, q⟩
  have old : ∀ (i : Nat) (c : Addr), MixA S ρ (m.set n (.dtc kss' ds')) i c → MixA S ρ m i c := fun i c q => by
    rcases q with ⟨d', xs', a', v', h1, h2, h3⟩ | ⟨kss, ds, h1, h2⟩
    · rcases at_ h1 with ⟨rfl, e⟩ | ⟨_, h1⟩
      · cases e
      · exact .inl ⟨d', xs', a', v', h1, h2, h3⟩
    · rcases at_ h1 with ⟨rfl, e⟩ | ⟨_, h1⟩
      · exact .inr ⟨_, _, hm, h2⟩
      · exact .inr ⟨kss, ds, h1, h2⟩
  have tabs : TabR Γ.K G S (upd H a (dtW a es')) := ⟨M.tab.st, M.tab.gt, fun q hq => by
    obtain ⟨ps, k1, k2, k3⟩ := M.tab.tb q hq
    refine ⟨ps, by rw [upd_ne (fun z => by rw [z, g2] at k1; exact dtW_tbl (Option.some.inj k1))]; exact k1, k2, fun pos cv hc => ?_⟩
    obtain ⟨c, e1, e2⟩ := k3 pos cv hc
    exact ⟨c, e1, by rw [upd_ne (fun z => by rw [z, g2] at e2; exact dtW_ne (Option.some.inj e2).symm)]; exact e2⟩⟩
  have dic : DicR Γ G S (upd H a (dtW a es')) ρ m := ⟨fun i kvs q => by
    obtain ⟨c, us, k1, k2, k3⟩ := M.dic.cell i kvs q
    exact ⟨c, us, k1, by rw [upd_ne (fun z => by rw [z, g2] at k2; unfold dtW at k2; cases k2)]; exact k2, k3⟩, M.dic.inj⟩
  refine ⟨fun c x q => ?_, fun c x q => ?_, M.dis, by rw [List.length_set]; exact M.len, fun j zs q => ?_, fun i j zs ws' c q1 q2 q3 q4 => M.inj i j zs ws' c (low i zs q1) (low j ws' q2) q3 q4, tabs, dic.cells (fun i kvs q => dct_set (fun _ z => by cases z) q) fun i c kvs _ q => q, ⟨fun i d' zs q => ?_, fun i kss ds q => ?_, fun i j c q1 q2 => M.mix.inj i j c (old i c q1) (old j c q2), fun i j c zs q1 q2 => M.mix.crs i j c zs (old i c q1) (low j zs q2)⟩⟩
  · rw [upd_ne (ne_of_none q g8)]; exact M.sub c x q
  · rw [upd_ne (ne_of_none q g9)]; exact M.gsub c x q
  · obtain ⟨c, us, k1, k2, k3, k4, k5⟩ := M.cell j zs (low j zs q)
    refine ⟨c, us, k1, ?_, k3, k4, k5⟩
    rw [upd_ne (fun z => M.mix.crs n j a zs hA (low j zs q) (by rw [← z]; exact k1))]
    exact k2
  · rcases at_ q with ⟨rfl, e⟩ | ⟨ne, q⟩
    · cases e
    · obtain ⟨a2, b2, v2, vs2, k1, k2, k3, k4, k5⟩ := M.mix.pair i d' zs q
      refine ⟨a2, b2, v2, vs2, k1, k2, k3, ?_, k5⟩
      rw [upd_ne (fun z => ne (M.mix.inj i n a (.inl ⟨d', zs, a2, v2, q, k1, by rw [← z]; exact k2⟩) hA))]
      exact k4
  · rcases at_ q with ⟨rfl, e⟩ | ⟨ne, q⟩
    · cases e
      exact ⟨a, es', vs', ha, upd_same, g3, hl, nd, er, r, g8, g9⟩
    · obtain ⟨a2, es2, vs2, k1, k2, k3⟩ := M.mix.dtc i kss ds q
      refine ⟨a2, es2, vs2, k1, ?_, k3⟩
      rw [upd_ne (fun z => ne (M.mix.inj i n a (.inr ⟨kss, ds, q, by rw [← z]; exact k1⟩) hA))]
      exact k2
end
section
variable {X : Cx} {pins : List (Addr × Obj)} {σ : St} {H S : Hp} {s : Shared}
theorem ent_trs (I : Inv X pins σ H s) (e : Same S H) : ∀ {es : List DictEntry} {kss : List (List Int)} {vs : List V} {ds : List D}, EntR X.K S es kss vs → RpAll (gd X) S vs ds →
    ∃ xs : List (List L2.Key × Addr × Value), es = xs.map (entryOfKey (knd X.prog X.w)) ∧ (∀ x ∈ xs, (knd X.prog X.w).is s.heap x.1 x.2.1) ∧ Paired (TrR (gd X) S) xs (kss.zip ds)
  | _, _, _, _, .nil, .nil => ⟨[], rfl, (fun x hx => by cases hx), .nil⟩
  | _, _, _, _, .cons (e := en) (b := b) (k := k) (v := v) h1 h2 h3 h4 r, .cons (d := d) rd rds => by
    obtain ⟨xs, e1, e2, e3⟩ := ent_trs I e r rds
    refine ⟨(k.map Sum.inl, b, en.val) :: xs, ?_, fun x hx => ?_, .cons ⟨rfl, h3, v, h4, rd⟩ e3⟩
    · rw [List.map_cons, ← e1]
      congr 1
      obtain ⟨eh, ek, ev⟩ := en
      simp only at h2
      subst h2
      have := h1 X.prog X.w
      simp only at this
      subst this
      rfl
    · rcases List.mem_cons.mp hx with rfl | hx
      · exact key_sq I (Same.seqT e h3)
      · exact e2 x hx
end
section
variable {X : Cx} {W : WX} {o i e value : Expr} {pos pos' : Pos} {fa fb fv : En → P SV}
def dNewT : En → P SV := fun _ m => .ok (.ref m.length) (m ++ [.dtc [] []])
theorem je_dnewT : JE X W (.Dict [] [] pos) dNewT := ⟨fun {G S H ρ m env σ Q} M E h pins s I => by
  have hb : sysModules < s.heap.objs.size := I.big
  have hs : (s.heap.objs.size == sysModules) = false := beq_eq_false_iff_ne.mpr (Nat.ne_of_gt hb)
  have hp : H s.heap.objs.size = none := I.hok.fresh (Nat.le_refl _)
  have new : ObjOk X.prog X.w (upd H s.heap.objs.size (dtW s.heap.objs.size [])) (s.heap.push { cls := .type "dict", data := .dict #[] }) s.heap.objs.size (dtW s.heap.objs.size []) := by
    have g : (s.heap.push { cls := .type "dict", data := .dict #[] }).get? s.heap.objs.size = some { cls := .type "dict", data := .dict #[] } := Heap.get?_push_size _ rfl
    refine ⟨⟨_, 0, g, ⟨rfl, rfl, rfl⟩, rfl⟩, ⟨_, g⟩, fun h1 h2 ⟨o, ep, a1, a2⟩ k => ⟨o, ep, k _ a1, a2⟩⟩
  obtain ⟨e1, M1⟩ := M.allocT hp hs
  exact wpAny_Dict_empty ⟨.ref s.heap.objs.size, _, I.laid (a := s.heap.objs.size) (o := dtW s.heap.objs.size []) (t' := s.toks) (fun _ _ q => Heap.get?_push_of_some _ q) (Nat.le_refl _) new, rfl, h S _ _ (.ref s.heap.objs.size) e1 M1 ⟨_, by rw [← M.len]; simp, rfl⟩⟩⟩
def itemTOC (k : List Int) (c : Option Cell) : P SV := fun m => match c with
  | some (.dtc kss ds) => (match getT kss ds k with | some d => .ok (.dat d) m | none => .stuck)
  | _ => .stuck
/-- d[k] of an own dict -/
def itemTO (x y : SV) : P SV := fun m => match x, keyT y with
  | .ref n, some k => itemTOC k m[n]? m
  | _, _ => .stuck
theorem je_dixTO (hu : X.A.units + 1 < cLine) (ja : JE X W o fa) (jb : JE X W i fb) (hs : NoSl i := by exact fun _ _ => rfl) : JE X W (.Subscript o i pos) (d2 itemTO fa fb) := ⟨fun {G S H ρ m env σ Q} M E h pins s I => by
  refine subD_of PySem.F.slot_dict_getitem.lookup hs (thn (ja.run (Q := fun x H1 => WE X i σ H1 fun y H2 => ∀ s2, Inv X pins σ H2 s2 → ∀ u iv, RelV x u → RelV y iv → s2.TypeIs u "dict" ∧ wpAny (model X.prog X.w) X.A (getItem u iv) (EP X pins σ Q) X.xe s2) M E (wpr_monoQ (wpr_bnd h) fun d m1 hd => ?_) pins s I) fun u s1 ⟨x, H1, I1, rx, q1⟩ => thn (q1 pins s1 I1) fun iv s2 ⟨y, H2, I2, ry, q2⟩ => q2 s2 I2 u iv rx ry)
  intro S1 H1 ρ1 dv e1 M1 rd
  refine jb.run M1 (E.mono e1) (wpr_mono (wpr_bnd hd) (fun k m2 hk => ?_) fun _ _ z => qx_ext e1 z)
  intro S2 H2 ρ2 kv e2 M2 rk s2 I2 u iv ru riv
  unfold itemTO at hk
  split at hk
  · rename_i n kk hkk
    unfold itemTOC at hk
    split at hk
    · rename_i kss ds hc
      split at hk
      · rename_i dx hdx
        obtain ⟨b, rfl, kb⟩ := keyT_ok rk hkk
        obtain ⟨a, ha, rfl⟩ := rd.mono e2
        obtain ⟨a', es, vs, g1, g2, g3, g4, g5, g6, g7, g8, g9⟩ := M2.mix.dtc n kss ds hc
        rw [ha] at g1
        cases g1
        obtain rfl : iv = Value.ref b := riv
        obtain rfl : u = Value.ref a := ru
        obtain ⟨ob, ep, ho, hx, hdat⟩ := (I2.hok a _ g2).1
        obtain ⟨xs, dd, pr⟩ := ent_dict I2 ho hx hdat g5 (by simpa using g6.mono M2.sub)
        refine ⟨dd.typeIs, ?_⟩
        rcases rows_get (k := kk) pr g6.lens.2.symm g7 with ⟨p, v, d, k1, k2, k3, k4⟩ | ⟨_, k2⟩
        · rw [hdx] at k2
          cases k2
          exact wpAny_getItem_heap (tupleKind_room_in1 hu) (key_sq I2 (Same.seqT M2.sub kb)) dd k1 ⟨v, H2, I2.tok _, k3, hk S2 H2 ρ2 v (e1.trans e2) M2 k4⟩
        · rw [hdx] at k2
          cases k2
      · exact hk.elim
    · exact hk.elim
  · exact hk.elim⟩
def putTC (env : En) (n : Nat) (k : List Int) (x : D) (c : Option Cell) : P Out := fun m => match c with
  | some (.dtc kss ds) => if kss.length < 16777216 then .ok (.nx env) (m.set n (.dtc ((putP (kss.zip ds) k x).map (·.1)) ((putP (kss.zip ds) k x).map (·.2)))) else .stuck
  | _ => .stuck
def putTV (env : En) (v d k : SV) : P Out := fun m => match d, keyT k, v with
  | .ref n, some kk, .dat x => putTC env n kk x m[n]? m
  | _, _, _ => .stuck
/-- d[k] = v -/
def dPutT (fd fk fv : En → P SV) : DS := fun env => (fv env).bnd fun v => (fd env).bnd fun d => (fk env).bnd fun k => putTV env v d k
theorem putP_len (kvs : List (List Int × D)) (k : List Int) (x : D) : (putP kvs k x).length ≤ kvs.length + 1 := by
  unfold putP
  split <;> simp
theorem js_dputT (hu : X.A.units + 1 < cLine) (jo : JE X W o fa) (ji : JE X W i fb) (jv : JE X W value fv) (hs : swapsWith value (some (.Subscript o i pos')) pos.line X.env = pure false := by rfl) :
    JS X W (.Assign [.Subscript o i pos'] value pos) (dPutT fa fb fv) := ⟨fun {G S H ρ m env σ D} M E h pins s I => by
  refine wpAny_Assign_Subscript (thn (jv.run (Q := fun v H1 => WE X o σ H1 fun d H2 => WE X i σ H2 fun k H3 => ∀ s3, Inv X pins σ H3 s3 → ∀ r u iv, RelV v r → RelV d u → RelV k iv → wpAny (model X.prog X.w) X.A (setItem u iv r) (fun _ s4 => SP X pins D .next s4) X.xe s3) M E (wpr_mono (wpr_bnd h) (fun v m1 hv => ?_) fun _ _ z => qx_of z) pins s I) fun r s1 ⟨v, H1, I1, rv, q1⟩ => thn (q1 pins s1 I1) fun u s2 ⟨x, H2, I2, rx, q2⟩ => thn (q2 pins s2 I2) fun iv s3 ⟨y, H3, I3, ry, q3⟩ => q3 s3 I3 r u iv rv rx ry) hs
  intro S1 H1 ρ1 vv e1 M1 rv
  refine jo.run M1 (E.mono e1) (wpr_mono (wpr_bnd hv) (fun d m2 hd => ?_) fun _ _ z => qx_ext e1 (qx_of z))
  intro S2 H2 ρ2 dv e2 M2 rd
  refine ji.run M2 ((E.mono e1).mono e2) (wpr_mono (wpr_bnd hd) (fun k m3 hk => ?_) fun _ _ z => qx_ext (e1.trans e2) (qx_of z))
  intro S3 H3 ρ3 kv e3 M3 rk s3 I3 r u iv ur uu ui
  unfold putTV at hk
  split at hk
  · rename_i n kk x hkk
    unfold putTC at hk
    split at hk
    · rename_i kss ds hc
      split at hk
      · rename_i hl
        obtain ⟨b, rfl, kb⟩ := keyT_ok rk hkk
        obtain ⟨a, ha, rfl⟩ := rd.mono e3
        obtain ⟨a', es, vs, g1, g2, g3, g4, g5, g6, g7, g8, g9⟩ := M3.mix.dtc n kss ds hc
        rw [ha] at g1
        cases g1
        obtain rfl : iv = Value.ref b := ui
        obtain rfl : u = Value.ref a := uu
        obtain ⟨ob, ep, ho, hx, hdat⟩ := (I3.hok a _ g2).1
        obtain ⟨xs, t1, t2, t3⟩ := ent_trs I3 M3.sub g6 g7
        have lz : (kss.zip ds).length = kss.length := by rw [List.length_zip, ← g7.length, g6.lens.2, Nat.min_self]
        have mz : (kss.zip ds).map (·.1) = kss := List.map_fst_zip (by rw [← g7.length, g6.lens.2]; exact Nat.le_refl _)
        have lx : xs.length = kss.length := by rw [Paired.length t3, lz]
        have dd : s3.heap.DictOfH (knd X.prog X.w) a xs := ⟨ob, es.toArray, ep, ho, hx, hdat, by simpa using t1, t2, by rw [trs_keys t3, mz]; exact nodup_inl g5⟩
        have rv3 := (rv.mono e2).mono e3
        have rv3 : Rp (gd X) S3 vv x := rv3
        refine wpAny_setItem_heap (tupleKind_room_in1 hu) (key_sq I3 (Same.seqT M3.sub kb)) dd (fun h' d' hsb => ?_) (by rw [lx, sizeLine_eq]; omega)
        have t4 := trs_put (Γ := gd X) kb ur rv3 t3
        obtain ⟨vs', f1, f2⟩ := trs_ent (P := X.prog) (w := X.w) t4
        obtain ⟨o', es', ep', ho', hx', hdat', he', hi', hn'⟩ := id d'
        have nd' : ((putP (kss.zip ds) kk x).map (·.1)).Nodup := by
          rw [trs_keys t4] at hn'
          exact nodup_of_inl hn'
        have le' : es'.toList.length ≤ sizeLine := by
          rw [he', List.length_map, Paired.length t4, sizeLine_eq]
          have := putP_len (kss.zip ds) kk x
          omega
        rw [← he'] at f1
        have M4 := M3.writeT hc ha le' nd' f1 f2
        have I4 : Inv X pins σ (upd H3 a (dtW a es'.toList)) { s3 with heap := h', toks := s3.toks + (knd X.prog X.w).draws (kk.map Sum.inl) } :=
          d_write I3 (by rw [g2]; exact True.intro) hsb ⟨o', ho'⟩ ⟨⟨o', ep', ho', hx', by simpa using hdat'⟩, ⟨o', ho'⟩, fun h1 h2 ⟨o, ep, a1, a2⟩ k => ⟨o, ep, k _ a1, a2⟩⟩
        exact ⟨σ, _, I4, hk S3 _ ρ3 σ ((e1.trans e2).trans e3) M4 (((E.mono e1).mono e2).mono e3)⟩
      · exact hk.elim
    · exact hk.elim
  · exact hk.elim⟩
end
end PL

/-! PL29: tables of defs that a local name may hold; simp rules of PL25 .. PL28. -/
namespace PL
open PySem PySem.Spec PyProof.Rows L2
structure FTabOk (P : Program) (w : World) (K : PySem.W.Frag) (mg : Str → Option Value) (base : Heap) (k : Nat) (tab : FTab) : Prop where
  ex : ∀ e ∈ tab, ∃ ps, ps.length = e.2.1 ∧ Cal P w K mg base k e.1 ps e.2.2
section
variable {P : Program} {w : World} {K : PySem.W.Frag} {mg : Str → Option Value} {base : Heap} {k : Nat} {tab : FTab}
theorem ftab_nil : FTabOk P w K mg base k [] := ⟨fun e he => by cases he⟩
theorem ftab_cons {x : Str} {n j : Nat} {ps : List Str} {F : List SV → PL.P SV} (c : Cal P w K mg base j x ps F) (hj : j ≤ k) (hn : ps.length = n) (t : FTabOk P w K mg base k tab) : FTabOk P w K mg base k ((x, n, F) :: tab) := ⟨fun e he => by
  rcases List.mem_cons.mp he with rfl | he
  · exact ⟨ps, hn, c.mono hj⟩
  · exact t.ex e he⟩
theorem FTabOk.look (t : FTabOk P w K mg base k tab) : ∀ y n F, tab.lookup y = some (n, F) → ∃ ps, ps.length = n ∧ Cal P w K mg base k y ps F := fun y n F h => t.ex (y, n, F) (PySem.mem_of_lookup h)
end
theorem je_callT {X : Cx} {W : WX} {e : Expr} {es : List Expr} {pos p : Pos} {fs : En → P (List SV)} {i k : Nat} {x : Str} {tab : FTab} (C : FTabOk X.prog X.w X.K X.mg X.base k tab) (hr : RoomG k X.A) (tk : Takes X W) (js : JA X W (e :: es) fs)
    (hN : X.N[i]? = some x := by rfl) (hv : Vis X.env.scope x := by first | exact Or.inl rfl | exact Or.inr (Or.inl rfl) | exact Or.inr (Or.inr rfl)) (hdb : (x == ("__debug__" : Str)) = false := by decide) (hcd : (x == ("__classdict__" : Str)) = false := by decide)
    (he : starEach (e :: es) X.env = (false, eval e X.env) :: starEach es X.env := by rfl) (hpl : (backTo pos (starEach es X.env)).any (·.1) = false := by rfl) :
    JE X W (.Call (.Name x p) (e :: es) [] pos) (dCallV i tab fs) := je_callV C.look hr tk js hN hv hdb hcd he hpl
/-! ### simp rules -/
def callC (tab : FTab) (fs : En → P (List SV)) (env : En) (m : Mem) (o : Option (Option SV)) : R SV := match o with
  | some (some (.dat (.fn x))) => (match tab.lookup x with | some nF => ((fs env).bnd (chk nF.1 nF.2)) m | none => .stuck)
  | _ => .stuck
@[simp] theorem dCallV_ap (i : Nat) (tab : FTab) (fs : En → P (List SV)) (env : En) (m : Mem) : dCallV i tab fs env m = callC tab fs env m env[i]? := (rfl)
theorem callC_ap {tab : FTab} {x : Str} {n : Nat} {F : List SV → P SV} (h : tab.lookup x = some (n, F)) (fs : En → P (List SV)) (env : En) (m : Mem) : callC tab fs env m (some (some (.dat (.fn x)))) = (fs env m).bnd (chk n F) := by
  unfold callC
  simp only [h]
  rfl
@[simp] theorem mkPair_ap (d : D) (n : Nat) (m : Mem) : mkPair [.dat d, .ref n] m = mkPairC d n m[n]? m := (rfl)
@[simp] theorem mkPairC_ap (d : D) (n : Nat) (ys : List D) (m : Mem) : mkPairC d n (some (.lst ys)) m = .ok (.ref m.length) (m.set n .dead ++ [.pair d ys]) := (rfl)
@[simp] theorem exitP_dat (k : Nat) (d : D) (m : Mem) : exitP k (.dat d) m = .ok (.dat d) (m.take k) := (rfl)
theorem exitP_ref {k i : Nat} {m : Mem} {d : D} {xs : List D} (h : k ≤ i) (e : m[i]? = some (.pair d xs)) : exitP k (.ref i) m = .ok (.ref k) (m.take k ++ [.pair d xs]) := by
  unfold exitP
  simp only [e, if_neg (show ¬ i < k by omega)]
@[simp] theorem dFz_ap (f : En → P SV) (env : En) (m : Mem) : dFz f env m = (f env m).bnd (fzL m.length) := (rfl)
@[simp] theorem fzL_dat (k : Nat) (d : D) (m : Mem) : fzL k (.dat d) m = .ok (.dat d) m := (rfl)
theorem fzL_pair {k : Nat} {m : Mem} {d : D} {xs : List D} (h : m.length = k) : fzL k (.ref k) (m ++ [.pair d xs]) = .ok (.dat (.tup [d, .lst xs])) m := by
  subst h
  unfold fzL fzC
  simp
@[simp] theorem fzL_pair' (m : Mem) (d : D) (xs : List D) : fzL m.length (.ref m.length) (m ++ [.pair d xs]) = .ok (.dat (.tup [d, .lst xs])) m := fzL_pair rfl
@[simp] theorem fzL_lst' (m : Mem) (xs : List D) : fzL m.length (.ref m.length) (m ++ [.lst xs]) = .ok (.dat (.lst xs)) m := by
  unfold fzL fzC
  simp
@[simp] theorem dAppP_ap (fa fb : En → P SV) (env : En) (m : Mem) : dAppP fa fb env m = (fa env m).bnd (appP1 fb env) := (rfl)
theorem appP1_ap {fb : En → P SV} {env : En} {n : Nat} {m : Mem} {d : D} {xs : List D} (h : m[n]? = some (.pair d xs)) : appP1 fb env (.ref n) m = (fb env m).bnd (appP2 env n) := by
  unfold appP1 isPr
  simp only [h, if_true]
theorem appP2_ap {env : En} {n : Nat} {m : Mem} {d y : D} {xs : List D} (h : m[n]? = some (.pair d xs)) (hl : xs.length < 16777216) : appP2 env n (.dat y) m = .ok (.nx env) (m.set n (.pair d (xs ++ [y]))) := by
  unfold appP2 appPC
  simp only [h, if_pos hl]
def kForT (i : Nat) (body : DS) (env : En) (vs : List SV) (m : Mem) : R Out := if vs.length ≤ 16777216 then loopT i body vs env m else .stuck
@[simp] theorem dForT_ap (i : Nat) (fs : En → P (List SV)) (body : DS) (env : En) (m : Mem) : dForT i fs body env m = (fs env m).bnd (kForT i body env) := (rfl)
@[simp] theorem lzipV_ap (a b : List D) (m : Mem) : lzipV [.dat (.lst a), .dat (.lst b)] m = if a.length ≤ 16777216 then .ok (.dat (.lst (zip2D a b))) m else .stuck := (rfl)
@[simp] theorem dNewT_ap (env : En) (m : Mem) : dNewT env m = .ok (.ref m.length) (m ++ [.dtc [] []]) := (rfl)
@[simp] theorem itemTO_ap (n : Nat) (k : List Int) (m : Mem) : itemTO (.ref n) (.dat (.tup (k.map D.int))) m = itemTOC k m[n]? m := by simp [itemTO]
theorem itemTOC_ap {k : List Int} {kss : List (List Int)} {ds : List D} {d : D} (h : getT kss ds k = some d) (m : Mem) : itemTOC k (some (.dtc kss ds)) m = .ok (.dat d) m := by simp [itemTOC, h]
def kPutT1 (fd fk : En → P SV) (env : En) (v : SV) (m : Mem) : R Out := ((fd env).bnd fun d => (fk env).bnd fun k => putTV env v d k) m
def kPutT2 (fk : En → P SV) (env : En) (v d : SV) (m : Mem) : R Out := ((fk env).bnd fun k => putTV env v d k) m
@[simp] theorem dPutT_ap (fd fk fv : En → P SV) (env : En) (m : Mem) : dPutT fd fk fv env m = (fv env m).bnd (kPutT1 fd fk env) := (rfl)
@[simp] theorem kPutT1_ap (fd fk : En → P SV) (env : En) (v : SV) (m : Mem) : kPutT1 fd fk env v m = (fd env m).bnd (kPutT2 fk env v) := (rfl)
@[simp] theorem kPutT2_ap (fk : En → P SV) (env : En) (v d : SV) (m : Mem) : kPutT2 fk env v d m = (fk env m).bnd (putTV env v d) := (rfl)
@[simp] theorem putTV_ap (env : En) (n : Nat) (k : List Int) (x : D) (m : Mem) : putTV env (.dat x) (.ref n) (.dat (.tup (k.map D.int))) m = putTC env n k x m[n]? m := by simp [putTV]
theorem putTC_ap {env : En} {n : Nat} {k : List Int} {x : D} {kss : List (List Int)} {ds : List D} (h : kss.length < 16777216) (m : Mem) : putTC env n k x (some (.dtc kss ds)) m = .ok (.nx env) (m.set n (.dtc ((putP (kss.zip ds) k x).map (·.1)) ((putP (kss.zip ds) k x).map (·.2)))) := by
  unfold putTC
  simp only [if_pos h]
end PL

/-! AX: arrays by shapes: subscripts, places, lines. -/
namespace AX
def size : List Nat → Nat
  | [] => 1
  | n :: f => n * size f
/-- the subscripts of the element at a place -/
def sub : List Nat → Nat → List Int
  | [], _ => []
  | n :: f, p => (((p % n : Nat) : Int) + 1) :: sub f (p / n)
def subs (f : List Nat) : List (List Int) := (List.range (size f)).map (sub f)
theorem sub_len : ∀ (f : List Nat) (p : Nat), (sub f p).length = f.length
  | [], _ => rfl
  | n :: f, p => by simp [sub, sub_len f]
theorem subs_len (f : List Nat) : (subs f).length = size f := by simp [subs]
theorem size_app : ∀ f g : List Nat, size (f ++ g) = size f * size g
  | [], g => by simp [size]
  | n :: f, g => by simp [size, size_app f g, Nat.mul_assoc]
theorem sub_app : ∀ (f g : List Nat) (a b : Nat), a < size f → sub (f ++ g) (a + size f * b) = sub f a ++ sub g b
  | [], g, a, b, h => by
    have : a = 0 := by simp [size] at h; exact h
    subst this
    simp [sub, size]
  | n :: f, g, a, b, h => by
    have hn : 0 < n := by
      rcases Nat.eq_zero_or_pos n with z | z
      · subst z; simp [size] at h
      · exact z
    have e1 : (a + size (n :: f) * b) % n = a % n := by
      rw [size, Nat.mul_assoc, Nat.add_mul_mod_self_left]
    have e2 : (a + size (n :: f) * b) / n = a / n + size f * b := by
      rw [size, Nat.mul_assoc, Nat.add_mul_div_left _ _ hn]
    have h2 : a / n < size f := by
      rw [Nat.div_lt_iff_lt_mul hn, Nat.mul_comm]
      exact h
    show ((((a + size (n :: f) * b) % n : Nat) : Int) + 1) :: sub (f ++ g) ((a + size (n :: f) * b) / n) = _
    rw [e1, e2, sub_app f g _ b h2]
    rfl
theorem sub_inj : ∀ (f : List Nat) {p q : Nat}, p < size f → q < size f → sub f p = sub f q → p = q
  | [], p, q, hp, hq, _ => by simp [size] at hp hq; omega
  | n :: f, p, q, hp, hq, e => by
    have hn : 0 < n := by
      rcases Nat.eq_zero_or_pos n with z | z
      · subst z; simp [size] at hp
      · exact z
    have h2 : p / n < size f := by rw [Nat.div_lt_iff_lt_mul hn, Nat.mul_comm]; exact hp
    have h3 : q / n < size f := by rw [Nat.div_lt_iff_lt_mul hn, Nat.mul_comm]; exact hq
    unfold sub at e
    injection e with e1 e2
    have e3 := sub_inj f h2 h3 e2
    have e4 : p % n = q % n := by omega
    rw [← Nat.div_add_mod p n, ← Nat.div_add_mod q n, e3, e4]
theorem subs_nodup (f : List Nat) : (subs f).Nodup := by
  unfold subs List.Nodup
  rw [List.pairwise_map]
  refine List.Pairwise.imp_of_mem (fun {a b} ha hb h z => h ?_) (List.nodup_range (n := size f))
  exact sub_inj f (List.mem_range.mp ha) (List.mem_range.mp hb) z
/-! ### near, at, far -/
def cmb (n e a b c : Nat) : Nat := a + n * (b + e * c)
section
variable {n e a b c p : Nat}
theorem cmb_mod (ha : a < n) : cmb n e a b c % n = a := by
  unfold cmb
  rw [Nat.add_mul_mod_self_left, Nat.mod_eq_of_lt ha]
theorem cmb_div (ha : a < n) : cmb n e a b c / n = b + e * c := by
  unfold cmb
  rw [Nat.add_mul_div_left _ _ (by omega), Nat.div_eq_of_lt ha, Nat.zero_add]
theorem cmb_at (ha : a < n) (hb : b < e) : cmb n e a b c / n % e = b := by
  rw [cmb_div ha, Nat.add_mul_mod_self_left, Nat.mod_eq_of_lt hb]
theorem cmb_far (ha : a < n) (hb : b < e) : cmb n e a b c / n / e = c := by
  rw [cmb_div ha, Nat.add_mul_div_left _ _ (by omega), Nat.div_eq_of_lt hb, Nat.zero_add]
theorem cmb_self (n e p : Nat) : cmb n e (p % n) (p / n % e) (p / n / e) = p := by
  unfold cmb
  rw [Nat.mod_add_div, Nat.mod_add_div]
theorem cmb_lt {o : Nat} (ha : a < n) (hb : b < e) (hc : c < o) : cmb n e a b c < n * (e * o) := by
  unfold cmb
  have h1 : b + e * c < e * o := by
    have : e * (c + 1) ≤ e * o := Nat.mul_le_mul_left e hc
    rw [Nat.mul_add] at this
    omega
  have h2 : n * (b + e * c + 1) ≤ n * (e * o) := Nat.mul_le_mul_left n h1
  rw [Nat.mul_add] at h2
  omega
/-- the number of the line of a place -/
def ln (n e p : Nat) : Nat := p % n + n * (p / n / e)
theorem parts_lt {o : Nat} (hp : p < n * (e * o)) : p % n < n ∧ p / n % e < e ∧ p / n / e < o ∧ ln n e p < n * o := by
  have hn : 0 < n := by
    rcases Nat.eq_zero_or_pos n with z | z
    · subst z; simp at hp
    · exact z
  have he : 0 < e := by
    rcases Nat.eq_zero_or_pos e with z | z
    · subst z; simp at hp
    · exact z
  have h1 : p / n < e * o := by rw [Nat.div_lt_iff_lt_mul hn, Nat.mul_comm]; exact hp
  have h2 : p / n / e < o := by rw [Nat.div_lt_iff_lt_mul he, Nat.mul_comm]; exact h1
  refine ⟨Nat.mod_lt _ hn, Nat.mod_lt _ he, h2, ?_⟩
  unfold ln
  have h3 : n * (p / n / e + 1) ≤ n * o := Nat.mul_le_mul_left n h2
  rw [Nat.mul_add] at h3
  have := Nat.mod_lt p hn
  omega
theorem ln_mod (hn : 0 < n) : ln n e p % n = p % n := by
  unfold ln
  rw [Nat.add_mul_mod_self_left, Nat.mod_mod]
theorem ln_div (hn : 0 < n) : ln n e p / n = p / n / e := by
  unfold ln
  rw [Nat.add_mul_div_left _ _ hn, Nat.div_eq_of_lt (Nat.mod_lt _ hn), Nat.zero_add]
theorem ln_cmb (ha : a < n) (hb : b < e) : ln n e (cmb n e a b c) = a + n * c := by
  unfold ln
  rw [cmb_mod ha, cmb_far ha hb]
theorem cmb_ln (hn : 0 < n) : cmb n e (ln n e p % n) (p / n % e) (ln n e p / n) = p := by
  rw [ln_mod hn, ln_div hn, cmb_self]
end
/-- the elements behind the first lines, and the first ones of the next line -/
def stp (n e t l j : Nat) (g old : Nat → Int) : List Int := (List.range t).map fun p => if ln n e p < l ∨ (ln n e p = l ∧ p / n % e < j) then g p else old p
theorem stp_set {n e o l j : Nat} {g old : Nat → Int} (hl : l < n * o) (hj : j < e) :
    (stp n e (n * (e * o)) l j g old).set (cmb n e (l % n) j (l / n)) (g (cmb n e (l % n) j (l / n))) = stp n e (n * (e * o)) l (j + 1) g old := by
  have hn : 0 < n := by
    rcases Nat.eq_zero_or_pos n with z | z
    · subst z; simp at hl
    · exact z
  have ha : l % n < n := Nat.mod_lt _ hn
  have hc : l / n < o := by rw [Nat.div_lt_iff_lt_mul hn, Nat.mul_comm]; exact hl
  have hp := cmb_lt ha hj hc
  apply List.ext_getElem?
  intro i
  have hlen : (stp n e (n * (e * o)) l j g old).length = n * (e * o) := by simp [stp]
  by_cases hi : i < n * (e * o)
  · by_cases h : cmb n e (l % n) j (l / n) = i
    · subst h
      rw [List.getElem?_set_self (by rw [hlen]; exact hp)]
      unfold stp
      rw [List.getElem?_map, List.getElem?_range hp, Option.map_some, ln_cmb ha hj, cmb_at ha hj, Nat.mod_add_div]
      rw [if_pos (.inr ⟨rfl, by omega⟩)]
    · rw [List.getElem?_set_ne h]
      unfold stp
      rw [List.getElem?_map, List.getElem?_map, List.getElem?_range hi, Option.map_some, Option.map_some]
      congr 1
      have key : ¬ (ln n e i = l ∧ i / n % e = j) := fun ⟨z1, z2⟩ => h (by rw [← z1, ← z2]; exact cmb_ln hn)
      by_cases h1 : ln n e i < l ∨ (ln n e i = l ∧ i / n % e < j)
      · rw [if_pos h1, if_pos]
        rcases h1 with h1 | ⟨h1, h2⟩
        · exact .inl h1
        · exact .inr ⟨h1, by omega⟩
      · rw [if_neg h1, if_neg]
        intro z
        apply h1
        rcases z with z | ⟨z1, z2⟩
        · exact .inl z
        · exact .inr ⟨z1, by
            have : i / n % e ≠ j := fun w => key ⟨z1, w⟩
            omega⟩
  · rw [List.getElem?_eq_none (by rw [List.length_set, hlen]; omega), List.getElem?_eq_none (by simp [stp]; omega)]
theorem stp_line {n e t l : Nat} {g old : Nat → Int} (he : 0 < e) : stp n e t l e g old = stp n e t (l + 1) 0 g old := by
  unfold stp
  apply List.map_congr_left
  intro p _
  have := Nat.mod_lt (p / n) he
  by_cases h : ln n e p < l + 1
  · rw [if_pos (by rcases Nat.lt_or_eq_of_le (Nat.lt_succ_iff.mp h) with z | z; exact .inl z; exact .inr ⟨z, this⟩), if_pos (.inl h)]
  · rw [if_neg (by rintro (z | ⟨z, _⟩) <;> omega), if_neg (by rintro (z | ⟨_, z⟩) <;> omega)]
theorem stp_zero {n e t : Nat} {g old : Nat → Int} : stp n e t 0 0 g old = (List.range t).map old := by
  unfold stp
  apply List.map_congr_left
  intro p _
  rw [if_neg (by rintro (z | ⟨_, z⟩) <;> omega)]
theorem stp_all {n e o : Nat} {g old : Nat → Int} : stp n e (n * (e * o)) (n * o) 0 g old = (List.range (n * (e * o))).map g := by
  unfold stp
  apply List.map_congr_left
  intro p hp
  rw [if_pos (.inl (parts_lt (List.mem_range.mp hp)).2.2.2)]
theorem range_row (row : List Int) : (List.range row.length).map (fun p => row.getD p 0) = row := by
  apply List.ext_getElem?
  intro i
  rw [List.getElem?_map]
  by_cases h : i < row.length
  · rw [List.getElem?_range h, Option.map_some, List.getD_eq_getElem?_getD, List.getElem?_eq_getElem h, Option.getD_some]
  · rw [List.getElem?_eq_none (by simp; omega), List.getElem?_eq_none (by omega)]
    rfl
/-! ### turned round, shifted -/
def csh (n e o : Nat) (row : List Int) (sh : Nat → Int) : List Int := (List.range (n * (e * o))).map fun p => row.getD (cmb n e (p % n) ((((p / n % e : Nat) : Int) + sh (ln n e p)) % (e : Int)).toNat (p / n / e)) 0
def esh (n e o : Nat) (row : List Int) (sh bd : Nat → Int) : List Int := (List.range (n * (e * o))).map fun p =>
  if 0 ≤ ((p / n % e : Nat) : Int) + sh (ln n e p) ∧ ((p / n % e : Nat) : Int) + sh (ln n e p) < e then row.getD (cmb n e (p % n) (((p / n % e : Nat) : Int) + sh (ln n e p)).toNat (p / n / e)) 0 else bd (ln n e p)
theorem csh_len {n e o : Nat} {row : List Int} {sh : Nat → Int} : (csh n e o row sh).length = n * (e * o) := by simp [csh]
theorem esh_len {n e o : Nat} {row : List Int} {sh bd : Nat → Int} : (esh n e o row sh bd).length = n * (e * o) := by simp [esh]
theorem csh_csh {n e o : Nat} {row : List Int} {s1 s2 : Nat → Int} : csh n e o (csh n e o row s1) s2 = csh n e o row fun l => s1 l + s2 l := by
  unfold csh
  apply List.map_congr_left
  intro p hp
  have hp := List.mem_range.mp hp
  obtain ⟨h1, h2, h3, h4⟩ := parts_lt hp
  have he : (0 : Int) < e := by omega
  have g1 := Int.emod_nonneg (((p / n % e : Nat) : Int) + s2 (ln n e p)) (by omega : (e : Int) ≠ 0)
  have g2 := Int.emod_lt_of_pos (((p / n % e : Nat) : Int) + s2 (ln n e p)) he
  have hb : ((((p / n % e : Nat) : Int) + s2 (ln n e p)) % (e : Int)).toNat < e := by omega
  have hq := cmb_lt (n := n) (e := e) (o := o) h1 hb h3
  have hl : ln n e (cmb n e (p % n) ((((p / n % e : Nat) : Int) + s2 (ln n e p)) % (e : Int)).toNat (p / n / e)) = ln n e p := ln_cmb h1 hb
  rw [List.getD_eq_getElem?_getD, List.getElem?_map, List.getElem?_range hq, Option.map_some, Option.getD_some, hl, cmb_mod h1, cmb_at h1 hb, cmb_far h1 hb]
  congr 3
  rw [Int.toNat_of_nonneg g1, Int.emod_add_emod]
  congr 1
  show _ = ((p / n % e : Nat) : Int) + (s1 (ln n e p) + s2 (ln n e p))
  omega
theorem csh_zero {n e o : Nat} {row : List Int} {sh : Nat → Int} (hr : row.length = n * (e * o)) (h : ∀ l, sh l % (e : Int) = 0) : csh n e o row sh = row := by
  have e1 : csh n e o row sh = (List.range (n * (e * o))).map fun p => row.getD p 0 := by
    unfold csh
    apply List.map_congr_left
    intro p hp
    obtain ⟨h1, h2, h3, h4⟩ := parts_lt (List.mem_range.mp hp)
    have : ((((p / n % e : Nat) : Int) + sh (ln n e p)) % (e : Int)) = ((p / n % e : Nat) : Int) := by
      rw [Int.add_emod, h, Int.add_zero, Int.emod_emod]
      exact Int.emod_eq_of_lt (by omega) (by omega)
    rw [this, Int.toNat_natCast, cmb_self]
  rw [e1, ← hr, range_row]
theorem esh_zero {n e o : Nat} {row : List Int} {bd : Nat → Int} (hr : row.length = n * (e * o)) : esh n e o row (fun _ => 0) bd = row := by
  have e1 : esh n e o row (fun _ => 0) bd = (List.range (n * (e * o))).map fun p => row.getD p 0 := by
    unfold esh
    apply List.map_congr_left
    intro p hp
    obtain ⟨h1, h2, h3, h4⟩ := parts_lt (List.mem_range.mp hp)
    show (if 0 ≤ ((p / n % e : Nat) : Int) + 0 ∧ ((p / n % e : Nat) : Int) + 0 < e then _ else _) = _
    rw [if_pos (by omega), Int.add_zero, Int.toNat_natCast, cmb_self]
  rw [e1, ← hr, range_row]
theorem esh_far {n e o : Nat} {row : List Int} : esh n e o row (fun _ => (e : Int)) (fun _ => 0) = List.replicate (n * (e * o)) 0 := by
  unfold esh
  rw [← List.length_range (n := n * (e * o)), ← List.map_const', List.length_range]
  apply List.map_congr_left
  intro p hp
  show (if 0 ≤ ((p / n % e : Nat) : Int) + (e : Int) ∧ ((p / n % e : Nat) : Int) + (e : Int) < e then _ else _) = _
  rw [if_neg (by omega)]
end AX

/-! TR: plain mathematics of triplets. -/
namespace TR
/-- how many elements -/
def sz (f l s : Int) : Int := max 0 ((l - f + s).fdiv s)
theorem sz_nonneg (f l s : Int) : 0 ≤ sz f l s := by unfold sz; omega
theorem fdiv_neg' (a s : Int) : a.fdiv s = (-a).fdiv (-s) := (Int.neg_fdiv_neg a s).symm
theorem lt_sz {f l s k : Int} (hs : s ≠ 0) (hk : 0 ≤ k) : k < sz f l s ↔ (0 < s → f + k * s ≤ l) ∧ (s < 0 → l ≤ f + k * s) := by
  have key : ∀ a t : Int, 0 < t → (k < max 0 ((a + t).fdiv t) ↔ k * t ≤ a) := fun a t ht => by
    rw [Int.fdiv_eq_ediv_of_nonneg _ (by omega)]
    have h1 : k < max 0 ((a + t) / t) ↔ k + 1 ≤ (a + t) / t := by omega
    rw [h1, Int.le_ediv_iff_mul_le ht, Int.add_mul]
    omega
  unfold sz
  by_cases h : 0 < s
  · rw [key (l - f) s h]
    constructor
    · intro q
      exact ⟨fun _ => by omega, fun q => by omega⟩
    · intro q
      have := q.1 h
      omega
  · have h' : s < 0 := by omega
    have e : (l - f + s).fdiv s = (f - l + -s).fdiv (-s) := by
      rw [fdiv_neg']
      congr 1
      omega
    rw [e, key (f - l) (-s) (by omega), Int.mul_neg]
    constructor
    · intro q
      exact ⟨fun _ => by omega, fun _ => by omega⟩
    · intro q
      have := q.2 h'
      omega
/-- the number of an element -/
def spot (f l s x : Int) : Option Int := if (x - f).fmod s ≠ 0 ∨ ¬ (0 ≤ (x - f).fdiv s ∧ (x - f).fdiv s < sz f l s) then none else some ((x - f).fdiv s)
theorem spot_at {f l s k : Int} (hs : s ≠ 0) (h0 : 0 ≤ k) (h1 : k < sz f l s) : spot f l s (f + k * s) = some k := by
  unfold spot
  have e : f + k * s - f = k * s := by omega
  rw [e, Int.mul_fdiv_cancel _ hs, Int.mul_fmod_left]
  rw [if_neg (by omega)]
theorem spot_some {f l s x k : Int} (hs : s ≠ 0) (h : spot f l s x = some k) : x = f + k * s ∧ 0 ≤ k ∧ k < sz f l s := by
  unfold spot at h
  split at h
  · cases h
  · rename_i q
    cases h
    have h1 : (x - f).fmod s = 0 := by omega
    have h2 := Int.mul_fdiv_add_fmod (x - f) s
    rw [h1] at h2
    have h3 : s * (x - f).fdiv s = (x - f).fdiv s * s := Int.mul_comm _ _
    omega
theorem spot_iff {f l s x k : Int} (hs : s ≠ 0) : spot f l s x = some k ↔ x = f + k * s ∧ 0 ≤ k ∧ k < sz f l s := by
  constructor
  · exact spot_some hs
  · rintro ⟨rfl, h0, h1⟩
    exact spot_at hs h0 h1
theorem spot_none {f l s x : Int} (hs : s ≠ 0) (h : ∀ k, 0 ≤ k → k < sz f l s → x ≠ f + k * s) : spot f l s x = none := by
  cases e : spot f l s x with
  | none => rfl
  | some k =>
    obtain ⟨a, b, c⟩ := spot_some hs e
    exact absurd a (h k b c)
theorem mul_inj {a b s : Int} (hs : s ≠ 0) (h : a * s = b * s) : a = b := Int.eq_of_mul_eq_mul_right hs h
/-- an element lies between the ends -/
theorem elt_between {f l s k : Int} (hs : s ≠ 0) (h0 : 0 ≤ k) (h1 : k < sz f l s) : min f l ≤ f + k * s ∧ f + k * s ≤ max f l := by
  obtain ⟨a, b⟩ := (lt_sz hs h0).mp h1
  by_cases h : 0 < s
  · have := a h
    have : 0 ≤ k * s := Int.mul_nonneg h0 (by omega)
    omega
  · have := b (by omega)
    have : k * s ≤ 0 := Int.mul_nonpos_of_nonneg_of_nonpos h0 (by omega)
    omega
theorem sz_le {f l s n : Int} (hs : s ≠ 0) (hn : 0 ≤ n) (h : max f l - min f l < n) : sz f l s ≤ n := by
  have h2 : ¬ n < sz f l s := fun q => by
    obtain ⟨a, b⟩ := (lt_sz hs hn).mp q
    by_cases h' : 0 < s
    · have := a h'
      have : n * 1 ≤ n * s := Int.mul_le_mul_of_nonneg_left (by omega) hn
      omega
    · have := b (by omega)
      have : n * 1 ≤ n * (-s) := Int.mul_le_mul_of_nonneg_left (by omega) hn
      rw [Int.mul_neg] at this
      omega
  omega
theorem sz_count {f l s : Int} (hs : s ≠ 0) : sz f l s = if 0 ≤ (if 0 < s then l - f else f - l) then (if 0 < s then l - f else f - l).fdiv (s.natAbs : Int) + 1 else 0 := by
  have key : ∀ a t : Int, 0 < t → max 0 ((a + t).fdiv t) = if 0 ≤ a then a.fdiv t + 1 else 0 := fun a t ht => by
    rw [Int.fdiv_eq_ediv_of_nonneg _ (by omega), Int.fdiv_eq_ediv_of_nonneg _ (by omega)]
    have e : (a + t) / t = a / t + 1 := by
      have := Int.add_mul_ediv_right a 1 (show t ≠ 0 by omega)
      rw [Int.one_mul] at this
      exact this
    rw [e]
    by_cases h : 0 ≤ a
    · have := Int.ediv_nonneg h (show 0 ≤ t by omega)
      rw [if_pos h]
      omega
    · have := Int.ediv_neg_of_neg_of_pos (show a < 0 by omega) ht
      rw [if_neg h]
      omega
  unfold sz
  by_cases h : 0 < s
  · simp only [if_pos h]
    rw [show (s.natAbs : Int) = s by omega]
    exact key (l - f) s h
  · simp only [if_neg h]
    rw [show (s.natAbs : Int) = -s by omega]
    have e : (l - f + s).fdiv s = (f - l + -s).fdiv (-s) := by
      rw [fdiv_neg']
      congr 1
      omega
    rw [e]
    exact key (f - l) (-s) (by omega)
/-- a number just behind an element is none, if the step is more than 1 -/
theorem spot_next {f l s k : Int} (hs : 1 < s.natAbs) : spot f l s (f + k * s + 1) = none := by
  refine spot_none (by omega) fun j _ _ e => ?_
  have h1 : (j - k) * s = 1 := by rw [Int.sub_mul]; omega
  have h2 : s ∣ 1 := ⟨j - k, by rw [Int.mul_comm]; exact h1.symm⟩
  have h3 := Int.natAbs_dvd_natAbs.mpr h2
  have h4 := Nat.le_of_dvd (by decide) h3
  simp at h4
  omega
theorem spot_behind {f l s : Int} (hs : s ≠ 0) : spot f l s (f + sz f l s * s) = none := by
  refine spot_none hs fun j _ h e => ?_
  have := mul_inj hs (a := sz f l s) (b := j) (by omega)
  omega
end TR

/-! TR2: elements, normal forms. -/
namespace TR
open PL (sortI sortI_eq sortI_perm sortI_up up_unique)
def els (f s : Int) (n : Nat) : List Int := (List.range n).map fun (i : Nat) => f + (i : Int) * s
theorem els_succ (f s : Int) (n : Nat) : els f s (n + 1) = els f s n ++ [f + (n : Int) * s] := by
  unfold els
  rw [List.range_succ, List.map_append]
  rfl
theorem els_length (f s : Int) (n : Nat) : (els f s n).length = n := by simp [els]
theorem els_get {f s : Int} {n j : Nat} (h : j < n) : (els f s n)[j]? = some (f + (j : Int) * s) := by
  unfold els
  rw [List.getElem?_map, List.getElem?_range h]
  rfl
theorem mem_els {f s x : Int} {n : Nat} : x ∈ els f s n ↔ ∃ j : Nat, j < n ∧ x = f + (j : Int) * s := by
  unfold els
  rw [List.mem_map]
  constructor
  · rintro ⟨j, h, e⟩
    exact ⟨j, List.mem_range.mp h, e.symm⟩
  · rintro ⟨j, h, e⟩
    exact ⟨j, List.mem_range.mpr h, e.symm⟩
theorem els_zero (f s : Int) : els f s 0 = [] := rfl
theorem els_one (f s : Int) : els f s 1 = [f] := by simp [els]
/-- turned about -/
theorem els_rev (f s : Int) (n : Nat) : (els f s n).reverse = els (f + ((n : Int) - 1) * s) (-s) n := by
  apply List.ext_getElem?
  intro i
  by_cases h : i < n
  · rw [List.getElem?_reverse (by rw [els_length]; exact h), els_length, els_get (by omega), els_get h]
    congr 1
    have e : ((n - 1 - i : Nat) : Int) = (n : Int) - 1 - (i : Int) := by omega
    rw [e, Int.sub_mul, Int.mul_neg]
    omega
  · rw [List.getElem?_eq_none (by rw [List.length_reverse, els_length]; omega), List.getElem?_eq_none (by rw [els_length]; omega)]
theorem els_up {f s : Int} (h : 0 < s) (n : Nat) : (els f s n).Pairwise (· ≤ ·) := by
  unfold els
  rw [List.pairwise_map]
  have := List.pairwise_lt_range (n := n)
  exact this.imp fun {a b} hab => by
    have : (a : Int) * s ≤ (b : Int) * s := Int.mul_le_mul_of_nonneg_right (by omega) (by omega)
    omega
theorem sort_els_up {f s : Int} (h : 0 < s) (n : Nat) : sortI (els f s n) = els f s n := (sortI_eq (List.Perm.refl _) (els_up h n)).symm
theorem sort_els_down {f s : Int} (h : s < 0) (n : Nat) : sortI (els f s n) = els (f + ((n : Int) - 1) * s) (-s) n := by
  refine (sortI_eq ?_ (els_up (by omega) n)).symm
  rw [← els_rev]
  exact List.reverse_perm _
/-! sizes of the same elements told otherwise -/
theorem sz_eq {f l s n : Int} (hs : s ≠ 0) (hn : 0 ≤ n) (h1 : 0 < n → (0 < s → f + (n - 1) * s ≤ l) ∧ (s < 0 → l ≤ f + (n - 1) * s)) (h2 : (0 < s → l < f + n * s) ∧ (s < 0 → f + n * s < l)) : sz f l s = n := by
  have a : ¬ n < sz f l s := fun q => by
    obtain ⟨u, v⟩ := (lt_sz hs hn).mp q
    by_cases h : 0 < s
    · have := u h; have := h2.1 h; omega
    · have := v (by omega); have := h2.2 (by omega); omega
  have b : ¬ sz f l s < n := fun q => by
    have h0 := sz_nonneg f l s
    have k := h1 (by omega)
    have := (lt_sz (f := f) (l := l) hs (show 0 ≤ n - 1 by omega)).mpr k
    omega
  omega
theorem sz_trim {f s n : Int} (hs : s ≠ 0) (hn : 0 < n) : sz f (f + (n - 1) * s) s = n := by
  refine sz_eq hs (by omega) (fun _ => ⟨fun _ => by omega, fun _ => by omega⟩) ⟨fun h => ?_, fun h => ?_⟩
  · rw [Int.sub_mul]; omega
  · rw [Int.sub_mul]; omega
theorem sz_back {f s n : Int} (hs : s ≠ 0) (hn : 0 < n) : sz (f + (n - 1) * s) f (-s) = n := by
  have e : f = f + (n - 1) * s + (n - 1) * (-s) := by rw [Int.mul_neg]; omega
  have := sz_trim (f := f + (n - 1) * s) (s := -s) (by omega) hn
  rw [← e] at this
  exact this
theorem sz_none : sz 0 (-1) 1 = 0 := by decide
theorem sz_self (f : Int) : sz f f 1 = 1 := by
  unfold sz
  rw [Int.fdiv_eq_ediv_of_nonneg _ (by decide)]
  omega
theorem sz_self' (f : Int) {s : Int} (hs : s ≠ 0) : sz f f s = 1 := by
  have := sz_trim (f := f) (n := 1) hs (by decide)
  rw [show f + ((1 : Int) - 1) * s = f by omega] at this
  exact this
/-- the normal form -/
def nr (f l s : Int) : List Int := if sz f l s = 0 then [0, -1, 1] else if sz f l s = 1 then [f, f, 1] else if 0 < s then [f, f + (sz f l s - 1) * s, s] else [f + (sz f l s - 1) * s, f, -s]
/-- turned about -/
def tn (f l s : Int) : List Int := if sz f l s = 0 then [0, -1, 1] else if sz f l s = 1 then [f, f, 1] else [f + (sz f l s - 1) * s, f, -s]
theorem nr_pos {f l s : Int} (h : 0 < s) : nr f l s = if sz f l s = 0 then [0, -1, 1] else if sz f l s = 1 then [f, f, 1] else [f, f + (sz f l s - 1) * s, s] := by
  unfold nr
  rw [if_pos h]
/-- the triple of a form -/
def A (x : List Int) : Int := x.getD 0 0
def B (x : List Int) : Int := x.getD 1 0
def C (x : List Int) : Int := x.getD 2 0
/-- the elements in rising order, by the normal form -/
theorem sort_nr {f l s : Int} (hs : s ≠ 0) : sortI (els f s (sz f l s).toNat) = els (A (nr f l s)) (C (nr f l s)) (sz (A (nr f l s)) (B (nr f l s)) (C (nr f l s))).toNat := by
  have h0 := sz_nonneg f l s
  unfold nr
  by_cases z0 : sz f l s = 0
  · simp [z0, A, B, C, sz_none, els_zero, sortI]
  · by_cases z1 : sz f l s = 1
    · simp [z1, A, B, C, sz_self, els_one, sortI]
    · by_cases hp : 0 < s
      · simp [z0, z1, hp, A, B, C]
        rw [sz_trim hs (by omega), sort_els_up hp]
      · simp [z0, z1, hp, A, B, C]
        rw [sz_back hs (by omega), sort_els_down (by omega)]
        rw [show (((sz f l s).toNat : Nat) : Int) = sz f l s by omega]
/-- how the law shows a row of elements -/
def shown (xs : List Int) : List Int := match xs with
  | [] => [0, -1, 1]
  | [x] => [x, x, 1]
  | x :: y :: r => [x, (y :: r).getLast (by simp), y - x]
theorem shown_els {f s : Int} {n : Nat} (h : 1 < n) : shown (els f s n) = [f, f + ((n : Int) - 1) * s, s] := by
  have e0 := els_get (f := f) (s := s) (show 0 < n by omega)
  have e1 := els_get (f := f) (s := s) (show 1 < n by omega)
  have el := els_get (f := f) (s := s) (show n - 1 < n by omega)
  have hlen := els_length f s n
  match hx : els f s n with
  | [] => rw [hx] at hlen; simp at hlen; omega
  | [x] => rw [hx] at hlen; simp at hlen; omega
  | x :: y :: r =>
    rw [hx] at e0 e1 el hlen
    simp at e0 e1 hlen
    unfold shown
    have hl : (y :: r).getLast (by simp) = f + ((n : Int) - 1) * s := by
      have := List.getLast?_eq_getElem? (l := y :: r)
      rw [List.getLast?_eq_some_getLast (by simp)] at this
      have h2 : (x :: y :: r)[n - 1]? = (y :: r)[(y :: r).length - 1]? := by
        rw [show n - 1 = ((y :: r).length - 1) + 1 by simp; omega, List.getElem?_cons_succ]
      rw [h2, ← this] at el
      have := Option.some.inj el
      rw [this, show ((n - 1 : Nat) : Int) = (n : Int) - 1 by omega]
    show [x, (y :: r).getLast (by simp), y - x] = _
    rw [hl, e0, e1]
    simp
    omega
theorem nr_shown {f l s : Int} (hs : s ≠ 0) : nr f l s = shown (sortI (els f s (sz f l s).toNat)) := by
  have h0 := sz_nonneg f l s
  rw [sort_nr hs]
  unfold nr
  by_cases z0 : sz f l s = 0
  · simp [z0, A, B, C, sz_none, els_zero, shown]
  · by_cases z1 : sz f l s = 1
    · simp [z1, A, B, C, sz_self, els_one, shown]
    · by_cases hp : 0 < s
      · simp [z0, z1, hp, A, B, C]
        rw [sz_trim hs (by omega), shown_els (by omega), show (((sz f l s).toNat : Nat) : Int) = sz f l s by omega]
      · simp [z0, z1, hp, A, B, C]
        rw [sz_back hs (by omega), shown_els (by omega), show (((sz f l s).toNat : Nat) : Int) = sz f l s by omega, Int.mul_neg]
        congr 2
        omega
theorem nr_sorted {f l s f' l' s' : Int} (hs : s ≠ 0) (hs' : s' ≠ 0) : nr f l s = nr f' l' s' ↔ sortI (els f s (sz f l s).toNat) = sortI (els f' s' (sz f' l' s').toNat) := by
  constructor
  · intro h
    rw [sort_nr hs, sort_nr hs', h]
  · intro h
    rw [nr_shown hs, nr_shown hs', h]
/-- the size by the normal form -/
theorem sz_nr {f l s : Int} (hs : s ≠ 0) : sz (A (nr f l s)) (B (nr f l s)) (C (nr f l s)) = sz f l s := by
  have h0 := sz_nonneg f l s
  unfold nr
  by_cases z0 : sz f l s = 0
  · simp [z0, A, B, C, sz_none]
  · by_cases z1 : sz f l s = 1
    · simp [z1, A, B, C, sz_self]
    · by_cases hp : 0 < s
      · simp [z0, z1, hp, A, B, C]
        exact sz_trim hs (by omega)
      · simp [z0, z1, hp, A, B, C]
        exact sz_back hs (by omega)
theorem nr_nr {f l s : Int} (hs : s ≠ 0) : nr (A (nr f l s)) (B (nr f l s)) (C (nr f l s)) = nr f l s := by
  have h0 := sz_nonneg f l s
  have e := sz_nr (f := f) (l := l) hs
  by_cases z0 : sz f l s = 0
  · rw [nr, e]; simp [nr, z0]
  · by_cases z1 : sz f l s = 1
    · rw [nr, e]; simp [nr, z1, A]
    · by_cases hp : 0 < s
      · rw [nr, e]; simp [nr, z0, z1, hp, A, B, C]
      · rw [nr, e]; simp [nr, z0, z1, hp, A, B, C, show (s < 0) by omega, Int.mul_neg]; omega
theorem sz_tn {f l s : Int} (hs : s ≠ 0) : sz (A (tn f l s)) (B (tn f l s)) (C (tn f l s)) = sz f l s := by
  have h0 := sz_nonneg f l s
  unfold tn
  by_cases z0 : sz f l s = 0
  · simp [z0, A, B, C, sz_none]
  · by_cases z1 : sz f l s = 1
    · simp [z1, A, B, C, sz_self]
    · simp [z0, z1, A, B, C]
      exact sz_back hs (by omega)
theorem nr_tn {f l s : Int} (hs : s ≠ 0) : nr (A (tn f l s)) (B (tn f l s)) (C (tn f l s)) = nr f l s := by
  have h0 := sz_nonneg f l s
  have e := sz_tn (f := f) (l := l) hs
  by_cases z0 : sz f l s = 0
  · rw [nr, e]; simp [nr, tn, z0]
  · by_cases z1 : sz f l s = 1
    · rw [nr, e]; simp [nr, tn, z1, A]
    · by_cases hp : 0 < s
      · rw [nr, e]; simp [nr, tn, z0, z1, hp, A, B, C, show ¬ s < 0 by omega, Int.mul_neg]; omega
      · rw [nr, e]; simp [nr, tn, z0, z1, hp, A, B, C, show s < 0 by omega, Int.mul_neg]; omega
theorem els_tn {f l s : Int} (hs : s ≠ 0) : els (A (tn f l s)) (C (tn f l s)) (sz f l s).toNat = (els f s (sz f l s).toNat).reverse := by
  have h0 := sz_nonneg f l s
  rw [els_rev]
  unfold tn
  by_cases z0 : sz f l s = 0
  · simp [z0, A, B, C, els_zero]
  · by_cases z1 : sz f l s = 1
    · simp [z1, A, B, C, els_one]
    · simp [z0, z1, A, B, C]
      rw [show max (sz f l s) 0 = sz f l s by omega]
theorem els_inj {f s f' s' : Int} {n n' : Nat} (h : els f s n = els f' s' n') : n = n' ∧ (0 < n → f = f') ∧ (1 < n → s = s') := by
  have hn : n = n' := by rw [← els_length f s n, h, els_length]
  subst hn
  refine ⟨rfl, fun h0 => ?_, fun h1 => ?_⟩
  · have a := els_get (f := f) (s := s) h0
    rw [h, els_get h0] at a
    simpa using a.symm
  · have a := els_get (f := f) (s := s) (show 0 < n by omega)
    rw [h, els_get (by omega)] at a
    have b := els_get (f := f) (s := s) h1
    rw [h, els_get h1] at b
    simp at a b
    omega
/-- the same run -/
theorem run_iff {f l s f' l' s' : Int} (hs : s ≠ 0) (hs' : s' ≠ 0) : (nr f l s = nr f' l' s' ∧ (sz f l s = 0 ∨ f = f')) ↔ els f s (sz f l s).toNat = els f' s' (sz f' l' s').toNat := by
  have h0 := sz_nonneg f l s
  have h0' := sz_nonneg f' l' s'
  constructor
  · rintro ⟨h1, h2⟩
    have hz : sz f l s = sz f' l' s' := by rw [← sz_nr hs, h1, sz_nr hs']
    rw [← hz]
    rcases h2 with h2 | h2
    · rw [h2]; rfl
    · subst h2
      by_cases z0 : sz f l s = 0
      · rw [z0]; rfl
      · by_cases z1 : sz f l s = 1
        · rw [z1]; simp [els_one]
        · have hss : s = s' := by
            unfold nr at h1
            rw [← hz] at h1
            simp only [z0, z1, if_false] at h1
            have p1 : 0 < s → 0 < (sz f l s - 1) * s := fun h => Int.mul_pos (by omega) h
            have p2 : s < 0 → (sz f l s - 1) * s < 0 := fun h => Int.mul_neg_of_pos_of_neg (by omega) h
            have p3 : 0 < s' → 0 < (sz f l s - 1) * s' := fun h => Int.mul_pos (by omega) h
            have p4 : s' < 0 → (sz f l s - 1) * s' < 0 := fun h => Int.mul_neg_of_pos_of_neg (by omega) h
            by_cases hp : 0 < s <;> by_cases hp' : 0 < s' <;> simp [hp, hp'] at h1 <;> omega
          rw [hss]
  · intro h
    obtain ⟨h1, h2, _⟩ := els_inj h
    refine ⟨(nr_sorted hs hs').mpr (by rw [h]), ?_⟩
    by_cases z : sz f l s = 0
    · exact .inl z
    · exact .inr (h2 (by omega))
theorem nr_none {f l s : Int} (hs : s ≠ 0) : nr f l s = [0, -1, 1] ↔ sz f l s = 0 := by
  constructor
  · intro h
    have e := sz_nr (f := f) (l := l) hs
    rw [h] at e
    rw [← e]
    decide
  · intro h
    simp [nr, h]
end TR

/-! TR3: shared elements. -/
namespace TR
open PL (sortI sortI_eq sortI_perm sortI_up up_unique)
theorem half_step {b r : Nat} (h0 : 0 < r) (h1 : r < b) : 2 * (b % r) < b := by
  by_cases h : 2 * r ≤ b
  · have := Nat.mod_lt b h0
    omega
  · have e : b % r = b - r := by
      rw [Nat.mod_eq_sub_mod (by omega), Nat.mod_eq_of_lt (by omega)]
    omega
/-- rising lists with the same members -/
theorem lt_ext : ∀ {xs ys : List Int}, xs.Pairwise (· < ·) → ys.Pairwise (· < ·) → (∀ x, x ∈ xs ↔ x ∈ ys) → xs = ys
  | [], [], _, _, _ => rfl
  | [], y :: ys, _, _, h => absurd ((h y).mpr List.mem_cons_self) (by simp)
  | x :: xs, [], _, _, h => absurd ((h x).mp List.mem_cons_self) (by simp)
  | x :: xs, y :: ys, hx, hy, h => by
    rw [List.pairwise_cons] at hx hy
    have e : x = y := by
      rcases List.mem_cons.mp ((h x).mp List.mem_cons_self) with a | a
      · exact a
      · rcases List.mem_cons.mp ((h y).mpr List.mem_cons_self) with b | b
        · exact b.symm
        · have := hx.1 y b
          have := hy.1 x a
          omega
    subst e
    rw [lt_ext hx.2 hy.2 fun z => ?_]
    constructor
    · intro hz
      rcases List.mem_cons.mp ((h z).mp (List.mem_cons_of_mem _ hz)) with a | a
      · have := hx.1 z hz
        omega
      · exact a
    · intro hz
      rcases List.mem_cons.mp ((h z).mpr (List.mem_cons_of_mem _ hz)) with a | a
      · have := hy.1 z hz
        omega
      · exact a
theorem els_lt {f s : Int} (h : 0 < s) (n : Nat) : (els f s n).Pairwise (· < ·) := by
  unfold els
  rw [List.pairwise_map]
  have := List.pairwise_lt_range (n := n)
  exact this.imp fun {a b} hab => by
    have : (a : Int) * s < (b : Int) * s := Int.mul_lt_mul_of_pos_right (by omega) h
    omega
/-- the elements of a rising triplet -/
theorem mem_sz {f l s x : Int} (hs : 0 < s) : x ∈ els f s (sz f l s).toNat ↔ f ≤ x ∧ x ≤ l ∧ s ∣ (x - f) := by
  have h0 := sz_nonneg f l s
  rw [mem_els]
  constructor
  · rintro ⟨j, hj, rfl⟩
    have := ((lt_sz (f := f) (l := l) (k := (j : Int)) (by omega) (by omega)).mp (by omega)).1 hs
    have : 0 ≤ (j : Int) * s := Int.mul_nonneg (by omega) (by omega)
    exact ⟨by omega, by omega, ⟨j, by rw [Int.mul_comm s]; omega⟩⟩
  · rintro ⟨h1, h2, k, hk⟩
    have k0 : 0 ≤ k := by
      by_cases q : 0 ≤ k
      · exact q
      · have : s * k < 0 := Int.mul_neg_of_pos_of_neg hs (by omega)
        omega
    have e : x = f + k * s := by rw [Int.mul_comm k]; omega
    have hk2 : k < sz f l s := (lt_sz (f := f) (l := l) (k := k) (by omega) k0).mpr ⟨fun _ => by omega, fun q => by omega⟩
    exact ⟨k.toNat, by omega, by rw [show ((k.toNat : Nat) : Int) = k by omega]; exact e⟩
/-- the elements, rising -/
def up (f l s : Int) : List Int := sortI (els f s (sz f l s).toNat)
theorem up_lt {f l s : Int} (hs : s ≠ 0) : (up f l s).Pairwise (· < ·) := by
  unfold up
  by_cases h : 0 < s
  · rw [sort_els_up h]; exact els_lt h _
  · rw [sort_els_down (by omega)]; exact els_lt (by omega) _
theorem up_pos {f l s : Int} (hs : 0 < s) : up f l s = els f s (sz f l s).toNat := sort_els_up hs _
theorem up_mem {f l s x : Int} : x ∈ up f l s ↔ x ∈ els f s (sz f l s).toNat := (sortI_perm _).mem_iff
theorem up_length {f l s : Int} : (up f l s).length = (sz f l s).toNat := by rw [up, (sortI_perm _).length_eq, els_length]
theorem nr_up {f l s f' l' s' : Int} (hs : s ≠ 0) (hs' : s' ≠ 0) : nr f l s = nr f' l' s' ↔ up f l s = up f' l' s' := nr_sorted hs hs'
theorem nr_shown' {f l s : Int} (hs : s ≠ 0) : nr f l s = shown (up f l s) := nr_shown hs
/-- the shared elements, rising -/
def cm (f l s f' l' s' : Int) : List Int := (up f l s).filter fun x => decide (x ∈ els f' s' (sz f' l' s').toNat)
theorem cm_lt {f l s f' l' s' : Int} (hs : s ≠ 0) : (cm f l s f' l' s').Pairwise (· < ·) := (up_lt hs).filter _
theorem cm_mem {f l s f' l' s' x : Int} : x ∈ cm f l s f' l' s' ↔ x ∈ els f s (sz f l s).toNat ∧ x ∈ els f' s' (sz f' l' s').toNat := by
  unfold cm
  rw [List.mem_filter, up_mem]
  simp
theorem cm_comm {f l s f' l' s' : Int} (hs : s ≠ 0) (hs' : s' ≠ 0) : cm f l s f' l' s' = cm f' l' s' f l s := lt_ext (cm_lt hs) (cm_lt hs') fun x => by rw [cm_mem, cm_mem]; exact And.comm
theorem cm_all {f l s f' l' s' : Int} : cm f l s f' l' s' = up f l s ↔ (cm f l s f' l' s').length = (up f l s).length := by
  constructor
  · intro h; rw [h]
  · intro h
    exact List.filter_sublist.eq_of_length h
/-- shared elements of two normal forms are those of the triplets -/
theorem els_nr {f l s x : Int} (hs : s ≠ 0) : x ∈ els f s (sz f l s).toNat ↔ x ∈ els (A (nr f l s)) (C (nr f l s)) (sz (A (nr f l s)) (B (nr f l s)) (C (nr f l s))).toNat := by
  rw [← sort_nr hs]
  exact (sortI_perm _).mem_iff.symm
theorem nr_C {f l s : Int} (hs : s ≠ 0) : 0 < C (nr f l s) := by
  have h0 := sz_nonneg f l s
  unfold nr
  by_cases z0 : sz f l s = 0
  · simp [z0, C]
  · by_cases z1 : sz f l s = 1
    · simp [z1, C]
    · by_cases hp : 0 < s
      · simp [z0, z1, hp, C]
      · simp [z0, z1, hp, C]
        omega
theorem cm_nr {f l s f' l' s' : Int} (hs : s ≠ 0) (hs' : s' ≠ 0) : cm (A (nr f l s)) (B (nr f l s)) (C (nr f l s)) (A (nr f' l' s')) (B (nr f' l' s')) (C (nr f' l' s')) = cm f l s f' l' s' :=
  lt_ext (cm_lt (by have := nr_C (f := f) (l := l) hs; omega)) (cm_lt hs) fun x => by rw [cm_mem, cm_mem, ← els_nr hs, ← els_nr hs']
/-! ### congruences -/
theorem dvd_fmod {a b c : Int} (h : c ∣ b) (hb : 0 < b) : c ∣ (a - a.fmod b) := by
  rw [Int.fmod_eq_emod_of_nonneg _ (by omega)]
  have := Int.emod_add_mul_ediv a b
  exact Int.dvd_trans h ⟨a / b, by omega⟩
/-- two rising rows with a meeting x of period L: what they share -/
theorem met_mem {f l s f' l' s' x L : Int} (hs : 0 < s) (hs' : 0 < s') (hL : 0 < L) (x1 : s ∣ (x - f)) (x2 : s' ∣ (x - f')) (d1 : s ∣ L) (d2 : s' ∣ L) (dl : ∀ y, s ∣ y → s' ∣ y → L ∣ y) (y : Int) :
    (y ∈ els f s (sz f l s).toNat ∧ y ∈ els f' s' (sz f' l' s').toNat) ↔ y ∈ els (max f f' + (x - max f f').fmod L) L (sz (max f f' + (x - max f f').fmod L) (min l l') L).toNat := by
  rw [mem_sz hs, mem_sz hs', mem_sz hL]
  have e := dvd_fmod (a := x - max f f') (b := L) (Int.dvd_refl L) hL
  have r1 : 0 ≤ (x - max f f').fmod L ∧ (x - max f f').fmod L < L := by
    rw [Int.fmod_eq_emod_of_nonneg _ (by omega)]
    exact ⟨Int.emod_nonneg _ (by omega), Int.emod_lt_of_pos _ hL⟩
  generalize hst : max f f' + (x - max f f').fmod L = st
  have e2 : L ∣ (x - st) := by
    obtain ⟨k, hk⟩ := e
    exact ⟨k, by omega⟩
  constructor
  · rintro ⟨⟨a1, a2, a3⟩, b1, b2, b3⟩
    have hd : L ∣ (y - st) := by
      have k1 : s ∣ (y - x) := by
        have := Int.dvd_sub a3 x1
        rw [show y - f - (x - f) = y - x by omega] at this
        exact this
      have k2 : s' ∣ (y - x) := by
        have := Int.dvd_sub b3 x2
        rw [show y - f' - (x - f') = y - x by omega] at this
        exact this
      have := Int.dvd_add (dl _ k1 k2) e2
      rw [show y - x + (x - st) = y - st by omega] at this
      exact this
    refine ⟨?_, by omega, hd⟩
    obtain ⟨k, hk⟩ := hd
    by_cases q : 0 ≤ k
    · have : 0 ≤ L * k := Int.mul_nonneg (by omega) q
      omega
    · have : L * k ≤ L * (-1) := Int.mul_le_mul_of_nonneg_left (by omega) (by omega)
      omega
  · rintro ⟨a1, a2, a3⟩
    have k1 : s ∣ (y - f) := by
      have := Int.dvd_add (Int.dvd_sub (Int.dvd_trans d1 a3) (Int.dvd_trans d1 e2)) x1
      rw [show y - st - (x - st) + (x - f) = y - f by omega] at this
      exact this
    have k2 : s' ∣ (y - f') := by
      have := Int.dvd_add (Int.dvd_sub (Int.dvd_trans d2 a3) (Int.dvd_trans d2 e2)) x2
      rw [show y - st - (x - st) + (x - f') = y - f' by omega] at this
      exact this
    exact ⟨⟨by omega, by omega, k1⟩, by omega, by omega, k2⟩
/-- the least common multiple -/
theorem lcm_dvd {s s' y : Int} (h1 : s ∣ y) (h2 : s' ∣ y) : (Int.lcm s s' : Int) ∣ y := by
  have := Nat.lcm_dvd (Int.natAbs_dvd_natAbs.mpr h1) (Int.natAbs_dvd_natAbs.mpr h2)
  exact Int.ofNat_dvd_left.mpr this
theorem gcd_none {s s' f f' : Int} (h : ¬ (Int.gcd s s' : Int) ∣ (f' - f)) (l l' y : Int) (hs : 0 < s) (hs' : 0 < s') : ¬ (y ∈ els f s (sz f l s).toNat ∧ y ∈ els f' s' (sz f' l' s').toNat) := by
  rw [mem_sz hs, mem_sz hs']
  rintro ⟨⟨_, _, a⟩, _, _, b⟩
  apply h
  have g1 : (Int.gcd s s' : Int) ∣ (y - f) := Int.dvd_trans (Int.gcd_dvd_left ..) a
  have g2 : (Int.gcd s s' : Int) ∣ (y - f') := Int.dvd_trans (Int.gcd_dvd_right ..) b
  have := Int.dvd_sub g1 g2
  rw [show y - f - (y - f') = f' - f by omega] at this
  exact this
end TR

/-! TR4: shared elements as a triplet. -/
namespace TR
open PL (sortI sortI_eq sortI_perm sortI_up up_unique)
theorem cm_up_pos {f l s f' l' s' : Int} (hs : 0 < s) (hs' : 0 < s') : ∃ a b c, 0 < c ∧ cm f l s f' l' s' = up a b c := by
  match hx : cm f l s f' l' s' with
  | [] => exact ⟨0, -1, 1, by decide, by rw [up, sz_none]; simp [els_zero, sortI]⟩
  | x :: r =>
    have hm : x ∈ cm f l s f' l' s' := by rw [hx]; exact List.mem_cons_self
    obtain ⟨m1, m2⟩ := cm_mem.mp hm
    have L0 : 0 < Int.lcm s s' := Int.lcm_pos (by omega) (by omega)
    have mm := met_mem (f := f) (l := l) (f' := f') (l' := l') (x := x) (L := (Int.lcm s s' : Int)) hs hs' (by omega) ((mem_sz hs).mp m1).2.2 ((mem_sz hs').mp m2).2.2 (Int.dvd_lcm_left ..) (Int.dvd_lcm_right ..) (fun y a b => lcm_dvd a b)
    refine ⟨max f f' + (x - max f f').fmod (Int.lcm s s' : Int), min l l', (Int.lcm s s' : Int), by omega, ?_⟩
    rw [← hx]
    exact lt_ext (cm_lt (by omega)) (up_lt (by omega)) fun y => by rw [cm_mem, up_mem]; exact mm y
theorem cm_up {f l s f' l' s' : Int} (hs : s ≠ 0) (hs' : s' ≠ 0) : ∃ a b c, 0 < c ∧ cm f l s f' l' s' = up a b c := by
  rw [← cm_nr hs hs']
  exact cm_up_pos (nr_C hs) (nr_C hs')
/-- the one lies within the other -/
theorem lies_iff {f l s f' l' s' : Int} (hs : s ≠ 0) (hs' : s' ≠ 0) : shown (cm f l s f' l' s') = nr f l s ↔ (cm f l s f' l' s').length = (sz f l s).toNat := by
  obtain ⟨a, b, c, hc, e⟩ := cm_up (f := f) (l := l) (f' := f') (l' := l') hs hs'
  rw [← up_length, ← cm_all, e, ← nr_shown' (show c ≠ 0 by omega)]
  exact nr_up (by omega) hs
/-- a row and the same with its elements told otherwise -/
theorem cm_same {f l s f' l' s' a b c : Int} (hs : s ≠ 0) (hc : c ≠ 0) (h : ∀ y, y ∈ els f s (sz f l s).toNat ↔ y ∈ els a c (sz a b c).toNat) : cm f l s f' l' s' = cm a b c f' l' s' :=
  lt_ext (cm_lt hs) (cm_lt hc) fun y => by rw [cm_mem, cm_mem, h y]
/-- shared elements with oneself's part -/
theorem cm_sub {f l s f' l' s' a b c : Int} (hs : s ≠ 0) (hs' : s' ≠ 0) (hc : 0 < c) (h : cm f l s f' l' s' = up a b c) : cm a b c f l s = up a b c ∧ cm a b c f' l' s' = up a b c := by
  constructor
  · refine lt_ext (cm_lt (by omega)) (up_lt (by omega)) fun y => ?_
    rw [cm_mem, ← up_mem (f := a), ← h, cm_mem]
    exact ⟨fun q => q.1, fun q => ⟨q, q.1⟩⟩
  · refine lt_ext (cm_lt (by omega)) (up_lt (by omega)) fun y => ?_
    rw [cm_mem, ← up_mem (f := a), ← h, cm_mem]
    exact ⟨fun q => q.1, fun q => ⟨q, q.2⟩⟩
/-- the least common multiple as the law finds it -/
theorem lcm_least {s s' : Int} (hs : 0 < s) (hs' : 0 < s') {k : Nat} (hk : 0 < k) (h1 : s' ∣ ((k : Int) * s)) (h2 : ∀ i : Nat, 0 < i → i < k → ¬ s' ∣ ((i : Int) * s)) (y : Int) (y1 : s ∣ y) (y2 : s' ∣ y) : ((k : Int) * s) ∣ y := by
  obtain ⟨z, rfl⟩ := y1
  have hk0 : (k : Int) ≠ 0 := by omega
  have e := Int.emod_add_mul_ediv z (k : Int)
  have r0 := Int.emod_nonneg z hk0
  have r1 := Int.emod_lt_of_pos z (show (0 : Int) < k by omega)
  have hd : s' ∣ ((z % (k : Int)) * s) := by
    have a : s' ∣ ((k : Int) * s * (z / (k : Int))) := Int.dvd_trans h1 ⟨_, rfl⟩
    have b := Int.dvd_sub y2 a
    have e2 : s * z - (k : Int) * s * (z / (k : Int)) = (z % (k : Int)) * s := by
      have : z % (k : Int) = z - (k : Int) * (z / (k : Int)) := by omega
      rw [this, Int.sub_mul, Int.mul_comm s z, Int.mul_assoc, Int.mul_assoc, Int.mul_comm s]
    rw [e2] at b
    exact b
  by_cases q : z % (k : Int) = 0
  · exact ⟨z / (k : Int), by
      have : z = (k : Int) * (z / (k : Int)) := by omega
      rw [Int.mul_comm (k : Int) s, Int.mul_assoc, ← this]⟩
  · exfalso
    refine h2 (z % (k : Int)).toNat (by omega) (by omega) ?_
    rw [show (((z % (k : Int)).toNat : Nat) : Int) = z % (k : Int) by omega]
    exact hd
end TR

/-! AR: plain mathematics of arrays: extents, places, elements. -/
namespace AR
abbrev Bd := Int × Int
def ext (b : Bd) : Int := max 0 (b.2 - b.1 + 1)
theorem ext_nonneg (b : Bd) : 0 ≤ ext b := by unfold ext; omega
def prod : List Int → Int
  | [] => 1
  | x :: r => x * prod r
def exts (bs : List Bd) : List Int := bs.map ext
theorem prod_nonneg : ∀ bs : List Bd, 0 ≤ prod (exts bs)
  | [] => by decide
  | b :: bs => Int.mul_nonneg (ext_nonneg b) (prod_nonneg bs)
/-- the place of an element, the first subscript running fastest -/
def place : List Bd → List Int → Int
  | b :: bs, x :: xs => (x - b.1) + ext b * place bs xs
  | _, _ => 0
def elem : List Bd → Int → List Int
  | [], _ => []
  | b :: bs, p => (b.1 + p.fmod (ext b)) :: elem bs (p.fdiv (ext b))
def inB : List Bd → List Int → Prop
  | [], [] => True
  | b :: bs, x :: xs => b.1 ≤ x ∧ x ≤ b.2 ∧ inB bs xs
  | _, _ => False
theorem inB_len : ∀ {bs : List Bd} {xs : List Int}, inB bs xs → xs.length = bs.length
  | [], [], _ => rfl
  | [], _ :: _, h => h.elim
  | _ :: _, [], h => h.elim
  | b :: bs, x :: xs, h => congrArg Nat.succ (inB_len h.2.2)
theorem ext_in {b : Bd} {x : Int} (h1 : b.1 ≤ x) (h2 : x ≤ b.2) : x - b.1 < ext b := by unfold ext; omega
theorem place_lt : ∀ {bs : List Bd} {xs : List Int}, inB bs xs → 0 ≤ place bs xs ∧ place bs xs < prod (exts bs)
  | [], [], _ => by decide
  | [], _ :: _, h => h.elim
  | _ :: _, [], h => h.elim
  | b :: bs, x :: xs, h => by
    obtain ⟨h1, h2, h3⟩ := h
    obtain ⟨i1, i2⟩ := place_lt h3
    have e := ext_in h1 h2
    have e0 := ext_nonneg b
    have a : 0 ≤ ext b * place bs xs := Int.mul_nonneg e0 i1
    have c : ext b * (place bs xs + 1) ≤ ext b * prod (exts bs) := Int.mul_le_mul_of_nonneg_left (by omega) e0
    rw [Int.mul_add, Int.mul_one] at c
    show 0 ≤ (x - b.1) + ext b * place bs xs ∧ (x - b.1) + ext b * place bs xs < ext b * prod (exts bs)
    omega
theorem elem_place : ∀ {bs : List Bd} {xs : List Int}, inB bs xs → elem bs (place bs xs) = xs
  | [], [], _ => rfl
  | [], _ :: _, h => h.elim
  | _ :: _, [], h => h.elim
  | b :: bs, x :: xs, h => by
    obtain ⟨h1, h2, h3⟩ := h
    have e := ext_in h1 h2
    have ep : 0 < ext b := by omega
    have ih := elem_place h3
    show (b.1 + ((x - b.1) + ext b * place bs xs).fmod (ext b)) :: elem bs (((x - b.1) + ext b * place bs xs).fdiv (ext b)) = x :: xs
    have m1 : ((x - b.1) + ext b * place bs xs).fmod (ext b) = x - b.1 := by
      rw [Int.fmod_eq_emod_of_nonneg _ (by omega), Int.add_mul_emod_self_left, Int.emod_eq_of_lt (by omega) e]
    have m2 : ((x - b.1) + ext b * place bs xs).fdiv (ext b) = place bs xs := by
      rw [Int.fdiv_eq_ediv_of_nonneg _ (by omega), Int.add_mul_ediv_left _ _ (by omega), Int.ediv_eq_zero_of_lt (by omega) e]
      omega
    rw [m1, m2, ih, show b.1 + (x - b.1) = x by omega]
/-- all elements in their order -/
def rng (lo : Int) (n : Nat) : List Int := (List.range n).map fun (i : Nat) => lo + (i : Int)
def all : List Bd → List (List Int)
  | [] => [[]]
  | b :: bs => (all bs).flatMap fun row => (rng b.1 (ext b).toNat).map fun one => one :: row
theorem rng_length (lo : Int) (n : Nat) : (rng lo n).length = n := by simp [rng]
theorem flat_get {α β : Type} {n : Nat} {f : α → List β} (hf : ∀ a, (f a).length = n) : ∀ (l : List α) (k : Nat) (y : β), (l.flatMap f)[k]? = some y → ∃ i j a, j < n ∧ k = j + n * i ∧ l[i]? = some a ∧ (f a)[j]? = some y
  | [], k, y, h => by simp at h
  | a :: l, k, y, h => by
    rw [List.flatMap_cons] at h
    by_cases hk : k < n
    · rw [List.getElem?_append_left (by rw [hf]; exact hk)] at h
      exact ⟨0, k, a, hk, by omega, rfl, h⟩
    · rw [List.getElem?_append_right (by rw [hf]; omega), hf] at h
      obtain ⟨i, j, a', h1, h2, h3, h4⟩ := flat_get hf l (k - n) y h
      exact ⟨i + 1, j, a', h1, by rw [Nat.mul_add]; omega, by simpa using h3, h4⟩
theorem all_get : ∀ (bs : List Bd) (k : Nat) (xs : List Int), (all bs)[k]? = some xs → inB bs xs ∧ place bs xs = (k : Int)
  | [], k, xs, h => by
    have hk : k = 0 := by
      have := (List.getElem?_eq_some_iff.mp h).1
      simp [all] at this
      exact this
    subst hk
    simp [all] at h
    subst h
    exact ⟨trivial, rfl⟩
  | b :: bs, k, xs, h => by
    obtain ⟨i, j, row, h1, h2, h3, h4⟩ := flat_get (n := (ext b).toNat) (fun a => by rw [List.length_map, rng_length]) (all bs) k xs h
    obtain ⟨i1, i2⟩ := all_get bs i row h3
    rw [List.getElem?_map] at h4
    unfold rng at h4
    rw [List.getElem?_map, List.getElem?_range h1] at h4
    simp at h4
    subst h4
    have e0 := ext_nonneg b
    refine ⟨⟨by omega, ?_, i1⟩, ?_⟩
    · have : ext b = max 0 (b.2 - b.1 + 1) := rfl
      omega
    · show (b.1 + (j : Int) - b.1) + ext b * place bs row = (k : Int)
      have hk : (k : Int) = (j : Int) + ((ext b).toNat : Int) * (i : Int) := by rw [h2]; simp
      rw [i2, hk, show (((ext b).toNat : Nat) : Int) = ext b by omega]
      omega
/-- the places by strides -/
def strd : Int → List Int → List Int
  | _, [] => []
  | a, e :: r => a :: strd (a * e) r
def ssum : Int → List Bd → List Int → Int
  | a, b :: bs, x :: xs => (x - b.1) * a + ssum (a * ext b) bs xs
  | _, _, _ => 0
theorem ssum_eq : ∀ (a : Int) (bs : List Bd) (xs : List Int), ssum a bs xs = a * place bs xs
  | a, [], xs => by cases xs <;> simp [ssum, place]
  | a, b :: bs, [] => by simp [ssum, place]
  | a, b :: bs, x :: xs => by
    show (x - b.1) * a + ssum (a * ext b) bs xs = a * ((x - b.1) + ext b * place bs xs)
    rw [ssum_eq (a * ext b) bs xs, Int.mul_add, Int.mul_comm (x - b.1) a, Int.mul_assoc]
/-- the last element -/
theorem last_in : ∀ {bs : List Bd}, (∀ b ∈ bs, b.1 ≤ b.2) → inB bs (bs.map (·.2)) ∧ place bs (bs.map (·.2)) = prod (exts bs) - 1
  | [], _ => ⟨trivial, rfl⟩
  | b :: bs, h => by
    obtain ⟨i1, i2⟩ := last_in (bs := bs) fun c hc => h c (List.mem_cons_of_mem _ hc)
    have hb := h b List.mem_cons_self
    refine ⟨⟨hb, Int.le_refl _, i1⟩, ?_⟩
    show (b.2 - b.1) + ext b * place bs (bs.map (·.2)) = ext b * prod (exts bs) - 1
    have e : ext b = b.2 - b.1 + 1 := by unfold ext; omega
    rw [i2, Int.mul_sub, Int.mul_one]
    omega
end AR

/-! SE: plain mathematics of sections: parts, subscripts, elements, stretches. -/
namespace SE
open AR (Bd ext exts prod place inB)
inductive Part where
  | num (x : Int) | tri (f l s : Int) | lst (xs : List Int)
def many : Part → Int
  | .num _ => 1
  | .tri f l s => TR.sz f l s
  | .lst xs => xs.length
def subs : Part → List Int
  | .num x => [x]
  | .tri f l s => TR.els f s (TR.sz f l s).toNat
  | .lst xs => xs
theorem subs_length : ∀ p : Part, ((subs p).length : Int) = many p
  | .num _ => rfl
  | .tri f l s => by
    have := TR.sz_nonneg f l s
    simp only [subs, many, TR.els_length]
    omega
  | .lst _ => rfl
theorem many_nonneg (p : Part) : 0 ≤ many p := by rw [← subs_length]; omega
/-- the subscript with a number -/
def at_ : Part → Int → Int
  | .num x, _ => x
  | .tri f _ s, i => f + i * s
  | .lst xs, i => xs.getD i.toNat 0
theorem subs_at : ∀ {p : Part} {j : Nat}, j < (subs p).length → (subs p)[j]? = some (at_ p (j : Int))
  | .num x, 0, _ => rfl
  | .num x, j + 1, h => by simp [subs] at h
  | .tri f l s, j, h => by
    have h' : j < (TR.sz f l s).toNat := by simpa [subs, TR.els_length] using h
    exact TR.els_get h'
  | .lst xs, j, h => by
    have h' : j < xs.length := h
    simp [subs, at_, List.getD, List.getElem?_eq_getElem h']
theorem at_mem {p : Part} {i : Int} (h0 : 0 ≤ i) (h1 : i < many p) : at_ p i ∈ subs p := by
  have hl := subs_length p
  have := subs_at (p := p) (j := i.toNat) (by omega)
  rw [show ((i.toNat : Nat) : Int) = i by omega] at this
  exact List.mem_of_getElem? this
/-- the elements, the first part running fastest -/
def els : List Part → List (List Int)
  | [] => [[]]
  | p :: ps => (els ps).flatMap fun row => (subs p).map fun x => x :: row
def cnt (ps : List Part) : Int := prod (ps.map many)
theorem sumC (n : Nat) : ∀ k : Nat, (List.replicate k n).sum = k * n
  | 0 => by simp
  | k + 1 => by rw [List.replicate_succ, List.sum_cons, sumC n k, Nat.add_mul, Nat.one_mul]; omega
theorem els_length : ∀ ps : List Part, ((els ps).length : Int) = cnt ps
  | [] => rfl
  | p :: ps => by
    have e : (els (p :: ps)).length = (els ps).length * (subs p).length := by
      simp [els, List.length_flatMap, List.map_const', sumC]
    rw [e]
    show (((els ps).length * (subs p).length : Nat) : Int) = many p * prod (ps.map many)
    rw [Int.natCast_mul, els_length ps, subs_length, Int.mul_comm]
    rfl
theorem els_rows : ∀ {ps : List Part} {r : List Int}, r ∈ els ps → r.length = ps.length
  | [], r, h => by simp [els] at h; subst h; rfl
  | p :: ps, r, h => by
    simp only [els, List.mem_flatMap, List.mem_map] at h
    obtain ⟨row, h1, x, h2, rfl⟩ := h
    simp [els_rows h1]
/-- all subscripts lie within bounds -/
def inS : List Bd → List Part → Prop
  | [], [] => True
  | b :: bs, p :: ps => (∀ x ∈ subs p, b.1 ≤ x ∧ x ≤ b.2) ∧ inS bs ps
  | _, _ => False
theorem inS_len : ∀ {bs : List Bd} {ps : List Part}, inS bs ps → ps.length = bs.length
  | [], [], _ => rfl
  | [], _ :: _, h => h.elim
  | _ :: _, [], h => h.elim
  | _ :: _, _ :: _, h => congrArg Nat.succ (inS_len h.2)
theorem els_in : ∀ {bs : List Bd} {ps : List Part} {r : List Int}, inS bs ps → r ∈ els ps → inB bs r
  | [], [], r, _, h => by simp [els] at h; subst h; trivial
  | [], _ :: _, _, h, _ => h.elim
  | _ :: _, [], _, h, _ => h.elim
  | b :: bs, p :: ps, r, hi, h => by
    simp only [els, List.mem_flatMap, List.mem_map] at h
    obtain ⟨row, h1, x, h2, rfl⟩ := h
    exact ⟨(hi.1 x h2).1, (hi.1 x h2).2, els_in hi.2 h1⟩
theorem cnt_nonneg : ∀ ps : List Part, 0 ≤ cnt ps
  | [] => by decide
  | p :: ps => Int.mul_nonneg (many_nonneg p) (cnt_nonneg ps)
/-! ### stretches -/
/-- how many neighbours of a list are no neighbours, once what is behind is taken off -/
def br (back : Int) : List Int → Int
  | [] => 0
  | [_] => 0
  | x :: y :: r => (if y - x - back ≠ 1 then 1 else 0) + br back (y :: r)
/-- the places of a section by a first stride -/
def pls (a : Int) : List Bd → List Part → List Int
  | b :: bs, p :: ps => (pls (a * ext b) bs ps).flatMap fun r => (subs p).map fun x => (x - b.1) * a + r
  | _, _ => [0]
theorem els_places : ∀ (a : Int) (bs : List Bd) (ps : List Part), ps.length = bs.length → pls a bs ps = (els ps).map (AR.ssum a bs)
  | a, [], [], _ => by simp [pls, els, AR.ssum]
  | _, [], _ :: _, h => by simp at h
  | _, _ :: _, [], h => by simp at h
  | a, b :: bs, p :: ps, h => by
    have ih := els_places (a * ext b) bs ps (by simpa using h)
    show (pls (a * ext b) bs ps).flatMap (fun r => (subs p).map fun x => (x - b.1) * a + r) = ((els ps).flatMap fun row => (subs p).map fun x => x :: row).map (AR.ssum a (b :: bs))
    rw [ih, List.flatMap_map, List.map_flatMap]
    congr 1
    funext row
    rw [List.map_map]
    rfl
/-- breaks within a part: steps of a part, scaled -/
def gaps (a back : Int) (xs : List Int) : Int := br back (xs.map fun x => x * a)
theorem br_shift (back c : Int) : ∀ xs : List Int, br back (xs.map fun x => c + x) = br back xs
  | [] => rfl
  | [_] => rfl
  | x :: y :: r => by
    have ih := br_shift back c (y :: r)
    simp only [List.map_cons] at ih ⊢
    simp only [br, ih, show c + y - (c + x) - back = y - x - back by omega]
theorem br_append (back : Int) : ∀ (xs : List Int) (x y : Int) (ys : List Int), br back (xs ++ [x] ++ (y :: ys)) = br back (xs ++ [x]) + (if y - x - back ≠ 1 then 1 else 0) + br back (y :: ys)
  | [], x, y, ys => by simp [br]
  | [z], x, y, ys => by simp [br]; omega
  | z :: w :: r, x, y, ys => by
    have ih := br_append back (w :: r) x y ys
    simp only [List.cons_append, br] at ih ⊢
    rw [ih]
    omega
/-- rows one behind the other -/
theorem br_rows (back : Int) (xs : List Int) (x0 xl : Int) (h0 : xs.head? = some x0) (hl : xs.getLast? = some xl) : ∀ (rs : List Int), rs ≠ [] →
    br back (rs.flatMap fun r => xs.map fun x => x + r) = br back xs * (rs.length : Int) + br (back + (xl - x0)) rs
  | [], h => absurd rfl h
  | [r], _ => by
    have e := br_shift back r xs
    have e2 : (xs.map fun x => x + r) = xs.map fun x => r + x := List.map_congr_left fun x _ => Int.add_comm x r
    simp [br, e2, e]
  | r :: r' :: rest, _ => by
    have ih := br_rows back xs x0 xl h0 hl (r' :: rest) (by simp)
    have e := br_shift back r xs
    have e2 : (xs.map fun x => x + r) = xs.map fun x => r + x := List.map_congr_left fun x _ => Int.add_comm x r
    rw [List.flatMap_cons]
    -- the last of the first row, the first of the next one
    have hx : xs ≠ [] := by intro z; rw [z] at h0; cases h0
    obtain ⟨ini, last, rfl⟩ : ∃ ini last, xs = ini ++ [last] := ⟨xs.dropLast, xs.getLast hx, (List.dropLast_concat_getLast hx).symm⟩
    obtain rfl : last = xl := by simpa using hl
    have hne : ((r' :: rest).flatMap fun r => (ini ++ [last]).map fun x => x + r) ≠ [] := by simp
    obtain ⟨y, ys, hy⟩ := List.exists_cons_of_ne_nil hne
    have hy0 : y = x0 + r' := by
      have : ((r' :: rest).flatMap fun r => (ini ++ [last]).map fun x => x + r).head? = some (x0 + r') := by
        rw [List.flatMap_cons, List.head?_append, List.head?_map, h0]
        rfl
      rw [hy] at this
      simpa using this
    rw [hy] at ih ⊢
    rw [List.map_append, List.map_singleton, br_append, ih]
    have e3 : br back ((ini.map fun x => x + r) ++ [last + r]) = br back (ini ++ [last]) := by
      rw [← e, ← e2, List.map_append, List.map_singleton]
    rw [e3, hy0]
    show _ = br back (ini ++ [last]) * ((rest.length + 1 + 1 : Nat) : Int) + ((if r' - r - (back + (last - x0)) ≠ 1 then 1 else 0) + br (back + (last - x0)) (r' :: rest))
    rw [show x0 + r' - (last + r) - back = r' - r - (back + (last - x0)) by omega]
    simp only [List.length_cons]
    rw [Int.natCast_add (rest.length + 1) 1, Int.mul_add]
    simp
    omega
/-- what the program adds up -/
def gsum (gp : Part → Int → Int → Int) : Int → Int → List Bd → List Part → Int
  | a, back, b :: bs, p :: ps => gp p a back * cnt ps + gsum gp (a * ext b) (back + (at_ p (many p - 1) - at_ p 0) * a) bs ps
  | _, _, _, _ => 0
theorem subs_head {p : Part} (h : 0 < many p) : (subs p).head? = some (at_ p 0) := by
  have hl := subs_length p
  have := subs_at (p := p) (j := 0) (by omega)
  rw [List.head?_eq_getElem?]
  exact this
theorem subs_last {p : Part} (h : 0 < many p) : (subs p).getLast? = some (at_ p (many p - 1)) := by
  have hl := subs_length p
  have := subs_at (p := p) (j := (subs p).length - 1) (by omega)
  rw [List.getLast?_eq_getElem?, this]
  congr 2
  omega
theorem br_pls : ∀ (a back : Int) (bs : List Bd) (ps : List Part), ps.length = bs.length → (∀ p ∈ ps, 0 < many p) → br back (pls a bs ps) = gsum (fun p a back => gaps a back (subs p)) a back bs ps
  | a, back, [], [], _, _ => rfl
  | _, _, [], _ :: _, h, _ => by simp at h
  | _, _, _ :: _, [], h, _ => by simp at h
  | a, back, b :: bs, p :: ps, h, hp => by
    have hp0 := hp p List.mem_cons_self
    have ih := br_pls (a * ext b) (back + (at_ p (many p - 1) - at_ p 0) * a) bs ps (by simpa using h) fun q hq => hp q (List.mem_cons_of_mem _ hq)
    have hlen : ((pls (a * ext b) bs ps).length : Int) = cnt ps := by rw [els_places _ _ _ (by simpa using h), List.length_map, els_length]
    have hc : 0 < cnt ps := by
      have : ∀ (qs : List Part), (∀ q ∈ qs, 0 < many q) → 0 < cnt qs := by
        intro qs
        induction qs with
        | nil => intro _; decide
        | cons q r ih => intro hq; exact Int.mul_pos (hq q List.mem_cons_self) (ih fun z hz => hq z (List.mem_cons_of_mem _ hz))
      exact this ps fun q hq => hp q (List.mem_cons_of_mem _ hq)
    have hne : pls (a * ext b) bs ps ≠ [] := by
      intro z
      rw [z] at hlen
      simp at hlen
      omega
    have e1 : pls a (b :: bs) (p :: ps) = (pls (a * ext b) bs ps).flatMap fun r => ((subs p).map fun x => (x - b.1) * a).map fun x => x + r := by
      show (pls (a * ext b) bs ps).flatMap _ = _
      congr 1
      funext r
      rw [List.map_map]
      rfl
    rw [e1, br_rows back ((subs p).map fun x => (x - b.1) * a) ((at_ p 0 - b.1) * a) ((at_ p (many p - 1) - b.1) * a) (by rw [List.head?_map, subs_head hp0]; rfl) (by rw [List.getLast?_map, subs_last hp0]; rfl) _ hne, hlen]
    have e2 : (subs p).map (fun x => (x - b.1) * a) = ((subs p).map fun x => x * a).map fun x => -(b.1 * a) + x := by
      rw [List.map_map]
      apply List.map_congr_left
      intro x _
      show (x - b.1) * a = -(b.1 * a) + x * a
      rw [Int.sub_mul]
      omega
    rw [e2, br_shift]
    have e3 : (at_ p (many p - 1) - b.1) * a - (at_ p 0 - b.1) * a = (at_ p (many p - 1) - at_ p 0) * a := by
      rw [← Int.sub_mul]
      congr 1
      omega
    rw [e3, ih]
    rfl
/-- the gaps of a part, as the program tells them -/
def gapP : Part → Int → Int → Int
  | .num _, _, _ => 0
  | .tri f l s, a, back => (TR.sz f l s - 1) * (if 1 < TR.sz f l s ∧ s * a - back ≠ 1 then 1 else 0)
  | .lst xs, a, back => gaps a back xs
theorem br_els (f s a back : Int) : ∀ n : Nat, br back ((TR.els f s (n + 1)).map fun x => x * a) = (n : Int) * (if s * a - back ≠ 1 then 1 else 0)
  | 0 => by simp [TR.els, br]
  | n + 1 => by
    have ih := br_els f s a back n
    rw [TR.els_succ, List.map_append, List.map_singleton]
    have hn : (TR.els f s (n + 1)).map (fun x => x * a) = ((TR.els f s n).map fun x => x * a) ++ [(f + (n : Int) * s) * a] := by rw [TR.els_succ, List.map_append, List.map_singleton]
    rw [hn] at ih ⊢
    have := br_append back ((TR.els f s n).map fun x => x * a) ((f + (n : Int) * s) * a) ((f + ((n + 1 : Nat) : Int) * s) * a) []
    rw [this, ih]
    have e : (f + ((n + 1 : Nat) : Int) * s) * a - (f + (n : Int) * s) * a - back = s * a - back := by
      rw [← Int.sub_mul]
      have : f + ((n + 1 : Nat) : Int) * s - (f + (n : Int) * s) = s := by
        rw [Int.natCast_add, Int.add_mul]
        simp
        omega
      rw [this]
    rw [e]
    simp only [br]
    rw [Int.natCast_add, Int.add_mul]
    simp
theorem gapP_eq : ∀ (p : Part) (a back : Int), gapP p a back = gaps a back (subs p)
  | .num x, a, back => by simp [gapP, gaps, subs, br]
  | .lst xs, a, back => rfl
  | .tri f l s, a, back => by
    have h0 := TR.sz_nonneg f l s
    show (TR.sz f l s - 1) * _ = br back ((TR.els f s (TR.sz f l s).toNat).map fun x => x * a)
    rcases Int.lt_or_le (TR.sz f l s) 1 with h | h
    · have e : TR.sz f l s = 0 := by omega
      rw [e]
      simp [TR.els, br]
    · obtain ⟨n, hn⟩ : ∃ n : Nat, TR.sz f l s = (n : Int) + 1 := ⟨(TR.sz f l s - 1).toNat, by omega⟩
      rw [hn, show ((n : Int) + 1).toNat = n + 1 by omega, br_els]
      by_cases hz : n = 0
      · subst hz; simp
      · rw [show (n : Int) + 1 - 1 = n by omega]
        congr 1
        simp [show 1 < (n : Int) + 1 by omega]
/-- into how many stretches a section falls -/
def strF (bs : List Bd) (ps : List Part) : Int := if 0 ∈ ps.map many then 0 else 1 + gsum gapP 1 0 bs ps
/-- .. counted -/
def strL (xs : List Int) : Int := match xs with
  | [] => 0
  | x :: r => 1 + br 0 (x :: r)
theorem gsum_congr {g g' : Part → Int → Int → Int} (h : ∀ p a b, g p a b = g' p a b) : ∀ (a back : Int) (bs : List Bd) (ps : List Part), gsum g a back bs ps = gsum g' a back bs ps := by
  have : g = g' := by funext p a b; exact h p a b
  intros; rw [this]
theorem strF_eq {bs : List Bd} {ps : List Part} (hl : ps.length = bs.length) (h : 0 ∉ ps.map many) : strF bs ps = strL ((els ps).map (place bs)) := by
  have hp : ∀ p ∈ ps, 0 < many p := fun p hp => by
    have h0 := many_nonneg p
    have : many p ≠ 0 := fun z => h (List.mem_map.mpr ⟨p, hp, z⟩)
    omega
  have e1 : (els ps).map (place bs) = pls 1 bs ps := by
    rw [els_places 1 bs ps hl]
    apply List.map_congr_left
    intro r _
    rw [AR.ssum_eq, Int.one_mul]
  have e2 := br_pls 1 0 bs ps hl hp
  have hne : pls 1 bs ps ≠ [] := by
    intro z
    have hlen : ((pls 1 bs ps).length : Int) = cnt ps := by rw [els_places _ _ _ hl, List.length_map, els_length]
    have : ∀ (qs : List Part), (∀ q ∈ qs, 0 < many q) → 0 < cnt qs := by
      intro qs
      induction qs with
      | nil => intro _; decide
      | cons q r ih => intro hq; exact Int.mul_pos (hq q List.mem_cons_self) (ih fun z hz => hq z (List.mem_cons_of_mem _ hz))
    have := this ps hp
    rw [z] at hlen
    simp at hlen
    omega
  rw [e1]
  unfold strF
  rw [if_neg h, gsum_congr gapP_eq, ← e2]
  cases hq : pls 1 bs ps with
  | nil => exact absurd hq hne
  | cons x r => rfl
end SE

/-! SE2: sections in the same order. -/
namespace SE
open AR (Bd ext exts prod place inB)
theorem flat_at {α β : Type} {n : Nat} {f : α → List β} (hf : ∀ a, (f a).length = n) : ∀ (l : List α) (i j : Nat) (a : α), j < n → l[i]? = some a → (l.flatMap f)[j + n * i]? = (f a)[j]?
  | [], i, j, a, _, h => by simp at h
  | b :: l, 0, j, a, hj, h => by
    simp at h
    subst h
    rw [List.flatMap_cons, Nat.mul_zero, Nat.add_zero, List.getElem?_append_left (by rw [hf]; exact hj)]
  | b :: l, i + 1, j, a, hj, h => by
    rw [List.flatMap_cons, List.getElem?_append_right (by rw [hf, Nat.mul_add]; omega), hf]
    have := flat_at hf l i j a hj (by simpa using h)
    rw [show j + n * (i + 1) - n = j + n * i by rw [Nat.mul_add]; omega]
    exact this
/-- the element with a number -/
def nth : List Part → Int → List Int
  | [], _ => []
  | p :: ps, i => at_ p (i.fmod (many p)) :: nth ps (i.fdiv (many p))
theorem els_nth : ∀ (ps : List Part) (i : Nat), (i : Int) < cnt ps → (els ps)[i]? = some (nth ps (i : Int))
  | [], i, h => by
    have : i = 0 := by simp [cnt, prod] at h; omega
    subst this
    rfl
  | p :: ps, i, h => by
    have hm := many_nonneg p
    have hc : (i : Int) < many p * cnt ps := h
    have hmp : 0 < many p := by
      rcases Int.lt_or_le 0 (many p) with q | q
      · exact q
      · have : many p = 0 := by omega
        rw [this, Int.zero_mul] at hc
        omega
    have sl := subs_length p
    have hn : 0 < (subs p).length := by omega
    have e1 : (i : Int).fmod (many p) = ((i % (subs p).length : Nat) : Int) := by
      rw [Int.fmod_eq_emod_of_nonneg _ hm, ← sl]
      rfl
    have e2 : (i : Int).fdiv (many p) = ((i / (subs p).length : Nat) : Int) := by
      rw [Int.fdiv_eq_ediv_of_nonneg _ hm, ← sl]
      rfl
    have hlt : ((i / (subs p).length : Nat) : Int) < cnt ps := by
      have : i < (subs p).length * (cnt ps).toNat := by
        have c0 := cnt_nonneg ps
        have : ((i : Nat) : Int) < (((subs p).length * (cnt ps).toNat : Nat) : Int) := by
          rw [Int.natCast_mul, sl, show (((cnt ps).toNat : Nat) : Int) = cnt ps by omega]
          exact hc
        omega
      have q := Nat.div_lt_of_lt_mul this
      have c0 := cnt_nonneg ps
      exact Int.lt_of_lt_of_le (Int.ofNat_lt.mpr q) (by omega)
    have ih := els_nth ps (i / (subs p).length) hlt
    have hj : i % (subs p).length < (subs p).length := Nat.mod_lt _ hn
    have fa := flat_at (n := (subs p).length) (f := fun row => (subs p).map fun x => x :: row) (fun a => by simp) (els ps) (i / (subs p).length) (i % (subs p).length) _ hj ih
    have ei : i % (subs p).length + (subs p).length * (i / (subs p).length) = i := Nat.mod_add_div ..
    rw [ei] at fa
    show ((els ps).flatMap fun row => (subs p).map fun x => x :: row)[i]? = some (at_ p ((i : Int).fmod (many p)) :: nth ps ((i : Int).fdiv (many p)))
    rw [fa, List.getElem?_map, subs_at hj, e1, e2]
    rfl
theorem els_range (ps : List Part) : els ps = (List.range (cnt ps).toNat).map fun (i : Nat) => nth ps (i : Int) := by
  have hl := els_length ps
  have c0 := cnt_nonneg ps
  apply List.ext_getElem?
  intro i
  by_cases h : i < (cnt ps).toNat
  · rw [els_nth ps i (by omega), List.getElem?_map, List.getElem?_range h]
    rfl
  · rw [List.getElem?_eq_none (by omega), List.getElem?_eq_none (by simp; omega)]
/-! ### no number twice -/
def once : Part → Prop
  | .lst xs => xs.Nodup
  | _ => True
theorem els_inj' {f s : Int} (hs : s ≠ 0) (n : Nat) : (TR.els f s n).Nodup := by
  unfold TR.els
  rw [List.Nodup, List.pairwise_map]
  refine List.Pairwise.imp ?_ List.nodup_range
  intro a b h z
  have : (a : Int) * s = (b : Int) * s := by omega
  have := Int.eq_of_mul_eq_mul_right hs this
  omega
def stepOk : Part → Prop
  | .tri _ _ s => s ≠ 0
  | _ => True
theorem once_nodup : ∀ {p : Part}, stepOk p → (once p ↔ (subs p).Nodup)
  | .num x, _ => by simp [once, subs]
  | .tri f l s, h => by simp [once, subs]; exact els_inj' h _
  | .lst xs, _ => Iff.rfl
theorem els_nodup : ∀ {ps : List Part}, (∀ p ∈ ps, (subs p).Nodup) → (els ps).Nodup
  | [], _ => by simp [els]
  | p :: ps, h => by
    have ih := els_nodup (ps := ps) fun q hq => h q (List.mem_cons_of_mem _ hq)
    have hp := h p List.mem_cons_self
    show ((els ps).flatMap fun row => (subs p).map fun x => x :: row).Nodup
    rw [List.Nodup, List.pairwise_flatMap]
    refine ⟨fun r _ => ?_, ?_⟩
    · rw [List.pairwise_map]
      refine List.Pairwise.imp ?_ hp
      intro a b hab z
      exact hab (List.cons.inj z).1
    · refine List.Pairwise.imp ?_ ih
      intro r r' hrr x hx y hy z
      obtain ⟨a, _, rfl⟩ := List.mem_map.mp hx
      obtain ⟨b, _, rfl⟩ := List.mem_map.mp hy
      exact hrr (List.cons.inj z).2
theorem els_ne : ∀ {ps : List Part}, (∀ p ∈ ps, 0 < many p) → els ps ≠ []
  | [], _ => by simp [els]
  | p :: ps, h => by
    have ih := els_ne (ps := ps) fun q hq => h q (List.mem_cons_of_mem _ hq)
    have hp := h p List.mem_cons_self
    have sl := subs_length p
    intro z
    have hl := els_length (p :: ps)
    rw [z] at hl
    have hl2 := els_length ps
    have : 0 < (els ps).length := List.length_pos_iff.mpr ih
    have hc : cnt (p :: ps) = many p * cnt ps := rfl
    have : 0 < cnt (p :: ps) := by rw [hc]; exact Int.mul_pos hp (by omega)
    simp at hl
    omega
theorem subs_nodup : ∀ {ps : List Part}, (∀ p ∈ ps, 0 < many p) → (els ps).Nodup → ∀ p ∈ ps, (subs p).Nodup
  | [], _, _, p, hp => by simp at hp
  | q :: ps, h, hn, p, hp => by
    have hn' : ((els ps).flatMap fun row => (subs q).map fun x => x :: row).Nodup := hn
    rw [List.Nodup, List.pairwise_flatMap] at hn'
    obtain ⟨h1, h2⟩ := hn'
    have hne := els_ne (ps := ps) fun r hr => h r (List.mem_cons_of_mem _ hr)
    have hq := h q List.mem_cons_self
    have sl := subs_length q
    rcases List.mem_cons.mp hp with rfl | hp
    · obtain ⟨r, rest, hr⟩ := List.exists_cons_of_ne_nil hne
      have := h1 r (by rw [hr]; exact List.mem_cons_self)
      rw [List.pairwise_map] at this
      exact List.Pairwise.imp (fun hab z => hab (by rw [z])) this
    · refine subs_nodup (fun r hr => h r (List.mem_cons_of_mem _ hr)) ?_ p hp
      refine List.Pairwise.imp ?_ h2
      intro r r' hrr z
      subst z
      obtain ⟨x, hx⟩ : ∃ x, x ∈ subs q := by
        cases hs : subs q with
        | nil => rw [hs] at sl; simp at sl; omega
        | cons a b => exact ⟨a, by simp⟩
      exact hrr (x :: r) (List.mem_map.mpr ⟨x, hx, rfl⟩) (x :: r) (List.mem_map.mpr ⟨x, hx, rfl⟩) rfl
/-! ### the same sequence -/
theorem cntP_none (t : List Int) (a : List Int) : ∀ {R : List (List Int)}, t ∉ R → (R.flatMap fun r => a.map fun x => x :: r).countP (fun e => decide (e.tail = t)) = 0
  | [], _ => by simp
  | r :: R, h => by
    have h1 : ¬ r = t := fun z => h (by rw [z]; exact List.mem_cons_self)
    have ih := cntP_none t a (R := R) fun z => h (List.mem_cons_of_mem _ z)
    rw [List.flatMap_cons, List.countP_append, ih, List.countP_map]
    simp [Function.comp_def, h1]
theorem cntP_one (t : List Int) (a : List Int) {R : List (List Int)} (h : t ∉ R) : ((t :: R).flatMap fun r => a.map fun x => x :: r).countP (fun e => decide (e.tail = t)) = a.length := by
  rw [List.flatMap_cons, List.countP_append, cntP_none t a h, List.countP_map]
  simp [Function.comp_def]
theorem flat_same {a b : List Int} (ha : a ≠ []) (hb : b ≠ []) : ∀ {R T : List (List Int)}, R.Nodup → T.Nodup → R ≠ [] → (R.flatMap fun r => a.map fun x => x :: r) = (T.flatMap fun r => b.map fun x => x :: r) → a = b ∧ R = T
  | [], _, _, _, h, _ => absurd rfl h
  | r :: R, [], _, _, _, h => by
    obtain ⟨x, a', rfl⟩ := List.exists_cons_of_ne_nil ha
    simp at h
  | r :: R, t :: T, hR, hT, _, h => by
    obtain ⟨hr, hR'⟩ := List.nodup_cons.mp hR
    obtain ⟨ht, hT'⟩ := List.nodup_cons.mp hT
    have e0 : r = t := by
      obtain ⟨x, a', rfl⟩ := List.exists_cons_of_ne_nil ha
      obtain ⟨y, b', rfl⟩ := List.exists_cons_of_ne_nil hb
      simp at h
      exact h.1.2
    subst e0
    have hl : a.length = b.length := by
      rw [← cntP_one r a hr, h, cntP_one r b ht]
    rw [List.flatMap_cons, List.flatMap_cons] at h
    obtain ⟨h1, h2⟩ := List.append_inj h (by simp [hl])
    have hab : a = b := by
      have : (a.map fun x => x :: r).map List.head? = (b.map fun x => x :: r).map List.head? := by rw [h1]
      simp [List.map_map, Function.comp_def] at this
      exact (List.map_inj_right fun _ _ z => Option.some.inj z).mp this
    subst hab
    refine ⟨rfl, ?_⟩
    by_cases hR0 : R = []
    · subst hR0
      obtain ⟨x, a', rfl⟩ := List.exists_cons_of_ne_nil ha
      cases T with
      | nil => rfl
      | cons t' T' => simp at h2
    · exact congrArg _ (flat_same ha ha hR' hT' hR0 h2).2
theorem els_same : ∀ {ps qs : List Part}, ps.length = qs.length → (∀ p ∈ ps, 0 < many p ∧ (subs p).Nodup) → (∀ q ∈ qs, 0 < many q ∧ (subs q).Nodup) → (els ps = els qs ↔ ps.map subs = qs.map subs)
  | [], [], _, _, _ => by simp
  | [], _ :: _, h, _, _ => by simp at h
  | _ :: _, [], h, _, _ => by simp at h
  | p :: ps, q :: qs, hl, hp, hq => by
    have ih := els_same (ps := ps) (qs := qs) (by simpa using hl) (fun r hr => hp r (List.mem_cons_of_mem _ hr)) (fun r hr => hq r (List.mem_cons_of_mem _ hr))
    have sp := subs_length p
    have sq := subs_length q
    obtain ⟨p1, _⟩ := hp p List.mem_cons_self
    obtain ⟨q1, _⟩ := hq q List.mem_cons_self
    constructor
    · intro h
      obtain ⟨h1, h2⟩ := flat_same (a := subs p) (b := subs q) (by intro z; rw [z] at sp; simp at sp; omega) (by intro z; rw [z] at sq; simp at sq; omega)
        (els_nodup fun r hr => (hp r (List.mem_cons_of_mem _ hr)).2) (els_nodup fun r hr => (hq r (List.mem_cons_of_mem _ hr)).2) (els_ne fun r hr => (hp r (List.mem_cons_of_mem _ hr)).1) h
      rw [List.map_cons, List.map_cons, h1, ih.mp h2]
    · intro h
      rw [List.map_cons, List.map_cons] at h
      obtain ⟨h1, h2⟩ := List.cons.inj h
      show ((els ps).flatMap fun row => (subs p).map fun x => x :: row) = ((els qs).flatMap fun row => (subs q).map fun x => x :: row)
      rw [h1, ih.mpr h2]
end SE

/-! SE3: sections without gaps: their places one behind the other. -/
namespace SE
open AR (Bd ext exts prod place inB rng)
theorem rng_add (a : Int) (m n : Nat) : rng a (m + n) = rng a m ++ rng (a + m) n := by
  unfold rng
  rw [List.range_add, List.map_append, List.map_map]
  congr 1
  apply List.map_congr_left
  intro i _
  simp
  omega
theorem rng_succ (a : Int) (n : Nat) : rng a (n + 1) = rng a n ++ [a + n] := by
  rw [rng_add]
  simp [rng]
theorem rng_shift (a c : Int) (n : Nat) : (rng a n).map (fun x => c + x) = rng (c + a) n := by
  unfold rng
  rw [List.map_map]
  apply List.map_congr_left
  intro i _
  simp
  omega
theorem rng_flat (lo : Int) (e : Nat) (P : Int) : ∀ n : Nat, (rng P n).flatMap (fun q => (rng lo e).map fun x => x - lo + (e : Int) * q) = rng ((e : Int) * P) (e * n)
  | 0 => by simp [rng]
  | n + 1 => by
    rw [rng_succ, List.flatMap_append, rng_flat lo e P n, Nat.mul_succ, rng_add]
    congr 1
    simp only [List.flatMap_cons, List.flatMap_nil, List.append_nil]
    have : (fun x : Int => x - lo + (e : Int) * (P + n)) = fun x => ((e : Int) * (P + n) - lo) + x := by
      funext x
      omega
    rw [this, rng_shift]
    congr 1
    rw [Int.mul_add]
    push_cast
    omega
theorem flat_congr {α β : Type} {f g : α → List β} : ∀ {l : List α}, (∀ a ∈ l, f a = g a) → l.flatMap f = l.flatMap g
  | [], _ => rfl
  | a :: l, h => by rw [List.flatMap_cons, List.flatMap_cons, h a List.mem_cons_self, flat_congr fun b hb => h b (List.mem_cons_of_mem _ hb)]
theorem els_pl (b : Bd) (bs : List Bd) (p : Part) (ps : List Part) : (els (p :: ps)).map (place (b :: bs)) = ((els ps).map (place bs)).flatMap fun q => (subs p).map fun x => x - b.1 + ext b * q := by
  show ((els ps).flatMap fun row => (subs p).map fun x => x :: row).map (place (b :: bs)) = _
  rw [List.map_flatMap, List.flatMap_map]
  refine flat_congr fun r _ => ?_
  rw [List.map_map]
  rfl
theorem sz_all {lo hi : Int} (h : lo ≤ hi) : TR.sz lo hi 1 = hi - lo + 1 := by
  have := TR.sz_trim (f := lo) (s := 1) (n := hi - lo + 1) (by decide) (by omega)
  rw [show lo + (hi - lo + 1 - 1) * 1 = hi by omega] at this
  exact this
theorem els_rng (a : Int) (n : Nat) : TR.els a 1 n = rng a n := by
  unfold TR.els rng
  apply List.map_congr_left
  intro i _
  omega
theorem subs_all {lo hi : Int} (h : lo ≤ hi) : subs (.tri lo hi 1) = rng lo (hi - lo + 1).toNat := by
  show TR.els lo 1 (TR.sz lo hi 1).toNat = _
  rw [sz_all h, els_rng]
def whl (b : Bd) : Part := .tri b.1 b.2 1
/-- whole dimensions ahead of a part whose places lie one behind the other -/
theorem whole_ahead {bs' : List Bd} {ps' : List Part} : ∀ {bs : List Bd} {P : Int} {n : Nat}, (∀ b ∈ bs, b.1 ≤ b.2) → (els ps').map (place bs') = rng P n →
    ∃ P' n', (els (bs.map whl ++ ps')).map (place (bs ++ bs')) = rng P' n'
  | [], P, n, _, h => ⟨P, n, h⟩
  | b :: bs, P, n, hb, h => by
    obtain ⟨P1, n1, e⟩ := whole_ahead (bs := bs) (fun c hc => hb c (List.mem_cons_of_mem _ hc)) h
    have h1 := hb b List.mem_cons_self
    refine ⟨((b.2 - b.1 + 1).toNat : Int) * P1, (b.2 - b.1 + 1).toNat * n1, ?_⟩
    rw [List.map_cons, List.cons_append, List.cons_append, els_pl, e, ← rng_flat b.1]
    refine flat_congr fun q _ => ?_
    rw [show subs (whl b) = rng b.1 (b.2 - b.1 + 1).toNat from subs_all h1]
    have : ext b = ((b.2 - b.1 + 1).toNat : Int) := by unfold ext; omega
    rw [this]
/-- single subscripts -/
def Sg : List Bd → List Part → Prop
  | [], [] => True
  | b :: bs, p :: ps => (∃ x, subs p = [x] ∧ b.1 ≤ x ∧ x ≤ b.2) ∧ Sg bs ps
  | _, _ => False
theorem sg_snoc : ∀ {bs : List Bd} {ps : List Part} {b : Bd} {p : Part}, Sg bs ps → (∃ x, subs p = [x] ∧ b.1 ≤ x ∧ x ≤ b.2) → Sg (bs ++ [b]) (ps ++ [p])
  | [], [], _, _, _, h => ⟨h, trivial⟩
  | [], _ :: _, _, _, h, _ => h.elim
  | _ :: _, [], _, _, h, _ => h.elim
  | _ :: _, _ :: _, _, _, h, h' => ⟨h.1, sg_snoc h.2 h'⟩
theorem sg_els : ∀ {bs : List Bd} {ps : List Part}, Sg bs ps → ∃ r, els ps = [r]
  | [], [], _ => ⟨[], rfl⟩
  | [], _ :: _, h => h.elim
  | _ :: _, [], h => h.elim
  | b :: bs, p :: ps, h => by
    obtain ⟨⟨x, hx, _⟩, h2⟩ := h
    obtain ⟨r, hr⟩ := sg_els h2
    exact ⟨x :: r, by show (els ps).flatMap _ = _; rw [hr, hx]; rfl⟩
theorem mid_pl {b : Bd} {bs : List Bd} {p : Part} {ps : List Part} {a : Int} {n : Nat} (hp : subs p = rng a n) (h : Sg bs ps) : ∃ P, (els (p :: ps)).map (place (b :: bs)) = rng P n := by
  obtain ⟨r, hr⟩ := sg_els h
  rw [els_pl, hr, hp]
  simp only [List.map_cons, List.map_nil, List.flatMap_cons, List.flatMap_nil, List.append_nil]
  have : (fun x : Int => x - b.1 + ext b * place bs r) = fun x => (ext b * place bs r - b.1) + x := by
    funext x
    omega
  rw [this, rng_shift]
  exact ⟨_, rfl⟩
theorem nth_zero : ∀ ps : List Part, nth ps 0 = ps.map fun p => at_ p 0
  | [] => rfl
  | p :: ps => by
    show at_ p ((0 : Int).fmod (many p)) :: nth ps ((0 : Int).fdiv (many p)) = _
    rw [Int.zero_fmod, Int.zero_fdiv, nth_zero ps]
    rfl
theorem cnt_pos : ∀ {ps : List Part}, (∀ p ∈ ps, 0 < many p) → 0 < cnt ps
  | [], _ => by decide
  | p :: ps, h => Int.mul_pos (h p List.mem_cons_self) (cnt_pos fun q hq => h q (List.mem_cons_of_mem _ hq))
theorem cnt_app : ∀ (ps qs : List Part), cnt (ps ++ qs) = cnt ps * cnt qs
  | [], qs => by simp [cnt, prod]
  | p :: ps, qs => by
    show many p * cnt (ps ++ qs) = many p * cnt ps * cnt qs
    rw [cnt_app ps qs, Int.mul_assoc]
theorem br_rng (a : Int) : ∀ n : Nat, br 0 (rng a n) = 0 := by
  have key : ∀ (n : Nat) (a : Int), br 0 (rng a n) = 0 := by
    intro n
    induction n with
    | zero => intro a; rfl
    | succ n ih =>
      intro a
      have e : rng a (n + 1) = a :: rng (a + 1) n := by
        rw [Nat.add_comm, rng_add]
        simp [rng]
      rw [e]
      cases n with
      | zero => rfl
      | succ k =>
        have e2 : rng (a + 1) (k + 1) = (a + 1) :: rng (a + 1 + 1) k := by
          rw [Nat.add_comm k, rng_add]
          simp [rng]
        have := ih (a + 1)
        rw [e2] at this ⊢
        show (if (a + 1) - a - 0 ≠ 1 then 1 else 0) + br 0 ((a + 1) :: rng (a + 1 + 1) k) = 0
        rw [this, if_neg (by omega)]
        rfl
  exact fun n => key n a
/-- places one behind the other: where they begin, how many there are, and one stretch -/
theorem consec {bs : List Bd} {ps : List Part} {P : Int} {n : Nat} (hl : ps.length = bs.length) (hp : ∀ p ∈ ps, 0 < many p) (h : (els ps).map (place bs) = rng P n) :
    (els ps).map (place bs) = rng (place bs (ps.map fun p => at_ p 0)) (cnt ps).toNat ∧ strF bs ps = 1 := by
  have h0 := cnt_pos hp
  have e1 : (n : Int) = cnt ps := by
    have := congrArg List.length h
    rw [List.length_map, AR.rng_length] at this
    rw [← els_length, this]
  have e2 := els_nth ps 0 (by simpa using h0)
  have e3 : P = place bs (ps.map fun p => at_ p 0) := by
    have q1 : ((els ps).map (place bs))[0]? = some (place bs (nth ps 0)) := by
      rw [List.getElem?_map]
      simp only [Int.natCast_zero] at e2
      rw [e2]
      rfl
    rw [h, nth_zero] at q1
    have q2 : (rng P n)[0]? = some P := by
      unfold rng
      rw [List.getElem?_map, List.getElem?_range (by omega)]
      simp
    rw [q2] at q1
    exact Option.some.inj q1
  have e4 : (cnt ps).toNat = n := by omega
  refine ⟨by rw [h, e4, ← e3], ?_⟩
  have hz : 0 ∉ ps.map many := fun z => by
    obtain ⟨p, hp1, hp2⟩ := List.mem_map.mp z
    have := hp p hp1
    omega
  rw [strF_eq hl hz, h]
  have : ∃ k, n = k + 1 := ⟨n - 1, by omega⟩
  obtain ⟨k, rfl⟩ := this
  have e : rng P (k + 1) = P :: rng (P + 1) k := by
    rw [Nat.add_comm, rng_add]
    simp [rng]
  have b := br_rng P (k + 1)
  rw [e] at b ⊢
  show 1 + br 0 (P :: rng (P + 1) k) = 1
  rw [b]
  rfl
end SE
namespace AR
theorem elem_ok : ∀ (bs : List Bd) (p : Int), 0 ≤ p → p < prod (exts bs) → inB bs (elem bs p) ∧ place bs (elem bs p) = p
  | [], p, h0, h1 => by
    have : p = 0 := by simp [exts, prod] at h1; omega
    subst this
    exact ⟨trivial, rfl⟩
  | b :: bs, p, h0, h1 => by
    have e0 := ext_nonneg b
    have h1' : p < ext b * prod (exts bs) := h1
    have ep : 0 < ext b := by
      rcases Int.lt_or_le 0 (ext b) with h | h
      · exact h
      · have : ext b = 0 := by omega
        rw [this, Int.zero_mul] at h1'
        omega
    have m0 : 0 ≤ p.fmod (ext b) := by rw [Int.fmod_eq_emod_of_nonneg _ (by omega)]; exact Int.emod_nonneg _ (by omega)
    have m1 : p.fmod (ext b) < ext b := by rw [Int.fmod_eq_emod_of_nonneg _ (by omega)]; exact Int.emod_lt_of_pos _ ep
    have d0 : 0 ≤ p.fdiv (ext b) := by rw [Int.fdiv_eq_ediv_of_nonneg _ (by omega)]; exact Int.ediv_nonneg h0 (by omega)
    have d1 : p.fdiv (ext b) < prod (exts bs) := by
      rw [Int.fdiv_eq_ediv_of_nonneg _ (by omega)]
      exact Int.ediv_lt_of_lt_mul ep (by rw [Int.mul_comm]; exact h1')
    have dm := Int.mul_fdiv_add_fmod p (ext b)
    obtain ⟨i1, i2⟩ := elem_ok bs (p.fdiv (ext b)) d0 d1
    have hb : ext b = b.2 - b.1 + 1 := by unfold ext at ep ⊢; omega
    refine ⟨⟨by omega, by omega, i1⟩, ?_⟩
    show (b.1 + p.fmod (ext b) - b.1) + ext b * place bs (elem bs (p.fdiv (ext b))) = p
    rw [i2]
    omega
theorem elem_length : ∀ (bs : List Bd) (p : Int), (elem bs p).length = bs.length
  | [], _ => rfl
  | b :: bs, p => by simp [elem, elem_length bs]
theorem inB_split : ∀ {bs : List Bd} {b : Bd} {xs : List Int}, inB (bs ++ [b]) xs → ∃ ys y, xs = ys ++ [y] ∧ inB bs ys ∧ b.1 ≤ y ∧ y ≤ b.2
  | [], b, [x], h => ⟨[], x, rfl, trivial, h.1, h.2.1⟩
  | [], b, [], h => h.elim
  | [], b, x :: y :: r, h => h.2.2.elim
  | c :: bs, b, [], h => h.elim
  | c :: bs, b, x :: xs, h => by
    obtain ⟨ys, y, e, h1, h2, h3⟩ := inB_split h.2.2
    exact ⟨x :: ys, y, by rw [e]; rfl, ⟨h.1, h.2.1, h1⟩, h2, h3⟩
theorem prod_app : ∀ xs ys : List Int, prod (xs ++ ys) = prod xs * prod ys
  | [], ys => by simp [prod]
  | x :: xs, ys => by
    show x * prod (xs ++ ys) = x * prod xs * prod ys
    rw [prod_app xs ys, Int.mul_assoc]
theorem exts_pos : ∀ {bs : List Bd}, 0 < prod (exts bs) → ∀ b ∈ bs, b.1 ≤ b.2
  | [], _, b, hb => by simp at hb
  | c :: bs, h, b, hb => by
    have h' : 0 < ext c * prod (exts bs) := h
    have e0 := ext_nonneg c
    have p0 := prod_nonneg bs
    have ep : 0 < ext c := by
      rcases Int.lt_or_le 0 (ext c) with q | q
      · exact q
      · have : ext c = 0 := by omega
        rw [this, Int.zero_mul] at h'
        omega
    have pp : 0 < prod (exts bs) := by
      rcases Int.lt_or_le 0 (prod (exts bs)) with q | q
      · exact q
      · have : prod (exts bs) = 0 := by omega
        rw [this, Int.mul_zero] at h'
        omega
    rcases List.mem_cons.mp hb with rfl | hb
    · unfold ext at ep; omega
    · exact exts_pos pp b hb
end AR
namespace SE
open AR (Bd ext exts prod place inB rng)
theorem br_pos (back : Int) : ∀ xs : List Int, 0 ≤ br back xs
  | [] => by show (0 : Int) ≤ 0; decide
  | [_] => by show (0 : Int) ≤ 0; decide
  | x :: y :: r => by
    have := br_pos back (y :: r)
    show 0 ≤ (if y - x - back ≠ 1 then 1 else 0) + br back (y :: r)
    split <;> omega
/-- no gap, just if the places lie one behind the other -/
theorem br_zero : ∀ (xs : List Int) (x : Int), br 0 (x :: xs) = 0 → x :: xs = rng x (xs.length + 1)
  | [], x, _ => by simp [rng]
  | y :: r, x, h => by
    have h' : (if y - x - 0 ≠ 1 then (1 : Int) else 0) + br 0 (y :: r) = 0 := h
    have p := br_pos 0 (y :: r)
    have e : y = x + 1 := by
      by_cases q : y - x - 0 ≠ 1
      · rw [if_pos q] at h'; omega
      · omega
    have z : br 0 (y :: r) = 0 := by
      rw [if_neg (by omega)] at h'
      omega
    have ih := br_zero r y z
    have e2 : rng x ((y :: r).length + 1) = x :: rng (x + 1) (y :: r).length := by
      rw [Nat.add_comm, rng_add]
      simp [rng]
    rw [e2, ← e, List.length_cons, ← ih]
theorem strL_one {xs : List Int} (h : xs ≠ []) : strL xs ≤ 1 ↔ ∃ x n, xs = rng x n := by
  match xs, h with
  | x :: r, _ =>
    have p := br_pos 0 (x :: r)
    constructor
    · intro q
      have q' : 1 + br 0 (x :: r) ≤ 1 := q
      exact ⟨x, r.length + 1, br_zero r x (by omega)⟩
    · rintro ⟨y, n, e⟩
      show 1 + br 0 (x :: r) ≤ 1
      rw [e, br_rng]
      decide
end SE

namespace G
open PySem PySem.Spec PyProof.Rows L2 PL
def den__law_well : DS := (dSeq (dSet 2 (dIf (dB (d2 ltV (dVar 1) (dA lenV (dCons (dVar 0) dNil)))) (d2 ixV (dVar 0) (dVar 1)) (d2 addV (d2 ixV (d2 addV (dVar 0) (dA mkLst (dCons (dC (.int 0)) dNil))) (dC (.int 0))) (d2 mulV (dC (.int 7919)) (dVar 1))))) (dRet (dA mkOwn (dCons (d2 mulV (dVar 2) (dA intV (dCons (d2 geV (dVar 2) (d2 powV (dC (.int 10)) (dC (.int 18)))) dNil))) (dCons (dVar 2) (dCons (dC (.int 0)) dNil))))))
def F__law_well : List SV → PL.P SV := fnRun 3 exitO den__law_well
def den_is_whole : DS := (dRet (dAndV (d1 (isiV ["int"]) (dVar 0)) (dNotV (d1 (isiV ["bool"]) (dVar 0)))))
def F_is_whole : List SV → PL.P SV := fnRun 1 exitV den_is_whole
def den_is_between : DS := (dRet (dAndV (dA (chk 1 F_is_whole) (dCons (dVar 0) dNil)) (dCh leV leV (dVar 1) (dVar 0) (dVar 2))))
def F_is_between : List SV → PL.P SV := fnRun 3 exitV den_is_between
def den_is_row : DS := (dRet (dAndV (d1 (isiV ["list", "tuple"]) (dVar 0)) (dCh leV leV (dVar 1) (dA lenV (dCons (dVar 0) dNil)) (dVar 2))))
def F_is_row : List SV → PL.P SV := fnRun 3 exitV den_is_row
def lp1_elements_of : DS := (dSet 1 (d2 mulV (dVar 1) (dVar 2)))
def den_elements_of : DS := (dSeq (dSet 1 (dC (.int 1))) (dSeq (dFor (dIt (dVar 0)) (gN 2) lp1_elements_of) (dRet (dVar 1))))
def F_elements_of : List SV → PL.P SV := fnRun 3 exitV den_elements_of
def ce1_is_shape : En → PL.P SV := (dAndV (dA (chk 1 F_is_whole) (dCons (dVar 1) dNil)) (d2 geV (dVar 1) (dC (.int 0))))
def den_is_shape : DS := (dRet (dAndV (dA (chk 3 F_is_row) (dCons (dVar 0) (dCons (dC (.int 0)) (dCons (dC (.int 7)) dNil)))) (dA allV (dCons (dLc [1] (dIt (dVar 0)) (gN 1) dYes ce1_is_shape) dNil))))
def F_is_shape : List SV → PL.P SV := fnRun 2 exitV den_is_shape
def ce1_is_filled : En → PL.P SV := (dCallV 1 (("is_whole", 1, F_is_whole) :: []) (dCons (dVar 2) dNil))
def den_is_filled : DS := (dSeq (dIfS (dOrT (dNotT (dTr (d1 (isiV ["tuple"]) (dVar 0)))) (dOrT (dB (d2 neV (dA lenV (dCons (dVar 0) dNil)) (dC (.int 2)))) (dOrT (dNotT (dTr (d1 (isiV ["tuple"]) (d2 ixV (dVar 0) (dC (.int 0)))))) (dNotT (dTr (dA (chk 1 F_is_shape) (dCons (d2 ixV (dVar 0) (dC (.int 0))) dNil))))))) (dRet (dC (.bl false))) dNx) (dSeq (dIfS (dOrT (dNotT (dTr (dA (chk 3 F_is_row) (dCons (d2 ixV (dVar 0) (dC (.int 1))) (dCons (dC (.int 0)) (dCons (dC (.int 5000)) dNil)))))) (dB (d2 neV (dA lenV (dCons (d2 ixV (dVar 0) (dC (.int 1))) dNil)) (dA (chk 1 F_elements_of) (dCons (d2 ixV (dVar 0) (dC (.int 0))) dNil))))) (dRet (dC (.bl false))) dNx) (dRet (dA allV (dCons (dLc [2] (dIt (d2 ixV (dVar 0) (dC (.int 1)))) (gN 2) dYes ce1_is_filled) dNil)))))
def F_is_filled : List SV → PL.P SV := fnRun 3 exitV den_is_filled
def den_is_array : DS := (dRet (dA (chk 2 F_is_filled) (dCons (dVar 0) (dCons (dC (.fn "is_whole")) dNil))))
def F_is_array : List SV → PL.P SV := fnRun 1 exitV den_is_array
def den_check : DS := (dIfS (dNotT (dTr (dVar 0))) dNever dNx)
def F_check : List SV → PL.P SV := fnRun 2 exitV den_check
def den_made : DS := (dRet (dA mkPair (dCons (dA tupleV (dCons (dVar 0) dNil)) (dCons (dVar 1) dNil))))
def F_made : List SV → PL.P SV := fnRun 2 exitP den_made
def den_rest_of : DS := (dRet (d2 addV (dSl false (dVar 0) dNoPt (dPt (d2 subV (dVar 1) (dC (.int 1))))) (dSl false (dVar 0) (dPt (dVar 1)) dNoPt)))
def F_rest_of : List SV → PL.P SV := fnRun 2 exitV den_rest_of
def ce1_lines_of : En → PL.P SV := (d2 addV (dVar 7) (d2 mulV (dVar 2) (d2 addV (dVar 8) (d2 mulV (dVar 3) (dVar 6)))))
def lp2_lines_of : DS := (dApp (dVar 5) (dLc [8] (dAI rng1V (dCons (dVar 3) dNil)) (gN 8) dYes ce1_lines_of))
def lp3_lines_of : DS := (dFor (dAI rng1V (dCons (dVar 2) dNil)) (gN 7) lp2_lines_of)
def den_lines_of : DS := (dSeq (dParT [2, 3, 4] (dCons (dA (chk 1 F_elements_of) (dCons (dSl false (dVar 0) dNoPt (dPt (d2 subV (dVar 1) (dC (.int 1))))) dNil)) (dCons (d2 ixV (dVar 0) (d2 subV (dVar 1) (dC (.int 1)))) (dCons (dA (chk 1 F_elements_of) (dCons (dSl false (dVar 0) (dPt (dVar 1)) dNoPt) dNil)) dNil)))) (dSeq (dSet 5 (dA mkOwn dNil)) (dSeq (dFor (dAI rng1V (dCons (dIf (dB (d2 gtV (dVar 2) (dC (.int 0)))) (dVar 4) (dC (.int 0))) dNil)) (gN 6) lp3_lines_of) (dRet (dVar 5)))))
def F_lines_of : List SV → PL.P SV := fnRun 9 exitV den_lines_of
def den_check_spread : DS := (dDrop (dA (chk 2 F_check) (dCons (dOrV (dA (chk 1 F_is_whole) (dCons (dVar 0) dNil)) (dAndV (dA (chk 1 F_is_array) (dCons (dVar 0) dNil)) (d2 eqV (d2 ixV (dVar 0) (dC (.int 0))) (dVar 1)))) (dCons (dVar 2) dNil))))
def F_check_spread : List SV → PL.P SV := fnRun 3 exitV den_check_spread
def den_spread_out : DS := (dRet (dIf (dTr (dA (chk 1 F_is_whole) (dCons (dVar 0) dNil))) (d2 (repV false) (dA mkLst (dCons (dVar 0) dNil)) (dA (chk 1 F_elements_of) (dCons (dVar 1) dNil))) (dA listV (dCons (d2 ixV (dVar 0) (dC (.int 1))) dNil))))
def F_spread_out : List SV → PL.P SV := fnRun 2 exitV den_spread_out
def lp1_cshift : DS := (dSetIx (dVar 4) (dVar 8) (d2 ixV (d2 ixV (dVar 0) (dC (.int 1))) (d2 ixV (dVar 5) (d2 modV (d2 addV (dVar 7) (dVar 6)) (dA lenV (dCons (dVar 5) dNil))))))
def lp2_cshift : DS := (dFor (dAI enumV (dCons (dVar 5) dNil)) (gT 2 (gsC (gN 7) (gsC (gN 8) gsN))) lp1_cshift)
def den_cshift : DS := (dSeq (dDrop (dA (chk 2 F_check) (dCons (dA (chk 1 F_is_array) (dCons (dVar 0) dNil)) (dCons (dC (.str "array")) dNil)))) (dSeq (dDrop (dA (chk 2 F_check) (dCons (dA (chk 3 F_is_between) (dCons (dVar 2) (dCons (dC (.int 1)) (dCons (dA lenV (dCons (d2 ixV (dVar 0) (dC (.int 0))) dNil)) dNil)))) (dCons (dC (.str "dim")) dNil)))) (dSeq (dSet 3 (dA (chk 2 F_rest_of) (dCons (d2 ixV (dVar 0) (dC (.int 0))) (dCons (dVar 2) dNil)))) (dSeq (dDrop (dA (chk 3 F_check_spread) (dCons (dVar 1) (dCons (dVar 3) (dCons (dC (.str "shift")) dNil))))) (dSeq (dSet 4 (dA listOV (dCons (d2 ixV (dVar 0) (dC (.int 1))) dNil))) (dSeq (dIfS (dB (d2 eqV (dVar 4) (dA mkLst dNil))) (dRet (dA (chk 2 F_made) (dCons (d2 ixV (dVar 0) (dC (.int 0))) (dCons (dVar 4) dNil)))) dNx) (dSeq (dFor (dAI zip2V (dCons (dA (chk 2 F_lines_of) (dCons (d2 ixV (dVar 0) (dC (.int 0))) (dCons (dVar 2) dNil))) (dCons (dA (chk 2 F_spread_out) (dCons (dVar 1) (dCons (dVar 3) dNil))) dNil))) (gT 2 (gsC (gN 5) (gsC (gN 6) gsN))) lp2_cshift) (dRet (dA (chk 2 F_made) (dCons (d2 ixV (dVar 0) (dC (.int 0))) (dCons (dVar 4) dNil)))))))))))
def F_cshift : List SV → PL.P SV := fnRun 9 exitP den_cshift
def lp1_eoshift : DS := (dSetIx (dVar 5) (dVar 10) (dIf (dB (dCh leV ltV (dC (.int 0)) (d2 addV (dVar 9) (dVar 7)) (dA lenV (dCons (dVar 6) dNil)))) (d2 ixV (d2 ixV (dVar 0) (dC (.int 1))) (d2 ixV (dVar 6) (d2 addV (dVar 9) (dVar 7)))) (dVar 8)))
def lp2_eoshift : DS := (dFor (dAI enumV (dCons (dVar 6) dNil)) (gT 2 (gsC (gN 9) (gsC (gN 10) gsN))) lp1_eoshift)
def den_eoshift : DS := (dSeq (dDrop (dA (chk 2 F_check) (dCons (dA (chk 1 F_is_array) (dCons (dVar 0) dNil)) (dCons (dC (.str "array")) dNil)))) (dSeq (dDrop (dA (chk 2 F_check) (dCons (dA (chk 3 F_is_between) (dCons (dVar 3) (dCons (dC (.int 1)) (dCons (dA lenV (dCons (d2 ixV (dVar 0) (dC (.int 0))) dNil)) dNil)))) (dCons (dC (.str "dim")) dNil)))) (dSeq (dSet 4 (dA (chk 2 F_rest_of) (dCons (d2 ixV (dVar 0) (dC (.int 0))) (dCons (dVar 3) dNil)))) (dSeq (dDrop (dA (chk 3 F_check_spread) (dCons (dVar 1) (dCons (dVar 4) (dCons (dC (.str "shift")) dNil))))) (dSeq (dDrop (dA (chk 3 F_check_spread) (dCons (dVar 2) (dCons (dVar 4) (dCons (dC (.str "boundary")) dNil))))) (dSeq (dSet 5 (dA listOV (dCons (d2 ixV (dVar 0) (dC (.int 1))) dNil))) (dSeq (dIfS (dB (d2 eqV (dVar 5) (dA mkLst dNil))) (dRet (dA (chk 2 F_made) (dCons (d2 ixV (dVar 0) (dC (.int 0))) (dCons (dVar 5) dNil)))) dNx) (dSeq (dFor (dAI zip3V (dCons (dA (chk 2 F_lines_of) (dCons (d2 ixV (dVar 0) (dC (.int 0))) (dCons (dVar 3) dNil))) (dCons (dA (chk 2 F_spread_out) (dCons (dVar 1) (dCons (dVar 4) dNil))) (dCons (dA (chk 2 F_spread_out) (dCons (dVar 2) (dCons (dVar 4) dNil))) dNil)))) (gT 3 (gsC (gN 6) (gsC (gN 7) (gsC (gN 8) gsN)))) lp2_eoshift) (dRet (dA (chk 2 F_made) (dCons (d2 ixV (dVar 0) (dC (.int 0))) (dCons (dVar 5) dNil))))))))))))
def F_eoshift : List SV → PL.P SV := fnRun 11 exitP den_eoshift
def den__law_draw : DS := (dSeq (dIfS (dB (d2 gtV (d2 ixV (dVar 0) (dC (.int 0))) (dC (.int 0)))) (dSeq (dSet 2 (d2 modV (dA intV (dCons (d2 ixV (dVar 0) (dC (.int 0))) dNil)) (dVar 1))) (dSeq (dSetIx (dVar 0) (dC (.int 0)) (d2 fdivV (d2 ixV (dVar 0) (dC (.int 0))) (dVar 1))) (dRet (dVar 2)))) dNx) (dSeq (dSetIx (dVar 0) (dC (.int 2)) (d2 addV (d2 ixV (dVar 0) (dC (.int 2))) (dC (.int 1)))) (dSeq (dSet 3 (d2 addV (d2 addV (d2 modV (dA intV (dCons (d2 ixV (dVar 0) (dC (.int 1))) dNil)) (dC (.int 2147483629))) (d2 mulV (dC (.int 7919)) (d2 ixV (dVar 0) (dC (.int 2))))) (dC (.int 1)))) (dSeq (dSet 3 (d2 addV (dVar 3) (d2 mulV (d2 modV (dA intV (dCons (d2 fdivV (d2 ixV (dVar 0) (dC (.int 1))) (dC (.int 2147483629))) dNil)) (dC (.int 65521))) (dC (.int 31))))) (dSeq (dSet 4 (d2 modV (dA intV (dCons (d2 mulV (dVar 3) (dC (.int 48271))) dNil)) (dC (.int 2147483629)))) (dSeq (dSet 4 (d2 modV (dA intV (dCons (d2 mulV (dVar 4) (d2 addV (d2 addV (d2 fdivV (dVar 4) (dC (.int 1021))) (dC (.int 65539))) (d2 ixV (dVar 0) (dC (.int 2))))) dNil)) (dC (.int 2147483587)))) (dRet (d2 modV (dA intV (dCons (d2 fdivV (d2 modV (dA intV (dCons (d2 mulV (dVar 4) (d2 addV (d2 fdivV (dVar 4) (dC (.int 2011))) (dC (.int 40014)))) dNil)) (dC (.int 2147483563))) (dC (.int 3))) dNil)) (dVar 1)))))))))
def F__law_draw : List SV → PL.P SV := fnRun 5 exitV den__law_draw
def den__law_pick : DS := (dRet (d2 ixV (dVar 1) (dA (chk 2 F__law_draw) (dCons (dVar 0) (dCons (dA lenV (dCons (dVar 1) dNil)) dNil)))))
def F__law_pick : List SV → PL.P SV := fnRun 2 exitV den__law_pick
def lp1__law_shape : DS := (dSeq (dSet 5 (d2 addV (dC (.int 1)) (dA (chk 2 F__law_draw) (dCons (dVar 0) (dCons (dA min2V (dCons (dVar 2) (dCons (dA (chk 2 F__law_pick) (dCons (dVar 0) (dCons (dA mkLst (dCons (dC (.int 1)) (dCons (dC (.int 2)) (dCons (dC (.int 3)) (dCons (dC (.int 4)) (dCons (dC (.int 12)) dNil)))))) dNil))) dNil))) dNil))))) (dSeq (dSet 2 (d2 fdivV (dVar 2) (dVar 5))) (dApp (dVar 3) (d2 mulV (dVar 5) (dA intV (dCons (d2 gtV (dA (chk 2 F__law_draw) (dCons (dVar 0) (dCons (dC (.int 25)) dNil))) (dC (.int 0))) dNil))))))
def den__law_shape : DS := (dSeq (dSet 3 (dA mkOwn dNil)) (dSeq (dFor (dAI rng1V (dCons (dA (chk 2 F__law_draw) (dCons (dVar 0) (dCons (d2 addV (dVar 1) (dC (.int 1))) dNil))) dNil)) (gN 4) lp1__law_shape) (dRet (dA tupleV (dCons (dVar 3) dNil)))))
def F__law_shape : List SV → PL.P SV := fnRun 6 exitV den__law_shape
def lp1__law_size_of : DS := (dSet 1 (d2 mulV (dVar 1) (dVar 2)))
def den__law_size_of : DS := (dSeq (dSet 1 (dC (.int 1))) (dSeq (dFor (dIt (dVar 0)) (gN 2) lp1__law_size_of) (dRet (dVar 1))))
def F__law_size_of : List SV → PL.P SV := fnRun 3 exitV den__law_size_of
def den__law_number : DS := (dRet (dA (chk 2 F__law_pick) (dCons (dVar 0) (dCons (dA mkLst (dCons (dC (.int 0)) (dCons (dC (.int 1)) (dCons (dC (.int 1)) (dCons (dC (.int 2)) (dCons (d1 negV (dC (.int 1))) (dCons (dC (.int 7)) (dCons (d2 powV (dC (.int 10)) (dC (.int 30))) (dCons (dA (chk 2 F__law_draw) (dCons (dVar 0) (dCons (dC (.int 9)) dNil))) (dCons (d2 subV (dA (chk 2 F__law_draw) (dCons (dVar 0) (dCons (dC (.int 100)) dNil))) (dC (.int 50))) dNil)))))))))) dNil))))
def F__law_number : List SV → PL.P SV := fnRun 1 exitV den__law_number
def ce1__law_array : En → PL.P SV := (dA (chk 1 F__law_number) (dCons (dVar 0) dNil))
def den__law_array : DS := (dRet (dA mkTup (dCons (dVar 1) (dCons (dLc [2] (dAI rng1V (dCons (dA (chk 1 F__law_size_of) (dCons (dVar 1) dNil)) dNil)) (gN 2) dYes ce1__law_array) dNil))))
def F__law_array : List SV → PL.P SV := fnRun 3 exitV den__law_array
def ce1__law_shift : En → PL.P SV := (dA (chk 2 F__law_pick) (dCons (dVar 0) (dCons (dVar 2) dNil)))
def den__law_shift : DS := (dSeq (dSet 2 (dA mkLst (dCons (dC (.int 0)) (dCons (dC (.int 1)) (dCons (d1 negV (dC (.int 1))) (dCons (dC (.int 2)) (dCons (d1 negV (dC (.int 2))) (dCons (dC (.int 3)) (dCons (d2 powV (dC (.int 10)) (dC (.int 25))) (dCons (d2 subV (d2 subV (dC (.int 0)) (d2 powV (dC (.int 10)) (dC (.int 25)))) (dC (.int 1))) (dCons (d2 subV (dA (chk 2 F__law_draw) (dCons (dVar 0) (dCons (dC (.int 30)) dNil))) (dC (.int 15))) dNil))))))))))) (dSeq (dIfS (dB (d2 eqV (dA (chk 2 F__law_draw) (dCons (dVar 0) (dCons (dC (.int 3)) dNil))) (dC (.int 0)))) (dRet (dA (chk 2 F__law_pick) (dCons (dVar 0) (dCons (dVar 2) dNil)))) dNx) (dRet (dA mkTup (dCons (dVar 1) (dCons (dLc [3] (dAI rng1V (dCons (dA (chk 1 F__law_size_of) (dCons (dVar 1) dNil)) dNil)) (gN 3) dYes ce1__law_shift) dNil))))))
def F__law_shift : List SV → PL.P SV := fnRun 4 exitV den__law_shift
def lp1__law_counted : DS := (dIfS (dAndT (dTr (dVar 5)) (dB (d2 ltV (d2 ixV (dVar 3) (d2 subV (dVar 6) (dC (.int 1)))) (d2 ixV (dVar 0) (d2 subV (dVar 6) (dC (.int 1))))))) (dSeq (dSetIx (dVar 3) (d2 subV (dVar 6) (dC (.int 1))) (d2 addV (d2 ixV (dVar 3) (d2 subV (dVar 6) (dC (.int 1)))) (dC (.int 1)))) (dSet 5 (dC (.bl false)))) (dIfS (dTr (dVar 5)) (dSetIx (dVar 3) (d2 subV (dVar 6) (dC (.int 1))) (dC (.int 1))) dNx))
def lp2__law_counted : DS := (dSeq (dApp (dVar 2) (dA tupleV (dCons (dVar 3) dNil))) (dSeq (dSet 5 (dC (.bl true))) (dFor (dIt (dVar 1)) (gN 6) lp1__law_counted)))
def den__law_counted : DS := (dSeq (dPar 2 3 (dCons (dA mkOwn dNil) (dCons (d2 (repV true) (dA mkLst (dCons (dC (.int 1)) dNil)) (dA lenV (dCons (dVar 0) dNil))) dNil))) (dSeq (dFor (dAI rng1V (dCons (dA (chk 1 F__law_size_of) (dCons (dVar 0) dNil)) dNil)) (gN 4) lp2__law_counted) (dRet (dVar 2))))
def F__law_counted : List SV → PL.P SV := fnRun 7 exitV den__law_counted
def ce1__law_all : En → PL.P SV := (d2 addV (dVar 1) (dC (.int 1)))
def den__law_all : DS := (dRet (dA (chk 2 F__law_counted) (dCons (dVar 0) (dCons (dLc [1] (dAI rng1V (dCons (dA lenV (dCons (dVar 0) dNil)) dNil)) (gN 1) dYes ce1__law_all) dNil))))
def F__law_all : List SV → PL.P SV := fnRun 2 exitV den__law_all
def den__law_table : DS := (dRet (dA dictTV (dCons (dA lzipV (dCons (dA (chk 1 F__law_all) (dCons (d2 ixV (dVar 0) (dC (.int 0))) dNil)) (dCons (d2 ixV (dVar 0) (dC (.int 1))) dNil))) dNil)))
def F__law_table : List SV → PL.P SV := fnRun 1 exitV den__law_table
def den__law_of : DS := (dRet (dIf (dTr (d1 (isiV ["int"]) (dVar 0))) (dVar 0) (d2 itemTV (dA (chk 1 F__law_table) (dCons (dVar 0) dNil)) (dVar 1))))
def F__law_of : List SV → PL.P SV := fnRun 2 exitV den__law_of
def lp1__law_due : DS := (dPutT (dVar 7) (dVar 8) (dA mkTup (dCons (dA (chk 2 F__law_of) (dCons (dVar 1) (dCons (dVar 8) dNil))) (dCons (dIf (dB (d2 isNV (dVar 2) (dC .non))) (dC .non) (dA (chk 2 F__law_of) (dCons (dVar 2) (dCons (dVar 8) dNil)))) dNil))))
def lp2__law_due : DS := (dSeq (dAsg (d2 itemTO (dVar 7) (d2 addV (dSl false (dVar 8) dNoPt (dPt (d2 subV (dVar 3) (dC (.int 1))))) (dSl false (dVar 8) (dPt (dVar 3)) dNoPt))) (gT 2 (gsC (gN 9) (gsC (gN 10) gsN)))) (dSeq (dSet 11 (d2 addV (d2 ixV (dVar 8) (d2 subV (dVar 3) (dC (.int 1)))) (dVar 9))) (dSeq (dIfS (dB (d2 isNV (dVar 2) (dC .non))) (dSet 11 (d2 addV (d2 modV (dA intV (dCons (d2 subV (dVar 11) (dC (.int 1))) dNil)) (dVar 6)) (dC (.int 1)))) dNx) (dSeq (dSet 12 (d2 addV (d2 addV (dSl false (dVar 8) dNoPt (dPt (d2 subV (dVar 3) (dC (.int 1))))) (dA mkTup (dCons (dVar 11) dNil))) (dSl false (dVar 8) (dPt (dVar 3)) dNoPt))) (dApp (dVar 5) (dIf (dB (dCh leV leV (dC (.int 1)) (dVar 11) (dVar 6))) (d2 itemTV (dVar 4) (dVar 12)) (dVar 10)))))))
def den__law_due : DS := (dSeq (dPar3 4 5 6 (dCons (dA (chk 1 F__law_table) (dCons (dVar 0) dNil)) (dCons (dA mkOwn dNil) (dCons (d2 ixV (d2 ixV (dVar 0) (dC (.int 0))) (d2 subV (dVar 3) (dC (.int 1)))) dNil)))) (dSeq (dSet 7 dNewT) (dSeq (dFor (dIt (dA (chk 1 F__law_all) (dCons (d2 addV (dSl false (d2 ixV (dVar 0) (dC (.int 0))) dNoPt (dPt (d2 subV (dVar 3) (dC (.int 1))))) (dSl false (d2 ixV (dVar 0) (dC (.int 0))) (dPt (dVar 3)) dNoPt)) dNil))) (gN 8) lp1__law_due) (dSeq (dFor (dIt (dA (chk 1 F__law_all) (dCons (d2 ixV (dVar 0) (dC (.int 0))) dNil))) (gN 8) lp2__law_due) (dSeq (dFrz 5) (dRet (dA mkTup (dCons (d2 ixV (dVar 0) (dC (.int 0))) (dCons (dVar 5) dNil)))))))))
def F__law_due : List SV → PL.P SV := fnRun 13 exitV den__law_due
def ce1__law_right : En → PL.P SV := (d2 subV (dC (.int 0)) (dVar 9))
def lp2__law_right : DS := (dSeq (dIfS (dB (d2 neV (dVar 12) (dVar 11))) (dRet (dC (.bl false))) dNx) (dAppP (dVar 12) (dC (.int 9))))
def lp3__law_right : DS := (dSeq (dSet 3 (d2 addV (dSl false (d2 ixV (dVar 1) (dC (.int 0))) dNoPt (dPt (d2 subV (dVar 2) (dC (.int 1))))) (dSl false (d2 ixV (dVar 1) (dC (.int 0))) (dPt (dVar 2)) dNoPt))) (dSeq (dPar 4 5 (dCons (dA (chk 2 F__law_shift) (dCons (dVar 0) (dCons (dVar 3) dNil))) (dCons (dA (chk 2 F__law_shift) (dCons (dVar 0) (dCons (dVar 3) dNil))) dNil))) (dSeq (dSet 6 (dFz (dAK 2 1 [.p 0, .p 1, .k 0] [] F_cshift (dCons (dVar 1) (dCons (dVar 4) dNil)) (dCons (dVar 2) dNil)))) (dSeq (dIfS (dOrT (dB (d2 neV (dVar 6) (dA (chk 4 F__law_due) (dCons (dVar 1) (dCons (dVar 4) (dCons (dC .non) (dCons (dVar 2) dNil))))))) (dB (d2 neV (dFz (dAK 0 3 [.k 2, .k 1, .k 0] [] F_cshift dNil (dCons (dVar 2) (dCons (dVar 4) (dCons (dVar 1) dNil))))) (dVar 6)))) (dRet (dC (.bl false))) dNx) (dSeq (dSet 7 (dFz (dAK 2 2 [.p 0, .p 1, .k 0, .k 1] [] F_eoshift (dCons (dVar 1) (dCons (dVar 4) dNil)) (dCons (dVar 5) (dCons (dVar 2) dNil))))) (dSeq (dIfS (dB (d2 neV (dVar 7) (dA (chk 4 F__law_due) (dCons (dVar 1) (dCons (dVar 4) (dCons (dVar 5) (dCons (dVar 2) dNil))))))) (dRet (dC (.bl false))) dNx) (dSeq (dIfS (dB (d2 neV (dFz (dAK 0 4 [.k 3, .k 2, .k 0, .k 1] [] F_eoshift dNil (dCons (dVar 5) (dCons (dVar 2) (dCons (dVar 4) (dCons (dVar 1) dNil)))))) (dVar 7))) (dRet (dC (.bl false))) dNx) (dSeq (dSet 8 (dIf (dTr (d1 (isiV ["int"]) (dVar 4))) (d2 subV (dC (.int 0)) (dVar 4)) (dA mkTup (dCons (dVar 3) (dCons (dLc [9] (dIt (d2 ixV (dVar 4) (dC (.int 1)))) (gN 9) dYes ce1__law_right) dNil))))) (dSeq (dIfS (dOrT (dB (d2 neV (dFz (dAK 2 1 [.p 0, .p 1, .k 0] [] F_cshift (dCons (dVar 6) (dCons (dVar 8) dNil)) (dCons (dVar 2) dNil))) (dVar 1))) (dB (d2 neV (dFz (dAK 2 1 [.p 0, .p 1, .k 0] [] F_cshift (dCons (dVar 1) (dCons (d2 ixV (d2 ixV (dVar 1) (dC (.int 0))) (d2 subV (dVar 2) (dC (.int 1)))) dNil)) (dCons (dVar 2) dNil))) (dVar 1)))) (dRet (dC (.bl false))) dNx) (dSeq (dPar 9 10 (dCons (d2 subV (dA (chk 2 F__law_draw) (dCons (dVar 0) (dCons (dC (.int 40)) dNil))) (dC (.int 20))) (dCons (dA (chk 2 F__law_draw) (dCons (dVar 0) (dCons (dC (.int 40)) dNil))) dNil))) (dSeq (dIfS (dB (d2 neV (dFz (dAK 2 1 [.p 0, .p 1, .k 0] [] F_cshift (dCons (dFz (dAK 2 1 [.p 0, .p 1, .k 0] [] F_cshift (dCons (dVar 1) (dCons (dVar 9) dNil)) (dCons (dVar 2) dNil))) (dCons (dVar 10) dNil)) (dCons (dVar 2) dNil))) (dFz (dAK 2 1 [.p 0, .p 1, .k 0] [] F_cshift (dCons (dVar 1) (dCons (d2 addV (dVar 9) (dVar 10)) dNil)) (dCons (dVar 2) dNil))))) (dRet (dC (.bl false))) dNx) (dSeq (dIfS (dB (d2 neV (dFz (dAK 2 1 [.p 0, .p 1, .d 0, .k 0] [.int 0] F_eoshift (dCons (dVar 1) (dCons (d2 ixV (d2 ixV (dVar 1) (dC (.int 0))) (d2 subV (dVar 2) (dC (.int 1)))) dNil)) (dCons (dVar 2) dNil))) (dA mkTup (dCons (d2 ixV (dVar 1) (dC (.int 0))) (dCons (d2 (repV false) (dA mkLst (dCons (dC (.int 0)) dNil)) (dA lenV (dCons (d2 ixV (dVar 1) (dC (.int 1))) dNil))) dNil))))) (dRet (dC (.bl false))) dNx) (dSeq (dSet 11 (dA mkTup (dCons (d2 ixV (dVar 1) (dC (.int 0))) (dCons (dA listV (dCons (d2 ixV (dVar 1) (dC (.int 1))) dNil)) dNil)))) (dSeq (dForT 12 (dCons (dAK 2 1 [.p 0, .p 1, .k 0] [] F_cshift (dCons (dVar 1) (dCons (dC (.int 0)) dNil)) (dCons (dVar 2) dNil)) (dCons (dAK 2 1 [.p 0, .p 1, .d 0, .k 0] [.int 0] F_eoshift (dCons (dVar 1) (dCons (dC (.int 0)) dNil)) (dCons (dVar 2) dNil)) dNil)) lp2__law_right) (dIfS (dB (d2 neV (dVar 1) (dVar 11))) (dRet (dC (.bl false))) dNx)))))))))))))))
def den__law_right : DS := (dSeq (dSet 1 (dA (chk 2 F__law_array) (dCons (dVar 0) (dCons (dA (chk 3 F__law_shape) (dCons (dVar 0) (dCons (dC (.int 6)) (dCons (dC (.int 120)) dNil)))) dNil)))) (dSeq (dFor (dAI rng2V (dCons (dC (.int 1)) (dCons (d2 addV (dA lenV (dCons (d2 ixV (dVar 1) (dC (.int 0))) dNil)) (dC (.int 1))) dNil))) (gN 2) lp3__law_right) (dRet (dOrV (d2 eqV (d2 ixV (dVar 1) (dC (.int 0))) (dA mkTup dNil)) (dAndV (d2 eqV (dFz (dAK 2 0 [.p 0, .p 1, .d 0] [.int 1] F_cshift (dCons (dVar 1) (dCons (dC (.int 1)) dNil)) dNil)) (dFz (dAK 2 1 [.p 0, .p 1, .k 0] [] F_cshift (dCons (dVar 1) (dCons (dC (.int 1)) dNil)) (dCons (dC (.int 1)) dNil)))) (d2 eqV (dFz (dAK 2 0 [.p 0, .p 1, .d 0, .d 1] [.int 0, .int 1] F_eoshift (dCons (dVar 1) (dCons (dC (.int 2)) dNil)) dNil)) (dFz (dAK 2 1 [.p 0, .p 1, .d 0, .k 0] [.int 0] F_eoshift (dCons (dVar 1) (dCons (dC (.int 2)) dNil)) (dCons (dC (.int 1)) dNil)))))))))
def F__law_right : List SV → PL.P SV := fnRun 13 exitV den__law_right
def lp1_law : DS := (dIfS (dNotT (dTr (dA (chk 1 F__law_right) (dCons (dA (chk 2 F__law_well) (dCons (dVar 0) (dCons (dVar 1) dNil))) dNil)))) (dRet (dC (.bl false))) dNx)
def den_law : DS := (dSeq (dFor (dAI rng1V (dCons (dA max2V (dCons (dC (.int 1)) (dCons (dA min2V (dCons (dC (.int 4)) (dCons (dA lenV (dCons (dVar 0) dNil)) dNil))) dNil))) dNil)) (gN 1) lp1_law) (dRet (dC (.bl true))))
def F_law : List SV → PL.P SV := fnRun 2 exitV den_law
end G

namespace G
open PySem PySem.Spec PyProof.Rows L2 PL
/-! ### wells -/
def Wl (k : Nat) (m : Mem) : Prop := ∃ a b c : Int, m[k]? = some (.lst [.int a, .int b, .int c])
theorem fmod_nonneg {a b : Int} (h : 0 < b) : 0 ≤ a.fmod b ∧ a.fmod b < b := by
  rw [Int.fmod_eq_emod_of_nonneg a (by omega)]
  exact ⟨Int.emod_nonneg a (by omega), Int.emod_lt_of_pos a h⟩
theorem mulOk_r (i : Int) {j : Int} (h : j.natAbs < 18446744073709551616) : mulOk i j = true := by
  unfold mulOk
  simp [h]
theorem mulOk_l {i : Int} (j : Int) (h : i.natAbs < 18446744073709551616) : mulOk i j = true := by
  unfold mulOk
  simp [h]
theorem wl_lt {k : Nat} {m : Mem} (h : Wl k m) : k < m.length := by
  obtain ⟨a, b, c, e⟩ := h
  exact (List.getElem?_eq_some_iff.mp e).1
theorem atI_ofNat {α : Type} {xs : List α} {i : Int} (h0 : 0 ≤ i) (h1 : i < xs.length) : atI xs i = xs[i.toNat]? := by
  unfold atI ixN
  rw [if_pos h0, if_pos h1]
  rfl
theorem small_big {n : Nat} (h : n ≤ 1000000000000000000000000000000000000000000000000000000000000000000000) : n < big := big_of (Nat.lt_of_le_of_lt h (by decide +kernel))

/-! ### wells, by what is wanted behind -/
def isW (c : Cell) : Prop := ∃ a b d : Int, c = .lst [.int a, .int b, .int d]
theorem wlS {k : Nat} {m : Mem} {c : Cell} (hk : k < m.length) (hc : isW c) : Wl k (m.set k c) := by
  obtain ⟨a, b, d, rfl⟩ := hc
  exact ⟨a, b, d, by simp [hk]⟩
theorem wlA {k : Nat} {m : Mem} (h : Wl k m) (l : Mem) : Wl k (m ++ l) := by
  have hk := wl_lt h
  obtain ⟨a, b, c, e⟩ := h
  exact ⟨a, b, c, by rw [List.getElem?_append_left hk]; exact e⟩
theorem wl_self {k : Nat} {m : Mem} (h : Wl k m) : ∃ c, isW c ∧ m.set k c = m := by
  have hk := wl_lt h
  obtain ⟨a, b, c, e⟩ := h
  refine ⟨_, ⟨a, b, c, rfl⟩, ?_⟩
  have e2 : m[k] = .lst [.int a, .int b, .int c] := by
    rw [List.getElem?_eq_getElem hk] at e
    exact Option.some.inj e
  rw [← e2]
  exact List.set_getElem_self hk
theorem draw_wp {k : Nat} {m : Mem} (h : Wl k m) {n : Int} {Q : SV → Mem → Prop} (hn : 0 < n) (hb : n.natAbs < big) (H : ∀ d c, isW c → 0 ≤ d → d < n → Q (.dat (.int d)) (m.set k c)) : Ok (F__law_draw [.ref k, .dat (.int n)] m) Q := by
  have hk := wl_lt h
  obtain ⟨a, b, c, e⟩ := h
  by_cases ha : 0 < a
  · have h0 : n ≠ 0 := by omega
    have e1 : F__law_draw [.ref k, .dat (.int n)] m = .ok (.dat (.int (a.fmod n))) (m.set k (.lst [.int (a.fdiv n), .int b, .int c])) := by
      simp [F__law_draw, fnRun_ap, den__law_draw, enter, setC, ixV, atI, ixN, rdSq, rdL, e, ha, h0, hb]
    obtain ⟨q1, q2⟩ := fmod_nonneg (a := a) hn
    exact ⟨_, _, e1, H _ _ ⟨_, _, _, rfl⟩ q1 q2⟩
  · have h0 : n ≠ 0 := by omega
    have e1 : ∀ x : Int, mulOk 7919 x = true := fun x => mulOk_l x (by decide)
    have e2 : ∀ x : Int, mulOk x 48271 = true := fun x => mulOk_r x (by decide)
    have e22 : ∀ x : Int, mulOk x 31 = true := fun x => mulOk_r x (by decide)
    have e3 : ∀ x y : Int, mulOk (x.fmod 2147483629) y = true := fun x y => mulOk_l y (by have := fmod_nonneg (a := x) (b := 2147483629) (by decide); omega)
    have e4 : ∀ x y : Int, mulOk (x.fmod 2147483587) y = true := fun x y => mulOk_l y (by have := fmod_nonneg (a := x) (b := 2147483587) (by decide); omega)
    have b1 : (1021 : Nat) < big := small_big (by decide)
    have b2 : (2011 : Nat) < big := small_big (by decide)
    have b3 : (2147483629 : Nat) < big := small_big (by decide)
    have b4 : (3 : Nat) < big := small_big (by decide)
    have e5 : ∀ c' : Cell, (m.set k c')[k]? = some c' := fun c' => by simp [hk]
    obtain ⟨r, e6⟩ : ∃ r : Int, F__law_draw [.ref k, .dat (.int n)] m = .ok (.dat (.int (r.fmod n))) (m.set k (.lst [.int a, .int b, .int (c + 1)])) := by
      simp [F__law_draw, fnRun_ap, den__law_draw, enter, setC, ixV, atI, ixN, rdSq, rdL, e, e5, ha, h0, hb, e1, e2, e22, e3, e4, b1, b2, b3, b4]
      exact ⟨_, rfl⟩
    obtain ⟨q1, q2⟩ := fmod_nonneg (a := r) hn
    exact ⟨_, _, e6, H _ _ ⟨_, _, _, rfl⟩ q1 q2⟩
theorem draw_wpS {k : Nat} {m : Mem} {c0 : Cell} (hk : k < m.length) (h0 : isW c0) {n : Int} {Q : SV → Mem → Prop} (hn : 0 < n) (hb : n.natAbs < big) (H : ∀ d c, isW c → 0 ≤ d → d < n → Q (.dat (.int d)) (m.set k c)) : Ok (F__law_draw [.ref k, .dat (.int n)] (m.set k c0)) Q :=
  draw_wp (wlS hk h0) hn hb fun d c hc q1 q2 => by
    rw [List.set_set]
    exact H d c hc q1 q2
theorem draw_wpA {k : Nat} {m l : Mem} {c0 : Cell} (hk : k < m.length) (h0 : isW c0) {n : Int} {Q : SV → Mem → Prop} (hn : 0 < n) (hb : n.natAbs < big) (H : ∀ d c, isW c → 0 ≤ d → d < n → Q (.dat (.int d)) (m.set k c ++ l)) : Ok (F__law_draw [.ref k, .dat (.int n)] (m.set k c0 ++ l)) Q :=
  draw_wp (wlA (wlS hk h0) l) hn hb fun d c hc q1 q2 => by
    rw [List.set_append_left _ _ (by rw [List.length_set]; exact hk), List.set_set]
    exact H d c hc q1 q2
theorem pick_wp {k : Nat} {m : Mem} (h : Wl k m) {xs : List D} {Q : SV → Mem → Prop} (hx : 0 < xs.length) (hl : xs.length ≤ 1000) (H : ∀ d c, isW c → d ∈ xs → Q (.dat d) (m.set k c)) : Ok (F__law_pick [.ref k, .dat (.lst xs)] m) Q := by
  simp only [F__law_pick, fnRun_ap, den__law_pick, enter, ok_fin, dRet_ap, d2_ap, k2_ap, ok_bnd]
  simp [lenV, rdSq, rdL]
  refine draw_wp h (by omega) (small_big (by omega)) fun d c hc q1 q2 => ?_
  have hi : d.toNat < xs.length := by omega
  simp [ixV, rdSq, rdL, atI_ofNat q1 q2, List.getElem?_eq_getElem hi]
  exact H _ c hc (List.getElem_mem _)
theorem pick_wpS {k : Nat} {m : Mem} {c0 : Cell} (hk : k < m.length) (h0 : isW c0) {xs : List D} {Q : SV → Mem → Prop} (hx : 0 < xs.length) (hl : xs.length ≤ 1000) (H : ∀ d c, isW c → d ∈ xs → Q (.dat d) (m.set k c)) : Ok (F__law_pick [.ref k, .dat (.lst xs)] (m.set k c0)) Q :=
  pick_wp (wlS hk h0) hx hl fun d c hc hd => by
    rw [List.set_set]
    exact H d c hc hd
theorem pick_wpA {k : Nat} {m l : Mem} {c0 : Cell} (hk : k < m.length) (h0 : isW c0) {xs : List D} {Q : SV → Mem → Prop} (hx : 0 < xs.length) (hl : xs.length ≤ 1000) (H : ∀ d c, isW c → d ∈ xs → Q (.dat d) (m.set k c ++ l)) : Ok (F__law_pick [.ref k, .dat (.lst xs)] (m.set k c0 ++ l)) Q :=
  pick_wp (wlA (wlS hk h0) l) hx hl fun d c hc hd => by
    rw [List.set_append_left _ _ (by rw [List.length_set]; exact hk), List.set_set]
    exact H d c hc hd

/-! ### arrays by shapes -/
def nI (f : List Nat) : List Int := f.map fun n : Nat => (n : Int)
theorem nI_len (f : List Nat) : (nI f).length = f.length := by simp [nI]
theorem nI_app (f g : List Nat) : nI (f ++ g) = nI f ++ nI g := by simp [nI]
theorem nI_cons (n : Nat) (f : List Nat) : nI (n :: f) = (n : Int) :: nI f := rfl
theorem nI_mem {i : Int} {f : List Nat} (h : i ∈ nI f) : ∃ n ∈ f, i = (n : Int) := by
  obtain ⟨n, h1, h2⟩ := List.mem_map.mp h
  exact ⟨n, h1, h2.symm⟩
theorem nI_inj : ∀ {f g : List Nat}, nI f = nI g → f = g
  | [], [], _ => rfl
  | [], _ :: _, h => by cases h
  | _ :: _, [], h => by cases h
  | a :: f, b :: g, h => by
    rw [nI_cons, nI_cons] at h
    injection h with h1 h2
    rw [nI_inj h2, show a = b by omega]
def fmD (f : List Nat) : D := .tup ((nI f).map D.int)
def rwL (r : List Int) : D := .lst (r.map D.int)
def ar (f : List Nat) (r : List Int) : D := .tup [fmD f, rwL r]
def prN (f : List Nat) : Nat := AX.size (f.map fun n => max n 1)
theorem prN_pos (f : List Nat) : 0 < prN f := by
  unfold prN
  induction f with
  | nil => decide
  | cons n f ih =>
    show 0 < max n 1 * AX.size _
    exact Nat.mul_pos (by omega) ih
theorem size_le_prN (f : List Nat) : AX.size f ≤ prN f := by
  unfold prN
  induction f with
  | nil => exact Nat.le_refl _
  | cons n f ih =>
    show n * AX.size f ≤ max n 1 * AX.size _
    exact Nat.mul_le_mul (by omega) ih
theorem prN_app (f g : List Nat) : prN (f ++ g) = prN f * prN g := by
  unfold prN
  rw [List.map_append, AX.size_app]
theorem prN_cons (n : Nat) (f : List Nat) : prN (n :: f) = max n 1 * prN f := rfl
theorem mem_le_prN {n : Nat} {f : List Nat} (h : n ∈ f) : n ≤ prN f := by
  induction f with
  | nil => cases h
  | cons a f ih =>
    rw [prN_cons]
    have h1 := prN_pos f
    rcases List.mem_cons.mp h with rfl | h
    · have : max n 1 * 1 ≤ max n 1 * prN f := Nat.mul_le_mul_left _ h1
      omega
    · have : 1 * prN f ≤ max a 1 * prN f := Nat.mul_le_mul_right _ (by omega)
      have := ih h
      omega
/-- a shape of at most seven extents, of which no part has more than 5000 elements -/
structure Sh (f : List Nat) : Prop where
  l7 : f.length ≤ 7
  le : prN f ≤ 5000
theorem Sh.size {f : List Nat} (h : Sh f) : AX.size f ≤ 5000 := Nat.le_trans (size_le_prN f) h.le
theorem Sh.mem {f : List Nat} (h : Sh f) : ∀ n ∈ f, n ≤ 5000 := fun n hn => Nat.le_trans (mem_le_prN hn) h.le
theorem Sh.left {f g : List Nat} (h : Sh (f ++ g)) : Sh f := by
  have h1 := h.l7
  have h2 := h.le
  rw [prN_app] at h2
  have := prN_pos g
  have : prN f * 1 ≤ prN f * prN g := Nat.mul_le_mul_left _ this
  exact ⟨by rw [List.length_append] at h1; omega, by omega⟩
theorem Sh.right {f g : List Nat} (h : Sh (f ++ g)) : Sh g := by
  have h1 := h.l7
  have h2 := h.le
  rw [prN_app] at h2
  have := prN_pos f
  have : 1 * prN g ≤ prN f * prN g := Nat.mul_le_mul_right _ this
  exact ⟨by rw [List.length_append] at h1; omega, by omega⟩
theorem Sh.cut {f g : List Nat} {n : Nat} (h : Sh (f ++ n :: g)) : Sh (f ++ g) := by
  have h1 := h.l7
  have h2 := h.le
  rw [prN_app, prN_cons] at h2
  refine ⟨by simp at h1 ⊢; omega, ?_⟩
  rw [prN_app]
  have : prN f * (1 * prN g) ≤ prN f * (max n 1 * prN g) := Nat.mul_le_mul_left _ (Nat.mul_le_mul_right _ (by omega))
  rw [Nat.one_mul] at this
  omega
structure Ar (f : List Nat) (r : List Int) : Prop where
  sh : Sh f
  len : r.length = AX.size f
theorem is_whole_int (i : Int) (m : Mem) : F_is_whole [.dat (.int i)] m = .ok (.dat (.bl true)) m := by
  simp [F_is_whole, fnRun_ap, den_is_whole, enter, isiV, tyName, tyIs]
theorem is_between_int (i lo hi : Int) (m : Mem) : F_is_between [.dat (.int i), .dat (.int lo), .dat (.int hi)] m = .ok (.dat (.bl (decide (lo ≤ i) && decide (i ≤ hi)))) m := by
  by_cases h : lo ≤ i <;> simp [F_is_between, fnRun_ap, den_is_between, enter, is_whole_int, h]
theorem fa_all_true (n : Nat) : ∀ m : Mem, allV [.dat (.lst (List.replicate n (.bl true)))] m = .ok (.dat (.bl true)) m := fun m => by
  have e : asBs (List.replicate n (.bl true)) = some (List.replicate n true) := by
    have := asBs_bls (List.replicate n true)
    rw [List.map_replicate] at this
    exact this
  simp [allV, rdL, e]
theorem elements_loop {lp : DS} (hlp : ∀ (a x : Int) (a0 u : Option SV) (m : Mem), mulOk a x = true → lp [a0, some (.dat (.int a)), some (.dat (.int x))] m = .ok (.nx [a0, some (.dat (.int (a * x))), some (.dat (.int x))]) m) (a0 : Option SV) (m : Mem) : ∀ (f : List Nat) (a : Nat) (c : Option SV), (∀ n ∈ f, n ≤ 5000) →
    ∃ c', loopF (gN 2) lp ((nI f).map D.int) [a0, some (.dat (.int (a : Int))), c] m = .ok (.nx [a0, some (.dat (.int ((a * AX.size f : Nat) : Int))), c']) m
  | [], a, c, _ => ⟨c, by simp [nI, loopF_nil, AX.size]⟩
  | n :: f, a, c, h => by
    have hn := h n List.mem_cons_self
    obtain ⟨c', e⟩ := elements_loop hlp a0 m f (a * n) (some (.dat (.int n))) fun x hx => h x (List.mem_cons_of_mem _ hx)
    refine ⟨c', ?_⟩
    rw [nI_cons, List.map_cons]
    refine (loopF_nx (env2 := [a0, some (.dat (.int ((a * n : Nat) : Int))), some (.dat (.int n))]) (m2 := m) rfl ?_).trans ?_
    · rw [show [a0, some (SV.dat (D.int (a : Int))), c].set 2 (some (.dat (.int (n : Int)))) = [a0, some (.dat (.int (a : Int))), some (.dat (.int n))] from rfl, hlp _ _ _ none _ (mulOk_r _ (by omega))]
      push_cast
      rfl
    · rw [e, AX.size, Nat.mul_assoc]
theorem elements_of_ok {f : List Nat} (h : ∀ n ∈ f, n ≤ 5000) (m : Mem) : F_elements_of [.dat (fmD f)] m = .ok (.dat (.int (AX.size f : Nat))) m := by
  obtain ⟨c', e⟩ := elements_loop (lp := lp1_elements_of) (fun a x a0 u m hm => by simp [lp1_elements_of, hm]) (some (.dat (fmD f))) m f 1 none h
  rw [Nat.one_mul] at e
  simp [F_elements_of, fnRun_ap, den_elements_of, enter, itemsV, fmD] at e ⊢
  rw [e]
  simp
theorem size_of_ok {f : List Nat} (h : ∀ n ∈ f, n ≤ 5000) (m : Mem) : F__law_size_of [.dat (fmD f)] m = .ok (.dat (.int (AX.size f : Nat))) m := by
  obtain ⟨c', e⟩ := elements_loop (lp := lp1__law_size_of) (fun a x a0 u m hm => by simp [lp1__law_size_of, hm]) (some (.dat (fmD f))) m f 1 none h
  rw [Nat.one_mul] at e
  simp [F__law_size_of, fnRun_ap, den__law_size_of, enter, itemsV, fmD] at e ⊢
  rw [e]
  simp
theorem is_row_ok {xs : List D} {lo hi : Int} (h0 : lo ≤ xs.length) (h1 : (xs.length : Int) ≤ hi) (m : Mem) : F_is_row [.dat (.lst xs), .dat (.int lo), .dat (.int hi)] m = .ok (.dat (.bl true)) m ∧ F_is_row [.dat (.tup xs), .dat (.int lo), .dat (.int hi)] m = .ok (.dat (.bl true)) m := by
  constructor <;> simp [F_is_row, fnRun_ap, den_is_row, enter, isiV, tyName, tyIs, lenV, rdSq, rdL, h0, h1]
theorem is_shape_ok {f : List Nat} (h : Sh f) (m : Mem) : F_is_shape [.dat (fmD f)] m = .ok (.dat (.bl true)) m := by
  have lc : ∀ env : En, noX (loopC (gN 1) dYes ce1_is_shape [some (.dat (fmD f)), none] ((nI f).map D.int) []) m = .ok (List.replicate f.length (.bl true)) m := fun env => by
    rw [loopC_all (fun _ => .bl true)]
    · congr 1
      rw [← nI_len, ← List.length_map (f := D.int)]
      exact List.map_const' ..
    · intro d hd
      obtain ⟨i, hi, rfl⟩ := List.mem_map.mp hd
      obtain ⟨n, hn, rfl⟩ := nI_mem hi
      refine ⟨_, rfl, ?_⟩
      simp [ce1_is_shape, is_whole_int]
    · have := h.l7
      simp [nI_len]
      omega
  have ir := (is_row_ok (xs := (nI f).map D.int) (lo := 0) (hi := 7) (by simp) (by have := h.l7; simp [nI_len]; omega) m).2
  have l3 := lc []
  unfold fmD at l3
  simp [F_is_shape, fnRun_ap, den_is_shape, enter, fmD, ir, itemsV, wipeE, l3, fa_all_true]
theorem isi_tt (xs : List D) (m : Mem) : isiV ["tuple"] (.dat (.tup xs)) m = .ok (.dat (.bl true)) m := by simp [isiV, tyName, tyIs]
theorem filled_ok {f : List Nat} {xs : List D} (h : Sh f) (hl : xs.length = AX.size f) {x : Str} {F : List SV → P SV} {n : Nat} (m : Mem)
    (lc : noX (loopC (gN 2) dYes ce1_is_filled [some (.dat (.tup [fmD f, .lst xs])), some (.dat (.fn x)), none] xs []) m = .ok (List.replicate xs.length (.bl true)) m) : F_is_filled [.dat (.tup [fmD f, .lst xs]), .dat (.fn x)] m = .ok (.dat (.bl true)) m := by
  have hs := h.size
  have i0 : isiV ["tuple"] (.dat (fmD f)) m = .ok (.dat (.bl true)) m := isi_tt _ m
  have i1 := isi_tt [fmD f, .lst xs] m
  have ir := (is_row_ok (xs := xs) (lo := 0) (hi := 5000) (by omega) (by omega) m).1
  have el := elements_of_ok h.mem m
  have lx : ((xs.length : Nat) : Int) = ((AX.size f : Nat) : Int) := by rw [hl]
  simp [F_is_filled, fnRun_ap, den_is_filled, enter, lenV, rdSq, rdL, ixV, atI, ixN, i0, i1, is_shape_ok h, ir, el, itemsV, wipeE, lc, fa_all_true, lx]

theorem ok_get {α : Type} {r : R α} {a : α} {m0 : Mem} (h : Ok r fun v m' => v = a ∧ m' = m0) : r = .ok a m0 := by
  obtain ⟨v, m', e, rfl, rfl⟩ := h
  exact e
theorem cut_lo (xs ys : List D) : PL.cutD (xs ++ ys) none (some (xs.length : Int)) = xs := by
  unfold PL.cutD
  rw [HT.sIx_none, HT.sIx_nat]
  simp
theorem cut_hi (xs ys : List D) : PL.cutD (xs ++ ys) (some (xs.length : Int)) none = ys := by
  unfold PL.cutD
  rw [HT.sIx_none, HT.sIx_nat]
  simp
theorem fm_lo (f1 : List Nat) (e : Nat) (f2 : List Nat) : PL.cutD ((nI (f1 ++ e :: f2)).map D.int) none (some (f1.length : Int)) = (nI f1).map D.int := by
  have := cut_lo ((nI f1).map D.int) ((nI (e :: f2)).map D.int)
  rw [List.length_map, nI_len] at this
  rw [nI_app, List.map_append]
  exact this
theorem fm_hi (f1 : List Nat) (e : Nat) (f2 : List Nat) : PL.cutD ((nI (f1 ++ e :: f2)).map D.int) (some ((f1.length : Int) + 1)) none = (nI f2).map D.int := by
  have := cut_hi ((nI (f1 ++ [e])).map D.int) ((nI f2).map D.int)
  rw [List.length_map, nI_len, List.length_append, ← List.map_append, ← nI_app, List.append_assoc] at this
  exact this
theorem fm_at (f1 : List Nat) (e : Nat) (f2 : List Nat) (m : Mem) : ixV (.dat (fmD (f1 ++ e :: f2))) (.dat (.int (f1.length : Int))) m = .ok (.dat (.int e)) m := by
  have h : atI ((nI (f1 ++ e :: f2)).map D.int) (f1.length : Int) = some (.int e) := by
    rw [atI_ofNat (by omega) (by simp [nI_len]; omega)]
    simp [nI, List.getElem?_append_right]
  simp [ixV, fmD, rdSq, rdL, h]
theorem rest_of_ok (f1 : List Nat) (e : Nat) (f2 : List Nat) (h : (f1 ++ f2).length ≤ 100) (m : Mem) : F_rest_of [.dat (fmD (f1 ++ e :: f2)), .dat (.int (f1.length + 1))] m = .ok (.dat (fmD (f1 ++ f2))) m := by
  have e1 := fm_lo f1 e f2
  have e2 := fm_hi f1 e f2
  have hl : (nI f1).length + (nI f2).length ≤ 16777216 := by rw [nI_len, nI_len]; rw [List.length_append] at h; omega
  have e3 : fmD (f1 ++ f2) = .tup ((nI f1).map D.int ++ (nI f2).map D.int) := by rw [fmD, nI_app, List.map_append]
  rw [e3, fmD]
  generalize (nI (f1 ++ e :: f2)).map D.int = z at e1 e2 ⊢
  simp [F_rest_of, fnRun_ap, den_rest_of, enter, kPt, e1, e2, show ((f1.length : Int) + 1 - 1) = f1.length by omega, addV, hl]
theorem check_ok (x : Str) (m : Mem) : F_check [.dat (.bl true), .dat (.str x)] m = .ok (.dat .non) m := by
  simp [F_check, fnRun_ap, den_check, enter]
theorem made_ok {m : Mem} {n : Nat} {f : List Nat} {ys : List D} (hn : n < m.length) (hm : m[n]? = some (.lst ys)) : F_made [.dat (fmD f), .ref n] m = .ok (.ref m.length) (m.set n .dead ++ [.pair (fmD f) ys]) := by
  have e : (m.set n Cell.dead ++ [Cell.pair (fmD f) ys])[m.length]? = some (.pair (fmD f) ys) := by
    have := get_app_len (m.set n .dead) (.pair (fmD f) ys)
    rwa [List.length_set] at this
  simp only [F_made, fnRun_ap, den_made, enter]
  have e2 := exitP_ref (Nat.le_refl _) e
  unfold fmD at e2 ⊢
  simp [hm, tupleV, rdSq, rdL]
  rw [e2]
  simp
/-! lines -/
def lnD (n e l : Nat) : D := .lst (((List.range e).map fun j => ((AX.cmb n e (l % n) j (l / n) : Nat) : Int)).map D.int)
def lnsD (n e o : Nat) : List D := (List.range (n * o)).map (lnD n e)
theorem rngD_nat (n : Nat) : rngD 0 n = ((List.range n).map fun i : Nat => (i : Int)).map D.int := by
  simp [rngD, Function.comp_def]
theorem line_lc {n e : Nat} (hn : n ≤ 5000) (he : e ≤ 5000) {c : Nat} (hc : c ≤ 5000) {a : Nat} (ha : a < n) (a0 a1 a4 a5 : Option SV) (m : Mem) :
    noX (loopC (gN 8) dYes ce1_lines_of [a0, a1, some (.dat (.int n)), some (.dat (.int e)), a4, a5, some (.dat (.int c)), some (.dat (.int a)), none] (rngD 0 e) []) m = .ok (((List.range e).map fun j => ((AX.cmb n e a j c : Nat) : Int)).map D.int) m := by
  rw [loopC_all (fun d => match d with | .int i => .int (AX.cmb n e a i.toNat c : Nat) | d => d)]
  · congr 1
    rw [rngD_nat, List.map_map, List.map_map, List.map_map]
    apply List.map_congr_left
    intro i _
    simp
  · intro d hd
    obtain ⟨i, hi, rfl⟩ := rngD_mem hd
    refine ⟨_, rfl, ?_⟩
    have m1 : mulOk (e : Int) (c : Int) = true := mulOk_l _ (by omega)
    have m2 : mulOk (n : Int) (0 + (i : Int) + (e : Int) * (c : Int)) = true := mulOk_l _ (by omega)
    simp [ce1_lines_of, m1]
    rw [Int.zero_add] at m2
    simp [m2, AX.cmb]
  · rw [rngD_length]; omega
theorem lines_of_ok {f1 : List Nat} {e : Nat} {f2 : List Nat} (h : Sh (f1 ++ e :: f2)) (m : Mem) : F_lines_of [.dat (fmD (f1 ++ e :: f2)), .dat (.int (f1.length + 1))] m = .ok (.dat (.lst (lnsD (AX.size f1) e (AX.size f2)))) m := by
  have h1 : Sh f1 := h.left
  have h2 : Sh f2 := (show Sh ((f1 ++ [e]) ++ f2) by rw [List.append_assoc]; exact h).right
  have he : e ≤ 5000 := h.mem e (by simp)
  have hn := h1.size
  have ho := h2.size
  have hno : AX.size f1 * AX.size f2 ≤ 5000 := by
    have := h.cut.size
    rwa [AX.size_app] at this
  apply ok_get
  have e1 := fm_lo f1 e f2
  have e2 := fm_hi f1 e f2
  have e3 := elements_of_ok h1.mem m
  have e4 := elements_of_ok h2.mem m
  have e5 := fm_at f1 e f2 m
  unfold fmD at e3 e4 e5
  simp [F_lines_of, fnRun_ap, den_lines_of, enter, fmD, kPt, e1, e2, e3, e4, e5, show ((f1.length : Int) + 1 - 1) = f1.length by omega, mkOwn, allDat, dParT_ap]
  generalize hN : AX.size f1 = n at *
  generalize hO : AX.size f2 = o at *
  generalize (nI (f1 ++ e :: f2)).map D.int = z0
  obtain ⟨o', ho', hoo, hif⟩ : ∃ o' : Nat, o' ≤ o ∧ n * o' = n * o ∧ (if 0 < n then R.ok (SV.dat (D.int (o : Int))) (m ++ [Cell.lst []]) else R.ok (SV.dat (D.int 0)) (m ++ [Cell.lst []])) = .ok (.dat (.int (o' : Int))) (m ++ [Cell.lst []]) := by
    by_cases z : 0 < n
    · exact ⟨o, Nat.le_refl _, rfl, by rw [if_pos z]⟩
    · have : n = 0 := by omega
      subst this
      exact ⟨0, Nat.zero_le _, by simp, by simp⟩
  rw [hif]
  simp [rng1V, show -4611686018427387904 ≤ (o' : Int) ∧ (o' : Int) < 4611686018427387904 by omega]
  refine ok_rng (fun i env mm => ∃ u6 u7, env = [some (SV.dat (D.tup z0)), some (SV.dat (D.int ((f1.length : Int) + 1))), some (SV.dat (D.int (n : Int))), some (SV.dat (D.int (e : Int))), some (SV.dat (D.int (o : Int))), some (SV.ref m.length), u6, u7, none] ∧ mm = m ++ [.lst ((List.range (n * i)).map (lnD n e))]) ⟨none, none, rfl, by simp⟩ ?_ ?_
  · rintro i env mm hi ⟨u6, u7, rfl, rfl⟩
    refine ⟨_, rfl, ?_⟩
    have hni : n * i + n ≤ 5000 := by
      have : n * (i + 1) ≤ n * o := Nat.mul_le_mul_left n (by omega)
      rw [Nat.mul_add] at this
      omega
    simp [lp3_lines_of, rng1V, show -4611686018427387904 ≤ (n : Int) ∧ (n : Int) < 4611686018427387904 by omega]
    refine ok_rng (fun j env mm => ∃ u7, env = [some (SV.dat (D.tup z0)), some (SV.dat (D.int ((f1.length : Int) + 1))), some (SV.dat (D.int (n : Int))), some (SV.dat (D.int (e : Int))), some (SV.dat (D.int (o : Int))), some (SV.ref m.length), some (SV.dat (D.int (i : Int))), u7, none] ∧ mm = m ++ [.lst ((List.range (n * i + j)).map (lnD n e))]) ⟨u7, rfl, by simp⟩ ?_ ?_
    · rintro j env mm hj ⟨u7', rfl, rfl⟩
      refine ⟨_, rfl, ?_⟩
      have hl1 : (n * i + j) % n = j := by rw [Nat.mul_add_mod, Nat.mod_eq_of_lt hj]
      have hl2 : (n * i + j) / n = i := by rw [Nat.mul_add_div (by omega), Nat.div_eq_of_lt hj, Nat.add_zero]
      have lc := line_lc (n := n) (e := e) hn he (c := i) (by omega) (a := j) hj (some (SV.dat (D.tup z0))) (some (SV.dat (D.int ((f1.length : Int) + 1)))) (some (SV.dat (D.int (o : Int)))) (some (SV.ref m.length)) (m ++ [.lst ((List.range (n * i + j)).map (lnD n e))])
      have hlen : n * i + j < 16777216 := by omega
      have hz : (0 : Int) + (j : Int) = j := by omega
      rw [hz]
      simp [lp2_lines_of, rdL, rng1V, show -4611686018427387904 ≤ (e : Int) ∧ (e : Int) < 4611686018427387904 by omega, wipeE, lc, hlen]
      rw [← Nat.add_assoc, List.range_succ, List.map_append]
      have : lnD n e (n * i + j) = .lst (((List.range e).map fun j' => ((AX.cmb n e j j' i : Nat) : Int)).map D.int) := by unfold lnD; rw [hl1, hl2]
      simp [this]
    · rintro env mm ⟨u7', rfl, rfl⟩
      simp [Nat.mul_add]
  · rintro env mm ⟨u6, u7, rfl, rfl⟩
    simp [exitV, rdL, lnsD, hoo]

theorem is_array_ok {f : List Nat} {r : List Int} (h : Ar f r) (m : Mem) : F_is_array [.dat (ar f r)] m = .ok (.dat (.bl true)) m := by
  have lc : noX (loopC (gN 2) dYes ce1_is_filled [some (.dat (.tup [fmD f, .lst (r.map D.int)])), some (.dat (.fn "is_whole")), none] (r.map D.int) []) m = .ok (List.replicate (r.map D.int).length (.bl true)) m := by
    rw [loopC_all (fun _ => .bl true)]
    · congr 1
      exact List.map_const' ..
    · intro d hd
      obtain ⟨i, _, rfl⟩ := List.mem_map.mp hd
      refine ⟨_, rfl, ?_⟩
      have lk : ∀ t, List.lookup ("is_whole" : Str) (("is_whole", 1, F_is_whole) :: t) = some (1, F_is_whole) := fun t => by simp [List.lookup]
      simp [ce1_is_filled, callC_ap (lk _), is_whole_int]
    · have := h.sh.size
      have := h.len
      simp
      omega
  have fo := filled_ok h.sh (by rw [List.length_map]; exact h.len) (F := F_is_whole) (n := 0) m lc
  simp [F_is_array, fnRun_ap, den_is_array, enter, ar, rwL, fo]
/-! numbers for lines -/
def SdR (rest : List Nat) (d : D) (sh : Nat → Int) : Prop := (∃ i, d = .int i ∧ sh = fun _ => i) ∨ ∃ vs, d = ar rest vs ∧ Ar rest vs ∧ sh = fun l => vs.getD l 0
theorem is_whole_ar (f : List Nat) (r : List Int) (m : Mem) : F_is_whole [.dat (ar f r)] m = .ok (.dat (.bl false)) m := by
  simp [F_is_whole, fnRun_ap, den_is_whole, enter, ar, isiV, tyName, tyIs]
theorem eqV_fm (f g : List Nat) (m : Mem) : PL.eqV (.dat (fmD f)) (.dat (fmD g)) m = .ok (.dat (.bl (decide (f = g)))) m := by
  have e : decide (nI f = nI g) = decide (f = g) := by
    rw [decide_eq_decide]
    exact ⟨nI_inj, fun h => by rw [h]⟩
  simp [PL.eqV, svD, fmD, okD_intsT, eqd_intsT, e]
theorem ar_ix0 (f : List Nat) (r : List Int) (m : Mem) : ixV (.dat (ar f r)) (.dat (.int 0)) m = .ok (.dat (fmD f)) m := by
  simp [ar, ixV, rdSq, rdL, atI, ixN]
theorem ar_ix1 (f : List Nat) (r : List Int) (m : Mem) : ixV (.dat (ar f r)) (.dat (.int 1)) m = .ok (.dat (rwL r)) m := by
  simp [ar, ixV, rdSq, rdL, atI, ixN]
theorem check_spread_ok {rest : List Nat} {d : D} {sh : Nat → Int} (h : SdR rest d sh) (x : Str) (m : Mem) : F_check_spread [.dat d, .dat (fmD rest), .dat (.str x)] m = .ok (.dat .non) m := by
  rcases h with ⟨i, rfl, _⟩ | ⟨vs, rfl, h, _⟩
  · simp [F_check_spread, fnRun_ap, den_check_spread, enter, is_whole_int, check_ok]
  · simp [F_check_spread, fnRun_ap, den_check_spread, enter, is_whole_ar, is_array_ok h, ar_ix0, eqV_fm, check_ok]
theorem flat_one {α : Type} (x : α) : ∀ n : Nat, (List.replicate n [x]).flatten = List.replicate n x
  | 0 => rfl
  | n + 1 => by rw [List.replicate_succ, List.replicate_succ, List.flatten_cons, flat_one x n]; rfl
theorem spread_out_ok {rest : List Nat} {d : D} {sh : Nat → Int} (hs : Sh rest) (h : SdR rest d sh) (m : Mem) : F_spread_out [.dat d, .dat (fmD rest)] m = .ok (.dat (rwL ((List.range (AX.size rest)).map sh))) m := by
  have h5 := hs.size
  rcases h with ⟨i, rfl, rfl⟩ | ⟨vs, rfl, h, rfl⟩
  · have e1 := elements_of_ok hs.mem m
    have e2 : (List.range (AX.size rest)).map (D.int ∘ fun _ => i) = List.replicate (AX.size rest) (D.int i) := by
      have : (D.int ∘ fun _ : Nat => i) = fun _ => D.int i := rfl
      rw [this, List.map_const', List.length_range]
    simp [F_spread_out, fnRun_ap, den_spread_out, enter, is_whole_int, mkLst, allDat, e1, show (AX.size rest : Int) < 9223372036854775808 by omega, show AX.size rest ≤ 16777216 by omega, flat_one, rwL, e2]
  · have e1 : (List.range (AX.size rest)).map (fun l => vs.getD l 0) = vs := by rw [← h.len]; exact AX.range_row vs
    rw [e1]
    simp [F_spread_out, fnRun_ap, den_spread_out, enter, is_whole_ar, ar_ix1, rwL, listV, rdSq, rdL]
/-! the place in a line -/
theorem lnD_at {n e l : Nat} {j : Nat} (hj : j < e) (m : Mem) : ixV (.dat (lnD n e l)) (.dat (.int (j : Int))) m = .ok (.dat (.int (AX.cmb n e (l % n) j (l / n) : Nat))) m := by
  have h : atI (((List.range e).map fun j => ((AX.cmb n e (l % n) j (l / n) : Nat) : Int)).map D.int) (j : Int) = some (.int (AX.cmb n e (l % n) j (l / n) : Nat)) := by
    rw [atI_ofNat (by omega) (by simp; omega)]
    simp [hj]
  simp only [ixV, lnD, rdSq, rdL, h]
theorem lnD_len (n e l : Nat) (m : Mem) : lenV [.dat (lnD n e l)] m = .ok (.dat (.int (e : Int))) m := by
  simp [lenV, lnD, rdSq, rdL]
def og (r : List Int) (p : Nat) : Int := r.getD p 0
theorem og_row (r : List Int) : (List.range r.length).map (og r) = r := AX.range_row r
theorem rwL_at {r : List Int} {p : Nat} (hp : p < r.length) (m : Mem) : ixV (.dat (rwL r)) (.dat (.int (p : Int))) m = .ok (.dat (.int (og r p))) m := by
  unfold og
  have h : atI (r.map D.int) (p : Int) = some (.int (r.getD p 0)) := by
    rw [atI_ofNat (by omega) (by simp; omega)]
    simp [List.getElem?_eq_getElem hp, List.getD_eq_getElem?_getD]
  simp [ixV, rwL, rdSq, rdL, h]
def enD (n e l : Nat) : List D := (List.range e).map fun j : Nat => .tup [.int (j : Int), .int (AX.cmb n e (l % n) j (l / n) : Nat)]
theorem enum_ln (n e l : Nat) (m : Mem) : enumV [.dat (lnD n e l)] m = .ok (enD n e l) m := by
  simp only [enumV, lnD, seqD_lst]
  congr 1
  unfold enumD enD
  apply List.ext_getElem?
  intro i
  rw [List.getElem?_map, List.getElem?_zipIdx, List.getElem?_map]
  by_cases hi : i < e
  · simp [hi]
  · rw [List.getElem?_eq_none (by simp; omega), List.getElem?_eq_none (by simp; omega)]
    rfl
theorem enD_get {n e l j : Nat} {d : D} (h : (enD n e l)[j]? = some d) : j < e ∧ d = .tup [.int (j : Int), .int (AX.cmb n e (l % n) j (l / n) : Nat)] := by
  unfold enD at h
  rw [List.getElem?_map] at h
  by_cases hj : j < e
  · rw [List.getElem?_range hj] at h
    exact ⟨hj, (Option.some.inj h).symm⟩
  · rw [List.getElem?_eq_none (by simp; omega)] at h
    cases h
theorem lnsD_get {n e o l : Nat} {d : D} (h : (lnsD n e o)[l]? = some d) : l < n * o ∧ d = lnD n e l := by
  unfold lnsD at h
  rw [List.getElem?_map] at h
  by_cases hl : l < n * o
  · rw [List.getElem?_range hl] at h
    exact ⟨hl, (Option.some.inj h).symm⟩
  · rw [List.getElem?_eq_none (by simp; omega)] at h
    cases h
theorem setL_at {xs : List Int} {p : Nat} (hp : p < xs.length) : ixN (xs.map D.int).length (p : Int) = some p := by
  simp [ixN, hp]
theorem stp_len (n e t l j : Nat) (g old : Nat → Int) : (AX.stp n e t l j g old).length = t := by simp [AX.stp]

/-! ### cshift, eoshift -/
theorem zipD_at {n e o : Nat} {sh : Nat → Int} {l : Nat} {d : D} (h : (zipD2 (lnsD n e o) (((List.range (n * o)).map sh).map D.int))[l]? = some d) : l < n * o ∧ d = .tup [lnD n e l, .int (sh l)] := by
  unfold zipD2 at h
  rw [← List.map_uncurry_zip_eq_zipWith, List.getElem?_map] at h
  cases hz : ((lnsD n e o).zip (((List.range (n * o)).map sh).map D.int))[l]? with
  | none => rw [hz] at h; cases h
  | some q =>
    rw [hz] at h
    obtain ⟨h1, h2⟩ := List.getElem?_zip_eq_some.mp hz
    obtain ⟨h3, h4⟩ := lnsD_get h1
    rw [List.getElem?_map, List.getElem?_map, List.getElem?_range h3] at h2
    simp at h h2
    refine ⟨h3, ?_⟩
    obtain ⟨q1, q2⟩ := q
    simp only at h4 h2
    rw [← h, h4, ← h2]
    rfl
theorem zipD_len {n e o : Nat} {sh : Nat → Int} : (zipD2 (lnsD n e o) (((List.range (n * o)).map sh).map D.int)).length = n * o := by
  simp [zipD2, lnsD]
def zipLS (n e o : Nat) (sh : Nat → Int) : List D := zipD2 (lnsD n e o) (((List.range (n * o)).map sh).map D.int)
theorem zip_ls (n e o : Nat) (sh : Nat → Int) (m : Mem) : zip2V [.dat (.lst (lnsD n e o)), .dat (rwL ((List.range (n * o)).map sh))] m = .ok (zipLS n e o sh) m := (rfl)
theorem eq_nil_ref (r : List Int) (m : Mem) : PL.eqV (.ref m.length) (.dat (.lst [])) (m ++ [.lst (r.map D.int)]) = .ok (.dat (.bl (decide (r = [])))) (m ++ [.lst (r.map D.int)]) := by
  have h1 := eqd_ints r []
  have h2 := okD_ints r
  have h3 := okD_ints []
  rw [List.map_nil] at h1 h3
  simp [PL.eqV, svD, h1, h2, h3]
theorem list_own (r : List Int) (m : Mem) : listOV [.dat (rwL r)] m = .ok (.ref m.length) (m ++ [.lst (r.map D.int)]) := by simp [listOV, rwL, rdSq, rdL]
theorem made_last (F : List Nat) (ys : List D) (m : Mem) : F_made [.dat (fmD F), .ref m.length] (m ++ [.lst ys]) = .ok (.ref (m.length + 1)) (m ++ [.dead, .pair (fmD F) ys]) := by
  have mk := made_ok (m := m ++ [.lst ys]) (n := m.length) (f := F) (ys := ys) (by simp) (by simp)
  simpa using mk
theorem exit_last (d : D) (ys : List D) (m : Mem) : exitP m.length (.ref (m.length + 1)) (m ++ [.dead, .pair d ys]) = .ok (.ref m.length) (m ++ [.pair d ys]) := by
  rw [exitP_ref (d := d) (xs := ys) (by omega) (by simp [List.getElem?_append_right])]
  simp
/-- what both shifts ask first -/
structure ShAsk (F : List Nat) (f1 : List Nat) (e : Nat) (f2 : List Nat) (r : List Int) (N : Nat) (dm : Int) : Prop where
  arr : ∀ m, F_is_array [.dat (ar F r)] m = .ok (.dat (.bl true)) m
  rest : ∀ m, F_rest_of [.dat (fmD F), .dat (.int dm)] m = .ok (.dat (fmD (f1 ++ f2))) m
  len : ∀ m, lenV [.dat (fmD F)] m = .ok (.dat (.int (N : Int))) m
  btw : ∀ m, F_is_between [.dat (.int dm), .dat (.int 1), .dat (.int (N : Int))] m = .ok (.dat (.bl true)) m
  lines : ∀ m, F_lines_of [.dat (fmD F), .dat (.int dm)] m = .ok (.dat (.lst (lnsD (AX.size f1) e (AX.size f2)))) m
  sz : r.length = AX.size f1 * (e * AX.size f2)
theorem sh_ask {f1 : List Nat} {e : Nat} {f2 : List Nat} {r : List Int} (h : Ar (f1 ++ e :: f2) r) : ShAsk (f1 ++ e :: f2) f1 e f2 r (f1 ++ e :: f2).length (f1.length + 1) := by
  have hl7 := h.sh.cut.l7
  refine ⟨is_array_ok h, rest_of_ok f1 e f2 (by omega), fun m => by simp [lenV, fmD, rdSq, rdL, nI_len], fun m => ?_, lines_of_ok h.sh, ?_⟩
  · rw [is_between_int]
    simp
    omega
  · have := h.len
    rwa [AX.size_app, AX.size] at this
theorem cshift_ok {f1 : List Nat} {e : Nat} {f2 : List Nat} {r : List Int} {d : D} {sh : Nat → Int} (h : Ar (f1 ++ e :: f2) r) (hd : SdR (f1 ++ f2) d sh) (m : Mem) :
    F_cshift [.dat (ar (f1 ++ e :: f2) r), .dat d, .dat (.int (f1.length + 1))] m = .ok (.ref m.length) (m ++ [.pair (fmD (f1 ++ e :: f2)) ((AX.csh (AX.size f1) e (AX.size f2) r sh).map D.int)]) := by
  have e3 := check_spread_ok hd "shift"
  have e5 := spread_out_ok h.sh.cut hd
  rw [AX.size_app] at e5
  have A := sh_ask h
  generalize (f1 ++ e :: f2).length = N at A
  generalize (f1.length : Int) + 1 = dm at A ⊢
  generalize f1 ++ e :: f2 = F at A ⊢
  obtain ⟨a1, a2, a3, a4, a5, a6⟩ := A
  generalize hN : AX.size f1 = n at *
  generalize hO : AX.size f2 = o at *
  apply ok_get
  simp [F_cshift, fnRun_ap, den_cshift, enter, ar_ix0, ar_ix1, a1, a2, e3, a3, a4, check_ok, list_own, eq_nil_ref, mkLst, allDat]
  by_cases hr : r = []
  · have ht : n * (e * o) = 0 := by rw [← a6, hr]; rfl
    have ce : AX.csh n e o r sh = [] := by simp [AX.csh, ht]
    have ce2 : AX.csh n e o [] sh = [] := by simp [AX.csh, ht]
    have mk := made_last F [] m
    simp [hr, mk, exit_last, ce2]
  · have hr0 : r.length ≠ 0 := fun z => hr (List.eq_nil_of_length_eq_zero z)
    have he : 0 < e := by
      rcases Nat.eq_zero_or_pos e with z | z
      · subst z; simp at a6; exact absurd a6 hr
      · exact z
    have z0 : [Cell.lst (r.map D.int)] = [Cell.lst ((AX.stp n e (n * (e * o)) 0 0 (og (AX.csh n e o r sh)) (og r)).map D.int)] := by
      rw [AX.stp_zero, ← a6, og_row]
    simp [hr, a5, e5, ar_ix0, zip_ls]
    rw [z0]
    refine ok_forN (fun l env mm => ∃ u5 u6 u7 u8, env = [some (.dat (ar F r)), some (.dat d), some (.dat (.int dm)), some (.dat (fmD (f1 ++ f2))), some (.ref m.length), u5, u6, u7, u8] ∧ mm = m ++ [.lst ((AX.stp n e (n * (e * o)) l 0 (og (AX.csh n e o r sh)) (og r)).map D.int)]) _ 0 _ _ ⟨none, none, none, none, rfl, rfl⟩ ?_ ?_
    · rintro l x env mm hl ⟨u5, u6, u7, u8, rfl, rfl⟩
      obtain ⟨hl2, rfl⟩ := zipD_at (sh := sh) hl
      rw [Nat.zero_add]
      refine ⟨_, rfl, ?_⟩
      simp [lp2_cshift, enum_ln]
      refine ok_forN (fun j env mm => ∃ u7 u8, env = [some (.dat (ar F r)), some (.dat d), some (.dat (.int dm)), some (.dat (fmD (f1 ++ f2))), some (.ref m.length), some (.dat (lnD n e l)), some (.dat (.int (sh l))), u7, u8] ∧ mm = m ++ [.lst ((AX.stp n e (n * (e * o)) l j (og (AX.csh n e o r sh)) (og r)).map D.int)]) _ 0 _ _ ⟨u7, u8, rfl, rfl⟩ ?_ ?_
      · rintro j x env mm hj ⟨u7', u8', rfl, rfl⟩
        obtain ⟨hj2, rfl⟩ := enD_get hj
        rw [Nat.zero_add]
        refine ⟨_, rfl, ?_⟩
        have hn : 0 < n := by
          rcases Nat.eq_zero_or_pos n with z | z
          · subst z; simp at hl2
          · exact z
        have ha : l % n < n := Nat.mod_lt _ hn
        have hc : l / n < o := by rw [Nat.div_lt_iff_lt_mul hn, Nat.mul_comm]; exact hl2
        have fm : ((j : Int) + sh l).fmod (e : Int) = ((j : Int) + sh l) % (e : Int) := Int.fmod_eq_emod_of_nonneg _ (by omega)
        have g1 := Int.emod_nonneg ((j : Int) + sh l) (by omega : (e : Int) ≠ 0)
        have g2 := Int.emod_lt_of_pos ((j : Int) + sh l) (by omega : (0 : Int) < e)
        obtain ⟨b, hb⟩ : ∃ b : Nat, ((j : Int) + sh l) % (e : Int) = (b : Int) := ⟨_, (Int.toNat_of_nonneg g1).symm⟩
        have hbe : b < e := by omega
        have hq := AX.cmb_lt (n := n) (e := e) (o := o) ha hbe hc
        have hp := AX.cmb_lt (n := n) (e := e) (o := o) ha hj2 hc
        have rat := rwL_at (r := r) (p := AX.cmb n e (l % n) b (l / n)) (by omega)
        have lat := lnD_at (n := n) (e := e) (l := l) hbe
        have gv : og (AX.csh n e o r sh) (AX.cmb n e (l % n) j (l / n)) = og r (AX.cmb n e (l % n) b (l / n)) := by
          unfold og AX.csh
          rw [List.getD_eq_getElem?_getD, List.getElem?_map, List.getElem?_range hp, Option.map_some, Option.getD_some, AX.ln_cmb ha hj2, AX.cmb_mod ha, AX.cmb_at ha hj2, AX.cmb_far ha hj2, Nat.mod_add_div, hb, Int.toNat_natCast]
        have st := AX.stp_set (n := n) (e := e) (o := o) (l := l) (j := j) (g := og (AX.csh n e o r sh)) (old := og r) hl2 hj2
        rw [gv] at st
        have ix := setL_at (xs := AX.stp n e (n * (e * o)) l j (og (AX.csh n e o r sh)) (og r)) (p := AX.cmb n e (l % n) j (l / n)) (by rw [stp_len]; exact hp)
        rw [List.length_map] at ix
        simp [lp1_cshift, ar_ix1, lnD_len, show ¬ e = 0 by omega, fm, hb, lat, rat, setC, ix, ← List.map_set, st]
      · rintro env mm ⟨u7', u8', rfl, rfl⟩
        rw [show (0 + (enD n e l).length) = e by simp [enD]]
        rw [AX.stp_line he]
        simp
    · rintro env mm ⟨u5, u6, u7, u8, rfl, rfl⟩
      have ll : 0 + (zipLS n e o sh).length = n * o := by rw [Nat.zero_add]; exact zipD_len
      rw [ll, AX.stp_all]
      have el : (List.range (n * (e * o))).map (og (AX.csh n e o r sh)) = AX.csh n e o r sh := by
        rw [← AX.csh_len (n := n) (e := e) (o := o) (row := r) (sh := sh), og_row]
      rw [el]
      have mk := made_last F ((AX.csh n e o r sh).map D.int) m
      simp [ar_ix0, mk, exit_last]

def zipLS3 (n e o : Nat) (sh bd : Nat → Int) : List D := zipD3 (lnsD n e o) (((List.range (n * o)).map sh).map D.int) (((List.range (n * o)).map bd).map D.int)
theorem zip_ls3 (n e o : Nat) (sh bd : Nat → Int) (m : Mem) : zip3V [.dat (.lst (lnsD n e o)), .dat (rwL ((List.range (n * o)).map sh)), .dat (rwL ((List.range (n * o)).map bd))] m = .ok (zipLS3 n e o sh bd) m := (rfl)
theorem zipD3_at {n e o : Nat} {sh bd : Nat → Int} {l : Nat} {d : D} (h : (zipLS3 n e o sh bd)[l]? = some d) : l < n * o ∧ d = .tup [lnD n e l, .int (sh l), .int (bd l)] := by
  unfold zipLS3 at h
  rw [zipD3_get] at h
  by_cases hl : l < n * o
  · have h1 : (lnsD n e o)[l]? = some (lnD n e l) := by simp [lnsD, hl]
    rw [h1, List.getElem?_map, List.getElem?_map, List.getElem?_map, List.getElem?_map, List.getElem?_range hl] at h
    simp [opt3] at h
    exact ⟨hl, h.symm⟩
  · rw [List.getElem?_eq_none (by simp [lnsD]; omega)] at h
    simp [opt3] at h
theorem zipD3_len {n e o : Nat} {sh bd : Nat → Int} : (zipLS3 n e o sh bd).length = n * o := by
  apply Nat.le_antisymm
  · by_cases z : (zipLS3 n e o sh bd).length ≤ n * o
    · exact z
    · have h : (zipLS3 n e o sh bd)[n * o]? = some (zipLS3 n e o sh bd)[n * o] := List.getElem?_eq_getElem (by omega)
      have := (zipD3_at h).1
      omega
  · by_cases z : n * o ≤ (zipLS3 n e o sh bd).length
    · exact z
    · exfalso
      have hl : (zipLS3 n e o sh bd).length < n * o := by omega
      have h : (zipLS3 n e o sh bd)[(zipLS3 n e o sh bd).length]? = none := List.getElem?_eq_none (Nat.le_refl _)
      generalize (zipLS3 n e o sh bd).length = l at hl h
      unfold zipLS3 at h
      rw [zipD3_get] at h
      have h1 : (lnsD n e o)[l]? = some (lnD n e l) := by simp [lnsD, hl]
      rw [h1, List.getElem?_map, List.getElem?_map, List.getElem?_map, List.getElem?_map, List.getElem?_range hl] at h
      simp [opt3] at h
theorem eoshift_ok {f1 : List Nat} {e : Nat} {f2 : List Nat} {r : List Int} {d db : D} {sh bd : Nat → Int} (h : Ar (f1 ++ e :: f2) r) (hd : SdR (f1 ++ f2) d sh) (hb' : SdR (f1 ++ f2) db bd) (m : Mem) :
    F_eoshift [.dat (ar (f1 ++ e :: f2) r), .dat d, .dat db, .dat (.int (f1.length + 1))] m = .ok (.ref m.length) (m ++ [.pair (fmD (f1 ++ e :: f2)) ((AX.esh (AX.size f1) e (AX.size f2) r sh bd).map D.int)]) := by
  have e3 := check_spread_ok hd "shift"
  have e5 := spread_out_ok h.sh.cut hd
  have e4 := check_spread_ok hb' "boundary"
  have e6 := spread_out_ok h.sh.cut hb'
  rw [AX.size_app] at e5 e6
  have A := sh_ask h
  generalize (f1 ++ e :: f2).length = N at A
  generalize (f1.length : Int) + 1 = dm at A ⊢
  generalize f1 ++ e :: f2 = F at A ⊢
  obtain ⟨a1, a2, a3, a4, a5, a6⟩ := A
  generalize hN : AX.size f1 = n at *
  generalize hO : AX.size f2 = o at *
  apply ok_get
  simp [F_eoshift, fnRun_ap, den_eoshift, enter, ar_ix0, ar_ix1, a1, a2, e3, e4, a3, a4, check_ok, list_own, eq_nil_ref, mkLst, allDat]
  by_cases hr : r = []
  · have ht : n * (e * o) = 0 := by rw [← a6, hr]; rfl
    have ce : AX.esh n e o r sh bd = [] := by simp [AX.esh, ht]
    have ce2 : AX.esh n e o [] sh bd = [] := by simp [AX.esh, ht]
    have mk := made_last F [] m
    simp [hr, mk, exit_last, ce2]
  · have hr0 : r.length ≠ 0 := fun z => hr (List.eq_nil_of_length_eq_zero z)
    have he : 0 < e := by
      rcases Nat.eq_zero_or_pos e with z | z
      · subst z; simp at a6; exact absurd a6 hr
      · exact z
    have z0 : [Cell.lst (r.map D.int)] = [Cell.lst ((AX.stp n e (n * (e * o)) 0 0 (og (AX.esh n e o r sh bd)) (og r)).map D.int)] := by
      rw [AX.stp_zero, ← a6, og_row]
    simp [hr, a5, e5, e6, ar_ix0, zip_ls3]
    rw [z0]
    refine ok_forN (fun l env mm => ∃ u5 u5' u6 u7 u8, env = [some (.dat (ar F r)), some (.dat d), some (.dat db), some (.dat (.int dm)), some (.dat (fmD (f1 ++ f2))), some (.ref m.length), u5, u5', u6, u7, u8] ∧ mm = m ++ [.lst ((AX.stp n e (n * (e * o)) l 0 (og (AX.esh n e o r sh bd)) (og r)).map D.int)]) _ 0 _ _ ⟨none, none, none, none, none, rfl, rfl⟩ ?_ ?_
    · rintro l x env mm hl ⟨u5, u5', u6, u7, u8, rfl, rfl⟩
      obtain ⟨hl2, rfl⟩ := zipD3_at (sh := sh) (bd := bd) hl
      rw [Nat.zero_add]
      refine ⟨_, rfl, ?_⟩
      simp [lp2_eoshift, enum_ln]
      refine ok_forN (fun j env mm => ∃ u7 u8, env = [some (.dat (ar F r)), some (.dat d), some (.dat db), some (.dat (.int dm)), some (.dat (fmD (f1 ++ f2))), some (.ref m.length), some (.dat (lnD n e l)), some (.dat (.int (sh l))), some (.dat (.int (bd l))), u7, u8] ∧ mm = m ++ [.lst ((AX.stp n e (n * (e * o)) l j (og (AX.esh n e o r sh bd)) (og r)).map D.int)]) _ 0 _ _ ⟨u7, u8, rfl, rfl⟩ ?_ ?_
      · rintro j x env mm hj ⟨u7', u8', rfl, rfl⟩
        obtain ⟨hj2, rfl⟩ := enD_get hj
        rw [Nat.zero_add]
        refine ⟨_, rfl, ?_⟩
        have hn : 0 < n := by
          rcases Nat.eq_zero_or_pos n with z | z
          · subst z; simp at hl2
          · exact z
        have ha : l % n < n := Nat.mod_lt _ hn
        have hc : l / n < o := by rw [Nat.div_lt_iff_lt_mul hn, Nat.mul_comm]; exact hl2
        have hp := AX.cmb_lt (n := n) (e := e) (o := o) ha hj2 hc
        have ix := setL_at (xs := AX.stp n e (n * (e * o)) l j (og (AX.esh n e o r sh bd)) (og r)) (p := AX.cmb n e (l % n) j (l / n)) (by rw [stp_len]; exact hp)
        rw [List.length_map] at ix
        have gv : og (AX.esh n e o r sh bd) (AX.cmb n e (l % n) j (l / n)) = if 0 ≤ (j : Int) + sh l ∧ (j : Int) + sh l < e then og r (AX.cmb n e (l % n) ((j : Int) + sh l).toNat (l / n)) else bd l := by
          unfold og AX.esh
          rw [List.getD_eq_getElem?_getD, List.getElem?_map, List.getElem?_range hp, Option.map_some, Option.getD_some, AX.ln_cmb ha hj2, AX.cmb_mod ha, AX.cmb_at ha hj2, AX.cmb_far ha hj2, Nat.mod_add_div]
        have st := AX.stp_set (n := n) (e := e) (o := o) (l := l) (j := j) (g := og (AX.esh n e o r sh bd)) (old := og r) hl2 hj2
        rw [gv] at st
        by_cases hin : 0 ≤ (j : Int) + sh l ∧ (j : Int) + sh l < e
        · obtain ⟨b, hb⟩ : ∃ b : Nat, (j : Int) + sh l = (b : Int) := ⟨_, (Int.toNat_of_nonneg hin.1).symm⟩
          have hbe : b < e := by omega
          have hq := AX.cmb_lt (n := n) (e := e) (o := o) ha hbe hc
          have rat := rwL_at (r := r) (p := AX.cmb n e (l % n) b (l / n)) (by omega)
          have lat := lnD_at (n := n) (e := e) (l := l) hbe
          rw [if_pos hin, hb, Int.toNat_natCast] at st
          simp [lp1_eoshift, ar_ix1, lnD_len, hb, hbe, lat, rat, setC, ix, ← List.map_set, st]
        · rw [if_neg hin] at st
          have hcase : (0 ≤ (j : Int) + sh l ∧ ¬ (j : Int) + sh l < e) ∨ ¬ 0 ≤ (j : Int) + sh l := by omega
          rcases hcase with ⟨c1, c2⟩ | c1
          · simp [lp1_eoshift, ar_ix1, lnD_len, c1, c2, setC, ix, ← List.map_set, st]
          · simp [lp1_eoshift, ar_ix1, lnD_len, c1, setC, ix, ← List.map_set, st]
      · rintro env mm ⟨u7', u8', rfl, rfl⟩
        rw [show (0 + (enD n e l).length) = e by simp [enD]]
        rw [AX.stp_line he]
        simp
    · rintro env mm ⟨u5, u5', u6, u7, u8, rfl, rfl⟩
      have ll : 0 + (zipLS3 n e o sh bd).length = n * o := by rw [Nat.zero_add]; exact zipD3_len
      rw [ll, AX.stp_all]
      have el : (List.range (n * (e * o))).map (og (AX.esh n e o r sh bd)) = AX.esh n e o r sh bd := by
        rw [← AX.esh_len (n := n) (e := e) (o := o) (row := r) (sh := sh) (bd := bd), og_row]
      rw [el]
      have mk := made_last F ((AX.esh n e o r sh bd).map D.int) m
      simp [ar_ix0, mk, exit_last]

/-! ### drawn shapes -/
theorem prN_snoc (f : List Nat) (n : Nat) : prN (f ++ [n]) = prN f * max n 1 := by
  rw [prN_app, prN_cons]
  show prN f * (max n 1 * 1) = _
  rw [Nat.mul_one]
theorem five_mem {d : D} (h : d ∈ [D.int 1, .int 2, .int 3, .int 4, .int 12]) : ∃ x : Int, d = .int x ∧ 1 ≤ x := by
  simp at h
  rcases h with rfl | rfl | rfl | rfl | rfl <;> exact ⟨_, rfl, by omega⟩
theorem shape_wp {k : Nat} {m : Mem} (h : Wl k m) {most room : Int} (hm0 : 0 ≤ most) (hm : most ≤ 7) (hr0 : 1 ≤ room) (hr : room ≤ 5000) {Q : SV → Mem → Prop}
    (H : ∀ (f : List Nat) (c : Cell), isW c → (f.length : Int) ≤ most → (prN f : Int) ≤ room → Q (.dat (fmD f)) (m.set k c)) : Ok (F__law_shape [.ref k, .dat (.int most), .dat (.int room)] m) Q := by
  have hk := wl_lt h
  obtain ⟨c0, hc0, e0⟩ := wl_self h
  simp [F__law_shape, fnRun_ap, den__law_shape, enter, mkOwn, allDat]
  rw [← e0]
  simp
  refine draw_wpA hk hc0 (by omega) (small_big (by omega)) fun d1 c1 hc1 q1 q2 => ?_
  simp [rng1V, show -4611686018427387904 ≤ d1 ∧ d1 < 4611686018427387904 by omega]
  refine ok_rng (fun i env mm => ∃ (acc : List Nat) (c : Cell) (room' : Int) (t u : Option SV), isW c ∧ acc.length = i ∧ 1 ≤ room' ∧ (prN acc : Int) * room' ≤ room ∧ env = [some (.ref k), some (.dat (.int most)), some (.dat (.int room')), some (.ref m.length), t, u] ∧ mm = m.set k c ++ [.lst ((nI acc).map D.int)])
    ⟨[], c1, room, none, none, hc1, rfl, hr0, by simp [prN, AX.size], rfl, rfl⟩ ?_ ?_
  · rintro i env mm hi ⟨acc, c, room', t, u, hc, hl, hp, hq, rfl, rfl⟩
    refine ⟨_, rfl, ?_⟩
    simp only [List.set_cons_succ, List.set_cons_zero]
    have hpos := prN_pos acc
    have hroom : room' ≤ room := by
      have : (1 : Int) * room' ≤ (prN acc : Int) * room' := Int.mul_le_mul_of_nonneg_right (by omega) (by omega)
      omega
    simp [lp1__law_shape, mkLst, allDat]
    refine pick_wpA hk hc (by simp) (by simp) fun d2 c2 hc2 hd => ?_
    obtain ⟨x, rfl, x1⟩ := five_mem hd
    simp
    have hmin : 1 ≤ min room' x := by omega
    refine draw_wpA hk hc2 (by omega) (small_big (by omega)) fun d3 c3 hc3 q3 q4 => ?_
    have hx : 1 + d3 ≤ room' := by omega
    have hnz : ¬ (1 + d3 = 0) := by omega
    simp [hnz, small_big (n := (1 + d3).natAbs) (by omega), rdL]
    refine draw_wpA hk hc3 (by decide) (small_big (by decide)) fun d4 c4 hc4 q5 q6 => ?_
    have hlen : (nI acc).length < 16777216 := by rw [nI_len]; omega
    have mo : mulOk (1 + d3) (if 0 < d4 then 1 else 0) = true := mulOk_l _ (by omega)
    obtain ⟨e, he⟩ : ∃ e : Nat, 1 + d3 = (e : Int) := ⟨(1 + d3).toNat, by omega⟩
    obtain ⟨n, hn, hne⟩ : ∃ n : Nat, (1 + d3) * (if 0 < d4 then 1 else 0) = (n : Int) ∧ max n 1 ≤ e := by
      by_cases z : 0 < d4
      · exact ⟨e, by rw [if_pos z, Int.mul_one, he], by omega⟩
      · exact ⟨0, by rw [if_neg z, Int.mul_zero]; rfl, by omega⟩
    have fd : room'.fdiv (1 + d3) = room' / (1 + d3) := Int.fdiv_eq_ediv_of_nonneg _ (by omega)
    have f1 : 1 ≤ room' / (1 + d3) := by rw [Int.le_ediv_iff_mul_le (by omega)]; omega
    have f2 : (1 + d3) * (room' / (1 + d3)) ≤ room' := by
      have := Int.mul_ediv_add_emod room' (1 + d3)
      have := Int.emod_nonneg room' hnz
      omega
    have hq2 : (prN (acc ++ [n]) : Int) * (room' / (1 + d3)) ≤ room := by
      rw [prN_snoc]
      have g1 : ((prN acc * max n 1 : Nat) : Int) * (room' / (1 + d3)) = (prN acc : Int) * (((max n 1 : Nat) : Int) * (room' / (1 + d3))) := by
        push_cast
        rw [Int.mul_assoc]
      have g2 : ((max n 1 : Nat) : Int) * (room' / (1 + d3)) ≤ (1 + d3) * (room' / (1 + d3)) := Int.mul_le_mul_of_nonneg_right (by omega) (by omega)
      have g3 : (prN acc : Int) * (((max n 1 : Nat) : Int) * (room' / (1 + d3))) ≤ (prN acc : Int) * room' := Int.mul_le_mul_of_nonneg_left (by omega) (by omega)
      omega
    simp [hlen, mo, fd, hn]
    exact ⟨acc ++ [n], c4, hc4, by simp [hl], _, f1, hq2, rfl, by simp [nI, hn]⟩
  · rintro env mm ⟨acc, c, room', t, u, hc, hl, hp, hq, rfl, rfl⟩
    have hq2 : (prN acc : Int) ≤ room := by
      have : (prN acc : Int) * 1 ≤ (prN acc : Int) * room' := Int.mul_le_mul_of_nonneg_left hp (by omega)
      omega
    have := H acc c hc (by omega) hq2
    simpa [tupleV, rdSq, rdL, fmD] using this
/-! ### all subscripts -/
def tpD (s : List Int) : D := .tup (s.map D.int)
/-- the next subscripts -/
def incL : List Nat → List Int → Bool → List Int
  | n :: f, x :: xs, true => if x < n then (x + 1) :: incL f xs false else 1 :: incL f xs true
  | _ :: f, x :: xs, false => x :: incL f xs false
  | _, xs, _ => xs
theorem incL_false : ∀ (f : List Nat) (xs : List Int), incL f xs false = xs
  | [], xs => by cases xs <;> rfl
  | n :: f, [] => rfl
  | n :: f, x :: xs => by rw [incL, incL_false f xs]
theorem incL_sub : ∀ (f : List Nat) (p : Nat), 0 < AX.size f → incL f (AX.sub f p) true = AX.sub f (p + 1)
  | [], p, _ => rfl
  | n :: f, p, h => by
    have hn : 0 < n := by
      rcases Nat.eq_zero_or_pos n with z | z
      · subst z; simp [AX.size] at h
      · exact z
    have hf : 0 < AX.size f := by
      rcases Nat.eq_zero_or_pos (AX.size f) with z | z
      · rw [AX.size, z] at h; simp at h
      · exact z
    show (if (((p % n : Nat) : Int) + 1) < n then _ else _) = _
    have hm := Nat.mod_lt p hn
    have dm := Nat.div_add_mod p n
    by_cases hlt : (((p % n : Nat) : Int) + 1) < n
    · rw [if_pos hlt, incL_false]
      have hq : p % n + 1 < n := by omega
      have e1 : (p + 1) % n = p % n + 1 := by
        have : p + 1 = n * (p / n) + (p % n + 1) := by omega
        rw [this, Nat.mul_add_mod, Nat.mod_eq_of_lt hq]
      have e2 : (p + 1) / n = p / n := by
        have : p + 1 = n * (p / n) + (p % n + 1) := by omega
        rw [this, Nat.mul_add_div hn, Nat.div_eq_of_lt hq, Nat.add_zero]
      rw [AX.sub, e1, e2]
      push_cast
      rfl
    · rw [if_neg hlt, incL_sub f _ hf]
      have hq : p % n + 1 = n := by omega
      have hp : p + 1 = n * (p / n + 1) := by rw [Nat.mul_add, Nat.mul_one]; omega
      have e1 : (p + 1) % n = 0 := by rw [hp, Nat.mul_mod_right]
      have e2 : (p + 1) / n = p / n + 1 := by rw [hp, Nat.mul_div_cancel_left _ hn]
      rw [AX.sub, e1, e2]
      rfl
theorem sub_zero : ∀ f : List Nat, AX.sub f 0 = List.replicate f.length 1
  | [] => rfl
  | n :: f => by
    rw [AX.sub, Nat.zero_mod, Nat.zero_div, sub_zero f]
    rfl

def axs : Nat → List Nat → List D
  | _, [] => []
  | s, _ :: f => .int ((s : Int) + 1) :: axs (s + 1) f
theorem axs_get : ∀ (f : List Nat) (s i : Nat), (axs s f)[i]? = if i < f.length then some (.int ((s + i : Nat) + 1 : Int)) else none
  | [], s, i => by simp [axs]
  | n :: f, s, 0 => by simp [axs]
  | n :: f, s, i + 1 => by
    rw [axs, List.getElem?_cons_succ, axs_get f (s + 1) i]
    simp only [List.length_cons, Nat.add_lt_add_iff_right]
    rw [show s + 1 + i = s + (i + 1) by omega]
theorem inc_loop (F : List Nat) (o : Option SV) (t : Option SV) (fd : List D) (m : Mem) : ∀ (f2 f1 : List Nat) (pre xs : List Int) (on : Bool) (u : Option SV), F = f1 ++ f2 → pre.length = f1.length → xs.length = f2.length →
    ∃ on' u', loopF (gN 6) lp1__law_counted (axs f1.length f2) [some (.dat (fmD F)), o, some (.ref m.length), some (.ref (m.length + 1)), t, some (.dat (.bl on)), u] (m ++ [.lst fd, .lst ((pre ++ xs).map D.int)]) =
      .ok (.nx [some (.dat (fmD F)), o, some (.ref m.length), some (.ref (m.length + 1)), t, some (.dat (.bl on')), u']) (m ++ [.lst fd, .lst ((pre ++ incL f2 xs on).map D.int)])
  | [], f1, pre, xs, on, u, hF, hp, hx => by
    refine ⟨on, u, ?_⟩
    have : xs = [] := List.eq_nil_of_length_eq_zero hx
    subst this
    simp [axs, loopF_nil, incL]
  | n :: f, f1, pre, [], on, u, hF, hp, hx => by simp at hx
  | n :: f, f1, pre, x :: xs, on, u, hF, hp, hx => by
    have hx2 : xs.length = f.length := by simpa using hx
    have ixF : ∀ mm, ixV (.dat (fmD F)) (.dat (.int ((f1.length : Int) + 1 - 1))) mm = .ok (.dat (.int (n : Int))) mm := fun mm => by
      rw [hF, show (f1.length : Int) + 1 - 1 = f1.length by omega]
      exact fm_at f1 n f mm
    have gN : (m ++ [Cell.lst fd, Cell.lst ((pre ++ x :: xs).map D.int)])[m.length + 1]? = some (.lst ((pre ++ x :: xs).map D.int)) := by
      rw [List.getElem?_append_right (by omega)]
      simp
    have at0 : atI ((pre ++ x :: xs).map D.int) ((f1.length : Int) + 1 - 1) = some (.int x) := by
      rw [show (f1.length : Int) + 1 - 1 = f1.length by omega, ← hp, atI_ofNat (by omega) (by simp; omega)]
      simp [List.getElem?_append_right]
    have ixX : ixV (.ref (m.length + 1)) (.dat (.int ((f1.length : Int) + 1 - 1))) (m ++ [Cell.lst fd, Cell.lst ((pre ++ x :: xs).map D.int)]) = .ok (.dat (.int x)) (m ++ [Cell.lst fd, Cell.lst ((pre ++ x :: xs).map D.int)]) := by
      simp only [ixV, rdSq, rdL, gN, at0]
    have nN : ixN ((pre ++ x :: xs).map D.int).length ((f1.length : Int) + 1 - 1) = some pre.length := by
      rw [show (f1.length : Int) + 1 - 1 = f1.length by omega, hp]
      have := setL_at (xs := pre ++ x :: xs) (p := f1.length) (by simp; omega)
      exact this
    have setX : ∀ y : Int, (m ++ [Cell.lst fd, Cell.lst ((pre ++ x :: xs).map D.int)]).set (m.length + 1) (.lst (((pre ++ x :: xs).map D.int).set pre.length (.int y))) = m ++ [Cell.lst fd, Cell.lst ((pre ++ y :: xs).map D.int)] := fun y => by
      rw [List.set_append_right _ _ (by omega)]
      congr 1
      simp [← List.map_set]
    have step : ∀ (y : Int) (on2 : Bool) (b : Bool), ∃ on' u', loopF (PL.gN 6) lp1__law_counted (axs (f1.length + 1) f) [some (.dat (fmD F)), o, some (.ref m.length), some (.ref (m.length + 1)), t, some (.dat (.bl on2)), some (.dat (.int ((f1.length : Int) + 1)))] (m ++ [.lst fd, .lst ((pre ++ y :: xs).map D.int)]) =
        .ok (.nx [some (.dat (fmD F)), o, some (.ref m.length), some (.ref (m.length + 1)), t, some (.dat (.bl on')), u']) (m ++ [.lst fd, .lst ((pre ++ y :: incL f xs on2).map D.int)]) := fun y on2 b => by
      obtain ⟨on', u', e⟩ := inc_loop F o t fd m f (f1 ++ [n]) (pre ++ [y]) xs on2 (some (.dat (.int ((f1.length : Int) + 1)))) (by rw [hF]; simp) (by simp [hp]) hx2
      refine ⟨on', u', ?_⟩
      rw [List.length_append] at e
      simpa using e
    show ∃ on' u', loopF (PL.gN 6) lp1__law_counted (.int ((f1.length : Int) + 1) :: axs (f1.length + 1) f) _ _ = _
    cases on with
    | false =>
      obtain ⟨on', u', e⟩ := step x false true
      refine ⟨on', u', ?_⟩
      refine (loopF_nx (env1 := [some (.dat (fmD F)), o, some (.ref m.length), some (.ref (m.length + 1)), t, some (.dat (.bl false)), some (.dat (.int ((f1.length : Int) + 1)))]) rfl ?_).trans e
      simp [lp1__law_counted]
    | true =>
      by_cases hlt : x < n
      · obtain ⟨on', u', e⟩ := step (x + 1) false true
        refine ⟨on', u', ?_⟩
        rw [incL, if_pos hlt]
        refine (loopF_nx (env1 := [some (.dat (fmD F)), o, some (.ref m.length), some (.ref (m.length + 1)), t, some (.dat (.bl true)), some (.dat (.int ((f1.length : Int) + 1)))]) rfl ?_).trans e
        simp only [lp1__law_counted, dIfS_ap, dAndT_ap, dTr_ap, dVar_ap, dB_ap, d2_ap, k2_ap, dC_ap, List.getElem?_cons_succ, List.getElem?_cons_zero, look_some, bnd_ok, subV_int, ixX, ixF, truV_bl, kAndT_ap, if_true, ltV_int, hlt, decide_true, asB_bl, kIfS_ap, dSeq_ap, dSetIx_ap, addV_int, kSx_ap, kSx1_ap, kSx2_ap, gN, setC, nN, setX, kSeq_nx, dSet_ap, kSet_ap, List.set_cons_succ, List.set_cons_zero]
      · obtain ⟨on', u', e⟩ := step 1 true true
        refine ⟨on', u', ?_⟩
        rw [incL, if_neg hlt]
        refine (loopF_nx (env1 := [some (.dat (fmD F)), o, some (.ref m.length), some (.ref (m.length + 1)), t, some (.dat (.bl true)), some (.dat (.int ((f1.length : Int) + 1)))]) rfl ?_).trans e
        simp only [lp1__law_counted, dIfS_ap, dAndT_ap, dTr_ap, dVar_ap, dB_ap, d2_ap, k2_ap, dC_ap, List.getElem?_cons_succ, List.getElem?_cons_zero, look_some, bnd_ok, subV_int, ixX, ixF, truV_bl, kAndT_ap, if_true, ltV_int, hlt, decide_false, Bool.false_eq_true, if_false, asB_bl, kIfS_ap, dSeq_ap, dSetIx_ap, addV_int, kSx_ap, kSx1_ap, kSx2_ap, gN, setC, nN, setX, kSeq_nx, dSet_ap, kSet_ap, List.set_cons_succ, List.set_cons_zero]

theorem counted_ok {f : List Nat} (h : Sh f) (m : Mem) : F__law_counted [.dat (fmD f), .dat (.lst (axs 0 f))] m = .ok (.dat (.lst ((AX.subs f).map tpD))) m := by
  have h5 := h.size
  have hl := h.l7
  have rp : repV true (.dat (.lst [.int 1])) (.dat (.int (f.length : Int))) (m ++ [Cell.lst []]) = .ok (.ref (m.length + 1)) (m ++ [.lst [], .lst ((AX.sub f 0).map D.int)]) := by
    rw [repV_lst, if_pos ⟨by omega, by omega, by simp; omega⟩, flat_one, sub_zero]
    simp
  have ln : lenV [.dat (fmD f)] (m ++ [Cell.lst []]) = .ok (.dat (.int (f.length : Int))) (m ++ [Cell.lst []]) := by simp [lenV, fmD, rdSq, rdL, nI_len]
  have so := size_of_ok h.mem
  apply ok_get
  simp [F__law_counted, fnRun_ap, den__law_counted, enter, mkOwn, mkLst, allDat, ln, rp, so, rng1V, show -4611686018427387904 ≤ (AX.size f : Int) ∧ (AX.size f : Int) < 4611686018427387904 by omega]
  refine ok_rng (fun i env mm => ∃ t b u, env = [some (.dat (fmD f)), some (.dat (.lst (axs 0 f))), some (.ref m.length), some (.ref (m.length + 1)), t, b, u] ∧ mm = m ++ [.lst (((List.range i).map (AX.sub f)).map tpD), .lst ((AX.sub f i).map D.int)]) ⟨none, none, none, rfl, rfl⟩ ?_ ?_
  · rintro i env mm hi ⟨t, b, u, rfl, rfl⟩
    refine ⟨_, rfl, ?_⟩
    simp only [List.set_cons_succ, List.set_cons_zero]
    obtain ⟨on', u', e⟩ := inc_loop f (some (.dat (.lst (axs 0 f)))) (some (.dat (.int (0 + (i : Int))))) (((List.range i).map (AX.sub f)).map tpD ++ [tpD (AX.sub f i)]) m f [] [] (AX.sub f i) true u rfl rfl (AX.sub_len f i)
    rw [List.nil_append, List.nil_append, incL_sub f i (by omega)] at e
    have g0 : (m ++ [Cell.lst (((List.range i).map (AX.sub f)).map tpD), .lst ((AX.sub f i).map D.int)])[m.length]? = some (.lst (((List.range i).map (AX.sub f)).map tpD)) := by
      rw [List.getElem?_append_right (by omega)]; simp
    have g1 : (m ++ [Cell.lst (((List.range i).map (AX.sub f)).map tpD), .lst ((AX.sub f i).map D.int)])[m.length + 1]? = some (.lst ((AX.sub f i).map D.int)) := by
      rw [List.getElem?_append_right (by omega)]; simp
    have s0 : (m ++ [Cell.lst (((List.range i).map (AX.sub f)).map tpD), .lst ((AX.sub f i).map D.int)]).set m.length (.lst (((List.range i).map (AX.sub f)).map tpD ++ [tpD (AX.sub f i)])) = m ++ [.lst (((List.range i).map (AX.sub f)).map tpD ++ [tpD (AX.sub f i)]), .lst ((AX.sub f i).map D.int)] := by
      rw [List.set_append_right _ _ (by omega)]; simp
    have tv : tupleV [.ref (m.length + 1)] (m ++ [Cell.lst (((List.range i).map (AX.sub f)).map tpD), .lst ((AX.sub f i).map D.int)]) = .ok (.dat (tpD (AX.sub f i))) (m ++ [Cell.lst (((List.range i).map (AX.sub f)).map tpD), .lst ((AX.sub f i).map D.int)]) := by
      simp only [tupleV, rdSq, rdL, g1, tpD]
    have lt : (((List.range i).map (AX.sub f)).map tpD).length < 16777216 := by simp; omega
    rw [List.length_nil] at e
    generalize hX : ((List.range i).map (AX.sub f)).map tpD = X at *
    simp only [lp2__law_counted, dSeq_ap, dApp_ap, dVar_ap, List.getElem?_cons_succ, List.getElem?_cons_zero, look_some, bnd_ok, kApp_ap, rdL, g0, ifL_some, dA_ap, dCons_ap, dNil_ap, kCons_ap, kCons2_ap, tv, kApp1_ap, appC_lst, lt, if_true, s0, kSeq_nx, dSet_ap, dC_ap, kSet_ap, List.set_cons_succ, List.set_cons_zero, dFor_ap, dIt_ap, itemsV, kFor_ap, e]
    rw [ok_ok, LB_nx]
    refine ⟨_, _, _, rfl, ?_⟩
    rw [List.range_succ, List.map_append, List.map_append, hX]
    rfl
  · rintro env mm ⟨t, b, u, rfl, rfl⟩
    have g0 : (m ++ [Cell.lst (((List.range (AX.size f)).map (AX.sub f)).map tpD), .lst ((AX.sub f (AX.size f)).map D.int)])[m.length]? = some (.lst (((List.range (AX.size f)).map (AX.sub f)).map tpD)) := by
      rw [List.getElem?_append_right (by omega)]; simp
    generalize hX : ((List.range (AX.size f)).map (AX.sub f)).map tpD = X at *
    have hX2 : (AX.subs f).map tpD = X := hX
    rw [hX2]
    simp [exitV, g0]
theorem all_ok {f : List Nat} (h : Sh f) (m : Mem) : F__law_all [.dat (fmD f)] m = .ok (.dat (.lst ((AX.subs f).map tpD))) m := by
  have hl := h.l7
  have ln : lenV [.dat (fmD f)] m = .ok (.dat (.int (f.length : Int))) m := by simp [lenV, fmD, rdSq, rdL, nI_len]
  have lc : noX (loopC (gN 1) dYes ce1__law_all [some (.dat (fmD f)), none] (rngD 0 f.length) []) m = .ok (axs 0 f) m := by
    rw [loopC_all (fun d => match d with | .int i => .int (i + 1) | d => d)]
    · congr 1
      apply List.ext_getElem?
      intro i
      rw [List.getElem?_map, axs_get]
      by_cases hi : i < f.length
      · rw [if_pos hi]
        simp [rngD, hi]
      · rw [if_neg hi, List.getElem?_eq_none (by simp; omega)]
        rfl
    · intro d hd
      obtain ⟨i, hi, rfl⟩ := rngD_mem hd
      exact ⟨_, rfl, by simp [ce1__law_all]⟩
    · rw [rngD_length]; omega
  have ct := counted_ok h m
  simp [F__law_all, fnRun_ap, den__law_all, enter, ln, rng1V, show -4611686018427387904 ≤ (f.length : Int) ∧ (f.length : Int) < 4611686018427387904 by omega, wipeE, lc, ct]
/-! ### drawn numbers, arrays -/
theorem number_wpA {k : Nat} {m l : Mem} {c0 : Cell} (hk : k < m.length) (h0 : isW c0) {Q : SV → Mem → Prop} (H : ∀ (i : Int) (c : Cell), isW c → Q (.dat (.int i)) (m.set k c ++ l)) : Ok (F__law_number [.ref k] (m.set k c0 ++ l)) Q := by
  have tk : ∀ c : Cell, (m.set k c ++ l).take ((m.set k c0 ++ l).length) = m.set k c ++ l := fun c => List.take_of_length_le (by simp)
  simp [F__law_number, fnRun_ap, den__law_number, enter]
  refine draw_wpA hk h0 (by decide) (small_big (by decide)) fun d1 c1 hc1 q1 q2 => ?_
  refine draw_wpA hk hc1 (by decide) (small_big (by decide)) fun d2 c2 hc2 q3 q4 => ?_
  simp [mkLst, allDat]
  refine pick_wpA hk hc2 (by simp) (by simp) fun d3 c3 hc3 hd => ?_
  have hi : ∃ i : Int, d3 = .int i := by
    simp at hd
    rcases hd with rfl | rfl | rfl | rfl | rfl | rfl | rfl | rfl <;> exact ⟨_, rfl⟩
  obtain ⟨i, rfl⟩ := hi
  have := H i c3 hc3
  have t2 := tk c3
  simp at t2
  simp [t2]
  exact this

/-- a comprehension over range of drawn numbers -/
theorem draws_lc {k : Nat} {m l : Mem} {c0 : Cell} (hk : k < m.length) (h0 : isW c0) {n t : Nat} (hn : n ≤ 16777216) {g : D → En → Option En} {f : En → P SV} {env : En} (hg : ∀ d, ∃ env1, g d env = some env1 ∧ ∀ (c : Cell) (Q : SV → Mem → Prop), isW c → (∀ (i : Int) (c' : Cell), isW c' → Q (.dat (.int i)) (m.set k c' ++ l)) → Ok (f env1 (m.set k c ++ l)) Q) {Q : List D → Mem → Prop}
    (H : ∀ (r : List Int) (c : Cell), r.length = n → isW c → Q (r.map D.int) (m.set k c ++ l)) : Ok (loopC g dYes f env (rngD 0 n) [] (m.set k c0 ++ l)) Q := by
  rw [rngD_nat]
  refine ok_lcA D.int (fun p acc mm => ∃ (r : List Int) (c : Cell), r.length = p.length ∧ acc = r.map D.int ∧ isW c ∧ mm = m.set k c ++ l) _ ⟨[], c0, rfl, rfl, h0, rfl⟩ (by simp; omega) ?_ ?_
  · rintro p x q acc mm e ⟨r, c, hr, rfl, hc, rfl⟩
    obtain ⟨env1, h1, h2⟩ := hg (.int x)
    refine ⟨env1, h1, h2 c _ hc fun i c' hc' => ⟨.int i, rfl, r ++ [i], c', by simp [hr], by simp, hc', rfl⟩⟩
  · rintro acc mm ⟨r, c, hr, rfl, hc, rfl⟩
    exact H r c (by rw [hr]; simp) hc
theorem array_wp {k : Nat} {m : Mem} (h : Wl k m) {f : List Nat} (hs : Sh f) {Q : SV → Mem → Prop} (H : ∀ (r : List Int) (c : Cell), isW c → Ar f r → Q (.dat (ar f r)) (m.set k c)) : Ok (F__law_array [.ref k, .dat (fmD f)] m) Q := by
  have hk := wl_lt h
  obtain ⟨c0, hc0, e0⟩ := wl_self h
  have h5 := hs.size
  simp [F__law_array, fnRun_ap, den__law_array, enter, size_of_ok hs.mem, rng1V, show -4611686018427387904 ≤ (AX.size f : Int) ∧ (AX.size f : Int) < 4611686018427387904 by omega, ok_noX]
  have key : ∀ (Q : List D → Mem → Prop), (∀ (r : List Int) (c : Cell), r.length = AX.size f → isW c → Q (r.map D.int) (m.set k c)) → Ok (loopC (gN 2) dYes ce1__law_array [some (.ref k), some (.dat (fmD f)), none] (rngD 0 (AX.size f)) [] m) Q := fun Q H => by
    have := draws_lc (k := k) (m := m) (l := []) hk hc0 (n := AX.size f) (t := 0) (by omega) (g := gN 2) (f := ce1__law_array) (env := [some (.ref k), some (.dat (fmD f)), none]) (fun d => ⟨_, rfl, fun c Q hc HQ => by simpa [ce1__law_array] using number_wpA hk hc HQ⟩) (Q := Q) (fun r c hr hc => by rw [List.append_nil]; exact H r c hr hc)
    rwa [List.append_nil, e0] at this
  simp only [wipeE, List.set_cons_succ, List.set_cons_zero]
  refine key _ fun r c hr hc => ?_
  have := H r c hc ⟨hs, hr⟩
  have hl : (r.map D.int).length ≤ 16777216 := by rw [List.length_map]; omega
  simpa [mkTup, allDat, ar, rwL] using this
/-! ### tables -/
theorem putP_new {kvs : List (List Int × D)} {k : List Int} {d : D} (h : k ∉ kvs.map (·.1)) : putP kvs k d = kvs ++ [(k, d)] := by
  unfold putP
  rw [if_neg]
  intro z
  obtain ⟨q, h1, h2⟩ := List.any_eq_true.mp z
  exact h (List.mem_map.mpr ⟨q, h1, by simpa using h2⟩)
theorem mrgT_nodup : ∀ (kvs acc : List (List Int × D)), ((acc ++ kvs).map (·.1)).Nodup → mrgT acc kvs = acc ++ kvs
  | [], acc, _ => by simp [mrgT]
  | q :: kvs, acc, h => by
    have hq : q.1 ∉ acc.map (·.1) := fun z => by
      rw [List.map_append, List.map_cons, List.nodup_append] at h
      exact h.2.2 _ z _ (List.mem_cons_self ..) rfl
    show mrgT (putP acc q.1 q.2) kvs = _
    rw [putP_new hq, mrgT_nodup kvs (acc ++ [q]) (by simpa using h)]
    simp
def tbD (f : List Nat) (r : List Int) : D := .dt (AX.subs f) (r.map D.int)
theorem zip_fst {α β : Type} : ∀ (xs : List α) (ys : List β), xs.length = ys.length → (xs.zip ys).map (·.1) = xs := fun xs ys h => List.map_fst_zip (by omega)
theorem zip_snd {α β : Type} : ∀ (xs : List α) (ys : List β), xs.length = ys.length → (xs.zip ys).map (·.2) = ys := fun xs ys h => List.map_snd_zip (by omega)
theorem dict_tab {ks : List (List Int)} {ds : List D} (hn : ks.Nodup) (hl : ks.length = ds.length) (m : Mem) : dictTV [.dat (.lst (zip2D (ks.map tpD) ds))] m = .ok (.dat (.dt ks ds)) m := by
  have e1 : zip2D (ks.map tpD) ds = (ks.zip ds).map fun q => D.tup [D.tup (q.1.map D.int), q.2] := by
    unfold zip2D
    rw [List.zipWith_map_left, ← List.map_uncurry_zip_eq_zipWith]
    rfl
  have e2 := asKV_of (f := fun q : List Int × D => q.1) (g := fun q => q.2) (ks.zip ds)
  have e3 : (ks.zip ds).map (fun x : List Int × D => (x.1, x.2)) = ks.zip ds := by simp
  have e4 := mrgT_nodup (ks.zip ds) [] (by rw [List.nil_append, zip_fst ks ds hl]; exact hn)
  rw [List.nil_append] at e4
  rw [e1, dictTV_ap, e2]
  simp only [e3, e4, zip_fst ks ds hl, zip_snd ks ds hl]
theorem table_ok {f : List Nat} {r : List Int} (h : Ar f r) (m : Mem) : F__law_table [.dat (ar f r)] m = .ok (.dat (tbD f r)) m := by
  have h5 := h.sh.size
  have hl : ((AX.subs f).map tpD).length ≤ 16777216 := by rw [List.length_map, AX.subs_len]; omega
  have dt := dict_tab (AX.subs_nodup f) (ds := r.map D.int) (by rw [AX.subs_len, List.length_map, h.len]) m
  have al := all_ok h.sh m
  rw [List.length_map] at hl
  simp [F__law_table, fnRun_ap, den__law_table, enter, ar_ix0, ar_ix1, al, rwL, hl, dt, tbD]
theorem getT_at : ∀ {ks : List (List Int)} {ds : List D} {i : Nat} {k : List Int}, ks.Nodup → ks[i]? = some k → getT ks ds k = ds[i]?
  | [], ds, i, k, _, h => by simp at h
  | k' :: ks, [], i, k, _, h => by simp [getT]
  | k' :: ks, d :: ds, 0, k, _, h => by
    simp at h
    subst h
    simp [getT]
  | k' :: ks, d :: ds, i + 1, k, hn, h => by
    rw [List.nodup_cons] at hn
    have h : ks[i]? = some k := by simpa using h
    have ne : ¬ k' = k := fun z => hn.1 (by rw [z]; exact List.mem_of_getElem? h)
    rw [getT, if_neg ne, getT_at hn.2 h]
    simp
theorem tab_at {f : List Nat} {r : List Int} (h : Ar f r) {p : Nat} (hp : p < AX.size f) (m : Mem) : itemTV (.dat (tbD f r)) (.dat (tpD (AX.sub f p))) m = .ok (.dat (.int (og r p))) m := by
  have e : getT (AX.subs f) (r.map D.int) (AX.sub f p) = some (.int (og r p)) := by
    rw [getT_at (AX.subs_nodup f) (i := p) (by simp [AX.subs, hp]), List.getElem?_map, List.getElem?_eq_getElem (by rw [h.len]; exact hp)]
    simp [og, List.getD_eq_getElem?_getD, List.getElem?_eq_getElem (show p < r.length by rw [h.len]; exact hp)]
  exact itemTV_ap e m
/-! ### drawn shifts -/
theorem shift_wp {k : Nat} {m l : Mem} {c0 : Cell} (hk : k < m.length) (h0 : isW c0) {f : List Nat} (hs : Sh f) {Q : SV → Mem → Prop} (H : ∀ (d : D) (sh : Nat → Int) (c : Cell), isW c → SdR f d sh → Q (.dat d) (m.set k c ++ l)) : Ok (F__law_shift [.ref k, .dat (fmD f)] (m.set k c0 ++ l)) Q := by
  have h5 := hs.size
  have tk : ∀ c : Cell, (m.set k c ++ l).take (m.length + l.length) = m.set k c ++ l := fun c => List.take_of_length_le (by simp)
  simp [F__law_shift, fnRun_ap, den__law_shift, enter]
  refine draw_wpA hk h0 (by decide) (small_big (by decide)) fun d1 c1 hc1 q1 q2 => ?_
  simp [mkLst, allDat]
  refine draw_wpA hk hc1 (by decide) (small_big (by decide)) fun d2 c2 hc2 q3 q4 => ?_
  simp
  have pk : ∀ (c : Cell) (Q : SV → Mem → Prop), isW c → (∀ (i : Int) (c' : Cell), isW c' → Q (.dat (.int i)) (m.set k c' ++ l)) → Ok (F__law_pick [.ref k, .dat (.lst [.int 0, .int 1, .int (-1), .int 2, .int (-2), .int 3, .int 10000000000000000000000000, .int (-10000000000000000000000001), .int (d1 - 15)])] (m.set k c ++ l)) Q := fun c Q hc HQ =>
    pick_wpA hk hc (by simp) (by simp) fun d3 c3 hc3 hd => by
      have hi : ∃ i : Int, d3 = .int i := by
        simp at hd
        rcases hd with rfl | rfl | rfl | rfl | rfl | rfl | rfl | rfl | rfl <;> exact ⟨_, rfl⟩
      obtain ⟨i, rfl⟩ := hi
      exact HQ i c3 hc3
  by_cases z : d2 = 0
  · simp [z]
    refine pk c2 _ hc2 fun i c' hc' => ?_
    have := H (.int i) (fun _ => i) c' hc' (.inl ⟨i, rfl, rfl⟩)
    simpa [tk] using this
  · simp [z, size_of_ok hs.mem, rng1V, show -4611686018427387904 ≤ (AX.size f : Int) ∧ (AX.size f : Int) < 4611686018427387904 by omega, ok_noX]
    simp only [wipeE, List.set_cons_succ, List.set_cons_zero]
    refine draws_lc hk hc2 (n := AX.size f) (t := 0) (by omega) (g := gN 3) (f := ce1__law_shift) (fun d => ⟨_, rfl, fun c Q hc HQ => by simpa [ce1__law_shift] using pk c Q hc HQ⟩) fun r c hr hc => ?_
    have := H (ar f r) (fun j => r.getD j 0) c hc (.inr ⟨r, rfl, ⟨hs, hr⟩, rfl⟩)
    simpa [mkTup, allDat, ar, rwL, tk] using this
theorem of_ok {rest : List Nat} {d : D} {sh : Nat → Int} (h : SdR rest d sh) {l : Nat} (hl : l < AX.size rest) (m : Mem) : F__law_of [.dat d, .dat (tpD (AX.sub rest l))] m = .ok (.dat (.int (sh l))) m := by
  rcases h with ⟨i, rfl, rfl⟩ | ⟨vs, rfl, h, rfl⟩
  · simp [F__law_of, fnRun_ap, den__law_of, enter, isiV, tyName, tyIs]
  · have i0 : isiV ["int"] (.dat (ar rest vs)) m = .ok (.dat (.bl false)) m := by simp [ar, isiV, tyName, tyIs]
    simp [F__law_of, fnRun_ap, den__law_of, enter, i0, table_ok h, tab_at h hl, og]

/-! ### what is due -/
theorem sub_parts {f1 : List Nat} {e : Nat} {f2 : List Nat} {p : Nat} (hp : p < AX.size f1 * (e * AX.size f2)) : AX.sub (f1 ++ e :: f2) p = AX.sub f1 (p % AX.size f1) ++ (((p / AX.size f1 % e : Nat) : Int) + 1) :: AX.sub f2 (p / AX.size f1 / e) := by
  obtain ⟨h1, h2, h3, h4⟩ := AX.parts_lt hp
  have e1 := AX.sub_app f1 (e :: f2) (p % AX.size f1) (p / AX.size f1) h1
  rw [Nat.mod_add_div] at e1
  rw [e1, AX.sub]
theorem sub_rest {f1 : List Nat} {e : Nat} {f2 : List Nat} {p : Nat} (hp : p < AX.size f1 * (e * AX.size f2)) : AX.sub (f1 ++ f2) (AX.ln (AX.size f1) e p) = AX.sub f1 (p % AX.size f1) ++ AX.sub f2 (p / AX.size f1 / e) := by
  obtain ⟨h1, h2, h3, h4⟩ := AX.parts_lt hp
  exact AX.sub_app f1 f2 _ _ h1
theorem sp_lo {pre post : List Int} {x : Int} {k : Nat} (h : pre.length = k) : PL.cutD ((pre ++ x :: post).map D.int) none (some (k : Int)) = pre.map D.int := by
  have := cut_lo (pre.map D.int) ((x :: post).map D.int)
  rw [List.length_map, h] at this
  rw [List.map_append]
  exact this
theorem sp_hi {pre post : List Int} {x : Int} {k : Nat} (h : pre.length = k) : PL.cutD ((pre ++ x :: post).map D.int) (some ((k : Int) + 1)) none = post.map D.int := by
  have := cut_hi ((pre ++ [x]).map D.int) (post.map D.int)
  rw [List.length_map, List.length_append, h, ← List.map_append, List.append_assoc] at this
  exact this
theorem sp_at {pre post : List Int} {x : Int} {k : Nat} (h : pre.length = k) (m : Mem) : ixV (.dat (tpD (pre ++ x :: post))) (.dat (.int (k : Int))) m = .ok (.dat (.int x)) m := by
  have h : atI ((pre ++ x :: post).map D.int) (k : Int) = some (.int x) := by
    rw [atI_ofNat (by omega) (by simp; omega)]
    simp [List.getElem?_append_right, ← h]
  simp only [ixV, tpD, rdSq, rdL, h]
/-- numbers for lines, or none -/
def EdR (rest : List Nat) (d : D) (bv : Nat → D) : Prop := (d = .non ∧ bv = fun _ => .non) ∨ ∃ bd, SdR rest d bd ∧ bv = fun l => .int (bd l)
theorem sd_non {rest : List Nat} {d : D} {bd : Nat → Int} (h : SdR rest d bd) : isNon d = false := by
  rcases h with ⟨i, rfl, _⟩ | ⟨vs, rfl, _⟩ <;> rfl
theorem ed_of {rest : List Nat} {d : D} {bv : Nat → D} (h : EdR rest d bv) {l : Nat} (hl : l < AX.size rest) (env : En) (i j : Nat) (h1 : env[i]? = some (some (.dat d))) (h2 : env[j]? = some (some (.dat (tpD (AX.sub rest l))))) (m : Mem) :
    dIf (dB (d2 isNV (dVar i) (dC .non))) (dC .non) (dA (chk 2 F__law_of) (dCons (dVar i) (dCons (dVar j) dNil))) env m = .ok (.dat (bv l)) m := by
  rcases h with ⟨rfl, rfl⟩ | ⟨bd, h, rfl⟩
  · simp [h1]
  · simp [h1, h2, sd_non h, of_ok h hl]
def mvD (sh : Nat → Int) (bv : Nat → D) (l : Nat) : D := .tup [.int (sh l), bv l]
theorem moves_loop {rest : List Nat} (hs : Sh rest) {d db : D} {sh : Nat → Int} {bv : Nat → D} (hd : SdR rest d sh) (hb : EdR rest db bv) (a0 a3 a4 a5 a6 a9 a10 a11 a12 : Option SV) (fd : List D) (m : Mem) {Q : Out → Mem → Prop}
    (H : ∀ u8, Q (.nx [a0, some (.dat d), some (.dat db), a3, a4, a5, a6, some (.ref (m.length + 1)), u8, a9, a10, a11, a12]) (m ++ [.lst fd, .dtc (AX.subs rest) ((List.range (AX.size rest)).map (mvD sh bv))])) (u8 : Option SV) :
    Ok (loopF (gN 8) lp1__law_due ((AX.subs rest).map tpD) [a0, some (.dat d), some (.dat db), a3, a4, a5, a6, some (.ref (m.length + 1)), u8, a9, a10, a11, a12] (m ++ [.lst fd, .dtc [] []])) Q := by
  have h5 := hs.size
  refine ok_forN (fun i env mm => ∃ u8, env = [a0, some (.dat d), some (.dat db), a3, a4, a5, a6, some (.ref (m.length + 1)), u8, a9, a10, a11, a12] ∧ mm = m ++ [.lst fd, .dtc ((List.range i).map (AX.sub rest)) ((List.range i).map (mvD sh bv))]) _ 0 _ _ ⟨u8, rfl, rfl⟩ ?_ ?_
  · rintro i x env mm hi ⟨u8, rfl, rfl⟩
    rw [Nat.zero_add]
    rw [List.getElem?_map] at hi
    have hlt : i < AX.size rest := by
      by_cases z : i < AX.size rest
      · exact z
      · rw [List.getElem?_eq_none (by rw [AX.subs_len]; omega)] at hi
        cases hi
    have hx : x = tpD (AX.sub rest i) := by
      simp [AX.subs, hlt] at hi
      exact hi.symm
    subst hx
    refine ⟨_, rfl, ?_⟩
    simp only [List.set_cons_succ, List.set_cons_zero]
    have e1 := of_ok hd hlt
    have e2 := ed_of hb hlt [a0, some (.dat d), some (.dat db), a3, a4, a5, a6, some (.ref (m.length + 1)), some (.dat (tpD (AX.sub rest i))), a9, a10, a11, a12] 2 8 rfl rfl
    have g1 : (m ++ [Cell.lst fd, .dtc ((List.range i).map (AX.sub rest)) ((List.range i).map (mvD sh bv))])[m.length + 1]? = some (.dtc ((List.range i).map (AX.sub rest)) ((List.range i).map (mvD sh bv))) := by
      rw [List.getElem?_append_right (by omega)]; simp
    have lk : ((List.range i).map (AX.sub rest)).length < 16777216 := by simp; omega
    have leq : ((List.range i).map (AX.sub rest)).length = ((List.range i).map (mvD sh bv)).length := by simp
    have hnew : AX.sub rest i ∉ (((List.range i).map (AX.sub rest)).zip ((List.range i).map (mvD sh bv))).map (·.1) := by
      rw [zip_fst _ _ leq]
      intro z
      obtain ⟨j, hj, e⟩ := List.mem_map.mp z
      have hj := List.mem_range.mp hj
      have := AX.sub_inj rest (by omega) hlt e
      omega
    have pp := putP_new (d := mvD sh bv i) hnew
    have kv : keyT (.dat (tpD (AX.sub rest i))) = some (AX.sub rest i) := keyT_tup _
    simp only [lp1__law_due, dPutT_ap, dA_ap, dCons_ap, dVar_ap, List.getElem?_cons_succ, List.getElem?_cons_zero, look_some, bnd_ok, kCons_ap, dNil_ap, kCons2_ap, chk_ap, List.length_cons, List.length_nil, if_true, e1, e2, kPutT1_ap, kPutT2_ap]
    simp only [mkTup, allDat, List.length_cons, List.length_nil]
    rw [if_pos (by decide)]
    have pv : putTV [a0, some (.dat d), some (.dat db), a3, a4, a5, a6, some (.ref (m.length + 1)), some (.dat (tpD (AX.sub rest i))), a9, a10, a11, a12] (.dat (.tup [.int (sh i), bv i])) (.ref (m.length + 1)) (.dat (tpD (AX.sub rest i))) (m ++ [Cell.lst fd, .dtc ((List.range i).map (AX.sub rest)) ((List.range i).map (mvD sh bv))]) =
        .ok (.nx [a0, some (.dat d), some (.dat db), a3, a4, a5, a6, some (.ref (m.length + 1)), some (.dat (tpD (AX.sub rest i))), a9, a10, a11, a12]) (m ++ [.lst fd, .dtc ((List.range (i + 1)).map (AX.sub rest)) ((List.range (i + 1)).map (mvD sh bv))]) := by
      unfold tpD
      rw [putTV_ap, g1, putTC_ap lk]
      have pp' : putP (((List.range i).map (AX.sub rest)).zip ((List.range i).map (mvD sh bv))) (AX.sub rest i) (.tup [.int (sh i), bv i]) = _ := pp
      rw [pp', List.map_append, List.map_append, zip_fst _ _ leq, zip_snd _ _ leq, List.set_append_right _ _ (by omega)]
      simp [List.range_succ, mvD]
    simp only [bnd_ok, kPutT1_ap, kPutT2_ap, dVar_ap, List.getElem?_cons_succ, List.getElem?_cons_zero, look_some, pv]
    rw [ok_ok, LB_nx]
    exact ⟨_, rfl, rfl⟩
  · rintro env mm ⟨u8, rfl, rfl⟩
    have ll : 0 + ((AX.subs rest).map tpD).length = AX.size rest := by rw [Nat.zero_add, List.length_map, AX.subs_len]
    rw [ll]
    exact H u8

def duAt (db : D) (e b : Nat) (s : Int) : Int := if isNon db = true then ((b : Int) + s) % (e : Int) + 1 else (b : Int) + 1 + s
def duV (n e : Nat) (db : D) (sh : Nat → Int) (bv : Nat → D) (r : List Int) (p : Nat) : D :=
  if 1 ≤ duAt db e (p / n % e) (sh (AX.ln n e p)) ∧ duAt db e (p / n % e) (sh (AX.ln n e p)) ≤ e then .int (og r (AX.cmb n e (p % n) (duAt db e (p / n % e) (sh (AX.ln n e p)) - 1).toNat (p / n / e))) else bv (AX.ln n e p)
theorem add_tt (xs ys : List D) (m : Mem) (h : xs.length + ys.length ≤ 1000) : addV (.dat (.tup xs)) (.dat (.tup ys)) m = .ok (.dat (.tup (xs ++ ys))) m := by
  simp [addV, show xs.length + ys.length ≤ 16777216 by omega]
theorem due_turn {f1 : List Nat} {e : Nat} {f2 : List Nat} {r : List Int} (h : Ar (f1 ++ e :: f2) r) {sh : Nat → Int} {bv : Nat → D} {p : Nat} (hp : p < AX.size f1 * (e * AX.size f2)) (d db : D) (a9 a10 a11 a12 : Option SV) (fd : List D) (hfd : fd.length < 16777216) (m : Mem) :
    ∃ a9' a10' a11' a12', lp2__law_due [some (.dat (ar (f1 ++ e :: f2) r)), some (.dat d), some (.dat db), some (.dat (.int ((f1.length : Int) + 1))), some (.dat (tbD (f1 ++ e :: f2) r)), some (.ref m.length), some (.dat (.int (e : Int))), some (.ref (m.length + 1)), some (.dat (tpD (AX.sub (f1 ++ e :: f2) p))), a9, a10, a11, a12]
        (m ++ [.lst fd, .dtc (AX.subs (f1 ++ f2)) ((List.range (AX.size (f1 ++ f2))).map (mvD sh bv))]) =
      .ok (.nx [some (.dat (ar (f1 ++ e :: f2) r)), some (.dat d), some (.dat db), some (.dat (.int ((f1.length : Int) + 1))), some (.dat (tbD (f1 ++ e :: f2) r)), some (.ref m.length), some (.dat (.int (e : Int))), some (.ref (m.length + 1)), some (.dat (tpD (AX.sub (f1 ++ e :: f2) p))), a9', a10', a11', a12'])
        (m ++ [.lst (fd ++ [duV (AX.size f1) e db sh bv r p]), .dtc (AX.subs (f1 ++ f2)) ((List.range (AX.size (f1 ++ f2))).map (mvD sh bv))]) := by
  have hs := h.sh
  obtain ⟨p1, p2, p3, p4⟩ := AX.parts_lt hp
  have S := sub_parts hp
  have R := sub_rest hp
  have hl7 := hs.l7
  have l1 : (AX.sub f1 (p % AX.size f1)).length = f1.length := AX.sub_len _ _
  have l2 : (AX.sub f2 (p / AX.size f1 / e)).length = f2.length := AX.sub_len _ _
  have szF : AX.size (f1 ++ e :: f2) = AX.size f1 * (e * AX.size f2) := by rw [AX.size_app, AX.size]
  have szR : AX.size (f1 ++ f2) = AX.size f1 * AX.size f2 := AX.size_app _ _
  have tab : ∀ b' : Nat, b' < e → ∀ mm, itemTV (.dat (tbD (f1 ++ e :: f2) r)) (.dat (.tup ((AX.sub f1 (p % AX.size f1)).map D.int ++ [.int ((b' : Int) + 1)] ++ (AX.sub f2 (p / AX.size f1 / e)).map D.int))) mm = .ok (.dat (.int (og r (AX.cmb (AX.size f1) e (p % AX.size f1) b' (p / AX.size f1 / e))))) mm := fun b' hb' mm => by
    have hq := AX.cmb_lt (n := AX.size f1) (e := e) (o := AX.size f2) p1 hb' p3
    have := tab_at h (p := AX.cmb (AX.size f1) e (p % AX.size f1) b' (p / AX.size f1 / e)) (by rw [szF]; exact hq) mm
    rw [sub_parts hq, AX.cmb_mod p1, AX.cmb_at p1 hb', AX.cmb_far p1 hb'] at this
    simpa [tpD] using this
  generalize hL : AX.ln (AX.size f1) e p = L at *
  have hk : getT (AX.subs (f1 ++ f2)) ((List.range (AX.size (f1 ++ f2))).map (mvD sh bv)) (AX.sub (f1 ++ f2) L) = some (mvD sh bv L) := by
    rw [getT_at (AX.subs_nodup _) (i := L) (by simp [AX.subs, szR, p4])]
    simp [szR, p4]
  have g0 : ∀ c : Cell, (m ++ [Cell.lst fd, c])[m.length]? = some (.lst fd) := fun c => by rw [List.getElem?_append_right (by omega)]; simp
  have g1 : ∀ c : Cell, (m ++ [Cell.lst fd, c])[m.length + 1]? = some c := fun c => by rw [List.getElem?_append_right (by omega)]; simp
  have s0 : ∀ c : Cell, ∀ x, (m ++ [Cell.lst fd, c]).set m.length (.lst x) = m ++ [.lst x, c] := fun c x => by rw [List.set_append_right _ _ (by omega)]; simp
  rw [R] at hk
  rw [S]
  have c1 := sp_lo (pre := AX.sub f1 (p % AX.size f1)) (post := AX.sub f2 (p / AX.size f1 / e)) (x := ((p / AX.size f1 % e : Nat) : Int) + 1) l1
  have c2 := sp_hi (pre := AX.sub f1 (p % AX.size f1)) (post := AX.sub f2 (p / AX.size f1 / e)) (x := ((p / AX.size f1 % e : Nat) : Int) + 1) l1
  have c3 := sp_at (pre := AX.sub f1 (p % AX.size f1)) (post := AX.sub f2 (p / AX.size f1 / e)) (x := ((p / AX.size f1 % e : Nat) : Int) + 1) l1
  unfold duV
  rw [hL]
  have lpre : (AX.sub f1 (p % AX.size f1)).length + (AX.sub f2 (p / AX.size f1 / e)).length ≤ 100 := by rw [l1, l2]; simp at hl7; omega
  unfold tpD at c3 ⊢
  generalize (AX.sub f1 (p % AX.size f1) ++ (((p / AX.size f1 % e : Nat) : Int) + 1) :: AX.sub f2 (p / AX.size f1 / e)).map D.int = Z at c1 c2 c3 ⊢
  generalize AX.sub f1 (p % AX.size f1) = pre at *
  generalize AX.sub f2 (p / AX.size f1 / e) = post at *
  generalize p / AX.size f1 % e = b at *
  generalize f1.length = k at *
  generalize AX.cmb (AX.size f1) e (p % AX.size f1) = cm at *
  generalize hKS : AX.subs (f1 ++ f2) = KS at *
  generalize hDS : (List.range (AX.size (f1 ++ f2))).map (mvD sh bv) = DS at *
  generalize tbD (f1 ++ e :: f2) r = tb at *
  generalize ar (f1 ++ e :: f2) r = A0 at *
  have ke : ((k : Int) + 1 - 1) = k := by omega
  have it : ∀ c : List D, itemTO (.ref (m.length + 1)) (.dat (.tup (pre.map D.int ++ post.map D.int))) (m ++ [Cell.lst c, .dtc KS DS]) = .ok (.dat (mvD sh bv L)) (m ++ [Cell.lst c, .dtc KS DS]) := fun c => by
    rw [← List.map_append, itemTO_ap, List.getElem?_append_right (by omega)]
    simp [itemTOC, hk]
  have asg : ∀ env : En, gT 2 (gsC (gN 9) (gsC (gN 10) gsN)) (mvD sh bv L) env = some ((env.set 9 (some (.dat (.int (sh L))))).set 10 (some (.dat (bv L)))) := fun env => rfl
  have a1 := add_tt (pre.map D.int) (post.map D.int)
  have a2 : ∀ (y : Int) (mm : Mem), addV (.dat (.tup (pre.map D.int))) (.dat (.tup [.int y])) mm = .ok (.dat (.tup (pre.map D.int ++ [.int y]))) mm := fun y mm => add_tt _ _ _ (by simp; omega)
  have a3 : ∀ (y : Int) (mm : Mem), addV (.dat (.tup (pre.map D.int ++ [.int y]))) (.dat (.tup (post.map D.int))) mm = .ok (.dat (.tup (pre.map D.int ++ [.int y] ++ post.map D.int))) mm := fun y mm => add_tt _ _ _ (by simp; omega)
  have lm : (pre.map D.int).length + (post.map D.int).length ≤ 1000 := by simp; omega
  have he : 0 < e := by omega
  have fin : ∀ (y : Int) (q9 q10 q11 : Option SV), ∃ a9' a10' a11' a12', (dSeq (dSet 12 (d2 addV (d2 addV (dSl false (dVar 8) dNoPt (dPt (d2 subV (dVar 3) (dC (.int 1))))) (dA mkTup (dCons (dVar 11) dNil))) (dSl false (dVar 8) (dPt (dVar 3)) dNoPt))) (dApp (dVar 5) (dIf (dB (dCh leV leV (dC (.int 1)) (dVar 11) (dVar 6))) (d2 itemTV (dVar 4) (dVar 12)) (dVar 10))))
      [some (.dat A0), some (.dat d), some (.dat db), some (.dat (.int ((k : Int) + 1))), some (.dat tb), some (.ref m.length), some (.dat (.int (e : Int))), some (.ref (m.length + 1)), some (.dat (.tup Z)), q9, some (.dat (bv L)), some (.dat (.int y)), a12] (m ++ [Cell.lst fd, .dtc KS DS]) =
      .ok (.nx [some (.dat A0), some (.dat d), some (.dat db), some (.dat (.int ((k : Int) + 1))), some (.dat tb), some (.ref m.length), some (.dat (.int (e : Int))), some (.ref (m.length + 1)), some (.dat (.tup Z)), a9', a10', a11', a12']) (m ++ [.lst (fd ++ [if 1 ≤ y ∧ y ≤ e then .int (og r (cm (y - 1).toNat (p / AX.size f1 / e))) else bv L]), .dtc KS DS]) := fun y q9 q10 q11 => by
    refine ⟨q9, some (.dat (bv L)), some (.dat (.int y)), some (.dat (.tup (pre.map D.int ++ [.int y] ++ post.map D.int))), ?_⟩
    by_cases hy : 1 ≤ y ∧ y ≤ e
    · have tb1 := tab (y - 1).toNat (by omega)
      rw [Int.toNat_of_nonneg (by omega), show y - 1 + 1 = y by omega] at tb1
      rw [if_pos hy]
      simp [ke, c1, c2, kPt, mkTup, allDat, a2, a3, hy.1, hy.2, g0, g1, rdL, appC, hfd, s0]
      simp at tb1
      simp [tb1, g0, hfd, s0]
    · rw [if_neg hy]
      have hc : (1 ≤ y ∧ ¬ y ≤ e) ∨ ¬ 1 ≤ y := by omega
      rcases hc with ⟨q1, q2⟩ | q1
      · simp [ke, c1, c2, kPt, mkTup, allDat, a2, a3, q1, q2, g0, g1, rdL, hfd, s0]
      · simp [ke, c1, c2, kPt, mkTup, allDat, a2, a3, q1, g0, g1, rdL, hfd, s0]
  unfold duAt
  cases hI : isNon db with
  | true =>
    obtain ⟨x9, x10, x11, x12, ef⟩ := fin (((b : Int) + sh L) % (e : Int) + 1) (some (.dat (.int (sh L)))) none none
    refine ⟨x9, x10, x11, x12, ?_⟩
    have fm : ((b : Int) + 1 + sh L - 1).fmod (e : Int) = ((b : Int) + sh L) % (e : Int) := by
      rw [Int.fmod_eq_emod_of_nonneg _ (by omega)]
      congr 1
      omega
    simp [lp2__law_due, ke, c1, c2, c3, kPt, a1 _ lm, it, asg, hI, fm, show ¬ e = 0 by omega]
    simp [ke, c1, c2, kPt] at ef
    exact ef
  | false =>
    obtain ⟨x9, x10, x11, x12, ef⟩ := fin ((b : Int) + 1 + sh L) (some (.dat (.int (sh L)))) none none
    refine ⟨x9, x10, x11, x12, ?_⟩
    simp [lp2__law_due, ke, c1, c2, c3, kPt, a1 _ lm, it, asg, hI]
    simp [ke, c1, c2, kPt] at ef
    exact ef
theorem due_ok {f1 : List Nat} {e : Nat} {f2 : List Nat} {r : List Int} (h : Ar (f1 ++ e :: f2) r) {d db : D} {sh : Nat → Int} {bv : Nat → D} (hd : SdR (f1 ++ f2) d sh) (hb : EdR (f1 ++ f2) db bv) (m : Mem) :
    F__law_due [.dat (ar (f1 ++ e :: f2) r), .dat d, .dat db, .dat (.int ((f1.length : Int) + 1))] m = .ok (.dat (.tup [fmD (f1 ++ e :: f2), .lst ((List.range (AX.size f1 * (e * AX.size f2))).map (duV (AX.size f1) e db sh bv r))])) m := by
  have hs := h.sh
  have h5 := hs.size
  have szF : AX.size (f1 ++ e :: f2) = AX.size f1 * (e * AX.size f2) := by rw [AX.size_app, AX.size]
  have hsR : Sh (f1 ++ f2) := hs.cut
  have hR : (AX.size (f1 ++ f2)) ≤ 5000 := hsR.size
  have hl7 := hs.l7
  have e1 := table_ok h
  have e2 := fm_at f1 e f2
  have e3 := all_ok hsR
  have e4 := all_ok hs
  have c1 := fm_lo f1 e f2
  have c2 := fm_hi f1 e f2
  have ke : ((f1.length : Int) + 1 - 1) = f1.length := by omega
  have ad : ∀ mm : Mem, addV (.dat (.tup ((nI f1).map D.int))) (.dat (.tup ((nI f2).map D.int))) mm = .ok (.dat (fmD (f1 ++ f2))) mm := fun mm => by
    rw [add_tt _ _ _ (by simp [nI_len]; simp at hl7; omega), fmD, nI_app, List.map_append]
  have turn := fun p hp (a9 a10 a11 a12 : Option SV) fd hfd => due_turn h (sh := sh) (bv := bv) (p := p) hp d db a9 a10 a11 a12 fd hfd m
  have mv := fun (a0 a3 a4 a5 a6 : Option SV) (Q : Out → Mem → Prop) H u8 => moves_loop hsR hd hb a0 a3 a4 a5 a6 none none none none [] m (Q := Q) H u8
  apply ok_get
  have fmU : fmD (f1 ++ e :: f2) = .tup ((nI (f1 ++ e :: f2)).map D.int) := rfl
  simp only [F__law_due, fnRun_ap, den__law_due, enter]
  generalize hF : f1 ++ e :: f2 = F at *
  generalize hG : f1 ++ f2 = R at *
  generalize hk : (f1.length : Int) = k at *
  rw [fmU] at e2
  generalize (nI F).map D.int = Z at *
  simp [ok_fin, mkOwn, allDat, e1, ar_ix0, fmU, ke, e2, c1, c2, kPt, ad, e3, itemsV]
  refine mv _ _ _ _ _ _ (fun u8 => ?_) _
  rw [← fmU] at *
  simp [ar_ix0, e4, itemsV]
  generalize hKS : AX.subs R = KS at *
  generalize hDS : (List.range (AX.size R)).map (mvD sh bv) = DS at *
  refine ok_forN (fun i env mm => ∃ u8 a9 a10 a11 a12, env = [some (.dat (ar F r)), some (.dat d), some (.dat db), some (.dat (.int (k + 1))), some (.dat (tbD F r)), some (.ref m.length), some (.dat (.int (e : Int))), some (.ref (m.length + 1)), u8, a9, a10, a11, a12] ∧ mm = m ++ [.lst ((List.range i).map (duV (AX.size f1) e db sh bv r)), .dtc KS DS]) _ 0 _ _ ⟨u8, none, none, none, none, rfl, rfl⟩ ?_ ?_
  · rintro i x env mm hi ⟨u8', a9, a10, a11, a12, rfl, rfl⟩
    rw [Nat.zero_add]
    rw [List.getElem?_map] at hi
    have hlt : i < AX.size F := by
      by_cases z : i < AX.size F
      · exact z
      · rw [List.getElem?_eq_none (by rw [AX.subs_len]; omega)] at hi
        cases hi
    have hx : x = tpD (AX.sub F i) := by
      simp [AX.subs, hlt] at hi
      exact hi.symm
    subst hx
    refine ⟨_, rfl, ?_⟩
    simp only [List.set_cons_succ, List.set_cons_zero]
    obtain ⟨x9, x10, x11, x12, et⟩ := turn i (by rw [← szF]; exact hlt) a9 a10 a11 a12 ((List.range i).map (duV (AX.size f1) e db sh bv r)) (by simp; omega)
    rw [et, ok_ok, LB_nx]
    exact ⟨_, _, _, _, _, rfl, by rw [List.range_succ, List.map_append]; rfl⟩
  · rintro env mm ⟨u8', a9, a10, a11, a12, rfl, rfl⟩
    have ll : 0 + ((AX.subs F).map tpD).length = AX.size F := by rw [Nat.zero_add, List.length_map, AX.subs_len]
    rw [ll, szF]
    have g0 : (m ++ [Cell.lst ((List.range (AX.size f1 * (e * AX.size f2))).map (duV (AX.size f1) e db sh bv r)), .dtc KS DS])[m.length]? = some (.lst ((List.range (AX.size f1 * (e * AX.size f2))).map (duV (AX.size f1) e db sh bv r))) := by rw [List.getElem?_append_right (by omega)]; simp
    generalize (List.range (AX.size f1 * (e * AX.size f2))).map (duV (AX.size f1) e db sh bv r) = X at *
    simp [g0, ar_ix0, mkTup, allDat]

def rs1 : DS := (dSet 3 (d2 addV (dSl false (d2 ixV (dVar 1) (dC (.int 0))) dNoPt (dPt (d2 subV (dVar 2) (dC (.int 1))))) (dSl false (d2 ixV (dVar 1) (dC (.int 0))) (dPt (dVar 2)) dNoPt)))
def rs2 : DS := (dPar 4 5 (dCons (dA (chk 2 F__law_shift) (dCons (dVar 0) (dCons (dVar 3) dNil))) (dCons (dA (chk 2 F__law_shift) (dCons (dVar 0) (dCons (dVar 3) dNil))) dNil)))
def rs3 : DS := (dSet 6 (dFz (dAK 2 1 [.p 0, .p 1, .k 0] [] F_cshift (dCons (dVar 1) (dCons (dVar 4) dNil)) (dCons (dVar 2) dNil))))
def rs4 : DS := (dIfS (dOrT (dB (d2 neV (dVar 6) (dA (chk 4 F__law_due) (dCons (dVar 1) (dCons (dVar 4) (dCons (dC .non) (dCons (dVar 2) dNil))))))) (dB (d2 neV (dFz (dAK 0 3 [.k 2, .k 1, .k 0] [] F_cshift dNil (dCons (dVar 2) (dCons (dVar 4) (dCons (dVar 1) dNil))))) (dVar 6)))) (dRet (dC (.bl false))) dNx)
def rs5 : DS := (dSet 7 (dFz (dAK 2 2 [.p 0, .p 1, .k 0, .k 1] [] F_eoshift (dCons (dVar 1) (dCons (dVar 4) dNil)) (dCons (dVar 5) (dCons (dVar 2) dNil)))))
def rs6 : DS := (dIfS (dB (d2 neV (dVar 7) (dA (chk 4 F__law_due) (dCons (dVar 1) (dCons (dVar 4) (dCons (dVar 5) (dCons (dVar 2) dNil))))))) (dRet (dC (.bl false))) dNx)
def rs7 : DS := (dIfS (dB (d2 neV (dFz (dAK 0 4 [.k 3, .k 2, .k 0, .k 1] [] F_eoshift dNil (dCons (dVar 5) (dCons (dVar 2) (dCons (dVar 4) (dCons (dVar 1) dNil)))))) (dVar 7))) (dRet (dC (.bl false))) dNx)
def rs8 : DS := (dSet 8 (dIf (dTr (d1 (isiV ["int"]) (dVar 4))) (d2 subV (dC (.int 0)) (dVar 4)) (dA mkTup (dCons (dVar 3) (dCons (dLc [9] (dIt (d2 ixV (dVar 4) (dC (.int 1)))) (gN 9) dYes ce1__law_right) dNil)))))
def rs9 : DS := (dIfS (dOrT (dB (d2 neV (dFz (dAK 2 1 [.p 0, .p 1, .k 0] [] F_cshift (dCons (dVar 6) (dCons (dVar 8) dNil)) (dCons (dVar 2) dNil))) (dVar 1))) (dB (d2 neV (dFz (dAK 2 1 [.p 0, .p 1, .k 0] [] F_cshift (dCons (dVar 1) (dCons (d2 ixV (d2 ixV (dVar 1) (dC (.int 0))) (d2 subV (dVar 2) (dC (.int 1)))) dNil)) (dCons (dVar 2) dNil))) (dVar 1)))) (dRet (dC (.bl false))) dNx)
def rs10 : DS := (dPar 9 10 (dCons (d2 subV (dA (chk 2 F__law_draw) (dCons (dVar 0) (dCons (dC (.int 40)) dNil))) (dC (.int 20))) (dCons (dA (chk 2 F__law_draw) (dCons (dVar 0) (dCons (dC (.int 40)) dNil))) dNil)))
def rs11 : DS := (dIfS (dB (d2 neV (dFz (dAK 2 1 [.p 0, .p 1, .k 0] [] F_cshift (dCons (dFz (dAK 2 1 [.p 0, .p 1, .k 0] [] F_cshift (dCons (dVar 1) (dCons (dVar 9) dNil)) (dCons (dVar 2) dNil))) (dCons (dVar 10) dNil)) (dCons (dVar 2) dNil))) (dFz (dAK 2 1 [.p 0, .p 1, .k 0] [] F_cshift (dCons (dVar 1) (dCons (d2 addV (dVar 9) (dVar 10)) dNil)) (dCons (dVar 2) dNil))))) (dRet (dC (.bl false))) dNx)
def rs12 : DS := (dIfS (dB (d2 neV (dFz (dAK 2 1 [.p 0, .p 1, .d 0, .k 0] [.int 0] F_eoshift (dCons (dVar 1) (dCons (d2 ixV (d2 ixV (dVar 1) (dC (.int 0))) (d2 subV (dVar 2) (dC (.int 1)))) dNil)) (dCons (dVar 2) dNil))) (dA mkTup (dCons (d2 ixV (dVar 1) (dC (.int 0))) (dCons (d2 (repV false) (dA mkLst (dCons (dC (.int 0)) dNil)) (dA lenV (dCons (d2 ixV (dVar 1) (dC (.int 1))) dNil))) dNil))))) (dRet (dC (.bl false))) dNx)
def rs13 : DS := (dSet 11 (dA mkTup (dCons (d2 ixV (dVar 1) (dC (.int 0))) (dCons (dA listV (dCons (d2 ixV (dVar 1) (dC (.int 1))) dNil)) dNil))))
def rs14 : DS := (dForT 12 (dCons (dAK 2 1 [.p 0, .p 1, .k 0] [] F_cshift (dCons (dVar 1) (dCons (dC (.int 0)) dNil)) (dCons (dVar 2) dNil)) (dCons (dAK 2 1 [.p 0, .p 1, .d 0, .k 0] [.int 0] F_eoshift (dCons (dVar 1) (dCons (dC (.int 0)) dNil)) (dCons (dVar 2) dNil)) dNil)) lp2__law_right)
def rs15 : DS := (dIfS (dB (d2 neV (dVar 1) (dVar 11))) (dRet (dC (.bl false))) dNx)
theorem rs_split : lp3__law_right = (dSeq rs1 (dSeq rs2 (dSeq rs3 (dSeq rs4 (dSeq rs5 (dSeq rs6 (dSeq rs7 (dSeq rs8 (dSeq rs9 (dSeq rs10 (dSeq rs11 (dSeq rs12 (dSeq rs13 (dSeq rs14 rs15)))))))))))))) := rfl

/-! ### k46: one dimension -/
theorem ar_okD (f : List Nat) (r : List Int) : okD (ar f r) = true := by
  have h1 := plains_ints (nI f)
  have h2 := deps_ints (nI f)
  have h3 := plains_ints r
  have h4 := deps_ints r
  simp [ar, fmD, rwL, okD, PL.plain, dep, plains, deps, h1, h2, h3, h4]
theorem ar_eqd (f : List Nat) (r : List Int) : eqd (ar f r) (ar f r) = true := by
  have h1 := eqvAll_ints (nI f) (nI f)
  have h2 := eqvAll_ints r r
  simp [ar, fmD, rwL, eqd, toPy, toPys, PyData.eqv, PyData.eqvAll, h1, h2]
theorem ne_self (f : List Nat) (r : List Int) (m : Mem) : PL.neV (.dat (ar f r)) (.dat (ar f r)) m = .ok (.dat (.bl false)) m := by
  simp [PL.neV, svD, ar_okD, ar_eqd]
theorem eq_self_ar (f : List Nat) (r : List Int) (m : Mem) : PL.eqV (.dat (ar f r)) (.dat (ar f r)) m = .ok (.dat (.bl true)) m := by
  simp [PL.eqV, svD, ar_okD, ar_eqd]
theorem ne_pair {f : List Nat} {r : List Int} {m : Mem} {n : Nat} (h : m[n]? = some (.pair (fmD f) (r.map D.int))) : PL.neV (.ref n) (.dat (ar f r)) m = .ok (.dat (.bl false)) m := by
  have h1 := ar_okD f r
  have h2 := ar_eqd f r
  unfold ar rwL at h1 h2
  simp [PL.neV, svD, h, ar, rwL, h1, h2]
theorem ar_fold (f : List Nat) (r : List Int) : D.tup [fmD f, .lst (r.map D.int)] = ar f r := rfl
theorem fz_ar (f : List Nat) (r : List Int) (m : Mem) : fzL m.length (.ref m.length) (m ++ [.pair (fmD f) (r.map D.int)]) = .ok (.dat (ar f r)) m := fzL_pair' m _ _
structure Wk (F R : List Nat) (dm : Int) (e : Nat) (cs : List Int → (Nat → Int) → List Int) (es : List Int → (Nat → Int) → (Nat → Int) → List Int) : Prop where
  cf : ∀ {r d sh}, Ar F r → SdR R d sh → ∀ mm : Mem, F_cshift [.dat (ar F r), .dat d, .dat (.int dm)] mm = .ok (.ref mm.length) (mm ++ [.pair (fmD F) ((cs r sh).map D.int)])
  ef : ∀ {r d db sh bd}, Ar F r → SdR R d sh → SdR R db bd → ∀ mm : Mem, F_eoshift [.dat (ar F r), .dat d, .dat db, .dat (.int dm)] mm = .ok (.ref mm.length) (mm ++ [.pair (fmD F) ((es r sh bd).map D.int)])
  dc : ∀ {r d sh}, Ar F r → SdR R d sh → ∀ mm : Mem, F__law_due [.dat (ar F r), .dat d, .dat .non, .dat (.int dm)] mm = .ok (.dat (ar F (cs r sh))) mm
  de : ∀ {r d db sh bd}, Ar F r → SdR R d sh → SdR R db bd → ∀ mm : Mem, F__law_due [.dat (ar F r), .dat d, .dat db, .dat (.int dm)] mm = .ok (.dat (ar F (es r sh bd))) mm
  ca : ∀ {r sh}, Ar F r → Ar F (cs r sh)
  cc : ∀ {r s1 s2}, cs (cs r s1) s2 = cs r fun l => s1 l + s2 l
  cz : ∀ {r sh}, Ar F r → (∀ l, sh l % (e : Int) = 0) → cs r sh = r
  ez : ∀ {r bd}, Ar F r → es r (fun _ => 0) bd = r
  er : ∀ {r}, Ar F r → es r (fun _ => (e : Int)) (fun _ => 0) = List.replicate r.length 0
  ext : ∀ mm : Mem, ixV (.dat (fmD F)) (.dat (.int (dm - 1))) mm = .ok (.dat (.int (e : Int))) mm
  rst : ∀ mm : Mem, ∀ env : En, env[1]? = some (some (.dat (.tup [fmD F, rwL []]))) → True
  R5 : Sh R
theorem sd_int {R : List Nat} (i : Int) : SdR R (.int i) fun _ => i := .inl ⟨i, rfl, rfl⟩
section
variable {F R : List Nat} {dm : Int} {e : Nat} {cs : List Int → (Nat → Int) → List Int} {es : List Int → (Nat → Int) → (Nat → Int) → List Int} {r : List Int} {d db : D} {sh bd : Nat → Int} {mm : Mem} {w u3 u6 u7 u8 u9 u10 u11 u12 : Option SV}
theorem rs3_ok (K : Wk F R dm e cs es) (h : Ar F r) (hd : SdR R d sh) : rs3 [w, some (.dat (ar F r)), some (.dat (.int dm)), u3, some (.dat d), some (.dat db), u6, u7, u8, u9, u10, u11, u12] mm =
    .ok (.nx [w, some (.dat (ar F r)), some (.dat (.int dm)), u3, some (.dat d), some (.dat db), some (.dat (ar F (cs r sh))), u7, u8, u9, u10, u11, u12]) mm := by
  simp [rs3, ar_fold, K.cf h hd, fz_ar]
theorem rs4_ok (K : Wk F R dm e cs es) (h : Ar F r) (hd : SdR R d sh) : rs4 [w, some (.dat (ar F r)), some (.dat (.int dm)), u3, some (.dat d), some (.dat db), some (.dat (ar F (cs r sh))), u7, u8, u9, u10, u11, u12] mm =
    .ok (.nx [w, some (.dat (ar F r)), some (.dat (.int dm)), u3, some (.dat d), some (.dat db), some (.dat (ar F (cs r sh))), u7, u8, u9, u10, u11, u12]) mm := by
  simp [rs4, ar_fold, K.cf h hd, fz_ar, K.dc h hd, ne_self]
theorem rs5_ok (K : Wk F R dm e cs es) (h : Ar F r) (hd : SdR R d sh) (hb : SdR R db bd) : rs5 [w, some (.dat (ar F r)), some (.dat (.int dm)), u3, some (.dat d), some (.dat db), u6, u7, u8, u9, u10, u11, u12] mm =
    .ok (.nx [w, some (.dat (ar F r)), some (.dat (.int dm)), u3, some (.dat d), some (.dat db), u6, some (.dat (ar F (es r sh bd))), u8, u9, u10, u11, u12]) mm := by
  simp [rs5, ar_fold, K.ef h hd hb, fz_ar]
theorem rs6_ok (K : Wk F R dm e cs es) (h : Ar F r) (hd : SdR R d sh) (hb : SdR R db bd) : rs6 [w, some (.dat (ar F r)), some (.dat (.int dm)), u3, some (.dat d), some (.dat db), u6, some (.dat (ar F (es r sh bd))), u8, u9, u10, u11, u12] mm =
    .ok (.nx [w, some (.dat (ar F r)), some (.dat (.int dm)), u3, some (.dat d), some (.dat db), u6, some (.dat (ar F (es r sh bd))), u8, u9, u10, u11, u12]) mm := by
  simp [rs6, ar_fold, K.de h hd hb, ne_self]
theorem rs7_ok (K : Wk F R dm e cs es) (h : Ar F r) (hd : SdR R d sh) (hb : SdR R db bd) : rs7 [w, some (.dat (ar F r)), some (.dat (.int dm)), u3, some (.dat d), some (.dat db), u6, some (.dat (ar F (es r sh bd))), u8, u9, u10, u11, u12] mm =
    .ok (.nx [w, some (.dat (ar F r)), some (.dat (.int dm)), u3, some (.dat d), some (.dat db), u6, some (.dat (ar F (es r sh bd))), u8, u9, u10, u11, u12]) mm := by
  simp [rs7, ar_fold, K.ef h hd hb, fz_ar, ne_self]
theorem rs8_ok (K : Wk F R dm e cs es) (hd : SdR R d sh) {a1 a2 a5 : Option SV} : ∃ d', SdR R d' (fun l => - sh l) ∧ rs8 [w, a1, a2, some (.dat (fmD R)), some (.dat d), a5, u6, u7, u8, u9, u10, u11, u12] mm =
    .ok (.nx [w, a1, a2, some (.dat (fmD R)), some (.dat d), a5, u6, u7, some (.dat d'), u9, u10, u11, u12]) mm := by
  rcases hd with ⟨i, rfl, rfl⟩ | ⟨vs, rfl, h, rfl⟩
  · refine ⟨.int (-i), .inl ⟨_, rfl, rfl⟩, ?_⟩
    simp [rs8, isiV, tyName, tyIs]
  · refine ⟨ar R (vs.map fun i => -i), .inr ⟨_, rfl, ⟨h.sh, by rw [List.length_map]; exact h.len⟩, ?_⟩, ?_⟩
    · funext l
      simp only [List.getD_eq_getElem?_getD, List.getElem?_map]
      cases vs[l]? <;> simp
    · have h5 := h.sh.size
      have hl := h.len
      have i0 : isiV ["int"] (.dat (ar R vs)) mm = .ok (.dat (.bl false)) mm := by simp [ar, isiV, tyName, tyIs]
      have lc : noX (loopC (gN 9) dYes ce1__law_right [w, a1, a2, some (.dat (fmD R)), some (.dat (ar R vs)), a5, u6, u7, u8, none, u10, u11, u12] (vs.map D.int) []) mm = .ok ((vs.map fun i => -i).map D.int) mm := by
        rw [loopC_all (fun d => match d with | .int i => .int (-i) | d => d)]
        · congr 1
          rw [List.map_map, List.map_map]
          rfl
        · intro d hd
          obtain ⟨i, _, rfl⟩ := List.mem_map.mp hd
          exact ⟨_, rfl, by simp [ce1__law_right]⟩
        · simp; omega
      generalize (vs.map fun i => -i) = vs2 at lc ⊢
      have iw : itemsV (.dat (rwL vs)) mm = .ok (vs.map D.int) mm := rfl
      simp [rs8, i0, ar_ix1, iw, wipeE, lc, mkTup, allDat, ar_fold]
theorem rs9_ok (K : Wk F R dm e cs es) (h : Ar F r) {d' : D} (hd' : SdR R d' fun l => - sh l) {a4 a5 : Option SV} : rs9 [w, some (.dat (ar F r)), some (.dat (.int dm)), u3, a4, a5, some (.dat (ar F (cs r sh))), u7, some (.dat d'), u9, u10, u11, u12] mm =
    .ok (.nx [w, some (.dat (ar F r)), some (.dat (.int dm)), u3, a4, a5, some (.dat (ar F (cs r sh))), u7, some (.dat d'), u9, u10, u11, u12]) mm := by
  have e1 : cs (cs r sh) (fun l => - sh l) = r := by
    rw [K.cc]
    exact K.cz h fun l => by rw [Int.add_right_neg, Int.zero_emod]
  have e2 : cs r (fun _ => (e : Int)) = r := K.cz h fun l => Int.emod_self
  have f1 := K.cf (K.ca h (sh := sh)) hd' mm
  have f2 := K.cf h (sd_int (e : Int)) mm
  rw [e1] at f1
  rw [e2] at f2
  simp [rs9, ar_fold, f1, f2, fz_ar, ar_ix0, K.ext, ne_self]
theorem rs11_ok (K : Wk F R dm e cs es) (h : Ar F r) {x y : Int} {a4 a5 : Option SV} : rs11 [w, some (.dat (ar F r)), some (.dat (.int dm)), u3, a4, a5, u6, u7, u8, some (.dat (.int x)), some (.dat (.int y)), u11, u12] mm =
    .ok (.nx [w, some (.dat (ar F r)), some (.dat (.int dm)), u3, a4, a5, u6, u7, u8, some (.dat (.int x)), some (.dat (.int y)), u11, u12]) mm := by
  have f1 := K.cf h (sd_int x) mm
  have f2 := K.cf (K.ca h (sh := fun _ => x)) (sd_int y) mm
  have f3 := K.cf h (sd_int (x + y)) mm
  rw [K.cc] at f2
  simp [rs11, ar_fold, f1, f2, f3, fz_ar, ne_self]
theorem rs12_ok (K : Wk F R dm e cs es) (h : Ar F r) {a4 a5 : Option SV} : rs12 [w, some (.dat (ar F r)), some (.dat (.int dm)), u3, a4, a5, u6, u7, u8, u9, u10, u11, u12] mm =
    .ok (.nx [w, some (.dat (ar F r)), some (.dat (.int dm)), u3, a4, a5, u6, u7, u8, u9, u10, u11, u12]) mm := by
  have h5 := h.sh.size
  have hl := h.len
  have f1 := K.ef h (sd_int (e : Int)) (sd_int 0) mm
  rw [K.er h] at f1
  have e1 : D.tup [fmD F, .lst (List.replicate r.length (D.int 0))] = ar F (List.replicate r.length 0) := by simp [ar, rwL]
  have ln : lenV [.dat (rwL r)] mm = .ok (.dat (.int (r.length : Int))) mm := by simp [lenV, rwL, rdSq, rdL]
  have rp : repV false (.dat (.lst [.int 0])) (.dat (.int (r.length : Int))) mm = .ok (.dat (.lst (List.replicate r.length (D.int 0)))) mm := by
    rw [repV_lst, if_pos ⟨by omega, by omega, by simp; omega⟩, flat_one]
    simp
  simp [rs12, ar_fold, f1, fz_ar, ar_ix0, ar_ix1, K.ext, mkLst, allDat, ln, rp, mkTup, e1, ne_self]
theorem rs13_ok (h : Ar F r) {a2 a4 a5 : Option SV} : rs13 [w, some (.dat (ar F r)), a2, u3, a4, a5, u6, u7, u8, u9, u10, u11, u12] mm =
    .ok (.nx [w, some (.dat (ar F r)), a2, u3, a4, a5, u6, u7, u8, u9, u10, some (.dat (ar F r)), u12]) mm := by
  have l1 : listV [.dat (rwL r)] mm = .ok (.dat (rwL r)) mm := by simp [listV, rwL, rdSq, rdL]
  have fo : D.tup [fmD F, rwL r] = ar F r := rfl
  simp [rs13, ar_ix0, ar_ix1, l1, mkTup, allDat, fo]
theorem rs14_ok (K : Wk F R dm e cs es) (h : Ar F r) {a4 a5 : Option SV} : ∃ u12' l, rs14 [w, some (.dat (ar F r)), some (.dat (.int dm)), u3, a4, a5, u6, u7, u8, u9, u10, some (.dat (ar F r)), u12] mm =
    .ok (.nx [w, some (.dat (ar F r)), some (.dat (.int dm)), u3, a4, a5, u6, u7, u8, u9, u10, some (.dat (ar F r)), u12']) (mm ++ l) := by
  have h5 := h.sh.size
  have hl := h.len
  have f1 := K.cf h (sd_int 0) mm
  have e1 : cs r (fun _ => (0 : Int)) = r := K.cz h fun l => Int.zero_emod _
  rw [e1] at f1
  have f2 := K.ef h (sd_int 0) (sd_int 0) (mm ++ [.pair (fmD F) (r.map D.int)])
  rw [K.ez h] at f2
  have g0 : ∀ c : Cell, (mm ++ [Cell.pair (fmD F) (r.map D.int), c])[mm.length]? = some (.pair (fmD F) (r.map D.int)) := fun c => by rw [List.getElem?_append_right (by omega)]; simp
  have g1 : ∀ c c' : Cell, (mm ++ [c', c])[mm.length + 1]? = some c := fun c c' => by rw [List.getElem?_append_right (by omega)]; simp
  have s0 : ∀ c c' c2 : Cell, (mm ++ [c', c]).set mm.length c2 = mm ++ [c2, c] := fun c c' c2 => by rw [List.set_append_right _ _ (by omega)]; simp
  have s1 : ∀ c c' c2 : Cell, (mm ++ [c', c]).set (mm.length + 1) c2 = mm ++ [c', c2] := fun c c' c2 => by rw [List.set_append_right _ _ (by omega)]; simp
  have lt : (r.map D.int).length < 16777216 := by rw [List.length_map]; omega
  have n1 := fun c => ne_pair (f := F) (r := r) (g0 c)
  have n2 := fun c' => ne_pair (f := F) (r := r) (g1 (.pair (fmD F) (r.map D.int)) c')
  have a1 := fun env c => appP1_ap (fb := dC (.int 9)) (env := env) (g0 c)
  have a2 := fun env c => appP2_ap (env := env) (y := .int 9) (g0 c) lt
  have a3 := fun env c' => appP1_ap (fb := dC (.int 9)) (env := env) (g1 (.pair (fmD F) (r.map D.int)) c')
  have a4' := fun env c' => appP2_ap (env := env) (y := .int 9) (g1 (.pair (fmD F) (r.map D.int)) c') lt
  rw [List.length_append] at f2
  refine ⟨some (.ref (mm.length + 1)), [.pair (fmD F) (r.map D.int ++ [.int 9]), .pair (fmD F) (r.map D.int ++ [.int 9])], ?_⟩
  generalize r.map D.int = rr at *
  simp at f2
  simp [rs14, f1, f2, kForT, loopT, lp2__law_right, n1, n2, a1, a2, s0, a3, a4', s1]
theorem rs15_ok {a2 a4 a5 : Option SV} : rs15 [w, some (.dat (ar F r)), a2, u3, a4, a5, u6, u7, u8, u9, u10, some (.dat (ar F r)), u12] mm =
    .ok (.nx [w, some (.dat (ar F r)), a2, u3, a4, a5, u6, u7, u8, u9, u10, some (.dat (ar F r)), u12]) mm := by
  simp [rs15, ne_self]
end

/-! ### k46: what holds along a dimension -/
theorem duAt_non (e b : Nat) (s : Int) : duAt .non e b s = ((b : Int) + s) % (e : Int) + 1 := by simp [duAt]
theorem duAt_bd {db : D} (h : isNon db = false) (e b : Nat) (s : Int) : duAt db e b s = (b : Int) + 1 + s := by simp [duAt, h]
theorem due_csh {n e o : Nat} {r : List Int} {sh : Nat → Int} : (List.range (n * (e * o))).map (duV n e .non sh (fun _ => .non) r) = (AX.csh n e o r sh).map D.int := by
  unfold AX.csh
  rw [List.map_map]
  apply List.map_congr_left
  intro p hp
  obtain ⟨h1, h2, h3, h4⟩ := AX.parts_lt (List.mem_range.mp hp)
  have g1 := Int.emod_nonneg (((p / n % e : Nat) : Int) + sh (AX.ln n e p)) (by omega : (e : Int) ≠ 0)
  have g2 := Int.emod_lt_of_pos (((p / n % e : Nat) : Int) + sh (AX.ln n e p)) (by omega : (0 : Int) < e)
  unfold duV
  rw [duAt_non, if_pos ⟨by omega, by omega⟩]
  have : ((((p / n % e : Nat) : Int) + sh (AX.ln n e p)) % (e : Int) + 1 - 1) = (((p / n % e : Nat) : Int) + sh (AX.ln n e p)) % (e : Int) := by omega
  rw [this]
  rfl
theorem due_esh {n e o : Nat} {r : List Int} {sh bd : Nat → Int} {db : D} (hn : isNon db = false) : (List.range (n * (e * o))).map (duV n e db sh (fun l => .int (bd l)) r) = (AX.esh n e o r sh bd).map D.int := by
  unfold AX.esh
  rw [List.map_map]
  apply List.map_congr_left
  intro p hp
  unfold duV
  rw [duAt_bd hn]
  simp only [Function.comp_apply]
  by_cases h : 0 ≤ ((p / n % e : Nat) : Int) + sh (AX.ln n e p) ∧ ((p / n % e : Nat) : Int) + sh (AX.ln n e p) < e
  · rw [if_pos h, if_pos ⟨by omega, by omega⟩]
    have : (((p / n % e : Nat) : Int) + 1 + sh (AX.ln n e p) - 1) = ((p / n % e : Nat) : Int) + sh (AX.ln n e p) := by omega
    rw [this]
    rfl
  · rw [if_neg h, if_neg (by omega)]
theorem wk_of {f1 : List Nat} {e : Nat} {f2 : List Nat} (hs : Sh (f1 ++ e :: f2)) : Wk (f1 ++ e :: f2) (f1 ++ f2) ((f1.length : Int) + 1) e (AX.csh (AX.size f1) e (AX.size f2)) (AX.esh (AX.size f1) e (AX.size f2)) := by
  have sz : AX.size (f1 ++ e :: f2) = AX.size f1 * (e * AX.size f2) := by rw [AX.size_app, AX.size]
  refine ⟨fun h hd => cshift_ok h hd, fun h hd hb => eoshift_ok h hd hb, fun {r d sh} h hd mm => ?_, fun {r d db sh bd} h hd hb mm => ?_, fun {r sh} h => ⟨hs, by rw [AX.csh_len, sz]⟩, AX.csh_csh, fun h hz => AX.csh_zero (by rw [h.len, sz]) hz, fun h => AX.esh_zero (by rw [h.len, sz]), fun h => by rw [AX.esh_far, h.len, sz], fun mm => ?_, fun _ _ _ => trivial, hs.cut⟩
  · have := due_ok h hd (db := .non) (bv := fun _ => .non) (.inl ⟨rfl, rfl⟩) mm
    rw [due_csh] at this
    exact this
  · have := due_ok h hd (db := db) (bv := fun l => .int (bd l)) (.inr ⟨bd, hb, rfl⟩) mm
    rw [due_esh (sd_non hb)] at this
    exact this
  · rw [show (f1.length : Int) + 1 - 1 = f1.length by omega]
    exact fm_at f1 e f2 mm
theorem rs1_ok {f1 : List Nat} {e : Nat} {f2 : List Nat} (hs : Sh (f1 ++ e :: f2)) {r : List Int} {mm : Mem} {w u3 u4 u5 u6 u7 u8 u9 u10 u11 u12 : Option SV} : rs1 [w, some (.dat (ar (f1 ++ e :: f2) r)), some (.dat (.int ((f1.length : Int) + 1))), u3, u4, u5, u6, u7, u8, u9, u10, u11, u12] mm =
    .ok (.nx [w, some (.dat (ar (f1 ++ e :: f2) r)), some (.dat (.int ((f1.length : Int) + 1))), some (.dat (fmD (f1 ++ f2))), u4, u5, u6, u7, u8, u9, u10, u11, u12]) mm := by
  have c1 := fm_lo f1 e f2
  have c2 := fm_hi f1 e f2
  have ke : ((f1.length : Int) + 1 - 1) = f1.length := by omega
  have hl7 := hs.l7
  have ad : ∀ mm : Mem, addV (.dat (.tup ((nI f1).map D.int))) (.dat (.tup ((nI f2).map D.int))) mm = .ok (.dat (fmD (f1 ++ f2))) mm := fun mm => by
    rw [add_tt _ _ _ (by simp [nI_len]; simp at hl7; omega), fmD, nI_app, List.map_append]
  have fmU : fmD (f1 ++ e :: f2) = .tup ((nI (f1 ++ e :: f2)).map D.int) := rfl
  generalize hF : f1 ++ e :: f2 = F at *
  generalize f1 ++ f2 = R at *
  have i0 := ar_ix0 F r
  rw [fmU] at i0
  generalize (nI F).map D.int = Z at *
  simp [rs1, i0, ke, c1, c2, kPt, ad]
theorem right_turn {k : Nat} {m l : Mem} {c : Cell} (hk : k < m.length) (hc : isW c) {f1 : List Nat} {e : Nat} {f2 : List Nat} {r : List Int} (h : Ar (f1 ++ e :: f2) r) {u3 u4 u5 u6 u7 u8 u9 u10 u11 u12 : Option SV} {N : En → Mem → Prop} {Q : Out → Mem → Prop}
    (H : ∀ (c' : Cell) (l' : Mem) (u2 u3 u4 u5 u6 u7 u8 u9 u10 u11 u12 : Option SV), isW c' → N [some (.ref k), some (.dat (ar (f1 ++ e :: f2) r)), u2, u3, u4, u5, u6, u7, u8, u9, u10, u11, u12] (m.set k c' ++ l')) :
    Ok (lp3__law_right [some (.ref k), some (.dat (ar (f1 ++ e :: f2) r)), some (.dat (.int ((f1.length : Int) + 1))), u3, u4, u5, u6, u7, u8, u9, u10, u11, u12] (m.set k c ++ l)) (LB N Q) := by
  have K := wk_of h.sh
  have s1 := fun mm w u3 u4 u5 u6 u7 u8 u9 u10 u11 u12 => rs1_ok h.sh (r := r) (mm := mm) (w := w) (u3 := u3) (u4 := u4) (u5 := u5) (u6 := u6) (u7 := u7) (u8 := u8) (u9 := u9) (u10 := u10) (u11 := u11) (u12 := u12)
  have h0 := h.sh.cut
  rw [rs_split]
  generalize hF : f1 ++ e :: f2 = F at *
  generalize hR : f1 ++ f2 = R at *
  generalize (f1.length : Int) + 1 = dm at *
  generalize AX.csh (AX.size f1) e (AX.size f2) = cs at *
  generalize AX.esh (AX.size f1) e (AX.size f2) = es at *
  simp only [dSeq_ap, s1, bnd_ok, kSeq_nx]
  simp only [rs2, dPar_ap, dCons_ap, dNil_ap, dA_ap, dVar_ap, List.getElem?_cons_succ, List.getElem?_cons_zero, look_some, bnd_ok, kCons_ap, kCons2_ap, chk_ap, List.length_cons, List.length_nil, if_true, ok_bnd]
  refine shift_wp hk hc h0 fun d sh c1 hc1 hd => ?_
  refine shift_wp hk hc1 h0 fun db bd c2 hc2 hb => ?_
  obtain ⟨d', hd', e8⟩ := rs8_ok K hd (mm := m.set k c2 ++ l) (w := some (.ref k)) (a1 := some (.dat (ar F r))) (a2 := some (.dat (.int dm))) (a5 := some (.dat db)) (u6 := some (.dat (ar F (cs r sh)))) (u7 := some (.dat (ar F (es r sh bd)))) (u8 := u8) (u9 := u9) (u10 := u10) (u11 := u11) (u12 := u12)
  simp only [ok_ok, dCons_ap, dNil_ap, kCons_ap, kCons2_ap, bnd_ok, kPar_ap, List.set_cons_succ, List.set_cons_zero, kSeq_nx, dSeq_ap, rs3_ok K h hd, rs4_ok K h hd, rs5_ok K h hd hb, rs6_ok K h hd hb, rs7_ok K h hd hb, e8, rs9_ok K h hd']
  simp only [rs10, dPar_ap, dCons_ap, d2_ap, k2_ap, dC_ap, dNil_ap, dA_ap, dVar_ap, List.getElem?_cons_succ, List.getElem?_cons_zero, look_some, bnd_ok, kCons_ap, kCons2_ap, chk_ap, List.length_cons, List.length_nil, if_true, ok_bnd]
  refine draw_wpA hk hc2 (by decide) (small_big (by decide)) fun x c3 hc3 q1 q2 => ?_
  simp only [subV_int, ok_ok]
  refine draw_wpA hk hc3 (by decide) (small_big (by decide)) fun y c4 hc4 q3 q4 => ?_
  obtain ⟨u12', l', e14⟩ := rs14_ok K h (mm := m.set k c4 ++ l) (w := some (.ref k)) (u3 := some (.dat (fmD R))) (u6 := some (.dat (ar F (cs r sh)))) (u7 := some (.dat (ar F (es r sh bd)))) (u8 := some (.dat d')) (u9 := some (.dat (.int (x - 20)))) (u10 := some (.dat (.int y))) (u12 := u12) (a4 := some (.dat d)) (a5 := some (.dat db))
  simp only [ok_ok, kPar_ap, List.set_cons_succ, List.set_cons_zero, bnd_ok, kSeq_nx, dSeq_ap, rs11_ok K h, rs12_ok K h, rs13_ok h, e14, rs15_ok, LB_nx]
  rw [List.append_assoc]
  exact H c4 _ _ _ _ _ _ _ _ _ _ _ _ hc4
/-! ### k46: the law -/
theorem parts_at {f : List Nat} {i : Nat} (hi : i < f.length) : ∃ f1 e f2, f = f1 ++ e :: f2 ∧ f1.length = i := ⟨f.take i, f[i], f.drop (i + 1), by rw [List.getElem_cons_drop, List.take_append_drop], by simp; omega⟩
theorem well_ok (ns : List Int) (k : Nat) (hl : ns.length ≤ 63) (m : Mem) : ∃ w, isW w ∧ F__law_well [.dat (.scr ns), .dat (.int (k : Int))] m = .ok (.ref m.length) (m ++ [w]) := by
  have m1 : ∀ x : Int, mulOk 7919 x = true := fun x => mulOk_l x (by decide)
  have m2 : ∀ x : Int, mulOk x 1 = true := fun x => mulOk_r x (by decide)
  have m3 : ∀ x : Int, mulOk x 0 = true := fun x => mulOk_r x (by decide)
  have h0 : ∃ z : Int, atI (ns.map D.int ++ [D.int 0]) 0 = some (.int z) := by
    rw [atI_ofNat (by decide) (by simp)]
    cases ns with
    | nil => exact ⟨0, rfl⟩
    | cons a r => exact ⟨a, rfl⟩
  obtain ⟨z, hz⟩ := h0
  have hlen : ns.length + 1 ≤ 16777216 := by omega
  by_cases hk : (k : Int) < ns.length
  · have hi : k < ns.length := by omega
    have ea : atI ns (k : Int) = some ns[k] := by rw [atI_ofNat (by omega) hk]; simp
    by_cases h : (1000000000000000000 : Int) ≤ ns[k]
    · refine ⟨.lst [.int ns[k], .int ns[k], .int 0], ⟨_, _, _, rfl⟩, ?_⟩
      simp [F__law_well, fnRun_ap, den__law_well, enter, mkLst, mkOwn, allDat, addV, hlen, ixV, rdSq, rdL, hz, m1, m2, m3, lenV, hk, ea, h, exitO]
    · refine ⟨.lst [.int 0, .int ns[k], .int 0], ⟨_, _, _, rfl⟩, ?_⟩
      simp [F__law_well, fnRun_ap, den__law_well, enter, mkLst, mkOwn, allDat, addV, hlen, ixV, rdSq, rdL, hz, m1, m2, m3, lenV, hk, ea, h, exitO]
  · by_cases h : (1000000000000000000 : Int) ≤ z + 7919 * (k : Int)
    · refine ⟨.lst [.int (z + 7919 * (k : Int)), .int (z + 7919 * (k : Int)), .int 0], ⟨_, _, _, rfl⟩, ?_⟩
      simp [F__law_well, fnRun_ap, den__law_well, enter, mkLst, mkOwn, allDat, addV, hlen, ixV, rdSq, rdL, hz, m1, m2, m3, lenV, hk, h, exitO]
    · refine ⟨.lst [.int 0, .int (z + 7919 * (k : Int)), .int 0], ⟨_, _, _, rfl⟩, ?_⟩
      simp [F__law_well, fnRun_ap, den__law_well, enter, mkLst, mkOwn, allDat, addV, hlen, ixV, rdSq, rdL, hz, m1, m2, m3, lenV, hk, h, exitO]
theorem right_ok {k : Nat} {m : Mem} (h : Wl k m) : Ok (F__law_right [.ref k] m) fun v _ => v = .dat (.bl true) := by
  have hk := wl_lt h
  simp [F__law_right, fnRun_ap, den__law_right, enter]
  refine shape_wp h (by decide) (by decide) (by decide) (by decide) fun f c hc h1 h2 => ?_
  have hs : Sh f := ⟨by omega, by omega⟩
  refine array_wp (wlS hk hc) hs fun r c2 hc2 ha => ?_
  have hl7 := hs.l7
  have ln : ∀ mm : Mem, lenV [.dat (fmD f)] mm = .ok (.dat (.int (f.length : Int))) mm := fun mm => by simp [lenV, fmD, rdSq, rdL, nI_len]
  rw [List.set_set]
  simp [ar_ix0, ln, rng2V, show (-4611686018427387904 ≤ (f.length : Int) + 1 ∧ (f.length : Int) + 1 < 4611686018427387904) by omega]
  have e0 : m.set k c2 = m.set k c2 ++ [] := by simp
  rw [e0]
  refine ok_rng (fun i env mm => ∃ (c : Cell) (l : Mem) (u2 u3 u4 u5 u6 u7 u8 u9 u10 u11 u12 : Option SV), isW c ∧ env = [some (.ref k), some (.dat (ar f r)), u2, u3, u4, u5, u6, u7, u8, u9, u10, u11, u12] ∧ mm = m.set k c ++ l) ⟨c2, [], none, none, none, none, none, none, none, none, none, none, none, hc2, rfl, rfl⟩ ?_ ?_
  · rintro i env mm hi ⟨c3, l, u2, u3, u4, u5, u6, u7, u8, u9, u10, u11, u12, hc3, rfl, rfl⟩
    refine ⟨_, rfl, ?_⟩
    simp only [List.set_cons_succ, List.set_cons_zero]
    obtain ⟨f1, e, f2, rfl, hf1⟩ := parts_at hi
    rw [show (1 : Int) + (i : Int) = (f1.length : Int) + 1 by omega]
    refine right_turn hk hc3 ha fun c' l' u2 u3 u4 u5 u6 u7 u8 u9 u10 u11 u12 hc' => ?_
    exact ⟨c', l', u2, u3, u4, u5, u6, u7, u8, u9, u10, u11, u12, hc', rfl, rfl⟩
  · rintro env mm ⟨c3, l, u2, u3, u4, u5, u6, u7, u8, u9, u10, u11, u12, hc3, rfl, rfl⟩
    generalize m.set k c3 ++ l = mm
    cases f with
    | nil =>
      have q := eqV_fm [] [] mm
      have e1 : fmD [] = .tup [] := rfl
      rw [e1] at q
      simp [ar_ix0, e1, mkTup, allDat, q]
    | cons e f2 =>
      have q := eqV_fm (e :: f2) [] mm
      have e1 : fmD [] = .tup [] := rfl
      rw [e1] at q
      simp only [List.cons_ne_nil, reduceCtorEq, decide_false] at q
      have K := wk_of (f1 := []) (e := e) (f2 := f2) hs
      simp only [List.nil_append, List.length_nil] at K
      have f1 := K.cf ha (sd_int 1) mm
      have f2' := K.ef ha (sd_int 2) (sd_int 0) mm
      simp only [Int.natCast_zero, Int.zero_add, Int.ofNat_zero] at f1 f2'
      simp [ar_ix0, mkTup, allDat, q, f1, f2', ar_fold, eq_self_ar]
theorem law_true (ns : List Int) (hl : ns.length ≤ 63) : ∃ m', F_law [.dat (.scr ns)] [] = .ok (.dat (.bl true)) m' := by
  have main : Ok (F_law [.dat (.scr ns)] []) (fun v _ => v = .dat (.bl true)) := by
    have hb : -4611686018427387904 ≤ max 1 (min 4 (ns.length : Int)) ∧ max 1 (min 4 (ns.length : Int)) < 4611686018427387904 := by omega
    simp [F_law, fnRun_ap, den_law, enter, lenV, rng1V, hb]
    refine ok_rng (fun _ env _ => ∃ a, env = [some (.dat (.scr ns)), a]) ⟨none, rfl⟩ ?_ ?_
    · rintro i env mm hi ⟨a, rfl⟩
      refine ⟨_, rfl, ?_⟩
      obtain ⟨w, hw, e⟩ := well_ok ns i hl mm
      simp [lp1_law, e]
      have hW : Wl mm.length (mm ++ [w]) := by
        obtain ⟨x, y, z, rfl⟩ := hw
        exact ⟨x, y, z, get_app_len _ _⟩
      refine (right_ok hW).mono fun v m' hv => ?_
      subst hv
      simp
    · rintro env mm ⟨a, rfl⟩
      simp
  obtain ⟨v, m', e, rfl⟩ := main
  exact ⟨m', e⟩

end G

namespace G
open PySem PySem.Spec PyProof.Rows L2 PL
def topS (i : Nat) : Stmt := PySem.Challenge.pw_sectionwise_k46_whole_shifts.main.body.getD i (.Pass ⟨0, 0, 0, 0⟩)
abbrev s__law_well : Stmt := topS 23
theorem sc__law_well : FnScope ["_law_script", "_law_k", "_law_cell"] ["_law_script", "_law_k"] (defScope s__law_well) := ⟨rfl, rfl, rfl, by decide +kernel, rfl, by decide +kernel, by decide +kernel⟩
abbrev s_is_whole : Stmt := topS 4
theorem sc_is_whole : FnScope ["value"] ["value"] (defScope s_is_whole) := ⟨rfl, rfl, rfl, by decide +kernel, rfl, by decide +kernel, by decide +kernel⟩
abbrev s_is_between : Stmt := topS 5
theorem sc_is_between : FnScope ["value", "low", "high"] ["value", "low", "high"] (defScope s_is_between) := ⟨rfl, rfl, rfl, by decide +kernel, rfl, by decide +kernel, by decide +kernel⟩
abbrev s_is_row : Stmt := topS 6
theorem sc_is_row : FnScope ["value", "least", "most"] ["value", "least", "most"] (defScope s_is_row) := ⟨rfl, rfl, rfl, by decide +kernel, rfl, by decide +kernel, by decide +kernel⟩
abbrev s_elements_of : Stmt := topS 10
theorem sc_elements_of : FnScope ["shape", "found", "extent"] ["shape"] (defScope s_elements_of) := ⟨rfl, rfl, rfl, by decide +kernel, rfl, by decide +kernel, by decide +kernel⟩
abbrev s_is_shape : Stmt := topS 11
theorem sc_is_shape : FnScope ["value", "extent"] ["value"] (defScope s_is_shape) := ⟨rfl, rfl, rfl, by decide +kernel, rfl, by decide +kernel, by decide +kernel⟩
abbrev s_is_filled : Stmt := topS 12
theorem sc_is_filled : FnScope ["value", "is_right", "one"] ["value", "is_right"] (defScope s_is_filled) := ⟨rfl, rfl, rfl, by decide +kernel, rfl, by decide +kernel, by decide +kernel⟩
abbrev s_is_array : Stmt := topS 13
theorem sc_is_array : FnScope ["value"] ["value"] (defScope s_is_array) := ⟨rfl, rfl, rfl, by decide +kernel, rfl, by decide +kernel, by decide +kernel⟩
abbrev s_check : Stmt := topS 14
theorem sc_check : FnScope ["is_good", "part"] ["is_good", "part"] (defScope s_check) := ⟨rfl, rfl, rfl, by decide +kernel, rfl, by decide +kernel, by decide +kernel⟩
abbrev s_made : Stmt := topS 15
theorem sc_made : FnScope ["shape", "row"] ["shape", "row"] (defScope s_made) := ⟨rfl, rfl, rfl, by decide +kernel, rfl, by decide +kernel, by decide +kernel⟩
abbrev s_rest_of : Stmt := topS 16
theorem sc_rest_of : FnScope ["shape", "dim"] ["shape", "dim"] (defScope s_rest_of) := ⟨rfl, rfl, rfl, by decide +kernel, rfl, by decide +kernel, by decide +kernel⟩
abbrev s_lines_of : Stmt := topS 17
theorem sc_lines_of : FnScope ["shape", "dim", "inner", "extent", "outer", "found", "far", "near", "at"] ["shape", "dim"] (defScope s_lines_of) := ⟨rfl, rfl, rfl, by decide +kernel, rfl, by decide +kernel, by decide +kernel⟩
abbrev s_check_spread : Stmt := topS 18
theorem sc_check_spread : FnScope ["value", "shape", "part"] ["value", "shape", "part"] (defScope s_check_spread) := ⟨rfl, rfl, rfl, by decide +kernel, rfl, by decide +kernel, by decide +kernel⟩
abbrev s_spread_out : Stmt := topS 19
theorem sc_spread_out : FnScope ["value", "shape"] ["value", "shape"] (defScope s_spread_out) := ⟨rfl, rfl, rfl, by decide +kernel, rfl, by decide +kernel, by decide +kernel⟩
abbrev s_cshift : Stmt := topS 20
theorem sc_cshift : FnScope ["array", "shift", "dim", "shape", "found", "line", "many", "at", "place"] ["array", "shift", "dim"] (defScope s_cshift) := ⟨rfl, rfl, rfl, by decide +kernel, rfl, by decide +kernel, by decide +kernel⟩
abbrev s_eoshift : Stmt := topS 21
theorem sc_eoshift : FnScope ["array", "shift", "boundary", "dim", "shape", "found", "line", "many", "end", "at", "place"] ["array", "shift", "boundary", "dim"] (defScope s_eoshift) := ⟨rfl, rfl, rfl, by decide +kernel, rfl, by decide +kernel, by decide +kernel⟩
abbrev s__law_draw : Stmt := topS 24
theorem sc__law_draw : FnScope ["_law_well_here", "_law_many", "_law_found", "_law_base", "_law_mixed"] ["_law_well_here", "_law_many"] (defScope s__law_draw) := ⟨rfl, rfl, rfl, by decide +kernel, rfl, by decide +kernel, by decide +kernel⟩
abbrev s__law_pick : Stmt := topS 25
theorem sc__law_pick : FnScope ["_law_well_here", "_law_some"] ["_law_well_here", "_law_some"] (defScope s__law_pick) := ⟨rfl, rfl, rfl, by decide +kernel, rfl, by decide +kernel, by decide +kernel⟩
abbrev s__law_shape : Stmt := topS 26
theorem sc__law_shape : FnScope ["_law_well_here", "_law_most", "_law_room", "_law_found", "_law_turn", "_law_extent"] ["_law_well_here", "_law_most", "_law_room"] (defScope s__law_shape) := ⟨rfl, rfl, rfl, by decide +kernel, rfl, by decide +kernel, by decide +kernel⟩
abbrev s__law_size_of : Stmt := topS 27
theorem sc__law_size_of : FnScope ["_law_form", "_law_found", "_law_extent"] ["_law_form"] (defScope s__law_size_of) := ⟨rfl, rfl, rfl, by decide +kernel, rfl, by decide +kernel, by decide +kernel⟩
abbrev s__law_number : Stmt := topS 30
theorem sc__law_number : FnScope ["_law_well_here"] ["_law_well_here"] (defScope s__law_number) := ⟨rfl, rfl, rfl, by decide +kernel, rfl, by decide +kernel, by decide +kernel⟩
abbrev s__law_array : Stmt := topS 31
theorem sc__law_array : FnScope ["_law_well_here", "_law_form", "_law_turn"] ["_law_well_here", "_law_form"] (defScope s__law_array) := ⟨rfl, rfl, rfl, by decide +kernel, rfl, by decide +kernel, by decide +kernel⟩
abbrev s__law_shift : Stmt := topS 34
theorem sc__law_shift : FnScope ["_law_well_here", "_law_form", "_law_far", "_law_turn"] ["_law_well_here", "_law_form"] (defScope s__law_shift) := ⟨rfl, rfl, rfl, by decide +kernel, rfl, by decide +kernel, by decide +kernel⟩
abbrev s__law_counted : Stmt := topS 28
theorem sc__law_counted : FnScope ["_law_form", "_law_order", "_law_found", "_law_now", "_law_turn", "_law_is_on", "_law_axis"] ["_law_form", "_law_order"] (defScope s__law_counted) := ⟨rfl, rfl, rfl, by decide +kernel, rfl, by decide +kernel, by decide +kernel⟩
abbrev s__law_all : Stmt := topS 29
theorem sc__law_all : FnScope ["_law_form", "_law_k"] ["_law_form"] (defScope s__law_all) := ⟨rfl, rfl, rfl, by decide +kernel, rfl, by decide +kernel, by decide +kernel⟩
abbrev s__law_table : Stmt := topS 33
theorem sc__law_table : FnScope ["_law_thing"] ["_law_thing"] (defScope s__law_table) := ⟨rfl, rfl, rfl, by decide +kernel, rfl, by decide +kernel, by decide +kernel⟩
abbrev s__law_of : Stmt := topS 35
theorem sc__law_of : FnScope ["_law_thing", "_law_spot"] ["_law_thing", "_law_spot"] (defScope s__law_of) := ⟨rfl, rfl, rfl, by decide +kernel, rfl, by decide +kernel, by decide +kernel⟩
abbrev s__law_due : Stmt := topS 36
theorem sc__law_due : FnScope ["_law_own", "_law_shifts", "_law_ends", "_law_axis", "_law_table_here", "_law_found", "_law_extent", "_law_moves", "_law_spot", "_law_many", "_law_end", "_law_at", "_law_whole"] ["_law_own", "_law_shifts", "_law_ends", "_law_axis"] (defScope s__law_due) := ⟨rfl, rfl, rfl, by decide +kernel, rfl, by decide +kernel, by decide +kernel⟩
abbrev s__law_right : Stmt := topS 37
theorem sc__law_right : FnScope ["_law_well_here", "_law_own", "_law_axis", "_law_rest", "_law_shifts", "_law_ends", "_law_told", "_law_gone", "_law_back", "_law_one", "_law_other", "_law_saved", "_law_same"] ["_law_well_here"] (defScope s__law_right) := ⟨rfl, rfl, rfl, by decide +kernel, rfl, by decide +kernel, by decide +kernel⟩
abbrev s_law : Stmt := topS 38
theorem sc_law : FnScope ["_law_script", "_law_k"] ["_law_script"] (defScope s_law) := ⟨rfl, rfl, rfl, by decide +kernel, rfl, by decide +kernel, by decide +kernel⟩
structure Hd (K : PySem.W.Frag) (mg : Str → Option Value) : Prop where
  m_all : mg "all" = none
  m_bool : mg "bool" = none
  m_dict : mg "dict" = none
  m_enumerate : mg "enumerate" = none
  m_int : mg "int" = none
  m_isinstance : mg "isinstance" = none
  m_len : mg "len" = none
  m_list : mg "list" = none
  m_max : mg "max" = none
  m_min : mg "min" = none
  m_range : mg "range" = none
  m_tuple : mg "tuple" = none
  m_zip : mg "zip" = none
  h_MOST_DIMENSIONS : ∃ t, mg "MOST_DIMENSIONS" = some (.int 7 t)
  h_MOST_ELEMENTS : ∃ t, mg "MOST_ELEMENTS" = some (.int 5000 t)
  f__law_well : ∃ f fd, mg "_law_well" = some (.ref f) ∧ FunD K "_law_well" "_law_well" (defArgs s__law_well) (defBody s__law_well) (defScope s__law_well) [] [] f fd
  f_is_whole : ∃ f fd, mg "is_whole" = some (.ref f) ∧ FunD K "is_whole" "is_whole" (defArgs s_is_whole) (defBody s_is_whole) (defScope s_is_whole) [] [] f fd
  f_is_between : ∃ f fd, mg "is_between" = some (.ref f) ∧ FunD K "is_between" "is_between" (defArgs s_is_between) (defBody s_is_between) (defScope s_is_between) [] [] f fd
  f_is_row : ∃ f fd, mg "is_row" = some (.ref f) ∧ FunD K "is_row" "is_row" (defArgs s_is_row) (defBody s_is_row) (defScope s_is_row) [] [] f fd
  f_elements_of : ∃ f fd, mg "elements_of" = some (.ref f) ∧ FunD K "elements_of" "elements_of" (defArgs s_elements_of) (defBody s_elements_of) (defScope s_elements_of) [] [] f fd
  f_is_shape : ∃ f fd, mg "is_shape" = some (.ref f) ∧ FunD K "is_shape" "is_shape" (defArgs s_is_shape) (defBody s_is_shape) (defScope s_is_shape) [] [] f fd
  f_is_filled : ∃ f fd, mg "is_filled" = some (.ref f) ∧ FunD K "is_filled" "is_filled" (defArgs s_is_filled) (defBody s_is_filled) (defScope s_is_filled) [] [] f fd
  f_is_array : ∃ f fd, mg "is_array" = some (.ref f) ∧ FunD K "is_array" "is_array" (defArgs s_is_array) (defBody s_is_array) (defScope s_is_array) [] [] f fd
  f_check : ∃ f fd, mg "check" = some (.ref f) ∧ FunD K "check" "check" (defArgs s_check) (defBody s_check) (defScope s_check) [] [] f fd
  f_made : ∃ f fd, mg "made" = some (.ref f) ∧ FunD K "made" "made" (defArgs s_made) (defBody s_made) (defScope s_made) [] [] f fd
  f_rest_of : ∃ f fd, mg "rest_of" = some (.ref f) ∧ FunD K "rest_of" "rest_of" (defArgs s_rest_of) (defBody s_rest_of) (defScope s_rest_of) [] [] f fd
  f_lines_of : ∃ f fd, mg "lines_of" = some (.ref f) ∧ FunD K "lines_of" "lines_of" (defArgs s_lines_of) (defBody s_lines_of) (defScope s_lines_of) [] [] f fd
  f_check_spread : ∃ f fd, mg "check_spread" = some (.ref f) ∧ FunD K "check_spread" "check_spread" (defArgs s_check_spread) (defBody s_check_spread) (defScope s_check_spread) [] [] f fd
  f_spread_out : ∃ f fd, mg "spread_out" = some (.ref f) ∧ FunD K "spread_out" "spread_out" (defArgs s_spread_out) (defBody s_spread_out) (defScope s_spread_out) [] [] f fd
  f_cshift : ∃ f fd, mg "cshift" = some (.ref f) ∧ FunD K "cshift" "cshift" (defArgs s_cshift) (defBody s_cshift) (defScope s_cshift) [] [("dim", .int 1)] f fd
  f_eoshift : ∃ f fd, mg "eoshift" = some (.ref f) ∧ FunD K "eoshift" "eoshift" (defArgs s_eoshift) (defBody s_eoshift) (defScope s_eoshift) [] [("boundary", .int 0), ("dim", .int 1)] f fd
  f__law_draw : ∃ f fd, mg "_law_draw" = some (.ref f) ∧ FunD K "_law_draw" "_law_draw" (defArgs s__law_draw) (defBody s__law_draw) (defScope s__law_draw) [] [] f fd
  f__law_pick : ∃ f fd, mg "_law_pick" = some (.ref f) ∧ FunD K "_law_pick" "_law_pick" (defArgs s__law_pick) (defBody s__law_pick) (defScope s__law_pick) [] [] f fd
  f__law_shape : ∃ f fd, mg "_law_shape" = some (.ref f) ∧ FunD K "_law_shape" "_law_shape" (defArgs s__law_shape) (defBody s__law_shape) (defScope s__law_shape) [] [] f fd
  f__law_size_of : ∃ f fd, mg "_law_size_of" = some (.ref f) ∧ FunD K "_law_size_of" "_law_size_of" (defArgs s__law_size_of) (defBody s__law_size_of) (defScope s__law_size_of) [] [] f fd
  f__law_number : ∃ f fd, mg "_law_number" = some (.ref f) ∧ FunD K "_law_number" "_law_number" (defArgs s__law_number) (defBody s__law_number) (defScope s__law_number) [] [] f fd
  f__law_array : ∃ f fd, mg "_law_array" = some (.ref f) ∧ FunD K "_law_array" "_law_array" (defArgs s__law_array) (defBody s__law_array) (defScope s__law_array) [] [] f fd
  f__law_shift : ∃ f fd, mg "_law_shift" = some (.ref f) ∧ FunD K "_law_shift" "_law_shift" (defArgs s__law_shift) (defBody s__law_shift) (defScope s__law_shift) [] [] f fd
  f__law_counted : ∃ f fd, mg "_law_counted" = some (.ref f) ∧ FunD K "_law_counted" "_law_counted" (defArgs s__law_counted) (defBody s__law_counted) (defScope s__law_counted) [] [] f fd
  f__law_all : ∃ f fd, mg "_law_all" = some (.ref f) ∧ FunD K "_law_all" "_law_all" (defArgs s__law_all) (defBody s__law_all) (defScope s__law_all) [] [] f fd
  f__law_table : ∃ f fd, mg "_law_table" = some (.ref f) ∧ FunD K "_law_table" "_law_table" (defArgs s__law_table) (defBody s__law_table) (defScope s__law_table) [] [] f fd
  f__law_of : ∃ f fd, mg "_law_of" = some (.ref f) ∧ FunD K "_law_of" "_law_of" (defArgs s__law_of) (defBody s__law_of) (defScope s__law_of) [] [] f fd
  f__law_due : ∃ f fd, mg "_law_due" = some (.ref f) ∧ FunD K "_law_due" "_law_due" (defArgs s__law_due) (defBody s__law_due) (defScope s__law_due) [] [] f fd
  f__law_right : ∃ f fd, mg "_law_right" = some (.ref f) ∧ FunD K "_law_right" "_law_right" (defArgs s__law_right) (defBody s__law_right) (defScope s__law_right) [] [] f fd
  f_law : ∃ f fd, mg "law" = some (.ref f) ∧ FunD K "law" "law" (defArgs s_law) (defBody s_law) (defScope s_law) [] [] f fd
section
variable {P : Program} {w : World} {K : PySem.W.Frag} {mg : Str → Option Value} {base : Heap}
theorem fok__law_well (h : Hd K mg) {f : Addr} {fd : FuncData} (F : FunD K "_law_well" "_law_well" (defArgs s__law_well) (defBody s__law_well) (defScope s__law_well) [] [] f fd) : FnG P w K mg base 1 f fd ["_law_script", "_law_k"] (spF ⟨K, mg⟩ 2 F__law_well) := by
  have m_int := h.m_int
  have m_len := h.m_len
  refine fok_of F sc__law_well exitO_ok fun cdv A outer s H E hcdv hr => ?_
  have tk := takes_of (X := cxOf (L2.CX P w) P w K mg base ["_law_script", "_law_k", "_law_cell"] "_law_well" (defScope s__law_well) f cdv A outer s H E) (E := E) rfl rfl rfl rfl
  have hp := passes_of (X := cxOf (L2.CX P w) P w K mg base ["_law_script", "_law_k", "_law_cell"] "_law_well" (defScope s__law_well) f cdv A outer s H E) rfl
  exact (jb_cons (js_set 2 sc__law_well.nd (je_if (jt_cmp jo_lt (je_var 1) (je_callB jc_len (by rfl) m_len (by decide +kernel) (ja_cons (je_var 0) ja_nil))) (je_ix (je_var 0) (je_var 1)) (je_bin jo_add (je_ix (je_bin jo_add (je_var 0) (je_lst (ja_cons je_int ja_nil))) je_int) (je_bin jo_mul je_int (je_var 1))))) (jb_one (js_ret (je_own (ja_cons (je_bin jo_mul (je_var 2) (je_callTy jc_int (by rfl) m_int (by decide +kernel) (ja_cons (je_cmp jo_ge (je_var 2) (je_bin jo_pow je_int je_int)) ja_nil))) (ja_cons (je_var 2) (ja_cons je_int ja_nil)))))))
theorem cal__law_well (h : Hd K mg) : Cal P w K mg base 1 "_law_well" ["_law_script", "_law_k"] F__law_well := by
  obtain ⟨f, fd, hm, F⟩ := h.f__law_well
  exact cal_of F hm (F.bindsN fun _ _ _ _ _ _ us hl => match us, hl with | [_, _], _ => rfl) (fok__law_well h F)
theorem fok_is_whole (h : Hd K mg) {f : Addr} {fd : FuncData} (F : FunD K "is_whole" "is_whole" (defArgs s_is_whole) (defBody s_is_whole) (defScope s_is_whole) [] [] f fd) : FnG P w K mg base 1 f fd ["value"] (spF ⟨K, mg⟩ 1 F_is_whole) := by
  have m_bool := h.m_bool
  have m_int := h.m_int
  have m_isinstance := h.m_isinstance
  refine fok_of F sc_is_whole exitV_ok fun cdv A outer s H E hcdv hr => ?_
  have tk := takes_of (X := cxOf (L2.CX P w) P w K mg base ["value"] "is_whole" (defScope s_is_whole) f cdv A outer s H E) (E := E) rfl rfl rfl rfl
  have hp := passes_of (X := cxOf (L2.CX P w) P w K mg base ["value"] "is_whole" (defScope s_is_whole) f cdv A outer s H E) rfl
  exact (jb_one (js_ret (je_and (je_isi tab_int (by rfl) m_isinstance (by rfl) m_int (by decide +kernel) (je_var 0)) (je_one (je_not (je_isi tab_bool (by rfl) m_isinstance (by rfl) m_bool (by decide +kernel) (je_var 0)))))))
theorem cal_is_whole (h : Hd K mg) : Cal P w K mg base 1 "is_whole" ["value"] F_is_whole := by
  obtain ⟨f, fd, hm, F⟩ := h.f_is_whole
  exact cal_of F hm (F.bindsN fun _ _ _ _ _ _ us hl => match us, hl with | [_], _ => rfl) (fok_is_whole h F)
theorem fok_is_between (h : Hd K mg) (c_is_whole : Cal P w K mg base 1 "is_whole" ["value"] F_is_whole) {f : Addr} {fd : FuncData} (F : FunD K "is_between" "is_between" (defArgs s_is_between) (defBody s_is_between) (defScope s_is_between) [] [] f fd) : FnG P w K mg base 2 f fd ["value", "low", "high"] (spF ⟨K, mg⟩ 3 F_is_between) := by
  refine fok_of F sc_is_between exitV_ok fun cdv A outer s H E hcdv hr => ?_
  have tk := takes_of (X := cxOf (L2.CX P w) P w K mg base ["value", "low", "high"] "is_between" (defScope s_is_between) f cdv A outer s H E) (E := E) rfl rfl rfl rfl
  have hp := passes_of (X := cxOf (L2.CX P w) P w K mg base ["value", "low", "high"] "is_between" (defScope s_is_between) f cdv A outer s H E) rfl
  exact (jb_one (js_ret (je_and (je_call c_is_whole (hr.mono (by decide)) tk (by rfl) (ja_cons (je_var 0) ja_nil)) (je_one (je_chain jo_le jo_le (je_var 1) (je_var 0) (je_var 2))))))
theorem cal_is_between (h : Hd K mg) (c_is_whole : Cal P w K mg base 1 "is_whole" ["value"] F_is_whole) : Cal P w K mg base 2 "is_between" ["value", "low", "high"] F_is_between := by
  obtain ⟨f, fd, hm, F⟩ := h.f_is_between
  exact cal_of F hm (F.bindsN fun _ _ _ _ _ _ us hl => match us, hl with | [_, _, _], _ => rfl) (fok_is_between h c_is_whole F)
theorem fok_is_row (h : Hd K mg) {f : Addr} {fd : FuncData} (F : FunD K "is_row" "is_row" (defArgs s_is_row) (defBody s_is_row) (defScope s_is_row) [] [] f fd) : FnG P w K mg base 1 f fd ["value", "least", "most"] (spF ⟨K, mg⟩ 3 F_is_row) := by
  have m_isinstance := h.m_isinstance
  have m_len := h.m_len
  have m_list := h.m_list
  have m_tuple := h.m_tuple
  refine fok_of F sc_is_row exitV_ok fun cdv A outer s H E hcdv hr => ?_
  have tk := takes_of (X := cxOf (L2.CX P w) P w K mg base ["value", "least", "most"] "is_row" (defScope s_is_row) f cdv A outer s H E) (E := E) rfl rfl rfl rfl
  have hp := passes_of (X := cxOf (L2.CX P w) P w K mg base ["value", "least", "most"] "is_row" (defScope s_is_row) f cdv A outer s H E) rfl
  exact (jb_one (js_ret (je_and (je_isi2 tab_list tab_tuple (by rfl) m_isinstance (by rfl) m_list (by decide +kernel) (by rfl) m_tuple (by decide +kernel) (je_var 0)) (je_one (je_chain jo_le jo_le (je_var 1) (je_callB jc_len (by rfl) m_len (by decide +kernel) (ja_cons (je_var 0) ja_nil)) (je_var 2))))))
theorem cal_is_row (h : Hd K mg) : Cal P w K mg base 1 "is_row" ["value", "least", "most"] F_is_row := by
  obtain ⟨f, fd, hm, F⟩ := h.f_is_row
  exact cal_of F hm (F.bindsN fun _ _ _ _ _ _ us hl => match us, hl with | [_, _, _], _ => rfl) (fok_is_row h F)
theorem fok_elements_of (h : Hd K mg) {f : Addr} {fd : FuncData} (F : FunD K "elements_of" "elements_of" (defArgs s_elements_of) (defBody s_elements_of) (defScope s_elements_of) [] [] f fd) : FnG P w K mg base 1 f fd ["shape"] (spF ⟨K, mg⟩ 1 F_elements_of) := by
  refine fok_of F sc_elements_of exitV_ok fun cdv A outer s H E hcdv hr => ?_
  have tk := takes_of (X := cxOf (L2.CX P w) P w K mg base ["shape", "found", "extent"] "elements_of" (defScope s_elements_of) f cdv A outer s H E) (E := E) rfl rfl rfl rfl
  have hp := passes_of (X := cxOf (L2.CX P w) P w K mg base ["shape", "found", "extent"] "elements_of" (defScope s_elements_of) f cdv A outer s H E) rfl
  exact (jb_cons (js_set 1 sc_elements_of.nd je_int) (jb_cons (js_for hp rfl (ji_seq (je_var 0)) (jg_name (i := 2) sc_elements_of.nd) (jb_one (js_set 1 sc_elements_of.nd (je_bin jo_mul (je_var 1) (je_var 2))))) (jb_one (js_ret (je_var 1)))))
theorem cal_elements_of (h : Hd K mg) : Cal P w K mg base 1 "elements_of" ["shape"] F_elements_of := by
  obtain ⟨f, fd, hm, F⟩ := h.f_elements_of
  exact cal_of F hm (F.bindsN fun _ _ _ _ _ _ us hl => match us, hl with | [_], _ => rfl) (fok_elements_of h F)
theorem fok_is_shape (h : Hd K mg) (c_is_whole : Cal P w K mg base 1 "is_whole" ["value"] F_is_whole) (c_is_row : Cal P w K mg base 1 "is_row" ["value", "least", "most"] F_is_row) {f : Addr} {fd : FuncData} (F : FunD K "is_shape" "is_shape" (defArgs s_is_shape) (defBody s_is_shape) (defScope s_is_shape) [] [] f fd) : FnG P w K mg base 2 f fd ["value"] (spF ⟨K, mg⟩ 1 F_is_shape) := by
  have m_all := h.m_all
  have h_MOST_DIMENSIONS := h.h_MOST_DIMENSIONS
  refine fok_of F sc_is_shape exitV_ok fun cdv A outer s H E hcdv hr => ?_
  have tk := takes_of (X := cxOf (L2.CX P w) P w K mg base ["value", "extent"] "is_shape" (defScope s_is_shape) f cdv A outer s H E) (E := E) rfl rfl rfl rfl
  have hp := passes_of (X := cxOf (L2.CX P w) P w K mg base ["value", "extent"] "is_shape" (defScope s_is_shape) f cdv A outer s H E) rfl
  exact (jb_one (js_ret (je_and (je_call c_is_row (hr.mono (by decide)) tk (by rfl) (ja_cons (je_var 0) (ja_cons je_int (ja_cons (je_gint (by rfl) h_MOST_DIMENSIONS) ja_nil)))) (je_one (je_callB (jc_all rfl) (by rfl) m_all (by decide +kernel) (ja_cons (je_lc [("extent", 1)] rfl sc_is_shape.nd (ji_seq (je_var 0)) (blkOk_by (by kernel_rfl)) (fun _ _ _ _ _ => (jg_name (i := 1) sc_is_shape.nd)) (by decide) test_no (fun _ _ _ _ _ => (je_and (je_call c_is_whole (hr.mono (by decide)) takes0 (by rfl) (ja_cons (je_var 1) ja_nil)) (je_one (je_cmp jo_ge (je_var 1) je_int))))) ja_nil))))))
theorem cal_is_shape (h : Hd K mg) (c_is_whole : Cal P w K mg base 1 "is_whole" ["value"] F_is_whole) (c_is_row : Cal P w K mg base 1 "is_row" ["value", "least", "most"] F_is_row) : Cal P w K mg base 2 "is_shape" ["value"] F_is_shape := by
  obtain ⟨f, fd, hm, F⟩ := h.f_is_shape
  exact cal_of F hm (F.bindsN fun _ _ _ _ _ _ us hl => match us, hl with | [_], _ => rfl) (fok_is_shape h c_is_whole c_is_row F)
theorem fok_is_filled (h : Hd K mg) (c_is_whole : Cal P w K mg base 1 "is_whole" ["value"] F_is_whole) (c_is_row : Cal P w K mg base 1 "is_row" ["value", "least", "most"] F_is_row) (c_elements_of : Cal P w K mg base 1 "elements_of" ["shape"] F_elements_of) (c_is_shape : Cal P w K mg base 2 "is_shape" ["value"] F_is_shape) {f : Addr} {fd : FuncData} (F : FunD K "is_filled" "is_filled" (defArgs s_is_filled) (defBody s_is_filled) (defScope s_is_filled) [] [] f fd) : FnG P w K mg base 3 f fd ["value", "is_right"] (spF ⟨K, mg⟩ 2 F_is_filled) := by
  have m_all := h.m_all
  have m_isinstance := h.m_isinstance
  have m_len := h.m_len
  have m_tuple := h.m_tuple
  have h_MOST_ELEMENTS := h.h_MOST_ELEMENTS
  refine fok_of F sc_is_filled exitV_ok fun cdv A outer s H E hcdv hr => ?_
  have tk := takes_of (X := cxOf (L2.CX P w) P w K mg base ["value", "is_right", "one"] "is_filled" (defScope s_is_filled) f cdv A outer s H E) (E := E) rfl rfl rfl rfl
  have hp := passes_of (X := cxOf (L2.CX P w) P w K mg base ["value", "is_right", "one"] "is_filled" (defScope s_is_filled) f cdv A outer s H E) rfl
  exact (jb_cons (js_if (JW.pt (jw_or (jt_not (jt_val (je_isi tab_tuple (by rfl) m_isinstance (by rfl) m_tuple (by decide +kernel) (je_var 0)))) (jw_or (jt_cmp (jo_ne hr.units) (je_callB jc_len (by rfl) m_len (by decide +kernel) (ja_cons (je_var 0) ja_nil)) je_int) (jw_or (jt_not (jt_val (je_isi tab_tuple (by rfl) m_isinstance (by rfl) m_tuple (by decide +kernel) (je_ix (je_var 0) je_int)))) (jw_or1 (jt_not (jt_val (je_call c_is_shape (hr.mono (by decide)) tk (by rfl) (ja_cons (je_ix (je_var 0) je_int) ja_nil))))))))) (jb_one (js_ret je_bl)) jb_nil) (jb_cons (js_if (JW.pt (jw_or (jt_not (jt_val (je_call c_is_row (hr.mono (by decide)) tk (by rfl) (ja_cons (je_ix (je_var 0) je_int) (ja_cons je_int (ja_cons (je_gint (by rfl) h_MOST_ELEMENTS) ja_nil)))))) (jw_or1 (jt_cmp (jo_ne hr.units) (je_callB jc_len (by rfl) m_len (by decide +kernel) (ja_cons (je_ix (je_var 0) je_int) ja_nil)) (je_call c_elements_of (hr.mono (by decide)) tk (by rfl) (ja_cons (je_ix (je_var 0) je_int) ja_nil)))))) (jb_one (js_ret je_bl)) jb_nil) (jb_one (js_ret (je_callB (jc_all rfl) (by rfl) m_all (by decide +kernel) (ja_cons (je_lc [("one", 2)] rfl sc_is_filled.nd (ji_seq (je_ix (je_var 0) je_int)) (blkOk_by (by kernel_rfl)) (fun _ _ _ _ _ => (jg_name (i := 2) sc_is_filled.nd)) (by decide) test_no (fun _ _ _ _ _ => (je_callT (i := 1) (ftab_cons c_is_whole (by decide) rfl ftab_nil) hr takes0 (ja_cons (je_var 2) ja_nil)))) ja_nil))))))
theorem cal_is_filled (h : Hd K mg) (c_is_whole : Cal P w K mg base 1 "is_whole" ["value"] F_is_whole) (c_is_row : Cal P w K mg base 1 "is_row" ["value", "least", "most"] F_is_row) (c_elements_of : Cal P w K mg base 1 "elements_of" ["shape"] F_elements_of) (c_is_shape : Cal P w K mg base 2 "is_shape" ["value"] F_is_shape) : Cal P w K mg base 3 "is_filled" ["value", "is_right"] F_is_filled := by
  obtain ⟨f, fd, hm, F⟩ := h.f_is_filled
  exact cal_of F hm (F.bindsN fun _ _ _ _ _ _ us hl => match us, hl with | [_, _], _ => rfl) (fok_is_filled h c_is_whole c_is_row c_elements_of c_is_shape F)
theorem fok_is_array (h : Hd K mg) (c_is_whole : Cal P w K mg base 1 "is_whole" ["value"] F_is_whole) (c_is_filled : Cal P w K mg base 3 "is_filled" ["value", "is_right"] F_is_filled) {f : Addr} {fd : FuncData} (F : FunD K "is_array" "is_array" (defArgs s_is_array) (defBody s_is_array) (defScope s_is_array) [] [] f fd) : FnG P w K mg base 4 f fd ["value"] (spF ⟨K, mg⟩ 1 F_is_array) := by
  refine fok_of F sc_is_array exitV_ok fun cdv A outer s H E hcdv hr => ?_
  have tk := takes_of (X := cxOf (L2.CX P w) P w K mg base ["value"] "is_array" (defScope s_is_array) f cdv A outer s H E) (E := E) rfl rfl rfl rfl
  have hp := passes_of (X := cxOf (L2.CX P w) P w K mg base ["value"] "is_array" (defScope s_is_array) f cdv A outer s H E) rfl
  exact (jb_one (js_ret (je_call c_is_filled (hr.mono (by decide)) tk (by rfl) (ja_cons (je_var 0) (ja_cons (je_gfn (by rfl) c_is_whole) ja_nil)))))
theorem cal_is_array (h : Hd K mg) (c_is_whole : Cal P w K mg base 1 "is_whole" ["value"] F_is_whole) (c_is_filled : Cal P w K mg base 3 "is_filled" ["value", "is_right"] F_is_filled) : Cal P w K mg base 4 "is_array" ["value"] F_is_array := by
  obtain ⟨f, fd, hm, F⟩ := h.f_is_array
  exact cal_of F hm (F.bindsN fun _ _ _ _ _ _ us hl => match us, hl with | [_], _ => rfl) (fok_is_array h c_is_whole c_is_filled F)
theorem fok_check (h : Hd K mg) {f : Addr} {fd : FuncData} (F : FunD K "check" "check" (defArgs s_check) (defBody s_check) (defScope s_check) [] [] f fd) : FnG P w K mg base 1 f fd ["is_good", "part"] (spF ⟨K, mg⟩ 2 F_check) := by
  refine fok_of F sc_check exitV_ok fun cdv A outer s H E hcdv hr => ?_
  have tk := takes_of (X := cxOf (L2.CX P w) P w K mg base ["is_good", "part"] "check" (defScope s_check) f cdv A outer s H E) (E := E) rfl rfl rfl rfl
  have hp := passes_of (X := cxOf (L2.CX P w) P w K mg base ["is_good", "part"] "check" (defScope s_check) f cdv A outer s H E) rfl
  exact (jb_one (js_if (jt_not (jt_val (je_var 0))) (jb_one js_never) jb_nil))
theorem cal_check (h : Hd K mg) : Cal P w K mg base 1 "check" ["is_good", "part"] F_check := by
  obtain ⟨f, fd, hm, F⟩ := h.f_check
  exact cal_of F hm (F.bindsN fun _ _ _ _ _ _ us hl => match us, hl with | [_, _], _ => rfl) (fok_check h F)
theorem fok_made (h : Hd K mg) {f : Addr} {fd : FuncData} (F : FunD K "made" "made" (defArgs s_made) (defBody s_made) (defScope s_made) [] [] f fd) : FnG P w K mg base 1 f fd ["shape", "row"] (spF ⟨K, mg⟩ 2 F_made) := by
  have m_tuple := h.m_tuple
  refine fok_of F sc_made exitP_ok fun cdv A outer s H E hcdv hr => ?_
  have tk := takes_of (X := cxOf (L2.CX P w) P w K mg base ["shape", "row"] "made" (defScope s_made) f cdv A outer s H E) (E := E) rfl rfl rfl rfl
  have hp := passes_of (X := cxOf (L2.CX P w) P w K mg base ["shape", "row"] "made" (defScope s_made) f cdv A outer s H E) rfl
  exact (jb_one (js_ret (je_pair (ja_cons (je_callTy jc_tuple (by rfl) m_tuple (by decide +kernel) (ja_cons (je_var 0) ja_nil)) (ja_cons (je_var 1) ja_nil)))))
theorem cal_made (h : Hd K mg) : Cal P w K mg base 1 "made" ["shape", "row"] F_made := by
  obtain ⟨f, fd, hm, F⟩ := h.f_made
  exact cal_of F hm (F.bindsN fun _ _ _ _ _ _ us hl => match us, hl with | [_, _], _ => rfl) (fok_made h F)
theorem fok_rest_of (h : Hd K mg) {f : Addr} {fd : FuncData} (F : FunD K "rest_of" "rest_of" (defArgs s_rest_of) (defBody s_rest_of) (defScope s_rest_of) [] [] f fd) : FnG P w K mg base 1 f fd ["shape", "dim"] (spF ⟨K, mg⟩ 2 F_rest_of) := by
  refine fok_of F sc_rest_of exitV_ok fun cdv A outer s H E hcdv hr => ?_
  have tk := takes_of (X := cxOf (L2.CX P w) P w K mg base ["shape", "dim"] "rest_of" (defScope s_rest_of) f cdv A outer s H E) (E := E) rfl rfl rfl rfl
  have hp := passes_of (X := cxOf (L2.CX P w) P w K mg base ["shape", "dim"] "rest_of" (defScope s_rest_of) f cdv A outer s H E) rfl
  exact (jb_one (js_ret (je_bin jo_add (je_slice (je_var 0) jp_none (jp_some (je_bin jo_sub (je_var 1) je_int))) (je_slice (je_var 0) (jp_some (je_var 1)) jp_none))))
theorem cal_rest_of (h : Hd K mg) : Cal P w K mg base 1 "rest_of" ["shape", "dim"] F_rest_of := by
  obtain ⟨f, fd, hm, F⟩ := h.f_rest_of
  exact cal_of F hm (F.bindsN fun _ _ _ _ _ _ us hl => match us, hl with | [_, _], _ => rfl) (fok_rest_of h F)
theorem fok_lines_of (h : Hd K mg) (c_elements_of : Cal P w K mg base 1 "elements_of" ["shape"] F_elements_of) {f : Addr} {fd : FuncData} (F : FunD K "lines_of" "lines_of" (defArgs s_lines_of) (defBody s_lines_of) (defScope s_lines_of) [] [] f fd) : FnG P w K mg base 2 f fd ["shape", "dim"] (spF ⟨K, mg⟩ 2 F_lines_of) := by
  have m_range := h.m_range
  refine fok_of F sc_lines_of exitV_ok fun cdv A outer s H E hcdv hr => ?_
  have tk := takes_of (X := cxOf (L2.CX P w) P w K mg base ["shape", "dim", "inner", "extent", "outer", "found", "far", "near", "at"] "lines_of" (defScope s_lines_of) f cdv A outer s H E) (E := E) rfl rfl rfl rfl
  have hp := passes_of (X := cxOf (L2.CX P w) P w K mg base ["shape", "dim", "inner", "extent", "outer", "found", "far", "near", "at"] "lines_of" (defScope s_lines_of) f cdv A outer s H E) rfl
  exact (jb_cons (js_parT rfl (ja_cons (je_call c_elements_of (hr.mono (by decide)) tk (by rfl) (ja_cons (je_slice (je_var 0) jp_none (jp_some (je_bin jo_sub (je_var 1) je_int))) ja_nil)) (ja_cons (je_ix (je_var 0) (je_bin jo_sub (je_var 1) je_int)) (ja_cons (je_call c_elements_of (hr.mono (by decide)) tk (by rfl) (ja_cons (je_slice (je_var 0) (jp_some (je_var 1)) jp_none) ja_nil)) ja_nil))) (jn_cons (i := 2) sc_lines_of.nd (jn_cons (i := 3) sc_lines_of.nd (jn_cons (i := 4) sc_lines_of.nd jn_nil)))) (jb_cons (js_set 5 sc_lines_of.nd (je_own ja_nil)) (jb_cons (js_for hp rfl (ji_rng1 (by rfl) m_range (ja_cons (je_if (jt_cmp jo_gt (je_var 2) je_int) (je_var 4) je_int) ja_nil)) (jg_name (i := 6) sc_lines_of.nd) (jb_one (js_for hp rfl (ji_rng1 (by rfl) m_range (ja_cons (je_var 2) ja_nil)) (jg_name (i := 7) sc_lines_of.nd) (jb_one (js_append (je_var 5) (je_lc [("at", 8)] rfl sc_lines_of.nd (ji_rng1 (by rfl) m_range (ja_cons (je_var 3) ja_nil)) (blkOk_by (by kernel_rfl)) (fun _ _ _ _ _ => (jg_name (i := 8) sc_lines_of.nd)) (by decide) test_no (fun _ _ _ _ _ => (je_bin jo_add (je_var 7) (je_bin jo_mul (je_var 2) (je_bin jo_add (je_var 8) (je_bin jo_mul (je_var 3) (je_var 6)))))))))))) (jb_one (js_ret (je_var 5))))))
theorem cal_lines_of (h : Hd K mg) (c_elements_of : Cal P w K mg base 1 "elements_of" ["shape"] F_elements_of) : Cal P w K mg base 2 "lines_of" ["shape", "dim"] F_lines_of := by
  obtain ⟨f, fd, hm, F⟩ := h.f_lines_of
  exact cal_of F hm (F.bindsN fun _ _ _ _ _ _ us hl => match us, hl with | [_, _], _ => rfl) (fok_lines_of h c_elements_of F)
theorem fok_check_spread (h : Hd K mg) (c_is_whole : Cal P w K mg base 1 "is_whole" ["value"] F_is_whole) (c_is_array : Cal P w K mg base 4 "is_array" ["value"] F_is_array) (c_check : Cal P w K mg base 1 "check" ["is_good", "part"] F_check) {f : Addr} {fd : FuncData} (F : FunD K "check_spread" "check_spread" (defArgs s_check_spread) (defBody s_check_spread) (defScope s_check_spread) [] [] f fd) : FnG P w K mg base 5 f fd ["value", "shape", "part"] (spF ⟨K, mg⟩ 3 F_check_spread) := by
  refine fok_of F sc_check_spread exitV_ok fun cdv A outer s H E hcdv hr => ?_
  have tk := takes_of (X := cxOf (L2.CX P w) P w K mg base ["value", "shape", "part"] "check_spread" (defScope s_check_spread) f cdv A outer s H E) (E := E) rfl rfl rfl rfl
  have hp := passes_of (X := cxOf (L2.CX P w) P w K mg base ["value", "shape", "part"] "check_spread" (defScope s_check_spread) f cdv A outer s H E) rfl
  exact (jb_one (js_expr (je_call c_check (hr.mono (by decide)) tk (by rfl) (ja_cons (je_or (je_call c_is_whole (hr.mono (by decide)) tk (by rfl) (ja_cons (je_var 0) ja_nil)) (je_one (je_and (je_call c_is_array (hr.mono (by decide)) tk (by rfl) (ja_cons (je_var 0) ja_nil)) (je_one (je_cmp (jo_eq hr.units) (je_ix (je_var 0) je_int) (je_var 1)))))) (ja_cons (je_var 2) ja_nil)))))
theorem cal_check_spread (h : Hd K mg) (c_is_whole : Cal P w K mg base 1 "is_whole" ["value"] F_is_whole) (c_is_array : Cal P w K mg base 4 "is_array" ["value"] F_is_array) (c_check : Cal P w K mg base 1 "check" ["is_good", "part"] F_check) : Cal P w K mg base 5 "check_spread" ["value", "shape", "part"] F_check_spread := by
  obtain ⟨f, fd, hm, F⟩ := h.f_check_spread
  exact cal_of F hm (F.bindsN fun _ _ _ _ _ _ us hl => match us, hl with | [_, _, _], _ => rfl) (fok_check_spread h c_is_whole c_is_array c_check F)
theorem fok_spread_out (h : Hd K mg) (c_is_whole : Cal P w K mg base 1 "is_whole" ["value"] F_is_whole) (c_elements_of : Cal P w K mg base 1 "elements_of" ["shape"] F_elements_of) {f : Addr} {fd : FuncData} (F : FunD K "spread_out" "spread_out" (defArgs s_spread_out) (defBody s_spread_out) (defScope s_spread_out) [] [] f fd) : FnG P w K mg base 2 f fd ["value", "shape"] (spF ⟨K, mg⟩ 2 F_spread_out) := by
  have m_list := h.m_list
  refine fok_of F sc_spread_out exitV_ok fun cdv A outer s H E hcdv hr => ?_
  have tk := takes_of (X := cxOf (L2.CX P w) P w K mg base ["value", "shape"] "spread_out" (defScope s_spread_out) f cdv A outer s H E) (E := E) rfl rfl rfl rfl
  have hp := passes_of (X := cxOf (L2.CX P w) P w K mg base ["value", "shape"] "spread_out" (defScope s_spread_out) f cdv A outer s H E) rfl
  exact (jb_one (js_ret (je_if (jt_val (je_call c_is_whole (hr.mono (by decide)) tk (by rfl) (ja_cons (je_var 0) ja_nil))) (je_bin jo_rep (je_lst (ja_cons (je_var 0) ja_nil)) (je_call c_elements_of (hr.mono (by decide)) tk (by rfl) (ja_cons (je_var 1) ja_nil))) (je_callTy jc_list (by rfl) m_list (by decide +kernel) (ja_cons (je_ix (je_var 0) je_int) ja_nil)))))
theorem cal_spread_out (h : Hd K mg) (c_is_whole : Cal P w K mg base 1 "is_whole" ["value"] F_is_whole) (c_elements_of : Cal P w K mg base 1 "elements_of" ["shape"] F_elements_of) : Cal P w K mg base 2 "spread_out" ["value", "shape"] F_spread_out := by
  obtain ⟨f, fd, hm, F⟩ := h.f_spread_out
  exact cal_of F hm (F.bindsN fun _ _ _ _ _ _ us hl => match us, hl with | [_, _], _ => rfl) (fok_spread_out h c_is_whole c_elements_of F)
theorem fok_cshift (h : Hd K mg) (c_is_between : Cal P w K mg base 2 "is_between" ["value", "low", "high"] F_is_between) (c_is_array : Cal P w K mg base 4 "is_array" ["value"] F_is_array) (c_check : Cal P w K mg base 1 "check" ["is_good", "part"] F_check) (c_made : Cal P w K mg base 1 "made" ["shape", "row"] F_made) (c_rest_of : Cal P w K mg base 1 "rest_of" ["shape", "dim"] F_rest_of) (c_lines_of : Cal P w K mg base 2 "lines_of" ["shape", "dim"] F_lines_of) (c_check_spread : Cal P w K mg base 5 "check_spread" ["value", "shape", "part"] F_check_spread) (c_spread_out : Cal P w K mg base 2 "spread_out" ["value", "shape"] F_spread_out) {f : Addr} {fd : FuncData} (F : FunD K "cshift" "cshift" (defArgs s_cshift) (defBody s_cshift) (defScope s_cshift) [] [("dim", .int 1)] f fd) : FnG P w K mg base 6 f fd ["array", "shift", "dim"] (spF ⟨K, mg⟩ 3 F_cshift) := by
  have m_enumerate := h.m_enumerate
  have m_len := h.m_len
  have m_list := h.m_list
  have m_zip := h.m_zip
  refine fok_of F sc_cshift exitP_ok fun cdv A outer s H E hcdv hr => ?_
  have tk := takes_of (X := cxOf (L2.CX P w) P w K mg base ["array", "shift", "dim", "shape", "found", "line", "many", "at", "place"] "cshift" (defScope s_cshift) f cdv A outer s H E) (E := E) rfl rfl rfl rfl
  have hp := passes_of (X := cxOf (L2.CX P w) P w K mg base ["array", "shift", "dim", "shape", "found", "line", "many", "at", "place"] "cshift" (defScope s_cshift) f cdv A outer s H E) rfl
  exact (jb_cons (js_expr (je_call c_check (hr.mono (by decide)) tk (by rfl) (ja_cons (je_call c_is_array (hr.mono (by decide)) tk (by rfl) (ja_cons (je_var 0) ja_nil)) (ja_cons je_str ja_nil)))) (jb_cons (js_expr (je_call c_check (hr.mono (by decide)) tk (by rfl) (ja_cons (je_call c_is_between (hr.mono (by decide)) tk (by rfl) (ja_cons (je_var 2) (ja_cons je_int (ja_cons (je_callB jc_len (by rfl) m_len (by decide +kernel) (ja_cons (je_ix (je_var 0) je_int) ja_nil)) ja_nil)))) (ja_cons je_str ja_nil)))) (jb_cons (js_set 3 sc_cshift.nd (je_call c_rest_of (hr.mono (by decide)) tk (by rfl) (ja_cons (je_ix (je_var 0) je_int) (ja_cons (je_var 2) ja_nil)))) (jb_cons (js_expr (je_call c_check_spread (hr.mono (by decide)) tk (by rfl) (ja_cons (je_var 1) (ja_cons (je_var 3) (ja_cons je_str ja_nil))))) (jb_cons (js_set 4 sc_cshift.nd (je_callTy jc_listO (by rfl) m_list (by decide +kernel) (ja_cons (je_ix (je_var 0) je_int) ja_nil))) (jb_cons (js_if (jt_cmp (jo_eq hr.units) (je_var 4) (je_lst ja_nil)) (jb_one (js_ret (je_call c_made (hr.mono (by decide)) tk (by rfl) (ja_cons (je_ix (je_var 0) je_int) (ja_cons (je_var 4) ja_nil))))) jb_nil) (jb_cons (js_for hp rfl (ji_zip2 (by rfl) m_zip (ja_cons (je_call c_lines_of (hr.mono (by decide)) tk (by rfl) (ja_cons (je_ix (je_var 0) je_int) (ja_cons (je_var 2) ja_nil))) (ja_cons (je_call c_spread_out (hr.mono (by decide)) tk (by rfl) (ja_cons (je_var 1) (ja_cons (je_var 3) ja_nil))) ja_nil))) (jg_tup rfl (jgs_cons (jg_name (i := 5) sc_cshift.nd) (jgs_cons (jg_name (i := 6) sc_cshift.nd) jgs_nil))) (jb_one (js_for hp rfl (ji_enum (by rfl) m_enumerate (ja_cons (je_var 5) ja_nil)) (jg_tup rfl (jgs_cons (jg_name (i := 7) sc_cshift.nd) (jgs_cons (jg_name (i := 8) sc_cshift.nd) jgs_nil))) (jb_one (js_setIx (je_var 4) (je_var 8) (je_ix (je_ix (je_var 0) je_int) (je_ix (je_var 5) (je_bin jo_mod (je_bin jo_add (je_var 7) (je_var 6)) (je_callB jc_len (by rfl) m_len (by decide +kernel) (ja_cons (je_var 5) ja_nil)))))))))) (jb_one (js_ret (je_call c_made (hr.mono (by decide)) tk (by rfl) (ja_cons (je_ix (je_var 0) je_int) (ja_cons (je_var 4) ja_nil))))))))))))
theorem kck0_cshift (h : Hd K mg) (c_is_between : Cal P w K mg base 2 "is_between" ["value", "low", "high"] F_is_between) (c_is_array : Cal P w K mg base 4 "is_array" ["value"] F_is_array) (c_check : Cal P w K mg base 1 "check" ["is_good", "part"] F_check) (c_made : Cal P w K mg base 1 "made" ["shape", "row"] F_made) (c_rest_of : Cal P w K mg base 1 "rest_of" ["shape", "dim"] F_rest_of) (c_lines_of : Cal P w K mg base 2 "lines_of" ["shape", "dim"] F_lines_of) (c_check_spread : Cal P w K mg base 5 "check_spread" ["value", "shape", "part"] F_check_spread) (c_spread_out : Cal P w K mg base 2 "spread_out" ["value", "shape"] F_spread_out) : KCal P w K mg base 6 "cshift" 2 ["dim"] [.p 0, .p 1, .k 0] [] F_cshift := by
  obtain ⟨f, fd, hm, F⟩ := h.f_cshift
  exact ⟨f, fd, ["array", "shift", "dim"], _, [], hm, F.kp, kbN F 2 ["dim"] [.p 0, .p 1, .k 0] (fun _ _ _ _ _ _ us ws h1 h2 => match us, ws, h1, h2 with | [_, _], [_], _, _ => rfl), fun _ => .nil, fok_cshift h c_is_between c_is_array c_check c_made c_rest_of c_lines_of c_check_spread c_spread_out F, rfl⟩
theorem kck1_cshift (h : Hd K mg) (c_is_between : Cal P w K mg base 2 "is_between" ["value", "low", "high"] F_is_between) (c_is_array : Cal P w K mg base 4 "is_array" ["value"] F_is_array) (c_check : Cal P w K mg base 1 "check" ["is_good", "part"] F_check) (c_made : Cal P w K mg base 1 "made" ["shape", "row"] F_made) (c_rest_of : Cal P w K mg base 1 "rest_of" ["shape", "dim"] F_rest_of) (c_lines_of : Cal P w K mg base 2 "lines_of" ["shape", "dim"] F_lines_of) (c_check_spread : Cal P w K mg base 5 "check_spread" ["value", "shape", "part"] F_check_spread) (c_spread_out : Cal P w K mg base 2 "spread_out" ["value", "shape"] F_spread_out) : KCal P w K mg base 6 "cshift" 0 ["dim", "shift", "array"] [.k 2, .k 1, .k 0] [] F_cshift := by
  obtain ⟨f, fd, hm, F⟩ := h.f_cshift
  exact ⟨f, fd, ["array", "shift", "dim"], _, [], hm, F.kp, kbN F 0 ["dim", "shift", "array"] [.k 2, .k 1, .k 0] (fun _ _ _ _ _ _ us ws h1 h2 => match us, ws, h1, h2 with | [], [_, _, _], _, _ => rfl), fun _ => .nil, fok_cshift h c_is_between c_is_array c_check c_made c_rest_of c_lines_of c_check_spread c_spread_out F, rfl⟩
theorem kck5_cshift (h : Hd K mg) (c_is_between : Cal P w K mg base 2 "is_between" ["value", "low", "high"] F_is_between) (c_is_array : Cal P w K mg base 4 "is_array" ["value"] F_is_array) (c_check : Cal P w K mg base 1 "check" ["is_good", "part"] F_check) (c_made : Cal P w K mg base 1 "made" ["shape", "row"] F_made) (c_rest_of : Cal P w K mg base 1 "rest_of" ["shape", "dim"] F_rest_of) (c_lines_of : Cal P w K mg base 2 "lines_of" ["shape", "dim"] F_lines_of) (c_check_spread : Cal P w K mg base 5 "check_spread" ["value", "shape", "part"] F_check_spread) (c_spread_out : Cal P w K mg base 2 "spread_out" ["value", "shape"] F_spread_out) : KCal P w K mg base 6 "cshift" 2 [] [.p 0, .p 1, .d 0] [.int 1] F_cshift := by
  obtain ⟨f, fd, hm, F⟩ := h.f_cshift
  obtain ⟨mv, hb⟩ := kbK (ps := ["array", "shift", "dim"]) F 2 [] [("dim", .int 1)] [.p 0, .p 1, .d 0] (by simp) (by simp) (fun _ _ _ _ _ _ us ws mv h1 h2 h3 => match us, ws, mv, h1, h2, h3 with | [_, _], [], [_], _, _, _ => ⟨_, _, _, _, _, _, rfl, rfl, rfl⟩)
  exact ⟨f, fd, ["array", "shift", "dim"], _, _, hm, F.kp, hb, fun _ => (.cons (.int _) .nil), fok_cshift h c_is_between c_is_array c_check c_made c_rest_of c_lines_of c_check_spread c_spread_out F, rfl⟩
theorem fok_eoshift (h : Hd K mg) (c_is_between : Cal P w K mg base 2 "is_between" ["value", "low", "high"] F_is_between) (c_is_array : Cal P w K mg base 4 "is_array" ["value"] F_is_array) (c_check : Cal P w K mg base 1 "check" ["is_good", "part"] F_check) (c_made : Cal P w K mg base 1 "made" ["shape", "row"] F_made) (c_rest_of : Cal P w K mg base 1 "rest_of" ["shape", "dim"] F_rest_of) (c_lines_of : Cal P w K mg base 2 "lines_of" ["shape", "dim"] F_lines_of) (c_check_spread : Cal P w K mg base 5 "check_spread" ["value", "shape", "part"] F_check_spread) (c_spread_out : Cal P w K mg base 2 "spread_out" ["value", "shape"] F_spread_out) {f : Addr} {fd : FuncData} (F : FunD K "eoshift" "eoshift" (defArgs s_eoshift) (defBody s_eoshift) (defScope s_eoshift) [] [("boundary", .int 0), ("dim", .int 1)] f fd) : FnG P w K mg base 6 f fd ["array", "shift", "boundary", "dim"] (spF ⟨K, mg⟩ 4 F_eoshift) := by
  have m_enumerate := h.m_enumerate
  have m_len := h.m_len
  have m_list := h.m_list
  have m_zip := h.m_zip
  refine fok_of F sc_eoshift exitP_ok fun cdv A outer s H E hcdv hr => ?_
  have tk := takes_of (X := cxOf (L2.CX P w) P w K mg base ["array", "shift", "boundary", "dim", "shape", "found", "line", "many", "end", "at", "place"] "eoshift" (defScope s_eoshift) f cdv A outer s H E) (E := E) rfl rfl rfl rfl
  have hp := passes_of (X := cxOf (L2.CX P w) P w K mg base ["array", "shift", "boundary", "dim", "shape", "found", "line", "many", "end", "at", "place"] "eoshift" (defScope s_eoshift) f cdv A outer s H E) rfl
  exact (jb_cons (js_expr (je_call c_check (hr.mono (by decide)) tk (by rfl) (ja_cons (je_call c_is_array (hr.mono (by decide)) tk (by rfl) (ja_cons (je_var 0) ja_nil)) (ja_cons je_str ja_nil)))) (jb_cons (js_expr (je_call c_check (hr.mono (by decide)) tk (by rfl) (ja_cons (je_call c_is_between (hr.mono (by decide)) tk (by rfl) (ja_cons (je_var 3) (ja_cons je_int (ja_cons (je_callB jc_len (by rfl) m_len (by decide +kernel) (ja_cons (je_ix (je_var 0) je_int) ja_nil)) ja_nil)))) (ja_cons je_str ja_nil)))) (jb_cons (js_set 4 sc_eoshift.nd (je_call c_rest_of (hr.mono (by decide)) tk (by rfl) (ja_cons (je_ix (je_var 0) je_int) (ja_cons (je_var 3) ja_nil)))) (jb_cons (js_expr (je_call c_check_spread (hr.mono (by decide)) tk (by rfl) (ja_cons (je_var 1) (ja_cons (je_var 4) (ja_cons je_str ja_nil))))) (jb_cons (js_expr (je_call c_check_spread (hr.mono (by decide)) tk (by rfl) (ja_cons (je_var 2) (ja_cons (je_var 4) (ja_cons je_str ja_nil))))) (jb_cons (js_set 5 sc_eoshift.nd (je_callTy jc_listO (by rfl) m_list (by decide +kernel) (ja_cons (je_ix (je_var 0) je_int) ja_nil))) (jb_cons (js_if (jt_cmp (jo_eq hr.units) (je_var 5) (je_lst ja_nil)) (jb_one (js_ret (je_call c_made (hr.mono (by decide)) tk (by rfl) (ja_cons (je_ix (je_var 0) je_int) (ja_cons (je_var 5) ja_nil))))) jb_nil) (jb_cons (js_for hp rfl (ji_zip3 (by rfl) m_zip (ja_cons (je_call c_lines_of (hr.mono (by decide)) tk (by rfl) (ja_cons (je_ix (je_var 0) je_int) (ja_cons (je_var 3) ja_nil))) (ja_cons (je_call c_spread_out (hr.mono (by decide)) tk (by rfl) (ja_cons (je_var 1) (ja_cons (je_var 4) ja_nil))) (ja_cons (je_call c_spread_out (hr.mono (by decide)) tk (by rfl) (ja_cons (je_var 2) (ja_cons (je_var 4) ja_nil))) ja_nil)))) (jg_tup rfl (jgs_cons (jg_name (i := 6) sc_eoshift.nd) (jgs_cons (jg_name (i := 7) sc_eoshift.nd) (jgs_cons (jg_name (i := 8) sc_eoshift.nd) jgs_nil)))) (jb_one (js_for hp rfl (ji_enum (by rfl) m_enumerate (ja_cons (je_var 6) ja_nil)) (jg_tup rfl (jgs_cons (jg_name (i := 9) sc_eoshift.nd) (jgs_cons (jg_name (i := 10) sc_eoshift.nd) jgs_nil))) (jb_one (js_setIx (je_var 5) (je_var 10) (je_if (jt_chain jo_le jo_lt je_int (je_bin jo_add (je_var 9) (je_var 7)) (je_callB jc_len (by rfl) m_len (by decide +kernel) (ja_cons (je_var 6) ja_nil))) (je_ix (je_ix (je_var 0) je_int) (je_ix (je_var 6) (je_bin jo_add (je_var 9) (je_var 7)))) (je_var 8))))))) (jb_one (js_ret (je_call c_made (hr.mono (by decide)) tk (by rfl) (ja_cons (je_ix (je_var 0) je_int) (ja_cons (je_var 5) ja_nil)))))))))))))
theorem kck2_eoshift (h : Hd K mg) (c_is_between : Cal P w K mg base 2 "is_between" ["value", "low", "high"] F_is_between) (c_is_array : Cal P w K mg base 4 "is_array" ["value"] F_is_array) (c_check : Cal P w K mg base 1 "check" ["is_good", "part"] F_check) (c_made : Cal P w K mg base 1 "made" ["shape", "row"] F_made) (c_rest_of : Cal P w K mg base 1 "rest_of" ["shape", "dim"] F_rest_of) (c_lines_of : Cal P w K mg base 2 "lines_of" ["shape", "dim"] F_lines_of) (c_check_spread : Cal P w K mg base 5 "check_spread" ["value", "shape", "part"] F_check_spread) (c_spread_out : Cal P w K mg base 2 "spread_out" ["value", "shape"] F_spread_out) : KCal P w K mg base 6 "eoshift" 2 ["boundary", "dim"] [.p 0, .p 1, .k 0, .k 1] [] F_eoshift := by
  obtain ⟨f, fd, hm, F⟩ := h.f_eoshift
  exact ⟨f, fd, ["array", "shift", "boundary", "dim"], _, [], hm, F.kp, kbN F 2 ["boundary", "dim"] [.p 0, .p 1, .k 0, .k 1] (fun _ _ _ _ _ _ us ws h1 h2 => match us, ws, h1, h2 with | [_, _], [_, _], _, _ => rfl), fun _ => .nil, fok_eoshift h c_is_between c_is_array c_check c_made c_rest_of c_lines_of c_check_spread c_spread_out F, rfl⟩
theorem kck3_eoshift (h : Hd K mg) (c_is_between : Cal P w K mg base 2 "is_between" ["value", "low", "high"] F_is_between) (c_is_array : Cal P w K mg base 4 "is_array" ["value"] F_is_array) (c_check : Cal P w K mg base 1 "check" ["is_good", "part"] F_check) (c_made : Cal P w K mg base 1 "made" ["shape", "row"] F_made) (c_rest_of : Cal P w K mg base 1 "rest_of" ["shape", "dim"] F_rest_of) (c_lines_of : Cal P w K mg base 2 "lines_of" ["shape", "dim"] F_lines_of) (c_check_spread : Cal P w K mg base 5 "check_spread" ["value", "shape", "part"] F_check_spread) (c_spread_out : Cal P w K mg base 2 "spread_out" ["value", "shape"] F_spread_out) : KCal P w K mg base 6 "eoshift" 0 ["boundary", "dim", "shift", "array"] [.k 3, .k 2, .k 0, .k 1] [] F_eoshift := by
  obtain ⟨f, fd, hm, F⟩ := h.f_eoshift
  exact ⟨f, fd, ["array", "shift", "boundary", "dim"], _, [], hm, F.kp, kbN F 0 ["boundary", "dim", "shift", "array"] [.k 3, .k 2, .k 0, .k 1] (fun _ _ _ _ _ _ us ws h1 h2 => match us, ws, h1, h2 with | [], [_, _, _, _], _, _ => rfl), fun _ => .nil, fok_eoshift h c_is_between c_is_array c_check c_made c_rest_of c_lines_of c_check_spread c_spread_out F, rfl⟩
theorem kck4_eoshift (h : Hd K mg) (c_is_between : Cal P w K mg base 2 "is_between" ["value", "low", "high"] F_is_between) (c_is_array : Cal P w K mg base 4 "is_array" ["value"] F_is_array) (c_check : Cal P w K mg base 1 "check" ["is_good", "part"] F_check) (c_made : Cal P w K mg base 1 "made" ["shape", "row"] F_made) (c_rest_of : Cal P w K mg base 1 "rest_of" ["shape", "dim"] F_rest_of) (c_lines_of : Cal P w K mg base 2 "lines_of" ["shape", "dim"] F_lines_of) (c_check_spread : Cal P w K mg base 5 "check_spread" ["value", "shape", "part"] F_check_spread) (c_spread_out : Cal P w K mg base 2 "spread_out" ["value", "shape"] F_spread_out) : KCal P w K mg base 6 "eoshift" 2 ["dim"] [.p 0, .p 1, .d 0, .k 0] [.int 0] F_eoshift := by
  obtain ⟨f, fd, hm, F⟩ := h.f_eoshift
  obtain ⟨mv, hb⟩ := kbK (ps := ["array", "shift", "boundary", "dim"]) F 2 ["dim"] [("boundary", .int 0)] [.p 0, .p 1, .d 0, .k 0] (by simp) (by simp) (fun _ _ _ _ _ _ us ws mv h1 h2 h3 => match us, ws, mv, h1, h2, h3 with | [_, _], [_], [_], _, _, _ => ⟨_, _, _, _, _, _, rfl, rfl, rfl⟩)
  exact ⟨f, fd, ["array", "shift", "boundary", "dim"], _, _, hm, F.kp, hb, fun _ => (.cons (.int _) .nil), fok_eoshift h c_is_between c_is_array c_check c_made c_rest_of c_lines_of c_check_spread c_spread_out F, rfl⟩
theorem kck6_eoshift (h : Hd K mg) (c_is_between : Cal P w K mg base 2 "is_between" ["value", "low", "high"] F_is_between) (c_is_array : Cal P w K mg base 4 "is_array" ["value"] F_is_array) (c_check : Cal P w K mg base 1 "check" ["is_good", "part"] F_check) (c_made : Cal P w K mg base 1 "made" ["shape", "row"] F_made) (c_rest_of : Cal P w K mg base 1 "rest_of" ["shape", "dim"] F_rest_of) (c_lines_of : Cal P w K mg base 2 "lines_of" ["shape", "dim"] F_lines_of) (c_check_spread : Cal P w K mg base 5 "check_spread" ["value", "shape", "part"] F_check_spread) (c_spread_out : Cal P w K mg base 2 "spread_out" ["value", "shape"] F_spread_out) : KCal P w K mg base 6 "eoshift" 2 [] [.p 0, .p 1, .d 0, .d 1] [.int 0, .int 1] F_eoshift := by
  obtain ⟨f, fd, hm, F⟩ := h.f_eoshift
  obtain ⟨mv, hb⟩ := kbK (ps := ["array", "shift", "boundary", "dim"]) F 2 [] [("boundary", .int 0), ("dim", .int 1)] [.p 0, .p 1, .d 0, .d 1] (by simp) (by simp) (fun _ _ _ _ _ _ us ws mv h1 h2 h3 => match us, ws, mv, h1, h2, h3 with | [_, _], [], [_, _], _, _, _ => ⟨_, _, _, _, _, _, rfl, rfl, ⟨_, _, _, _, _, _, rfl, rfl, rfl⟩⟩)
  exact ⟨f, fd, ["array", "shift", "boundary", "dim"], _, _, hm, F.kp, hb, fun _ => (.cons (.int _) (.cons (.int _) .nil)), fok_eoshift h c_is_between c_is_array c_check c_made c_rest_of c_lines_of c_check_spread c_spread_out F, rfl⟩
theorem fok__law_draw (h : Hd K mg) {f : Addr} {fd : FuncData} (F : FunD K "_law_draw" "_law_draw" (defArgs s__law_draw) (defBody s__law_draw) (defScope s__law_draw) [] [] f fd) : FnG P w K mg base 1 f fd ["_law_well_here", "_law_many"] (spF ⟨K, mg⟩ 2 F__law_draw) := by
  have m_int := h.m_int
  refine fok_of F sc__law_draw exitV_ok fun cdv A outer s H E hcdv hr => ?_
  have tk := takes_of (X := cxOf (L2.CX P w) P w K mg base ["_law_well_here", "_law_many", "_law_found", "_law_base", "_law_mixed"] "_law_draw" (defScope s__law_draw) f cdv A outer s H E) (E := E) rfl rfl rfl rfl
  have hp := passes_of (X := cxOf (L2.CX P w) P w K mg base ["_law_well_here", "_law_many", "_law_found", "_law_base", "_law_mixed"] "_law_draw" (defScope s__law_draw) f cdv A outer s H E) rfl
  exact (jb_cons (js_if (jt_cmp jo_gt (je_ix (je_var 0) je_int) je_int) (jb_cons (js_set 2 sc__law_draw.nd (je_bin jo_mod (je_callTy jc_int (by rfl) m_int (by decide +kernel) (ja_cons (je_ix (je_var 0) je_int) ja_nil)) (je_var 1))) (jb_cons (js_setIx (je_var 0) je_int (je_bin jo_fdiv (je_ix (je_var 0) je_int) (je_var 1))) (jb_one (js_ret (je_var 2))))) jb_nil) (jb_cons (js_setIx (je_var 0) je_int (je_bin jo_add (je_ix (je_var 0) je_int) je_int)) (jb_cons (js_set 3 sc__law_draw.nd (je_bin jo_add (je_bin jo_add (je_bin jo_mod (je_callTy jc_int (by rfl) m_int (by decide +kernel) (ja_cons (je_ix (je_var 0) je_int) ja_nil)) je_int) (je_bin jo_mul je_int (je_ix (je_var 0) je_int))) je_int)) (jb_cons (js_set 3 sc__law_draw.nd (je_bin jo_add (je_var 3) (je_bin jo_mul (je_bin jo_mod (je_callTy jc_int (by rfl) m_int (by decide +kernel) (ja_cons (je_bin jo_fdiv (je_ix (je_var 0) je_int) je_int) ja_nil)) je_int) je_int))) (jb_cons (js_set 4 sc__law_draw.nd (je_bin jo_mod (je_callTy jc_int (by rfl) m_int (by decide +kernel) (ja_cons (je_bin jo_mul (je_var 3) je_int) ja_nil)) je_int)) (jb_cons (js_set 4 sc__law_draw.nd (je_bin jo_mod (je_callTy jc_int (by rfl) m_int (by decide +kernel) (ja_cons (je_bin jo_mul (je_var 4) (je_bin jo_add (je_bin jo_add (je_bin jo_fdiv (je_var 4) je_int) je_int) (je_ix (je_var 0) je_int))) ja_nil)) je_int)) (jb_one (js_ret (je_bin jo_mod (je_callTy jc_int (by rfl) m_int (by decide +kernel) (ja_cons (je_bin jo_fdiv (je_bin jo_mod (je_callTy jc_int (by rfl) m_int (by decide +kernel) (ja_cons (je_bin jo_mul (je_var 4) (je_bin jo_add (je_bin jo_fdiv (je_var 4) je_int) je_int)) ja_nil)) je_int) je_int) ja_nil)) (je_var 1))))))))))
theorem cal__law_draw (h : Hd K mg) : Cal P w K mg base 1 "_law_draw" ["_law_well_here", "_law_many"] F__law_draw := by
  obtain ⟨f, fd, hm, F⟩ := h.f__law_draw
  exact cal_of F hm (F.bindsN fun _ _ _ _ _ _ us hl => match us, hl with | [_, _], _ => rfl) (fok__law_draw h F)
theorem fok__law_pick (h : Hd K mg) (c__law_draw : Cal P w K mg base 1 "_law_draw" ["_law_well_here", "_law_many"] F__law_draw) {f : Addr} {fd : FuncData} (F : FunD K "_law_pick" "_law_pick" (defArgs s__law_pick) (defBody s__law_pick) (defScope s__law_pick) [] [] f fd) : FnG P w K mg base 2 f fd ["_law_well_here", "_law_some"] (spF ⟨K, mg⟩ 2 F__law_pick) := by
  have m_len := h.m_len
  refine fok_of F sc__law_pick exitV_ok fun cdv A outer s H E hcdv hr => ?_
  have tk := takes_of (X := cxOf (L2.CX P w) P w K mg base ["_law_well_here", "_law_some"] "_law_pick" (defScope s__law_pick) f cdv A outer s H E) (E := E) rfl rfl rfl rfl
  have hp := passes_of (X := cxOf (L2.CX P w) P w K mg base ["_law_well_here", "_law_some"] "_law_pick" (defScope s__law_pick) f cdv A outer s H E) rfl
  exact (jb_one (js_ret (je_ix (je_var 1) (je_call c__law_draw (hr.mono (by decide)) tk (by rfl) (ja_cons (je_var 0) (ja_cons (je_callB jc_len (by rfl) m_len (by decide +kernel) (ja_cons (je_var 1) ja_nil)) ja_nil))))))
theorem cal__law_pick (h : Hd K mg) (c__law_draw : Cal P w K mg base 1 "_law_draw" ["_law_well_here", "_law_many"] F__law_draw) : Cal P w K mg base 2 "_law_pick" ["_law_well_here", "_law_some"] F__law_pick := by
  obtain ⟨f, fd, hm, F⟩ := h.f__law_pick
  exact cal_of F hm (F.bindsN fun _ _ _ _ _ _ us hl => match us, hl with | [_, _], _ => rfl) (fok__law_pick h c__law_draw F)
theorem fok__law_shape (h : Hd K mg) (c__law_draw : Cal P w K mg base 1 "_law_draw" ["_law_well_here", "_law_many"] F__law_draw) (c__law_pick : Cal P w K mg base 2 "_law_pick" ["_law_well_here", "_law_some"] F__law_pick) {f : Addr} {fd : FuncData} (F : FunD K "_law_shape" "_law_shape" (defArgs s__law_shape) (defBody s__law_shape) (defScope s__law_shape) [] [] f fd) : FnG P w K mg base 3 f fd ["_law_well_here", "_law_most", "_law_room"] (spF ⟨K, mg⟩ 3 F__law_shape) := by
  have m_int := h.m_int
  have m_min := h.m_min
  have m_range := h.m_range
  have m_tuple := h.m_tuple
  refine fok_of F sc__law_shape exitV_ok fun cdv A outer s H E hcdv hr => ?_
  have tk := takes_of (X := cxOf (L2.CX P w) P w K mg base ["_law_well_here", "_law_most", "_law_room", "_law_found", "_law_turn", "_law_extent"] "_law_shape" (defScope s__law_shape) f cdv A outer s H E) (E := E) rfl rfl rfl rfl
  have hp := passes_of (X := cxOf (L2.CX P w) P w K mg base ["_law_well_here", "_law_most", "_law_room", "_law_found", "_law_turn", "_law_extent"] "_law_shape" (defScope s__law_shape) f cdv A outer s H E) rfl
  exact (jb_cons (js_set 3 sc__law_shape.nd (je_own ja_nil)) (jb_cons (js_for hp rfl (ji_rng1 (by rfl) m_range (ja_cons (je_call c__law_draw (hr.mono (by decide)) tk (by rfl) (ja_cons (je_var 0) (ja_cons (je_bin jo_add (je_var 1) je_int) ja_nil))) ja_nil)) (jg_name (i := 4) sc__law_shape.nd) (jb_cons (js_set 5 sc__law_shape.nd (je_bin jo_add je_int (je_call c__law_draw (hr.mono (by decide)) tk (by rfl) (ja_cons (je_var 0) (ja_cons (je_callB (jc_min2 rfl) (by rfl) m_min (by decide +kernel) (ja_cons (je_var 2) (ja_cons (je_call c__law_pick (hr.mono (by decide)) tk (by rfl) (ja_cons (je_var 0) (ja_cons (je_lst (ja_cons je_int (ja_cons je_int (ja_cons je_int (ja_cons je_int (ja_cons je_int ja_nil)))))) ja_nil))) ja_nil))) ja_nil))))) (jb_cons (js_set 2 sc__law_shape.nd (je_bin jo_fdiv (je_var 2) (je_var 5))) (jb_one (js_append (je_var 3) (je_bin jo_mul (je_var 5) (je_callTy jc_int (by rfl) m_int (by decide +kernel) (ja_cons (je_cmp jo_gt (je_call c__law_draw (hr.mono (by decide)) tk (by rfl) (ja_cons (je_var 0) (ja_cons je_int ja_nil))) je_int) ja_nil)))))))) (jb_one (js_ret (je_callTy jc_tuple (by rfl) m_tuple (by decide +kernel) (ja_cons (je_var 3) ja_nil))))))
theorem cal__law_shape (h : Hd K mg) (c__law_draw : Cal P w K mg base 1 "_law_draw" ["_law_well_here", "_law_many"] F__law_draw) (c__law_pick : Cal P w K mg base 2 "_law_pick" ["_law_well_here", "_law_some"] F__law_pick) : Cal P w K mg base 3 "_law_shape" ["_law_well_here", "_law_most", "_law_room"] F__law_shape := by
  obtain ⟨f, fd, hm, F⟩ := h.f__law_shape
  exact cal_of F hm (F.bindsN fun _ _ _ _ _ _ us hl => match us, hl with | [_, _, _], _ => rfl) (fok__law_shape h c__law_draw c__law_pick F)
theorem fok__law_size_of (h : Hd K mg) {f : Addr} {fd : FuncData} (F : FunD K "_law_size_of" "_law_size_of" (defArgs s__law_size_of) (defBody s__law_size_of) (defScope s__law_size_of) [] [] f fd) : FnG P w K mg base 1 f fd ["_law_form"] (spF ⟨K, mg⟩ 1 F__law_size_of) := by
  refine fok_of F sc__law_size_of exitV_ok fun cdv A outer s H E hcdv hr => ?_
  have tk := takes_of (X := cxOf (L2.CX P w) P w K mg base ["_law_form", "_law_found", "_law_extent"] "_law_size_of" (defScope s__law_size_of) f cdv A outer s H E) (E := E) rfl rfl rfl rfl
  have hp := passes_of (X := cxOf (L2.CX P w) P w K mg base ["_law_form", "_law_found", "_law_extent"] "_law_size_of" (defScope s__law_size_of) f cdv A outer s H E) rfl
  exact (jb_cons (js_set 1 sc__law_size_of.nd je_int) (jb_cons (js_for hp rfl (ji_seq (je_var 0)) (jg_name (i := 2) sc__law_size_of.nd) (jb_one (js_set 1 sc__law_size_of.nd (je_bin jo_mul (je_var 1) (je_var 2))))) (jb_one (js_ret (je_var 1)))))
theorem cal__law_size_of (h : Hd K mg) : Cal P w K mg base 1 "_law_size_of" ["_law_form"] F__law_size_of := by
  obtain ⟨f, fd, hm, F⟩ := h.f__law_size_of
  exact cal_of F hm (F.bindsN fun _ _ _ _ _ _ us hl => match us, hl with | [_], _ => rfl) (fok__law_size_of h F)
theorem fok__law_number (h : Hd K mg) (c__law_draw : Cal P w K mg base 1 "_law_draw" ["_law_well_here", "_law_many"] F__law_draw) (c__law_pick : Cal P w K mg base 2 "_law_pick" ["_law_well_here", "_law_some"] F__law_pick) {f : Addr} {fd : FuncData} (F : FunD K "_law_number" "_law_number" (defArgs s__law_number) (defBody s__law_number) (defScope s__law_number) [] [] f fd) : FnG P w K mg base 3 f fd ["_law_well_here"] (spF ⟨K, mg⟩ 1 F__law_number) := by
  refine fok_of F sc__law_number exitV_ok fun cdv A outer s H E hcdv hr => ?_
  have tk := takes_of (X := cxOf (L2.CX P w) P w K mg base ["_law_well_here"] "_law_number" (defScope s__law_number) f cdv A outer s H E) (E := E) rfl rfl rfl rfl
  have hp := passes_of (X := cxOf (L2.CX P w) P w K mg base ["_law_well_here"] "_law_number" (defScope s__law_number) f cdv A outer s H E) rfl
  exact (jb_one (js_ret (je_call c__law_pick (hr.mono (by decide)) tk (by rfl) (ja_cons (je_var 0) (ja_cons (je_lst (ja_cons je_int (ja_cons je_int (ja_cons je_int (ja_cons je_int (ja_cons (je_neg je_int) (ja_cons je_int (ja_cons (je_bin jo_pow je_int je_int) (ja_cons (je_call c__law_draw (hr.mono (by decide)) tk (by rfl) (ja_cons (je_var 0) (ja_cons je_int ja_nil))) (ja_cons (je_bin jo_sub (je_call c__law_draw (hr.mono (by decide)) tk (by rfl) (ja_cons (je_var 0) (ja_cons je_int ja_nil))) je_int) ja_nil)))))))))) ja_nil)))))
theorem cal__law_number (h : Hd K mg) (c__law_draw : Cal P w K mg base 1 "_law_draw" ["_law_well_here", "_law_many"] F__law_draw) (c__law_pick : Cal P w K mg base 2 "_law_pick" ["_law_well_here", "_law_some"] F__law_pick) : Cal P w K mg base 3 "_law_number" ["_law_well_here"] F__law_number := by
  obtain ⟨f, fd, hm, F⟩ := h.f__law_number
  exact cal_of F hm (F.bindsN fun _ _ _ _ _ _ us hl => match us, hl with | [_], _ => rfl) (fok__law_number h c__law_draw c__law_pick F)
theorem fok__law_array (h : Hd K mg) (c__law_size_of : Cal P w K mg base 1 "_law_size_of" ["_law_form"] F__law_size_of) (c__law_number : Cal P w K mg base 3 "_law_number" ["_law_well_here"] F__law_number) {f : Addr} {fd : FuncData} (F : FunD K "_law_array" "_law_array" (defArgs s__law_array) (defBody s__law_array) (defScope s__law_array) [] [] f fd) : FnG P w K mg base 4 f fd ["_law_well_here", "_law_form"] (spF ⟨K, mg⟩ 2 F__law_array) := by
  have m_range := h.m_range
  refine fok_of F sc__law_array exitV_ok fun cdv A outer s H E hcdv hr => ?_
  have tk := takes_of (X := cxOf (L2.CX P w) P w K mg base ["_law_well_here", "_law_form", "_law_turn"] "_law_array" (defScope s__law_array) f cdv A outer s H E) (E := E) rfl rfl rfl rfl
  have hp := passes_of (X := cxOf (L2.CX P w) P w K mg base ["_law_well_here", "_law_form", "_law_turn"] "_law_array" (defScope s__law_array) f cdv A outer s H E) rfl
  exact (jb_one (js_ret (je_tup (ja_cons (je_var 1) (ja_cons (je_lc [("_law_turn", 2)] rfl sc__law_array.nd (ji_rng1 (by rfl) m_range (ja_cons (je_call c__law_size_of (hr.mono (by decide)) tk (by rfl) (ja_cons (je_var 1) ja_nil)) ja_nil)) (blkOk_by (by kernel_rfl)) (fun _ _ _ _ _ => (jg_name (i := 2) sc__law_array.nd)) (by decide) test_no (fun _ _ _ _ _ => (je_call c__law_number (hr.mono (by decide)) takes0 (by rfl) (ja_cons (je_var 0) ja_nil)))) ja_nil)))))
theorem cal__law_array (h : Hd K mg) (c__law_size_of : Cal P w K mg base 1 "_law_size_of" ["_law_form"] F__law_size_of) (c__law_number : Cal P w K mg base 3 "_law_number" ["_law_well_here"] F__law_number) : Cal P w K mg base 4 "_law_array" ["_law_well_here", "_law_form"] F__law_array := by
  obtain ⟨f, fd, hm, F⟩ := h.f__law_array
  exact cal_of F hm (F.bindsN fun _ _ _ _ _ _ us hl => match us, hl with | [_, _], _ => rfl) (fok__law_array h c__law_size_of c__law_number F)
theorem fok__law_shift (h : Hd K mg) (c__law_draw : Cal P w K mg base 1 "_law_draw" ["_law_well_here", "_law_many"] F__law_draw) (c__law_pick : Cal P w K mg base 2 "_law_pick" ["_law_well_here", "_law_some"] F__law_pick) (c__law_size_of : Cal P w K mg base 1 "_law_size_of" ["_law_form"] F__law_size_of) {f : Addr} {fd : FuncData} (F : FunD K "_law_shift" "_law_shift" (defArgs s__law_shift) (defBody s__law_shift) (defScope s__law_shift) [] [] f fd) : FnG P w K mg base 3 f fd ["_law_well_here", "_law_form"] (spF ⟨K, mg⟩ 2 F__law_shift) := by
  have m_range := h.m_range
  refine fok_of F sc__law_shift exitV_ok fun cdv A outer s H E hcdv hr => ?_
  have tk := takes_of (X := cxOf (L2.CX P w) P w K mg base ["_law_well_here", "_law_form", "_law_far", "_law_turn"] "_law_shift" (defScope s__law_shift) f cdv A outer s H E) (E := E) rfl rfl rfl rfl
  have hp := passes_of (X := cxOf (L2.CX P w) P w K mg base ["_law_well_here", "_law_form", "_law_far", "_law_turn"] "_law_shift" (defScope s__law_shift) f cdv A outer s H E) rfl
  exact (jb_cons (js_set 2 sc__law_shift.nd (je_lst (ja_cons je_int (ja_cons je_int (ja_cons (je_neg je_int) (ja_cons je_int (ja_cons (je_neg je_int) (ja_cons je_int (ja_cons (je_bin jo_pow je_int je_int) (ja_cons (je_bin jo_sub (je_bin jo_sub je_int (je_bin jo_pow je_int je_int)) je_int) (ja_cons (je_bin jo_sub (je_call c__law_draw (hr.mono (by decide)) tk (by rfl) (ja_cons (je_var 0) (ja_cons je_int ja_nil))) je_int) ja_nil))))))))))) (jb_cons (js_if (jt_cmp (jo_eq hr.units) (je_call c__law_draw (hr.mono (by decide)) tk (by rfl) (ja_cons (je_var 0) (ja_cons je_int ja_nil))) je_int) (jb_one (js_ret (je_call c__law_pick (hr.mono (by decide)) tk (by rfl) (ja_cons (je_var 0) (ja_cons (je_var 2) ja_nil))))) jb_nil) (jb_one (js_ret (je_tup (ja_cons (je_var 1) (ja_cons (je_lc [("_law_turn", 3)] rfl sc__law_shift.nd (ji_rng1 (by rfl) m_range (ja_cons (je_call c__law_size_of (hr.mono (by decide)) tk (by rfl) (ja_cons (je_var 1) ja_nil)) ja_nil)) (blkOk_by (by kernel_rfl)) (fun _ _ _ _ _ => (jg_name (i := 3) sc__law_shift.nd)) (by decide) test_no (fun _ _ _ _ _ => (je_call c__law_pick (hr.mono (by decide)) takes0 (by rfl) (ja_cons (je_var 0) (ja_cons (je_var 2) ja_nil))))) ja_nil)))))))
theorem cal__law_shift (h : Hd K mg) (c__law_draw : Cal P w K mg base 1 "_law_draw" ["_law_well_here", "_law_many"] F__law_draw) (c__law_pick : Cal P w K mg base 2 "_law_pick" ["_law_well_here", "_law_some"] F__law_pick) (c__law_size_of : Cal P w K mg base 1 "_law_size_of" ["_law_form"] F__law_size_of) : Cal P w K mg base 3 "_law_shift" ["_law_well_here", "_law_form"] F__law_shift := by
  obtain ⟨f, fd, hm, F⟩ := h.f__law_shift
  exact cal_of F hm (F.bindsN fun _ _ _ _ _ _ us hl => match us, hl with | [_, _], _ => rfl) (fok__law_shift h c__law_draw c__law_pick c__law_size_of F)
theorem fok__law_counted (h : Hd K mg) (c__law_size_of : Cal P w K mg base 1 "_law_size_of" ["_law_form"] F__law_size_of) {f : Addr} {fd : FuncData} (F : FunD K "_law_counted" "_law_counted" (defArgs s__law_counted) (defBody s__law_counted) (defScope s__law_counted) [] [] f fd) : FnG P w K mg base 2 f fd ["_law_form", "_law_order"] (spF ⟨K, mg⟩ 2 F__law_counted) := by
  have m_len := h.m_len
  have m_range := h.m_range
  have m_tuple := h.m_tuple
  refine fok_of F sc__law_counted exitV_ok fun cdv A outer s H E hcdv hr => ?_
  have tk := takes_of (X := cxOf (L2.CX P w) P w K mg base ["_law_form", "_law_order", "_law_found", "_law_now", "_law_turn", "_law_is_on", "_law_axis"] "_law_counted" (defScope s__law_counted) f cdv A outer s H E) (E := E) rfl rfl rfl rfl
  have hp := passes_of (X := cxOf (L2.CX P w) P w K mg base ["_law_form", "_law_order", "_law_found", "_law_now", "_law_turn", "_law_is_on", "_law_axis"] "_law_counted" (defScope s__law_counted) f cdv A outer s H E) rfl
  exact (jb_cons (js_par 2 3 rfl sc__law_counted.nd (ja_cons (je_own ja_nil) (ja_cons (je_bin jo_rep (je_lst (ja_cons je_int ja_nil)) (je_callB jc_len (by rfl) m_len (by decide +kernel) (ja_cons (je_var 0) ja_nil))) ja_nil))) (jb_cons (js_for hp rfl (ji_rng1 (by rfl) m_range (ja_cons (je_call c__law_size_of (hr.mono (by decide)) tk (by rfl) (ja_cons (je_var 0) ja_nil)) ja_nil)) (jg_name (i := 4) sc__law_counted.nd) (jb_cons (js_append (je_var 2) (je_callTy jc_tuple (by rfl) m_tuple (by decide +kernel) (ja_cons (je_var 3) ja_nil))) (jb_cons (js_set 5 sc__law_counted.nd je_bl) (jb_one (js_for hp rfl (ji_seq (je_var 1)) (jg_name (i := 6) sc__law_counted.nd) (jb_one (js_if (JW.pt (jw_and (jt_val (je_var 5)) (jw_and1 (jt_cmp jo_lt (je_ix (je_var 3) (je_bin jo_sub (je_var 6) je_int)) (je_ix (je_var 0) (je_bin jo_sub (je_var 6) je_int)))))) (jb_cons (js_setIx (je_var 3) (je_bin jo_sub (je_var 6) je_int) (je_bin jo_add (je_ix (je_var 3) (je_bin jo_sub (je_var 6) je_int)) je_int)) (jb_one (js_set 5 sc__law_counted.nd je_bl))) (jb_one (js_if (jt_val (je_var 5)) (jb_one (js_setIx (je_var 3) (je_bin jo_sub (je_var 6) je_int) je_int)) jb_nil))))))))) (jb_one (js_ret (je_var 2)))))
theorem cal__law_counted (h : Hd K mg) (c__law_size_of : Cal P w K mg base 1 "_law_size_of" ["_law_form"] F__law_size_of) : Cal P w K mg base 2 "_law_counted" ["_law_form", "_law_order"] F__law_counted := by
  obtain ⟨f, fd, hm, F⟩ := h.f__law_counted
  exact cal_of F hm (F.bindsN fun _ _ _ _ _ _ us hl => match us, hl with | [_, _], _ => rfl) (fok__law_counted h c__law_size_of F)
theorem fok__law_all (h : Hd K mg) (c__law_counted : Cal P w K mg base 2 "_law_counted" ["_law_form", "_law_order"] F__law_counted) {f : Addr} {fd : FuncData} (F : FunD K "_law_all" "_law_all" (defArgs s__law_all) (defBody s__law_all) (defScope s__law_all) [] [] f fd) : FnG P w K mg base 3 f fd ["_law_form"] (spF ⟨K, mg⟩ 1 F__law_all) := by
  have m_len := h.m_len
  have m_range := h.m_range
  refine fok_of F sc__law_all exitV_ok fun cdv A outer s H E hcdv hr => ?_
  have tk := takes_of (X := cxOf (L2.CX P w) P w K mg base ["_law_form", "_law_k"] "_law_all" (defScope s__law_all) f cdv A outer s H E) (E := E) rfl rfl rfl rfl
  have hp := passes_of (X := cxOf (L2.CX P w) P w K mg base ["_law_form", "_law_k"] "_law_all" (defScope s__law_all) f cdv A outer s H E) rfl
  exact (jb_one (js_ret (je_call c__law_counted (hr.mono (by decide)) tk (by rfl) (ja_cons (je_var 0) (ja_cons (je_lc [("_law_k", 1)] rfl sc__law_all.nd (ji_rng1 (by rfl) m_range (ja_cons (je_callB jc_len (by rfl) m_len (by decide +kernel) (ja_cons (je_var 0) ja_nil)) ja_nil)) (blkOk_by (by kernel_rfl)) (fun _ _ _ _ _ => (jg_name (i := 1) sc__law_all.nd)) (by decide) test_no (fun _ _ _ _ _ => (je_bin jo_add (je_var 1) je_int))) ja_nil)))))
theorem cal__law_all (h : Hd K mg) (c__law_counted : Cal P w K mg base 2 "_law_counted" ["_law_form", "_law_order"] F__law_counted) : Cal P w K mg base 3 "_law_all" ["_law_form"] F__law_all := by
  obtain ⟨f, fd, hm, F⟩ := h.f__law_all
  exact cal_of F hm (F.bindsN fun _ _ _ _ _ _ us hl => match us, hl with | [_], _ => rfl) (fok__law_all h c__law_counted F)
theorem fok__law_table (h : Hd K mg) (c__law_all : Cal P w K mg base 3 "_law_all" ["_law_form"] F__law_all) {f : Addr} {fd : FuncData} (F : FunD K "_law_table" "_law_table" (defArgs s__law_table) (defBody s__law_table) (defScope s__law_table) [] [] f fd) : FnG P w K mg base 4 f fd ["_law_thing"] (spF ⟨K, mg⟩ 1 F__law_table) := by
  have m_dict := h.m_dict
  have m_list := h.m_list
  have m_zip := h.m_zip
  refine fok_of F sc__law_table exitV_ok fun cdv A outer s H E hcdv hr => ?_
  have tk := takes_of (X := cxOf (L2.CX P w) P w K mg base ["_law_thing"] "_law_table" (defScope s__law_table) f cdv A outer s H E) (E := E) rfl rfl rfl rfl
  have hp := passes_of (X := cxOf (L2.CX P w) P w K mg base ["_law_thing"] "_law_table" (defScope s__law_table) f cdv A outer s H E) rfl
  exact (jb_one (js_ret (je_callTy (jc_dictT rfl hr.units2) (by rfl) m_dict (by decide +kernel) (ja_cons (je_listZip rfl (by rfl) m_list (by rfl) m_zip (ja_cons (je_call c__law_all (hr.mono (by decide)) tk (by rfl) (ja_cons (je_ix (je_var 0) je_int) ja_nil)) (ja_cons (je_ix (je_var 0) je_int) ja_nil))) ja_nil))))
theorem cal__law_table (h : Hd K mg) (c__law_all : Cal P w K mg base 3 "_law_all" ["_law_form"] F__law_all) : Cal P w K mg base 4 "_law_table" ["_law_thing"] F__law_table := by
  obtain ⟨f, fd, hm, F⟩ := h.f__law_table
  exact cal_of F hm (F.bindsN fun _ _ _ _ _ _ us hl => match us, hl with | [_], _ => rfl) (fok__law_table h c__law_all F)
theorem fok__law_of (h : Hd K mg) (c__law_table : Cal P w K mg base 4 "_law_table" ["_law_thing"] F__law_table) {f : Addr} {fd : FuncData} (F : FunD K "_law_of" "_law_of" (defArgs s__law_of) (defBody s__law_of) (defScope s__law_of) [] [] f fd) : FnG P w K mg base 5 f fd ["_law_thing", "_law_spot"] (spF ⟨K, mg⟩ 2 F__law_of) := by
  have m_int := h.m_int
  have m_isinstance := h.m_isinstance
  refine fok_of F sc__law_of exitV_ok fun cdv A outer s H E hcdv hr => ?_
  have tk := takes_of (X := cxOf (L2.CX P w) P w K mg base ["_law_thing", "_law_spot"] "_law_of" (defScope s__law_of) f cdv A outer s H E) (E := E) rfl rfl rfl rfl
  have hp := passes_of (X := cxOf (L2.CX P w) P w K mg base ["_law_thing", "_law_spot"] "_law_of" (defScope s__law_of) f cdv A outer s H E) rfl
  exact (jb_one (js_ret (je_if (jt_val (je_isi tab_int (by rfl) m_isinstance (by rfl) m_int (by decide +kernel) (je_var 0))) (je_var 0) (je_dixT hr.units1 (je_call c__law_table (hr.mono (by decide)) tk (by rfl) (ja_cons (je_var 0) ja_nil)) (je_var 1)))))
theorem cal__law_of (h : Hd K mg) (c__law_table : Cal P w K mg base 4 "_law_table" ["_law_thing"] F__law_table) : Cal P w K mg base 5 "_law_of" ["_law_thing", "_law_spot"] F__law_of := by
  obtain ⟨f, fd, hm, F⟩ := h.f__law_of
  exact cal_of F hm (F.bindsN fun _ _ _ _ _ _ us hl => match us, hl with | [_, _], _ => rfl) (fok__law_of h c__law_table F)
theorem fok__law_due (h : Hd K mg) (c__law_all : Cal P w K mg base 3 "_law_all" ["_law_form"] F__law_all) (c__law_table : Cal P w K mg base 4 "_law_table" ["_law_thing"] F__law_table) (c__law_of : Cal P w K mg base 5 "_law_of" ["_law_thing", "_law_spot"] F__law_of) {f : Addr} {fd : FuncData} (F : FunD K "_law_due" "_law_due" (defArgs s__law_due) (defBody s__law_due) (defScope s__law_due) [] [] f fd) : FnG P w K mg base 6 f fd ["_law_own", "_law_shifts", "_law_ends", "_law_axis"] (spF ⟨K, mg⟩ 4 F__law_due) := by
  have m_int := h.m_int
  refine fok_of F sc__law_due exitV_ok fun cdv A outer s H E hcdv hr => ?_
  have tk := takes_of (X := cxOf (L2.CX P w) P w K mg base ["_law_own", "_law_shifts", "_law_ends", "_law_axis", "_law_table_here", "_law_found", "_law_extent", "_law_moves", "_law_spot", "_law_many", "_law_end", "_law_at", "_law_whole"] "_law_due" (defScope s__law_due) f cdv A outer s H E) (E := E) rfl rfl rfl rfl
  have hp := passes_of (X := cxOf (L2.CX P w) P w K mg base ["_law_own", "_law_shifts", "_law_ends", "_law_axis", "_law_table_here", "_law_found", "_law_extent", "_law_moves", "_law_spot", "_law_many", "_law_end", "_law_at", "_law_whole"] "_law_due" (defScope s__law_due) f cdv A outer s H E) rfl
  exact (jb_cons (js_par3 4 5 6 rfl sc__law_due.nd (ja_cons (je_call c__law_table (hr.mono (by decide)) tk (by rfl) (ja_cons (je_var 0) ja_nil)) (ja_cons (je_own ja_nil) (ja_cons (je_ix (je_ix (je_var 0) je_int) (je_bin jo_sub (je_var 3) je_int)) ja_nil)))) (jb_cons (js_set 7 sc__law_due.nd je_dnewT) (jb_cons (js_for hp rfl (ji_seq (je_call c__law_all (hr.mono (by decide)) tk (by rfl) (ja_cons (je_bin jo_add (je_slice (je_ix (je_var 0) je_int) jp_none (jp_some (je_bin jo_sub (je_var 3) je_int))) (je_slice (je_ix (je_var 0) je_int) (jp_some (je_var 3)) jp_none)) ja_nil))) (jg_name (i := 8) sc__law_due.nd) (jb_one (js_dputT hr.units1 (je_var 7) (je_var 8) (je_tup (ja_cons (je_call c__law_of (hr.mono (by decide)) tk (by rfl) (ja_cons (je_var 1) (ja_cons (je_var 8) ja_nil))) (ja_cons (je_if (jt_cmp jo_isN (je_var 2) je_non) je_non (je_call c__law_of (hr.mono (by decide)) tk (by rfl) (ja_cons (je_var 2) (ja_cons (je_var 8) ja_nil)))) ja_nil)))))) (jb_cons (js_for hp rfl (ji_seq (je_call c__law_all (hr.mono (by decide)) tk (by rfl) (ja_cons (je_ix (je_var 0) je_int) ja_nil))) (jg_name (i := 8) sc__law_due.nd) (jb_cons (js_asg (je_dixTO hr.units1 (je_var 7) (je_bin jo_add (je_slice (je_var 8) jp_none (jp_some (je_bin jo_sub (je_var 3) je_int))) (je_slice (je_var 8) (jp_some (je_var 3)) jp_none))) (jg_tup rfl (jgs_cons (jg_name (i := 9) sc__law_due.nd) (jgs_cons (jg_name (i := 10) sc__law_due.nd) jgs_nil)))) (jb_cons (js_set 11 sc__law_due.nd (je_bin jo_add (je_ix (je_var 8) (je_bin jo_sub (je_var 3) je_int)) (je_var 9))) (jb_cons (js_if (jt_cmp jo_isN (je_var 2) je_non) (jb_one (js_set 11 sc__law_due.nd (je_bin jo_add (je_bin jo_mod (je_callTy jc_int (by rfl) m_int (by decide +kernel) (ja_cons (je_bin jo_sub (je_var 11) je_int) ja_nil)) (je_var 6)) je_int))) jb_nil) (jb_cons (js_set 12 sc__law_due.nd (je_bin jo_add (je_bin jo_add (je_slice (je_var 8) jp_none (jp_some (je_bin jo_sub (je_var 3) je_int))) (je_tup (ja_cons (je_var 11) ja_nil))) (je_slice (je_var 8) (jp_some (je_var 3)) jp_none))) (jb_one (js_append (je_var 5) (je_if (jt_chain jo_le jo_le je_int (je_var 11) (je_var 6)) (je_dixT hr.units1 (je_var 4) (je_var 12)) (je_var 10))))))))) (jb_frz 5 (jb_one (js_ret (je_tup (ja_cons (je_ix (je_var 0) je_int) (ja_cons (je_var 5) ja_nil))))))))))
theorem cal__law_due (h : Hd K mg) (c__law_all : Cal P w K mg base 3 "_law_all" ["_law_form"] F__law_all) (c__law_table : Cal P w K mg base 4 "_law_table" ["_law_thing"] F__law_table) (c__law_of : Cal P w K mg base 5 "_law_of" ["_law_thing", "_law_spot"] F__law_of) : Cal P w K mg base 6 "_law_due" ["_law_own", "_law_shifts", "_law_ends", "_law_axis"] F__law_due := by
  obtain ⟨f, fd, hm, F⟩ := h.f__law_due
  exact cal_of F hm (F.bindsN fun _ _ _ _ _ _ us hl => match us, hl with | [_, _, _, _], _ => rfl) (fok__law_due h c__law_all c__law_table c__law_of F)
theorem fok__law_right (h : Hd K mg) (c__law_draw : Cal P w K mg base 1 "_law_draw" ["_law_well_here", "_law_many"] F__law_draw) (c__law_shape : Cal P w K mg base 3 "_law_shape" ["_law_well_here", "_law_most", "_law_room"] F__law_shape) (c__law_array : Cal P w K mg base 4 "_law_array" ["_law_well_here", "_law_form"] F__law_array) (c__law_shift : Cal P w K mg base 3 "_law_shift" ["_law_well_here", "_law_form"] F__law_shift) (c__law_due : Cal P w K mg base 6 "_law_due" ["_law_own", "_law_shifts", "_law_ends", "_law_axis"] F__law_due) (ck0_cshift : KCal P w K mg base 6 "cshift" 2 ["dim"] [.p 0, .p 1, .k 0] [] F_cshift) (ck1_cshift : KCal P w K mg base 6 "cshift" 0 ["dim", "shift", "array"] [.k 2, .k 1, .k 0] [] F_cshift) (ck2_eoshift : KCal P w K mg base 6 "eoshift" 2 ["boundary", "dim"] [.p 0, .p 1, .k 0, .k 1] [] F_eoshift) (ck3_eoshift : KCal P w K mg base 6 "eoshift" 0 ["boundary", "dim", "shift", "array"] [.k 3, .k 2, .k 0, .k 1] [] F_eoshift) (ck4_eoshift : KCal P w K mg base 6 "eoshift" 2 ["dim"] [.p 0, .p 1, .d 0, .k 0] [.int 0] F_eoshift) (ck5_cshift : KCal P w K mg base 6 "cshift" 2 [] [.p 0, .p 1, .d 0] [.int 1] F_cshift) (ck6_eoshift : KCal P w K mg base 6 "eoshift" 2 [] [.p 0, .p 1, .d 0, .d 1] [.int 0, .int 1] F_eoshift) {f : Addr} {fd : FuncData} (F : FunD K "_law_right" "_law_right" (defArgs s__law_right) (defBody s__law_right) (defScope s__law_right) [] [] f fd) : FnG P w K mg base 7 f fd ["_law_well_here"] (spF ⟨K, mg⟩ 1 F__law_right) := by
  have m_int := h.m_int
  have m_isinstance := h.m_isinstance
  have m_len := h.m_len
  have m_list := h.m_list
  have m_range := h.m_range
  refine fok_of F sc__law_right exitV_ok fun cdv A outer s H E hcdv hr => ?_
  have tk := takes_of (X := cxOf (L2.CX P w) P w K mg base ["_law_well_here", "_law_own", "_law_axis", "_law_rest", "_law_shifts", "_law_ends", "_law_told", "_law_gone", "_law_back", "_law_one", "_law_other", "_law_saved", "_law_same"] "_law_right" (defScope s__law_right) f cdv A outer s H E) (E := E) rfl rfl rfl rfl
  have hp := passes_of (X := cxOf (L2.CX P w) P w K mg base ["_law_well_here", "_law_own", "_law_axis", "_law_rest", "_law_shifts", "_law_ends", "_law_told", "_law_gone", "_law_back", "_law_one", "_law_other", "_law_saved", "_law_same"] "_law_right" (defScope s__law_right) f cdv A outer s H E) rfl
  exact (jb_cons (js_set 1 sc__law_right.nd (je_call c__law_array (hr.mono (by decide)) tk (by rfl) (ja_cons (je_var 0) (ja_cons (je_call c__law_shape (hr.mono (by decide)) tk (by rfl) (ja_cons (je_var 0) (ja_cons je_int (ja_cons je_int ja_nil)))) ja_nil)))) (jb_cons (js_for hp rfl (ji_rng2 (by rfl) m_range (ja_cons je_int (ja_cons (je_bin jo_add (je_callB jc_len (by rfl) m_len (by decide +kernel) (ja_cons (je_ix (je_var 1) je_int) ja_nil)) je_int) ja_nil))) (jg_name (i := 2) sc__law_right.nd) (jb_cons (js_set 3 sc__law_right.nd (je_bin jo_add (je_slice (je_ix (je_var 1) je_int) jp_none (jp_some (je_bin jo_sub (je_var 2) je_int))) (je_slice (je_ix (je_var 1) je_int) (jp_some (je_var 2)) jp_none))) (jb_cons (js_par 4 5 rfl sc__law_right.nd (ja_cons (je_call c__law_shift (hr.mono (by decide)) tk (by rfl) (ja_cons (je_var 0) (ja_cons (je_var 3) ja_nil))) (ja_cons (je_call c__law_shift (hr.mono (by decide)) tk (by rfl) (ja_cons (je_var 0) (ja_cons (je_var 3) ja_nil))) ja_nil))) (jb_cons (js_set 6 sc__law_right.nd (je_fz (je_callK ck0_cshift (hr.mono (by decide)) tk (by rfl) (ja_cons (je_var 1) (ja_cons (je_var 4) ja_nil)) (jk_cons (je_var 2) jk_nil)))) (jb_cons (js_if (JW.pt (jw_or (jt_cmp (jo_ne hr.units) (je_var 6) (je_call c__law_due (hr.mono (by decide)) tk (by rfl) (ja_cons (je_var 1) (ja_cons (je_var 4) (ja_cons je_non (ja_cons (je_var 2) ja_nil)))))) (jw_or1 (jt_cmp (jo_ne hr.units) (je_fz (je_callK0 ck1_cshift (hr.mono (by decide)) tk (by rfl) (jk_cons (je_var 2) (jk_cons (je_var 4) (jk_cons (je_var 1) jk_nil))))) (je_var 6))))) (jb_one (js_ret je_bl)) jb_nil) (jb_cons (js_set 7 sc__law_right.nd (je_fz (je_callK ck2_eoshift (hr.mono (by decide)) tk (by rfl) (ja_cons (je_var 1) (ja_cons (je_var 4) ja_nil)) (jk_cons (je_var 5) (jk_cons (je_var 2) jk_nil))))) (jb_cons (js_if (jt_cmp (jo_ne hr.units) (je_var 7) (je_call c__law_due (hr.mono (by decide)) tk (by rfl) (ja_cons (je_var 1) (ja_cons (je_var 4) (ja_cons (je_var 5) (ja_cons (je_var 2) ja_nil)))))) (jb_one (js_ret je_bl)) jb_nil) (jb_cons (js_if (jt_cmp (jo_ne hr.units) (je_fz (je_callK0 ck3_eoshift (hr.mono (by decide)) tk (by rfl) (jk_cons (je_var 5) (jk_cons (je_var 2) (jk_cons (je_var 4) (jk_cons (je_var 1) jk_nil)))))) (je_var 7)) (jb_one (js_ret je_bl)) jb_nil) (jb_cons (js_set 8 sc__law_right.nd (je_if (jt_val (je_isi tab_int (by rfl) m_isinstance (by rfl) m_int (by decide +kernel) (je_var 4))) (je_bin jo_sub je_int (je_var 4)) (je_tup (ja_cons (je_var 3) (ja_cons (je_lc [("_law_one", 9)] rfl sc__law_right.nd (ji_seq (je_ix (je_var 4) je_int)) (blkOk_by (by kernel_rfl)) (fun _ _ _ _ _ => (jg_name (i := 9) sc__law_right.nd)) (by decide) test_no (fun _ _ _ _ _ => (je_bin jo_sub je_int (je_var 9)))) ja_nil))))) (jb_cons (js_if (JW.pt (jw_or (jt_cmp (jo_ne hr.units) (je_fz (je_callK ck0_cshift (hr.mono (by decide)) tk (by rfl) (ja_cons (je_var 6) (ja_cons (je_var 8) ja_nil)) (jk_cons (je_var 2) jk_nil))) (je_var 1)) (jw_or1 (jt_cmp (jo_ne hr.units) (je_fz (je_callK ck0_cshift (hr.mono (by decide)) tk (by rfl) (ja_cons (je_var 1) (ja_cons (je_ix (je_ix (je_var 1) je_int) (je_bin jo_sub (je_var 2) je_int)) ja_nil)) (jk_cons (je_var 2) jk_nil))) (je_var 1))))) (jb_one (js_ret je_bl)) jb_nil) (jb_cons (js_par 9 10 rfl sc__law_right.nd (ja_cons (je_bin jo_sub (je_call c__law_draw (hr.mono (by decide)) tk (by rfl) (ja_cons (je_var 0) (ja_cons je_int ja_nil))) je_int) (ja_cons (je_call c__law_draw (hr.mono (by decide)) tk (by rfl) (ja_cons (je_var 0) (ja_cons je_int ja_nil))) ja_nil))) (jb_cons (js_if (jt_cmp (jo_ne hr.units) (je_fz (je_callK ck0_cshift (hr.mono (by decide)) tk (by rfl) (ja_cons (je_fz (je_callK ck0_cshift (hr.mono (by decide)) tk (by rfl) (ja_cons (je_var 1) (ja_cons (je_var 9) ja_nil)) (jk_cons (je_var 2) jk_nil))) (ja_cons (je_var 10) ja_nil)) (jk_cons (je_var 2) jk_nil))) (je_fz (je_callK ck0_cshift (hr.mono (by decide)) tk (by rfl) (ja_cons (je_var 1) (ja_cons (je_bin jo_add (je_var 9) (je_var 10)) ja_nil)) (jk_cons (je_var 2) jk_nil)))) (jb_one (js_ret je_bl)) jb_nil) (jb_cons (js_if (jt_cmp (jo_ne hr.units) (je_fz (je_callK ck4_eoshift (hr.mono (by decide)) tk (by rfl) (ja_cons (je_var 1) (ja_cons (je_ix (je_ix (je_var 1) je_int) (je_bin jo_sub (je_var 2) je_int)) ja_nil)) (jk_cons (je_var 2) jk_nil))) (je_tup (ja_cons (je_ix (je_var 1) je_int) (ja_cons (je_bin jo_rep (je_lst (ja_cons je_int ja_nil)) (je_callB jc_len (by rfl) m_len (by decide +kernel) (ja_cons (je_ix (je_var 1) je_int) ja_nil))) ja_nil)))) (jb_one (js_ret je_bl)) jb_nil) (jb_cons (js_set 11 sc__law_right.nd (je_tup (ja_cons (je_ix (je_var 1) je_int) (ja_cons (je_callTy jc_list (by rfl) m_list (by decide +kernel) (ja_cons (je_ix (je_var 1) je_int) ja_nil)) ja_nil)))) (jb_cons (js_forT hp rfl sc__law_right.nd (ja_cons (je_callK ck0_cshift (hr.mono (by decide)) tk (by rfl) (ja_cons (je_var 1) (ja_cons je_int ja_nil)) (jk_cons (je_var 2) jk_nil)) (ja_cons (je_callK ck4_eoshift (hr.mono (by decide)) tk (by rfl) (ja_cons (je_var 1) (ja_cons je_int ja_nil)) (jk_cons (je_var 2) jk_nil)) ja_nil)) (jb_cons (js_if (jt_cmp (jo_ne hr.units) (je_var 12) (je_var 11)) (jb_one (js_ret je_bl)) jb_nil) (jb_one (js_appendP (je_var 12) je_int))) (i := 12)) (jb_one (js_if (jt_cmp (jo_ne hr.units) (je_var 1) (je_var 11)) (jb_one (js_ret je_bl)) jb_nil))))))))))))))))) (jb_one (js_ret (je_or (je_cmp (jo_eq hr.units) (je_ix (je_var 1) je_int) (je_tup ja_nil)) (je_one (je_and (je_cmp (jo_eq hr.units) (je_fz (je_callK ck5_cshift (hr.mono (by decide)) tk (by rfl) (ja_cons (je_var 1) (ja_cons je_int ja_nil)) jk_nil)) (je_fz (je_callK ck0_cshift (hr.mono (by decide)) tk (by rfl) (ja_cons (je_var 1) (ja_cons je_int ja_nil)) (jk_cons je_int jk_nil)))) (je_one (je_cmp (jo_eq hr.units) (je_fz (je_callK ck6_eoshift (hr.mono (by decide)) tk (by rfl) (ja_cons (je_var 1) (ja_cons je_int ja_nil)) jk_nil)) (je_fz (je_callK ck4_eoshift (hr.mono (by decide)) tk (by rfl) (ja_cons (je_var 1) (ja_cons je_int ja_nil)) (jk_cons je_int jk_nil))))))))))))
theorem cal__law_right (h : Hd K mg) (c__law_draw : Cal P w K mg base 1 "_law_draw" ["_law_well_here", "_law_many"] F__law_draw) (c__law_shape : Cal P w K mg base 3 "_law_shape" ["_law_well_here", "_law_most", "_law_room"] F__law_shape) (c__law_array : Cal P w K mg base 4 "_law_array" ["_law_well_here", "_law_form"] F__law_array) (c__law_shift : Cal P w K mg base 3 "_law_shift" ["_law_well_here", "_law_form"] F__law_shift) (c__law_due : Cal P w K mg base 6 "_law_due" ["_law_own", "_law_shifts", "_law_ends", "_law_axis"] F__law_due) (ck0_cshift : KCal P w K mg base 6 "cshift" 2 ["dim"] [.p 0, .p 1, .k 0] [] F_cshift) (ck1_cshift : KCal P w K mg base 6 "cshift" 0 ["dim", "shift", "array"] [.k 2, .k 1, .k 0] [] F_cshift) (ck2_eoshift : KCal P w K mg base 6 "eoshift" 2 ["boundary", "dim"] [.p 0, .p 1, .k 0, .k 1] [] F_eoshift) (ck3_eoshift : KCal P w K mg base 6 "eoshift" 0 ["boundary", "dim", "shift", "array"] [.k 3, .k 2, .k 0, .k 1] [] F_eoshift) (ck4_eoshift : KCal P w K mg base 6 "eoshift" 2 ["dim"] [.p 0, .p 1, .d 0, .k 0] [.int 0] F_eoshift) (ck5_cshift : KCal P w K mg base 6 "cshift" 2 [] [.p 0, .p 1, .d 0] [.int 1] F_cshift) (ck6_eoshift : KCal P w K mg base 6 "eoshift" 2 [] [.p 0, .p 1, .d 0, .d 1] [.int 0, .int 1] F_eoshift) : Cal P w K mg base 7 "_law_right" ["_law_well_here"] F__law_right := by
  obtain ⟨f, fd, hm, F⟩ := h.f__law_right
  exact cal_of F hm (F.bindsN fun _ _ _ _ _ _ us hl => match us, hl with | [_], _ => rfl) (fok__law_right h c__law_draw c__law_shape c__law_array c__law_shift c__law_due ck0_cshift ck1_cshift ck2_eoshift ck3_eoshift ck4_eoshift ck5_cshift ck6_eoshift F)
theorem fok_law (h : Hd K mg) (c__law_well : Cal P w K mg base 1 "_law_well" ["_law_script", "_law_k"] F__law_well) (c__law_right : Cal P w K mg base 7 "_law_right" ["_law_well_here"] F__law_right) {f : Addr} {fd : FuncData} (F : FunD K "law" "law" (defArgs s_law) (defBody s_law) (defScope s_law) [] [] f fd) : FnG P w K mg base 8 f fd ["_law_script"] (spF ⟨K, mg⟩ 1 F_law) := by
  have m_len := h.m_len
  have m_max := h.m_max
  have m_min := h.m_min
  have m_range := h.m_range
  refine fok_of F sc_law exitV_ok fun cdv A outer s H E hcdv hr => ?_
  have tk := takes_of (X := cxOf (L2.CX P w) P w K mg base ["_law_script", "_law_k"] "law" (defScope s_law) f cdv A outer s H E) (E := E) rfl rfl rfl rfl
  have hp := passes_of (X := cxOf (L2.CX P w) P w K mg base ["_law_script", "_law_k"] "law" (defScope s_law) f cdv A outer s H E) rfl
  exact (jb_cons (js_for hp rfl (ji_rng1 (by rfl) m_range (ja_cons (je_callB (jc_max2 rfl) (by rfl) m_max (by decide +kernel) (ja_cons je_int (ja_cons (je_callB (jc_min2 rfl) (by rfl) m_min (by decide +kernel) (ja_cons je_int (ja_cons (je_callB jc_len (by rfl) m_len (by decide +kernel) (ja_cons (je_var 0) ja_nil)) ja_nil))) ja_nil))) ja_nil)) (jg_name (i := 1) sc_law.nd) (jb_one (js_if (jt_not (jt_val (je_call c__law_right (hr.mono (by decide)) tk (by rfl) (ja_cons (je_call c__law_well (hr.mono (by decide)) tk (by rfl) (ja_cons (je_var 0) (ja_cons (je_var 1) ja_nil))) ja_nil)))) (jb_one (js_ret je_bl)) jb_nil))) (jb_one (js_ret je_bl)))
theorem cal_all (h : Hd K mg) {f : Addr} {fd : FuncData} (F : FunD K "law" "law" (defArgs s_law) (defBody s_law) (defScope s_law) [] [] f fd) : FnG P w K mg base 8 f fd ["_law_script"] (spF ⟨K, mg⟩ 1 F_law) := by
  have c__law_well := cal__law_well (P := P) (w := w) (base := base) h
  have c_is_whole := cal_is_whole (P := P) (w := w) (base := base) h
  have c_is_between := cal_is_between (P := P) (w := w) (base := base) h c_is_whole
  have c_is_row := cal_is_row (P := P) (w := w) (base := base) h
  have c_elements_of := cal_elements_of (P := P) (w := w) (base := base) h
  have c_is_shape := cal_is_shape (P := P) (w := w) (base := base) h c_is_whole c_is_row
  have c_is_filled := cal_is_filled (P := P) (w := w) (base := base) h c_is_whole c_is_row c_elements_of c_is_shape
  have c_is_array := cal_is_array (P := P) (w := w) (base := base) h c_is_whole c_is_filled
  have c_check := cal_check (P := P) (w := w) (base := base) h
  have c_made := cal_made (P := P) (w := w) (base := base) h
  have c_rest_of := cal_rest_of (P := P) (w := w) (base := base) h
  have c_lines_of := cal_lines_of (P := P) (w := w) (base := base) h c_elements_of
  have c_check_spread := cal_check_spread (P := P) (w := w) (base := base) h c_is_whole c_is_array c_check
  have c_spread_out := cal_spread_out (P := P) (w := w) (base := base) h c_is_whole c_elements_of
  have ck0_cshift := kck0_cshift (P := P) (w := w) (base := base) h c_is_between c_is_array c_check c_made c_rest_of c_lines_of c_check_spread c_spread_out
  have ck1_cshift := kck1_cshift (P := P) (w := w) (base := base) h c_is_between c_is_array c_check c_made c_rest_of c_lines_of c_check_spread c_spread_out
  have ck5_cshift := kck5_cshift (P := P) (w := w) (base := base) h c_is_between c_is_array c_check c_made c_rest_of c_lines_of c_check_spread c_spread_out
  have ck2_eoshift := kck2_eoshift (P := P) (w := w) (base := base) h c_is_between c_is_array c_check c_made c_rest_of c_lines_of c_check_spread c_spread_out
  have ck3_eoshift := kck3_eoshift (P := P) (w := w) (base := base) h c_is_between c_is_array c_check c_made c_rest_of c_lines_of c_check_spread c_spread_out
  have ck4_eoshift := kck4_eoshift (P := P) (w := w) (base := base) h c_is_between c_is_array c_check c_made c_rest_of c_lines_of c_check_spread c_spread_out
  have ck6_eoshift := kck6_eoshift (P := P) (w := w) (base := base) h c_is_between c_is_array c_check c_made c_rest_of c_lines_of c_check_spread c_spread_out
  have c__law_draw := cal__law_draw (P := P) (w := w) (base := base) h
  have c__law_pick := cal__law_pick (P := P) (w := w) (base := base) h c__law_draw
  have c__law_shape := cal__law_shape (P := P) (w := w) (base := base) h c__law_draw c__law_pick
  have c__law_size_of := cal__law_size_of (P := P) (w := w) (base := base) h
  have c__law_number := cal__law_number (P := P) (w := w) (base := base) h c__law_draw c__law_pick
  have c__law_array := cal__law_array (P := P) (w := w) (base := base) h c__law_size_of c__law_number
  have c__law_shift := cal__law_shift (P := P) (w := w) (base := base) h c__law_draw c__law_pick c__law_size_of
  have c__law_counted := cal__law_counted (P := P) (w := w) (base := base) h c__law_size_of
  have c__law_all := cal__law_all (P := P) (w := w) (base := base) h c__law_counted
  have c__law_table := cal__law_table (P := P) (w := w) (base := base) h c__law_all
  have c__law_of := cal__law_of (P := P) (w := w) (base := base) h c__law_table
  have c__law_due := cal__law_due (P := P) (w := w) (base := base) h c__law_all c__law_table c__law_of
  have c__law_right := cal__law_right (P := P) (w := w) (base := base) h c__law_draw c__law_shape c__law_array c__law_shift c__law_due ck0_cshift ck1_cshift ck2_eoshift ck3_eoshift ck4_eoshift ck5_cshift ck6_eoshift
  exact fok_law h c__law_well c__law_right F
end
/-! ### the head -/
def d__law_well : He.DefD := ⟨("_law_well", none), "_law_well", "_law_well", defArgs s__law_well, defBody s__law_well, defScope s__law_well, [], []⟩
def d_is_whole : He.DefD := ⟨("is_whole", none), "is_whole", "is_whole", defArgs s_is_whole, defBody s_is_whole, defScope s_is_whole, [], []⟩
def d_is_between : He.DefD := ⟨("is_between", none), "is_between", "is_between", defArgs s_is_between, defBody s_is_between, defScope s_is_between, [], []⟩
def d_is_row : He.DefD := ⟨("is_row", none), "is_row", "is_row", defArgs s_is_row, defBody s_is_row, defScope s_is_row, [], []⟩
def d_elements_of : He.DefD := ⟨("elements_of", none), "elements_of", "elements_of", defArgs s_elements_of, defBody s_elements_of, defScope s_elements_of, [], []⟩
def d_is_shape : He.DefD := ⟨("is_shape", none), "is_shape", "is_shape", defArgs s_is_shape, defBody s_is_shape, defScope s_is_shape, [], []⟩
def d_is_filled : He.DefD := ⟨("is_filled", none), "is_filled", "is_filled", defArgs s_is_filled, defBody s_is_filled, defScope s_is_filled, [], []⟩
def d_is_array : He.DefD := ⟨("is_array", none), "is_array", "is_array", defArgs s_is_array, defBody s_is_array, defScope s_is_array, [], []⟩
def d_check : He.DefD := ⟨("check", none), "check", "check", defArgs s_check, defBody s_check, defScope s_check, [], []⟩
def d_made : He.DefD := ⟨("made", none), "made", "made", defArgs s_made, defBody s_made, defScope s_made, [], []⟩
def d_rest_of : He.DefD := ⟨("rest_of", none), "rest_of", "rest_of", defArgs s_rest_of, defBody s_rest_of, defScope s_rest_of, [], []⟩
def d_lines_of : He.DefD := ⟨("lines_of", none), "lines_of", "lines_of", defArgs s_lines_of, defBody s_lines_of, defScope s_lines_of, [], []⟩
def d_check_spread : He.DefD := ⟨("check_spread", none), "check_spread", "check_spread", defArgs s_check_spread, defBody s_check_spread, defScope s_check_spread, [], []⟩
def d_spread_out : He.DefD := ⟨("spread_out", none), "spread_out", "spread_out", defArgs s_spread_out, defBody s_spread_out, defScope s_spread_out, [], []⟩
def d_cshift : He.DefD := ⟨("cshift", none), "cshift", "cshift", defArgs s_cshift, defBody s_cshift, defScope s_cshift, [], [("dim", .int 1)]⟩
def d_eoshift : He.DefD := ⟨("eoshift", none), "eoshift", "eoshift", defArgs s_eoshift, defBody s_eoshift, defScope s_eoshift, [], [("boundary", .int 0), ("dim", .int 1)]⟩
def d__law_draw : He.DefD := ⟨("_law_draw", none), "_law_draw", "_law_draw", defArgs s__law_draw, defBody s__law_draw, defScope s__law_draw, [], []⟩
def d__law_pick : He.DefD := ⟨("_law_pick", none), "_law_pick", "_law_pick", defArgs s__law_pick, defBody s__law_pick, defScope s__law_pick, [], []⟩
def d__law_shape : He.DefD := ⟨("_law_shape", none), "_law_shape", "_law_shape", defArgs s__law_shape, defBody s__law_shape, defScope s__law_shape, [], []⟩
def d__law_size_of : He.DefD := ⟨("_law_size_of", none), "_law_size_of", "_law_size_of", defArgs s__law_size_of, defBody s__law_size_of, defScope s__law_size_of, [], []⟩
def d__law_number : He.DefD := ⟨("_law_number", none), "_law_number", "_law_number", defArgs s__law_number, defBody s__law_number, defScope s__law_number, [], []⟩
def d__law_array : He.DefD := ⟨("_law_array", none), "_law_array", "_law_array", defArgs s__law_array, defBody s__law_array, defScope s__law_array, [], []⟩
def d__law_shift : He.DefD := ⟨("_law_shift", none), "_law_shift", "_law_shift", defArgs s__law_shift, defBody s__law_shift, defScope s__law_shift, [], []⟩
def d__law_counted : He.DefD := ⟨("_law_counted", none), "_law_counted", "_law_counted", defArgs s__law_counted, defBody s__law_counted, defScope s__law_counted, [], []⟩
def d__law_all : He.DefD := ⟨("_law_all", none), "_law_all", "_law_all", defArgs s__law_all, defBody s__law_all, defScope s__law_all, [], []⟩
def d__law_table : He.DefD := ⟨("_law_table", none), "_law_table", "_law_table", defArgs s__law_table, defBody s__law_table, defScope s__law_table, [], []⟩
def d__law_of : He.DefD := ⟨("_law_of", none), "_law_of", "_law_of", defArgs s__law_of, defBody s__law_of, defScope s__law_of, [], []⟩
def d__law_due : He.DefD := ⟨("_law_due", none), "_law_due", "_law_due", defArgs s__law_due, defBody s__law_due, defScope s__law_due, [], []⟩
def d__law_right : He.DefD := ⟨("_law_right", none), "_law_right", "_law_right", defArgs s__law_right, defBody s__law_right, defScope s__law_right, [], []⟩
def d_law : He.DefD := ⟨("law", none), "law", "law", defArgs s_law, defBody s_law, defScope s_law, [], []⟩
def fn : List He.DefD := [d__law_well, d_is_whole, d_is_between, d_is_row, d_elements_of, d_is_shape, d_is_filled, d_is_array, d_check, d_made, d_rest_of, d_lines_of, d_check_spread, d_spread_out, d_cshift, d_eoshift, d__law_draw, d__law_pick, d__law_shape, d__law_size_of, d__law_number, d__law_array, d__law_shift, d__law_counted, d__law_all, d__law_table, d__law_of, d__law_due, d__law_right, d_law]
def fa0 : List He.Fa := [.glo "_law_well", .glo "is_whole", .glo "is_between", .glo "is_row", .glo "elements_of", .glo "is_shape", .glo "is_filled", .glo "is_array", .glo "check", .glo "made", .glo "rest_of", .glo "lines_of", .glo "check_spread", .glo "spread_out", .glo "cshift", .glo "eoshift", .glo "_law_draw", .glo "_law_pick", .glo "_law_shape", .glo "_law_size_of", .glo "_law_number", .glo "_law_array", .glo "_law_shift", .glo "_law_counted", .glo "_law_all", .glo "_law_table", .glo "_law_of", .glo "_law_due", .glo "_law_right", .glo "law"]
def fa1 : List He.Fa := [.free "all", .free "bool", .free "dict", .free "enumerate", .free "int", .free "isinstance", .free "len", .free "list", .free "max", .free "min", .free "range", .free "tuple", .free "zip", .int "MOST_DIMENSIONS" 7, .int "MOST_ELEMENTS" 5000]
def fa : List He.Fa := fa0 ++ fa1
abbrev Rw : PySem.W.OpenRow := PySem.W.OpenLaw.row PySem.Challenge.rw_sectionwise_k46_whole_shifts
def exs : List (Str × List PL.D) := []
def exc (K : PySem.W.Frag) : List Bool := []
def ex (K : PySem.W.Frag) : Bool := (exs.all fun q => He.tupB K q.1 (q.2.map gvD)) && (exc K).all id
abbrev hk : PySem.W.Hook := PL.hookX 4 fa fn ex
def ob (s : PySem.W.SharedT) : He.AlD × Bool := PL.exG 4 fa fn ex (HandSHeadRun.getT s)
theorem ob_eq (s : PySem.W.SharedT) : ob s = hk.obs s.abs := PL.exG_eq (HandSHeadRun.getT_eq s)
def loose0 : List PySem.Str := ["SectionError", "InvalidArgument", "is_whole", "is_between", "is_row", "MOST_DIMENSIONS", "MOST_ELEMENTS", "elements_of", "is_shape", "is_filled", "is_array", "check", "made", "rest_of", "lines_of", "check_spread", "spread_out", "cshift", "eoshift", "_law_well", "_law_draw", "_law_pick", "_law_shape", "_law_size_of", "_law_counted", "_law_all", "_law_number", "_law_array", "_law_mask", "_law_table"]
def loose1 : List PySem.Str := ["_law_shift", "_law_of", "_law_due", "_law_right"]
def loose : List PySem.Str := loose0 ++ loose1
theorem run (w : World) : HandSHeadRun.RunEq Rw (PySem.W.view Rw.prog [38]) hk ob 4000 loose w := by
  intro os
  kernel_rfl
theorem hd_of {K : PySem.W.Frag} {h : Heap} {mg : Str → Option Value} (X : K.In h) (G : h.Ns mainGlobals mg) (c : He.SaysD fa fn K) (cx : ex K = true) : Hd K mg := by
  have cx1 := (Bool.and_eq_true_iff.mp cx).1
  have cx2 := (Bool.and_eq_true_iff.mp cx).2
  refine ⟨He.free_ok X G (c.fact 30 (f := .free "all") rfl), He.free_ok X G (c.fact 31 (f := .free "bool") rfl), He.free_ok X G (c.fact 32 (f := .free "dict") rfl), He.free_ok X G (c.fact 33 (f := .free "enumerate") rfl), He.free_ok X G (c.fact 34 (f := .free "int") rfl), He.free_ok X G (c.fact 35 (f := .free "isinstance") rfl), He.free_ok X G (c.fact 36 (f := .free "len") rfl), He.free_ok X G (c.fact 37 (f := .free "list") rfl), He.free_ok X G (c.fact 38 (f := .free "max") rfl), He.free_ok X G (c.fact 39 (f := .free "min") rfl), He.free_ok X G (c.fact 40 (f := .free "range") rfl), He.free_ok X G (c.fact 41 (f := .free "tuple") rfl), He.free_ok X G (c.fact 42 (f := .free "zip") rfl), He.int_ok X G (c.fact 43 (f := .int "MOST_DIMENSIONS" 7) rfl), He.int_ok X G (c.fact 44 (f := .int "MOST_ELEMENTS" 5000) rfl), (let ⟨fd, F⟩ := c.def_ 0 (d := d__law_well) rfl; ⟨_, fd, He.glo_ok X G (c.fact 0 (f := .glo "_law_well") rfl), F⟩), (let ⟨fd, F⟩ := c.def_ 1 (d := d_is_whole) rfl; ⟨_, fd, He.glo_ok X G (c.fact 1 (f := .glo "is_whole") rfl), F⟩), (let ⟨fd, F⟩ := c.def_ 2 (d := d_is_between) rfl; ⟨_, fd, He.glo_ok X G (c.fact 2 (f := .glo "is_between") rfl), F⟩), (let ⟨fd, F⟩ := c.def_ 3 (d := d_is_row) rfl; ⟨_, fd, He.glo_ok X G (c.fact 3 (f := .glo "is_row") rfl), F⟩), (let ⟨fd, F⟩ := c.def_ 4 (d := d_elements_of) rfl; ⟨_, fd, He.glo_ok X G (c.fact 4 (f := .glo "elements_of") rfl), F⟩), (let ⟨fd, F⟩ := c.def_ 5 (d := d_is_shape) rfl; ⟨_, fd, He.glo_ok X G (c.fact 5 (f := .glo "is_shape") rfl), F⟩), (let ⟨fd, F⟩ := c.def_ 6 (d := d_is_filled) rfl; ⟨_, fd, He.glo_ok X G (c.fact 6 (f := .glo "is_filled") rfl), F⟩), (let ⟨fd, F⟩ := c.def_ 7 (d := d_is_array) rfl; ⟨_, fd, He.glo_ok X G (c.fact 7 (f := .glo "is_array") rfl), F⟩), (let ⟨fd, F⟩ := c.def_ 8 (d := d_check) rfl; ⟨_, fd, He.glo_ok X G (c.fact 8 (f := .glo "check") rfl), F⟩), (let ⟨fd, F⟩ := c.def_ 9 (d := d_made) rfl; ⟨_, fd, He.glo_ok X G (c.fact 9 (f := .glo "made") rfl), F⟩), (let ⟨fd, F⟩ := c.def_ 10 (d := d_rest_of) rfl; ⟨_, fd, He.glo_ok X G (c.fact 10 (f := .glo "rest_of") rfl), F⟩), (let ⟨fd, F⟩ := c.def_ 11 (d := d_lines_of) rfl; ⟨_, fd, He.glo_ok X G (c.fact 11 (f := .glo "lines_of") rfl), F⟩), (let ⟨fd, F⟩ := c.def_ 12 (d := d_check_spread) rfl; ⟨_, fd, He.glo_ok X G (c.fact 12 (f := .glo "check_spread") rfl), F⟩), (let ⟨fd, F⟩ := c.def_ 13 (d := d_spread_out) rfl; ⟨_, fd, He.glo_ok X G (c.fact 13 (f := .glo "spread_out") rfl), F⟩), (let ⟨fd, F⟩ := c.def_ 14 (d := d_cshift) rfl; ⟨_, fd, He.glo_ok X G (c.fact 14 (f := .glo "cshift") rfl), F⟩), (let ⟨fd, F⟩ := c.def_ 15 (d := d_eoshift) rfl; ⟨_, fd, He.glo_ok X G (c.fact 15 (f := .glo "eoshift") rfl), F⟩), (let ⟨fd, F⟩ := c.def_ 16 (d := d__law_draw) rfl; ⟨_, fd, He.glo_ok X G (c.fact 16 (f := .glo "_law_draw") rfl), F⟩), (let ⟨fd, F⟩ := c.def_ 17 (d := d__law_pick) rfl; ⟨_, fd, He.glo_ok X G (c.fact 17 (f := .glo "_law_pick") rfl), F⟩), (let ⟨fd, F⟩ := c.def_ 18 (d := d__law_shape) rfl; ⟨_, fd, He.glo_ok X G (c.fact 18 (f := .glo "_law_shape") rfl), F⟩), (let ⟨fd, F⟩ := c.def_ 19 (d := d__law_size_of) rfl; ⟨_, fd, He.glo_ok X G (c.fact 19 (f := .glo "_law_size_of") rfl), F⟩), (let ⟨fd, F⟩ := c.def_ 20 (d := d__law_number) rfl; ⟨_, fd, He.glo_ok X G (c.fact 20 (f := .glo "_law_number") rfl), F⟩), (let ⟨fd, F⟩ := c.def_ 21 (d := d__law_array) rfl; ⟨_, fd, He.glo_ok X G (c.fact 21 (f := .glo "_law_array") rfl), F⟩), (let ⟨fd, F⟩ := c.def_ 22 (d := d__law_shift) rfl; ⟨_, fd, He.glo_ok X G (c.fact 22 (f := .glo "_law_shift") rfl), F⟩), (let ⟨fd, F⟩ := c.def_ 23 (d := d__law_counted) rfl; ⟨_, fd, He.glo_ok X G (c.fact 23 (f := .glo "_law_counted") rfl), F⟩), (let ⟨fd, F⟩ := c.def_ 24 (d := d__law_all) rfl; ⟨_, fd, He.glo_ok X G (c.fact 24 (f := .glo "_law_all") rfl), F⟩), (let ⟨fd, F⟩ := c.def_ 25 (d := d__law_table) rfl; ⟨_, fd, He.glo_ok X G (c.fact 25 (f := .glo "_law_table") rfl), F⟩), (let ⟨fd, F⟩ := c.def_ 26 (d := d__law_of) rfl; ⟨_, fd, He.glo_ok X G (c.fact 26 (f := .glo "_law_of") rfl), F⟩), (let ⟨fd, F⟩ := c.def_ 27 (d := d__law_due) rfl; ⟨_, fd, He.glo_ok X G (c.fact 27 (f := .glo "_law_due") rfl), F⟩), (let ⟨fd, F⟩ := c.def_ 28 (d := d__law_right) rfl; ⟨_, fd, He.glo_ok X G (c.fact 28 (f := .glo "_law_right") rfl), F⟩), (let ⟨fd, F⟩ := c.def_ 29 (d := d_law) rfl; ⟨_, fd, He.glo_ok X G (c.fact 29 (f := .glo "law") rfl), F⟩)⟩
end G

open PySem PySem.W PySem.Calls PyProof.Rows
set_option maxRecDepth 100000 in
set_option maxHeartbeats 0 in
theorem PySem.Challenge.cw_sectionwise_k46_whole_shifts_holds : PySem.Challenge.rw_sectionwise_k46_whole_shifts.Holds := by
  w_on; o_law
  refine HandSHeadRun.head_any (r := OpenLaw.row PySem.Challenge.rw_sectionwise_k46_whole_shifts) (q := view (OpenLaw.row PySem.Challenge.rw_sectionwise_k46_whole_shifts).prog [38]) (H := G.hk) (ob := G.ob) (M := 4000) (loose := G.loose) (d := HandSHeadRun.topDef (OpenLaw.row PySem.Challenge.rw_sectionwise_k46_whole_shifts).prog 38) (kwd := []) G.ob_eq
    (by kernel_rfl) (fun s => by kernel_rfl) G.run (by kernel_rfl) (by kernel_rfl) (by kernel_rfl) (by rfl) (by first | assumption | decide +kernel) (by decide +kernel) ⟨rfl, rfl, rfl, rfl, rfl, by decide +kernel⟩ ?hw ?hc
  case hw => w_witness2
  case hc =>
    refine PL.walk_law (l := PySem.Challenge.rw_sectionwise_k46_whole_shifts) (n := 63) (k := 8) (x := "_law_script") (F := G.F_law) rfl rfl (by decide) (by kernel_rfl) ⟨rfl, by decide, by decide⟩ ?F G.law_true
    intro w mg h Y G'
    obtain ⟨K, KX, c, cx⟩ := Y
    have hd := G.hd_of KX G' c cx
    obtain ⟨f, fd, hm, F⟩ := hd.f_law
    have b := L2.FunD.bindsA (ps := ["_law_script"]) F fun _ _ _ _ _ _ us hl => match us, hl with | [_], _ => rfl
    refine ⟨K, f, fd, KX, ?_, fun s u => b s [u] rfl, fun base => G.cal_all hd F⟩
    have e : (HandSHeadRun.topDef (OpenLaw.row PySem.Challenge.rw_sectionwise_k46_whole_shifts).prog 38).name = ("law" : PySem.Str) := by kernel_rfl
    rw [e]
    exact hm

