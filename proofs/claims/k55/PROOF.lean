import PyProof.Rows.All
import KE.KDictSum
import HandS.SortInts
import HandS.TupMul
import HandS.Style
import PyProof.SliceList
import PyProof.LongRange
import PyProof.RangeFor
import PyProof.Rows.GenSrcRange
import HandS.SetKeys
import HandS.NoneIn
import KE.SortData
import HandS.TryMany
import HandS.ExcIs
import KE.KExcIs
import KE.GoesComp
import HandS.Conv
import PyProof.CollectStr
import HandS.Flow
import HandS.Text
import HandS.DictComp
import KE.KDictDisplayH
import PyProof.DictTable
import KE.SortKeyHeap
import HandS.Nested
import Wide.All
import OpenK.AllK
import Wide.FinOn
import KE.KNest
import HandS.Lambda
import HandS.HeadHook1
import HandS.ForMost
import HandS.ForExc
import HandS.Wide
import HandS.IsInst
import HandS.CallSlots
import HandS.Dict
import HandS.TupAny
import HandS.Defaults
import HandS.HeadHook2
import KE.GoesZip
import KE.GoesMore
import KE.GoesEnum
import HandS.Iter
import HandS.Zip
import PyProof.ReprRoads
import HandS.ExcInit
import HandS.ExcField
import HandS.TryOnly
import KE.KExcInit
import HandS.Words
import HandS.SetFor
import HandS.Strs
import PyProof.Rows.SortShellAny
import HandS.EndTab
import HandS.Codes
import HandS.Deep
import KE.DataMinMax
import KE.KDictPairs
import HandS.TupLen
import KE.KDictZip
import HandS.DictTup
import PyProof.SumAny
import HandS.TupSets
import HandS.Small
import PyProof.DictUpdate
import PyProof.Rows.RuleB_pow
import KE.KDictCopyH
import KE.KMinBuiltin
import HandS.Slots
import KE.DataMinKey
import KE.KStateDown
import HandS.More
import HandS.Head0
import HandS.Head1
import HandS.Head2
import HandS.HeadEnd
import PySem.Challenge.RW_sectionwise_k55_whole_variables_told_oth
set_option Elab.async false
set_option linter.all false
set_option maxRecDepth 100000
set_option maxHeartbeats 4000000
set_option exponentiation.threshold 5000
namespace PL
open PySem PySem.Spec PyProof.Rows L2
def lamDefs : List Str := []
def reprs : Bool := false
def lamN (x : Str) : Str := x ++ ".<locals>." ++ "<lambda>"
def tabsK (K : PySem.W.Frag) : List (Addr × Str) := lamDefs.filterMap fun x => (PySem.W.tabIn K x).map fun q => (q.2, lamN x)
structure TabR (K : PySem.W.Frag) (G S H : Hp) : Prop where
  st : ∀ a ps, S a ≠ some (.tbl ps)
  gt : ∀ a o, G a = some o → ∃ vs, o = .lst vs
  tb : LamX.Tabs (tabsK K) H
theorem tabS_upd {H : Hp} {P p : Addr} {q : Str} {u : HO} (t : LamX.TabS H P q) (hp : H p = none ∨ ∃ vs, H p = some (.lst vs)) : LamX.TabS (upd H p u) P q := by
  obtain ⟨ps, h1, h2, h3⟩ := t
  have ne : ∀ {b : Addr} {o : HO}, H b = some o → (∀ vs, o ≠ .lst vs) → b ≠ p := fun {b o} e n z => by
    rw [z] at e
    rcases hp with hp | ⟨vs, hp⟩
    · rw [hp] at e; cases e
    · rw [hp] at e; exact n vs (Option.some.inj e).symm
  refine ⟨ps, by rw [upd_ne (ne h1 fun vs z => by cases z)]; exact h1, h2, fun pos cv hc => ?_⟩
  obtain ⟨c, e1, e2⟩ := h3 pos cv hc
  exact ⟨c, e1, by rw [upd_ne (ne e2 fun vs z => by unfold LamX.CodeO at z; cases z)]; exact e2⟩
section
variable {K : PySem.W.Frag} {G S H : Hp} {p : Addr}
theorem TabR.h (t : TabR K G S H) (hp : H p = none ∨ ∃ vs, H p = some (.lst vs)) (u : HO) : TabR K G S (upd H p u) := ⟨t.st, t.gt, fun q hq => tabS_upd (t.tb q hq) hp⟩
theorem upd_nt {S : Hp} {o : HO} (t : ∀ a ps, S a ≠ some (.tbl ps)) (ho : ∀ ps, o ≠ .tbl ps) : ∀ a ps, upd S p o a ≠ some (.tbl ps) := fun a ps z => by
  by_cases e : a = p
  · subst e
    rw [upd_same] at z
    exact ho ps (Option.some.inj z)
  · rw [upd_ne e] at z
    exact t a ps z
theorem TabR.s (t : TabR K G S H) {o : HO} (ho : ∀ ps, o ≠ .tbl ps) : TabR K G (upd S p o) H := ⟨upd_nt t.st ho, t.gt, t.tb⟩
theorem TabR.g (t : TabR K G S H) {o : HO} (ho : ∃ vs, o = .lst vs) : TabR K (upd G p o) S H := ⟨t.st, fun a x z => by
  by_cases e : a = p
  · subst e
    rw [upd_same] at z
    cases z
    exact ho
  · rw [upd_ne e] at z
    exact t.gt a x z, t.tb⟩
theorem TabR.ung (t : TabR K (upd G p o) S H) (hg : G p = none) : TabR K G S H := ⟨t.st, fun a x z => t.gt a x (by rw [upd_ne (ne_of_none z hg)]; exact z), t.tb⟩
end
end PL
namespace PL
open PySem PySem.Spec PyProof.Rows L2
abbrev St := L2.St
inductive D where
  | non | bl (b : Bool) | int (i : Int) | str (x : Str) | tup (xs : List D) | lst (xs : List D) | fn (x : Str) | ty (n : String) | scr (ns : List Int) | ks (ns : List Int) | dt (kss : List (List Key)) (ds : List D) | lam (x : Str) | dw (kss : List (List Key)) (ds : List D) | dk (ks : List Key) (ds : List D) | ins (cls : Str) (ks : List Str) (ds : List D) | clo (x : Str) (ds : List D)
inductive SV where
  | dat (d : D) | ref (n : Nat)
inductive Cell where
  | lst (xs : List D) | dct (kvs : List (Key × D)) | dead | pair (d : D) (xs : List D) | dtc (kss : List (List Key)) (ds : List D) | sub (i j : Nat) (xs : List D) | dtl (kss : List (List Key)) | nst (t : Bool) (i : Nat) (es : List (Option D)) | obj (o : Nat) (cls : Str) (fs : List (Str × SV)) | odx | dsv (o : Nat) (kvs : List (Key × SV)) | sq (es : List SV)
abbrev Mem := List Cell
abbrev En := List (Option SV)
structure Exc where
  cls : Str
  fs : List (Str × D)
inductive R (α : Type) where
  | ok (a : α) (m : Mem) | exc (x : Exc) (m : Mem) | stuck
abbrev P (α : Type) := Mem → R α
def P.ret {α : Type} (a : α) : P α := fun m => .ok a m
def P.stk {α : Type} : P α := fun _ => .stuck
def R.bnd {α β : Type} (r : R α) (f : α → Mem → R β) : R β := match r with
  | .ok a m => f a m
  | .exc e m => .exc e m
  | .stuck => .stuck
def P.bnd {α β : Type} (x : P α) (f : α → P β) : P β := fun m => (x m).bnd f
def wpr {α : Type} (r : R α) (Q : α → Mem → Prop) (E : Exc → Mem → Prop) : Prop := match r with
  | .ok a m => Q a m
  | .exc x m => E x m
  | .stuck => False
theorem wpr_bnd {α β : Type} {x : P α} {f : α → P β} {m : Mem} {Q : β → Mem → Prop} {E : Exc → Mem → Prop} (h : wpr (P.bnd x f m) Q E) : wpr (x m) (fun a m' => wpr (f a m') Q E) E := by
  unfold P.bnd R.bnd at h
  cases e : x m with
  | ok a m' => rw [e] at h; exact h
  | exc y m' => rw [e] at h; exact h
  | stuck => rw [e] at h; exact h
theorem wpr_mono {α : Type} {r : R α} {Q Q' : α → Mem → Prop} {E E' : Exc → Mem → Prop} (h : wpr r Q E) (hQ : ∀ a m, Q a m → Q' a m) (hE : ∀ x m, E x m → E' x m) : wpr r Q' E' := by
  cases r with
  | ok a m => exact hQ a m h
  | exc x m => exact hE x m h
  | stuck => exact h
theorem wpr_monoQ {α : Type} {r : R α} {Q Q' : α → Mem → Prop} {E : Exc → Mem → Prop} (h : wpr r Q E) (hQ : ∀ a m, Q a m → Q' a m) : wpr r Q' E := wpr_mono h hQ fun _ _ x => x
structure Gd where
  K : PySem.W.Frag
  mg : Str → Option Value
  w : World
abbrev gd (X : Cx) : Gd := ⟨X.K, X.mg, X.w⟩
def lamE : Expr → Option (Arguments × Expr × Scope)
  | .Lambda p b sc _ => some (p, b, sc)
  | _ => none
def lamB : List Stmt → Option (Arguments × Expr × Scope)
  | [] => none
  | .Return (some (.Call _ es _ _)) _ :: r => (match es.findSome? lamE with | some t => some t | none => lamB r)
  | _ :: r => lamB r
def lamOf (K : PySem.W.Frag) (x : Str) : Option (Arguments × Expr × Scope) := match K.lookup (He.ga K x) with
  | some ⟨_, _, .func fd, _⟩ => (match fd.body with | .stmts b => lamB b | _ => none)
  | _ => none
inductive EntR (K : PySem.W.Frag) (w : World) (S : Hp) : List DictEntry → List (List Key) → List V → Prop
  | nil : EntR K w S [] [] []
  | cons {e : DictEntry} {es : List DictEntry} {b : Addr} {k : List Key} {kss : List (List Key)} {v : V} {vs : List V} : (∀ (P : Program), e.hash = (tupleKind (mixKind P w)).hash k) → e.key = .ref b → SqT K S b (k.map kV) → L2.RelV v e.val → EntR K w S es kss vs → EntR K w S (e :: es) (k :: kss) (v :: vs)
def defB : List Stmt → Option (Str × Arguments × List Stmt × Scope)
  | [] => none
  | .FunctionDef n a b _ _ _ sc _ _ _ :: _ => some (n, a, b, sc)
  | _ :: r => defB r
def defOf (K : PySem.W.Frag) (x : Str) : Option (Str × Arguments × List Stmt × Scope) := match K.lookup (He.ga K x) with
  | some ⟨_, _, .func fd, _⟩ => (match fd.body with | .stmts b => defB b | _ => none)
  | _ => none
structure CF where
  name : Str
  qual : Str
  params : Arguments
  body : FuncBody
  scope : Scope
  cl : List (Str × Addr)
  c : Addr
def CF.fd (F : CF) (doc pm ctv : Value) : FuncData := { name := F.name, qualname := F.qual, params := F.params, body := F.body, scope := F.scope, globals := mainGlobals, closure := F.cl, defaults := .none, kwdefaults := .none, doc := doc, pyModule := pm, annotations := none, code := .ref F.c, closureTuple := ctv, builtins := builtinsNs }
def frees (sc : Scope) : List Str := ((sc.names.filter fun y => decide (y.2 = .free)).map (·.1)).reverse
def CloK (K : PySem.W.Frag) (x : Str) (F : CF) : Prop := F.cl.map (·.1) = frees F.scope ∧ (
  (∃ pa bo sc, lamOf K x = some (pa, bo, sc) ∧ F.name = "<lambda>" ∧ F.qual = lamN x ∧ F.params = pa ∧ F.body = .expr bo ∧ F.scope = sc) ∨
    ∃ n pa bo sc, defOf K x = some (n, pa, bo, sc) ∧ F.name = n ∧ F.qual = x ++ ".<locals>." ++ n ∧ F.params = pa ∧ F.body = .stmts bo ∧ F.scope = sc)
def CloInj (cl : List (Str × Addr)) : Prop := ∀ x y c, cl.lookup x = some c → cl.lookup y = some c → x = y
def cellK (S : Hp) (c : Addr) (u : Value) : Prop := ∃ oc : Obj, S c = some (.frz oc (.ext fun _ => True)) ∧ oc.data = .cell (some u)
def dtW (a : Addr) (es : List DictEntry) : HO := .ext fun h => ∃ o ep, h.get? a = some o ∧ o.ExactDict ∧ o.data = .dict es.toArray ep
mutual
inductive Rp (Γ : Gd) (S : Hp) : V → D → Prop
  | non : Rp Γ S .non .non
  | bl (b : Bool) : Rp Γ S (.bl b) (.bl b)
  | int (i : Int) : Rp Γ S (.int i) (.int i)
  | str (x : Str) : Rp Γ S (.str x) (.str x)
  | ty (n : String) : Rp Γ S (.ty n) (.ty n)
  | lst {a : Addr} {vs : List V} {ds : List D} : S a = some (.lst vs) → RpAll Γ S vs ds → Rp Γ S (.ref a) (.lst ds)
  | scr {a : Addr} {ns : List Int} : SqL Γ.K S a (ns.map V.int) → Rp Γ S (.ref a) (.scr ns)
  | tup {a : Addr} {vs : List V} {ds : List D} : SqT Γ.K S a vs → RpAll Γ S vs ds → Rp Γ S (.ref a) (.tup ds)
  | fn {x : Str} {a : Addr} : Γ.mg x = some (.ref a) → Rp Γ S (.ref a) (.fn x)
  | ks {a : Addr} {o : Obj} {ns : List Int} : S a = some (.frz o (.dK (ns.map fun n => ((Sum.inl n : Key), V.bl true)))) → Rp Γ S (.ref a) (.ks ns)
  | dt {a : Addr} {o : Obj} {es : Array DictEntry} {ep : Nat} {kss : List (List Key)} {vs : List V} {ds : List D} : S a = some (.frz o (.ext fun _ => True)) → o.ExactDict → o.data = .dict es ep → (a == sysModules) = false → es.size ≤ sizeLine → kss.Nodup → EntR Γ.K Γ.w S es.toList kss vs → RpAll Γ S vs ds → Rp Γ S (.ref a) (.dt kss ds)
  | lam {a c' : Addr} {x : Str} {pa : Arguments} {bo : Expr} {sc : Scope} {pm ctv : Value} : lamOf Γ.K x = some (pa, bo, sc) → S a = some (.frz (PySem.W.kla_obj "<lambda>" (lamN x) pa bo sc [] pm c' ctv) (.ext fun _ => True)) → S c' = some (LamX.CodeO c' (lamN x)) → Rp Γ S (.ref a) (.lam x)
  | dw {a : Addr} {es : List DictEntry} {kss : List (List Key)} {vs : List V} {ds : List D} : S a = some (dtW a es) → (a == sysModules) = false → es.length ≤ sizeLine → kss.Nodup → EntR Γ.K Γ.w S es kss vs → RpAll Γ S vs ds → Rp Γ S (.ref a) (.dw kss ds)
  | dk {a : Addr} {o : Obj} {kvs : List (Key × V)} {ks : List Key} {ds : List D} : S a = some (.frz o (.dK kvs)) → kvs.map (·.1) = ks → RpAll Γ S (kvs.map (·.2)) ds → Rp Γ S (.ref a) (.dk ks ds)
  | ins {a dx C : Addr} {cls : Str} {fs : List (Str × V)} {ks : List Str} {ds : List D} : S a = some (.ins C dx fs) → S dx = some (.own a) → Γ.mg cls = some (.ref C) → fs.map (·.1) = ks → RpAll Γ S (fs.map (·.2)) ds → Rp Γ S (.ref a) (.ins cls ks ds)
  | clo {a : Addr} {x : Str} {F : CF} {doc pm ctv : Value} {us : List Value} {vs : List V} {ds : List D} : CloK Γ.K x F → CloInj F.cl → S a = some (.frz { cls := .type "function", data := .func (F.fd doc pm ctv) } (.ext fun _ => True)) → S F.c = some (LamX.CodeO F.c F.qual) → Paired (fun (q : Str × Addr) u => cellK S q.2 u) F.cl us → Vals vs us → RpAll Γ S vs ds → Rp Γ S (.ref a) (.clo x ds)
inductive RpAll (Γ : Gd) (S : Hp) : List V → List D → Prop
  | nil : RpAll Γ S [] []
  | cons {v : V} {vs : List V} {d : D} {ds : List D} : Rp Γ S v d → RpAll Γ S vs ds → RpAll Γ S (v :: vs) (d :: ds)
end
theorem Same.seqT {K : PySem.W.Frag} {H H' : Hp} {a : Addr} {xs : List V} (e : Same H H') (h : SqT K H a xs) : SqT K H' a xs := by
  rcases h with (h | ⟨o, h⟩) | h
  · exact .inl (.inl (e _ _ h))
  · exact .inl (.inr ⟨o, e _ _ h⟩)
  · exact .inr h
theorem EntR.mono {K : PySem.W.Frag} {w : World} {S S' : Hp} (e : Same S S') : ∀ {es : List DictEntry} {kss : List (List Key)} {vs : List V}, EntR K w S es kss vs → EntR K w S' es kss vs
  | _, _, _, .nil => .nil
  | _, _, _, .cons h1 h2 h3 h4 r => .cons h1 h2 (Same.seqT e h3) h4 (EntR.mono e r)
theorem cells_mono {S S' : Hp} (e : Same S S') : ∀ {cl : List (Str × Addr)} {us : List Value}, Paired (fun (q : Str × Addr) u => cellK S q.2 u) cl us → Paired (fun (q : Str × Addr) u => cellK S' q.2 u) cl us
  | _, _, .nil => .nil
  | _, _, .cons ⟨oc, h, d⟩ r => .cons ⟨oc, e _ _ h, d⟩ (cells_mono e r)
mutual
theorem Rp.mono {Γ : Gd} {S S' : Hp} (e : Same S S') : ∀ {v : V} {d : D}, Rp Γ S v d → Rp Γ S' v d
  | _, _, .non => .non
  | _, _, .bl b => .bl b
  | _, _, .int i => .int i
  | _, _, .str x => .str x
  | _, _, .ty n => .ty n
  | _, _, .lst h r => .lst (e _ _ h) (RpAll.mono e r)
  | _, _, .scr h => .scr (e.seq h)
  | _, _, .tup h r => .tup (Same.seqT e h) (RpAll.mono e r)
  | _, _, .fn h => .fn h
  | _, _, .ks h => .ks (e _ _ h)
  | _, _, .dt h h1 h2 h3 h4 h5 q r => .dt (e _ _ h) h1 h2 h3 h4 h5 (EntR.mono e q) (RpAll.mono e r)
  | _, _, .lam h1 h2 h3 => .lam h1 (e _ _ h2) (e _ _ h3)
  | _, _, .dw h h3 h4 h5 q r => .dw (e _ _ h) h3 h4 h5 (EntR.mono e q) (RpAll.mono e r)
  | _, _, .dk h h2 r => .dk (e _ _ h) h2 (RpAll.mono e r)
  | _, _, .ins h1 h2 h3 h4 r => .ins (e _ _ h1) (e _ _ h2) h3 h4 (RpAll.mono e r)
  | _, _, .clo h0 hj h1 h2 h3 h4 r => .clo h0 hj (e _ _ h1) (e _ _ h2) (cells_mono e h3) h4 (RpAll.mono e r)
theorem RpAll.mono {Γ : Gd} {S S' : Hp} (e : Same S S') : ∀ {vs : List V} {ds : List D}, RpAll Γ S vs ds → RpAll Γ S' vs ds
  | _, _, .nil => .nil
  | _, _, .cons h r => .cons (Rp.mono e h) (RpAll.mono e r)
end
theorem RpAll.length {Γ : Gd} {S : Hp} : ∀ {vs : List V} {ds : List D}, RpAll Γ S vs ds → vs.length = ds.length
  | _, _, .nil => rfl
  | _, _, .cons _ r => by rw [List.length_cons, List.length_cons, RpAll.length r]
theorem RpAll.get {Γ : Gd} {S : Hp} : ∀ {vs : List V} {ds : List D} {i : Nat} {d : D}, RpAll Γ S vs ds → ds[i]? = some d → ∃ v, vs[i]? = some v ∧ Rp Γ S v d
  | _, _, _, _, .nil, e => by simp at e
  | _, _, 0, _, .cons h _, e => by simp at e; subst e; exact ⟨_, rfl, h⟩
  | _, _, i + 1, d, .cons _ r, e => by
    obtain ⟨v, h1, h2⟩ := RpAll.get (i := i) (d := d) r (by simpa using e)
    exact ⟨v, by simpa using h1, h2⟩
theorem RpAll.get' {Γ : Gd} {S : Hp} : ∀ {vs : List V} {ds : List D} {i : Nat} {v : V}, RpAll Γ S vs ds → vs[i]? = some v → ∃ d, ds[i]? = some d ∧ Rp Γ S v d
  | _, _, _, _, .nil, e => by simp at e
  | _, _, 0, _, .cons h _, e => by simp at e; subst e; exact ⟨_, rfl, h⟩
  | _, _, i + 1, d, .cons _ r, e => by
    obtain ⟨v, h1, h2⟩ := RpAll.get' (i := i) (v := d) r (by simpa using e)
    exact ⟨v, by simpa using h1, h2⟩
theorem RpAll.append {Γ : Gd} {S : Hp} : ∀ {vs ws : List V} {ds es : List D}, RpAll Γ S vs ds → RpAll Γ S ws es → RpAll Γ S (vs ++ ws) (ds ++ es)
  | _, _, _, _, .nil, s => s
  | _, _, _, _, .cons h r, s => .cons h (RpAll.append r s)
theorem RpAll.take {Γ : Gd} {S : Hp} : ∀ {vs : List V} {ds : List D} (n : Nat), RpAll Γ S vs ds → RpAll Γ S (vs.take n) (ds.take n)
  | _, _, 0, _ => .nil
  | _, _, _ + 1, .nil => .nil
  | _, _, n + 1, .cons h r => .cons h (RpAll.take n r)
theorem RpAll.drop {Γ : Gd} {S : Hp} : ∀ {vs : List V} {ds : List D} (n : Nat), RpAll Γ S vs ds → RpAll Γ S (vs.drop n) (ds.drop n)
  | _, _, 0, r => r
  | _, _, _ + 1, .nil => .nil
  | _, _, n + 1, .cons _ r => RpAll.drop n r
theorem RpAll.set {Γ : Gd} {S : Hp} {v : V} {d : D} (h : Rp Γ S v d) : ∀ {vs : List V} {ds : List D} (i : Nat), RpAll Γ S vs ds → RpAll Γ S (vs.set i v) (ds.set i d)
  | _, _, _, .nil => .nil
  | _, _, 0, .cons _ r => .cons h r
  | _, _, i + 1, .cons q r => .cons q (RpAll.set h i r)
def RSV (Γ : Gd) (S : Hp) (ρ : List Addr) (v : V) : SV → Prop
  | .dat d => Rp Γ S v d
  | .ref n => ∃ a, ρ[n]? = some a ∧ v = .ref a
structure Ext (S : Hp) (ρ : List Addr) (S' : Hp) (ρ' : List Addr) : Prop where
  s : Same S S'
  r : ∀ (i : Nat) (a : Addr), ρ[i]? = some a → ρ'[i]? = some a
theorem Ext.refl (S : Hp) (ρ : List Addr) : Ext S ρ S ρ := ⟨Same.refl S, fun _ _ h => h⟩
theorem Ext.trans {S S1 S2 : Hp} {ρ ρ1 ρ2 : List Addr} (a : Ext S ρ S1 ρ1) (b : Ext S1 ρ1 S2 ρ2) : Ext S ρ S2 ρ2 := ⟨a.s.trans b.s, fun i x h => b.r i x (a.r i x h)⟩
theorem RSV.mono {Γ : Gd} {S S' : Hp} {ρ ρ' : List Addr} (e : Ext S ρ S' ρ') {v : V} {x : SV} (h : RSV Γ S ρ v x) : RSV Γ S' ρ' v x := by
  cases x with
  | dat d => exact Rp.mono e.s h
  | ref n => obtain ⟨a, h1, h2⟩ := h; exact ⟨a, e.r n a h1, h2⟩
inductive KvR (Γ : Gd) (S : Hp) : List (Key × V) → List (Key × D) → Prop
  | nil : KvR Γ S [] []
  | cons {k : Key} {v : V} {d : D} {vs : List (Key × V)} {kvs : List (Key × D)} : Rp Γ S v d → KvR Γ S vs kvs → KvR Γ S ((k, v) :: vs) ((k, d) :: kvs)
theorem KvR.mono {Γ : Gd} {S S' : Hp} (e : Same S S') {vs : List (Key × V)} {kvs : List (Key × D)} (h : KvR Γ S vs kvs) : KvR Γ S' vs kvs := by
  induction h with
  | nil => exact .nil
  | cons r _ ih => exact .cons (r.mono e) ih
def KsR (Γ : Gd) (S : Hp) (ρ : List Addr) (vs : List (Key × V)) (kvs : List (Key × SV)) : Prop := Paired (fun (a : Key × V) (b : Key × SV) => a.1 = b.1 ∧ RSV Γ S ρ a.2 b.2) vs kvs
theorem RSV.mono' {Γ : Gd} {S S' : Hp} {ρ ρ' : List Addr} (e : Same S S') {v : V} {x : SV} (hr : ∀ (k : Nat) (a : Addr), x = .ref k → ρ[k]? = some a → ρ'[k]? = some a) (h : RSV Γ S ρ v x) : RSV Γ S' ρ' v x := by
  cases x with
  | dat d => exact Rp.mono e h
  | ref n => obtain ⟨a, h1, h2⟩ := h; exact ⟨a, hr n a rfl h1, h2⟩
theorem KsR.mono' {Γ : Gd} {S S' : Hp} {ρ ρ' : List Addr} (e : Same S S') {vs : List (Key × V)} {fs : List (Key × SV)} (h : KsR Γ S ρ vs fs) : (∀ (f : Key) (k : Nat) (a : Addr), (f, SV.ref k) ∈ fs → ρ[k]? = some a → ρ'[k]? = some a) → KsR Γ S' ρ' vs fs := by
  unfold KsR at h ⊢
  induction h with
  | nil => exact fun _ => .nil
  | @cons a b as bs r _ ih =>
    intro hr
    refine .cons ⟨r.1, r.2.mono' e fun k c z q => hr b.1 k c (by rw [← z]; exact List.mem_cons_self) q⟩ (ih fun f k c z q => hr f k c (List.mem_cons_of_mem _ z) q)
structure DicR0 (Γ : Gd) (G S H : Hp) (ρ : List Addr) (m : Mem) : Prop where
  cell : ∀ (i : Nat) (kvs : List (Key × D)), m[i]? = some (.dct kvs) → ∃ a vs, ρ[i]? = some a ∧ H a = some (.dK vs) ∧ KvR Γ S vs kvs ∧ S a = none ∧ G a = none
  inj : ∀ (i j : Nat) (xs ys : List (Key × D)) (a : Addr), m[i]? = some (.dct xs) → m[j]? = some (.dct ys) → ρ[i]? = some a → ρ[j]? = some a → i = j
section
variable {Γ : Gd} {G S S' H : Hp} {ρ : List Addr} {m : Mem} {p : Addr}
theorem DicR0.h (t : DicR0 Γ G S H ρ m) (hp : H p = none ∨ ∃ vs, H p = some (.lst vs)) (u : HO) : DicR0 Γ G S (upd H p u) ρ m := ⟨fun i kvs q => by
  obtain ⟨a, vs, h1, h2, h3⟩ := t.cell i kvs q
  refine ⟨a, vs, h1, ?_, h3⟩
  rw [upd_ne (fun z => by
    rw [z] at h2
    rcases hp with hp | ⟨ws, hp⟩ <;> rw [hp] at h2 <;> cases h2)]
  exact h2, t.inj⟩
theorem DicR0.s (t : DicR0 Γ G S H ρ m) (e : Same S S') (hs : ∀ a vs, H a = some (.dK vs) → S a = none → S' a = none) : DicR0 Γ G S' H ρ m := ⟨fun i kvs q => by
  obtain ⟨a, vs, h1, h2, h3, h4, h5⟩ := t.cell i kvs q
  exact ⟨a, vs, h1, h2, h3.mono e, hs a vs h2 h4, h5⟩, t.inj⟩
theorem DicR0.g {G' : Hp} (t : DicR0 Γ G S H ρ m) (hg : ∀ a vs, H a = some (.dK vs) → G a = none → G' a = none) : DicR0 Γ G' S H ρ m := ⟨fun i kvs q => by
  obtain ⟨a, vs, h1, h2, h3, h4, h5⟩ := t.cell i kvs q
  exact ⟨a, vs, h1, h2, h3, h4, hg a vs h2 h5⟩, t.inj⟩
theorem DicR0.cells {ρ' : List Addr} {m' : Mem} (t : DicR0 Γ G S H ρ m) (hm : ∀ (i : Nat) (kvs : List (Key × D)), m'[i]? = some (.dct kvs) → m[i]? = some (.dct kvs)) (hr : ∀ (i : Nat) (a : Addr) (kvs : List (Key × D)), m'[i]? = some (.dct kvs) → ρ[i]? = some a → ρ'[i]? = some a) : DicR0 Γ G S H ρ' m' := by
  refine ⟨fun i kvs q => ?_, fun i j xs ys a q1 q2 q3 q4 => ?_⟩
  · obtain ⟨a, vs, h1, h2⟩ := t.cell i kvs (hm i kvs q)
    exact ⟨a, vs, hr i a kvs q h1, h2⟩
  · obtain ⟨a1, _, g1, _⟩ := t.cell i xs (hm i xs q1)
    obtain ⟨a2, _, g2, _⟩ := t.cell j ys (hm j ys q2)
    have e1 := hr i a1 xs q1 g1
    have e2 := hr j a2 ys q2 g2
    rw [q3] at e1
    rw [q4] at e2
    cases e1
    cases e2
    exact t.inj i j xs ys _ (hm i xs q1) (hm j ys q2) g1 g2
theorem dct_app {m : Mem} {c : Cell} (hc : ∀ kvs, c ≠ .dct kvs) {i : Nat} {kvs : List (Key × D)} (h : (m ++ [c])[i]? = some (.dct kvs)) : m[i]? = some (.dct kvs) := by
  by_cases hi : i < m.length
  · rw [List.getElem?_append_left hi] at h; exact h
  · rw [List.getElem?_append_right (by omega)] at h
    have h0 : i - m.length = 0 := by
      have := (List.getElem?_eq_some_iff.mp h).1
      simp at this
      omega
    rw [h0] at h
    simp at h
    exact absurd h (hc kvs)
theorem dct_set {m : Mem} {c : Cell} (hc : ∀ kvs, c ≠ .dct kvs) {j i : Nat} {kvs : List (Key × D)} (h : (m.set j c)[i]? = some (.dct kvs)) : m[i]? = some (.dct kvs) := by
  by_cases e : j = i
  · subst e
    by_cases hl : j < m.length
    · rw [List.getElem?_set_self hl] at h
      exact absurd (Option.some.inj h) (hc kvs)
    · rw [List.getElem?_eq_none (by rw [List.length_set]; omega)] at h
      cases h
  · rw [List.getElem?_set_ne e] at h
    exact h
theorem r_app {ρ : List Addr} {p : Addr} {i : Nat} {a : Addr} (h : ρ[i]? = some a) : (ρ ++ [p])[i]? = some a := by
  rw [List.getElem?_append_left (List.getElem?_eq_some_iff.mp h).1]; exact h
theorem upd_free {S : Hp} {o : HO} {a p : Addr} (h : S a = none) (n : a ≠ p) : upd S p o a = none := by rw [upd_ne n]; exact h
theorem sqR_mono {Γ : Gd} {S S' : Hp} {ρ ρ' : List Addr} (e : Same S S') {vs : List V} {es : List SV} (h : Paired (RSV Γ S ρ) vs es) : (∀ (k : Nat) (a : Addr), SV.ref k ∈ es → ρ[k]? = some a → ρ'[k]? = some a) → Paired (RSV Γ S' ρ') vs es := by
  induction h with
  | nil => exact fun _ => .nil
  | @cons a b as bs r _ ih =>
    intro hr
    exact .cons (r.mono' e fun k c z q => hr k c (by rw [← z]; exact List.mem_cons_self) q) (ih fun k c z q => hr k c (List.mem_cons_of_mem _ z) q)
structure SvR (Γ : Gd) (G S H : Hp) (ρ : List Addr) (m : Mem) : Prop where
  cell : ∀ (p o : Nat) (kvs : List (Key × SV)), m[p]? = some (.dsv o kvs) → o < p ∧ (∀ (k : Key) (n : Nat), (k, SV.ref n) ∈ kvs → n < p) ∧ ∃ a vs, ρ[p]? = some a ∧ ρ[o]? = some a ∧ H a = some (.dK vs) ∧ KsR Γ S ρ vs kvs ∧ S a = none ∧ G a = none
  inj : ∀ (p q o o' : Nat) (kvs kvs' : List (Key × SV)) (a : Addr), m[p]? = some (.dsv o kvs) → m[q]? = some (.dsv o' kvs') → ρ[p]? = some a → ρ[q]? = some a → p = q
  dct : ∀ (i p o : Nat) (kvs : List (Key × D)) (kvs' : List (Key × SV)) (a : Addr), m[i]? = some (.dct kvs) → m[p]? = some (.dsv o kvs') → ρ[i]? = some a → ρ[p]? ≠ some a
  sq : ∀ (p : Nat) (es : List SV), m[p]? = some (.sq es) → (∀ n : Nat, SV.ref n ∈ es → n < p) ∧ ∃ a vs, ρ[p]? = some a ∧ S a = some (.lst vs) ∧ Paired (RSV Γ S ρ) vs es
theorem SvR.gen {G' H' : Hp} (t : SvR Γ G S H ρ m) (e : Same S S') (h : ∀ (p o : Nat) (kvs : List (Key × SV)) (a : Addr) (vs : List (Key × V)), m[p]? = some (.dsv o kvs) → ρ[p]? = some a → H a = some (.dK vs) → S a = none → G a = none → H' a = some (.dK vs) ∧ S' a = none ∧ G' a = none) : SvR Γ G' S' H' ρ m := ⟨fun p o kvs q => by
  obtain ⟨h1, h2, a, vs, h3, h4, h5, h6, h7, h8⟩ := t.cell p o kvs q
  obtain ⟨g1, g2, g3⟩ := h p o kvs a vs q h3 h5 h7 h8
  exact ⟨h1, h2, a, vs, h3, h4, g1, h6.mono' e fun _ _ _ _ z => z, g2, g3⟩, t.inj, t.dct, fun p es q => by
  obtain ⟨h1, a, vs, h2, h3, h4⟩ := t.sq p es q
  exact ⟨h1, a, vs, h2, e _ _ h3, sqR_mono e h4 fun _ _ _ z => z⟩⟩
theorem SvR.cells {ρ' : List Addr} {m' : Mem} (t : SvR Γ G S H ρ m) (D0 : DicR0 Γ G S H ρ m) (hm : ∀ (i : Nat) (kvs : List (Key × D)), m'[i]? = some (.dct kvs) → m[i]? = some (.dct kvs)) (hr : ∀ (i : Nat) (a : Addr) (kvs : List (Key × D)), m'[i]? = some (.dct kvs) → ρ[i]? = some a → ρ'[i]? = some a)
    (hs : ∀ (p o : Nat) (kvs : List (Key × SV)), m'[p]? = some (.dsv o kvs) → m[p]? = some (.dsv o kvs)) (hq : ∀ (p o : Nat) (kvs : List (Key × SV)) (i : Nat) (a : Addr), m'[p]? = some (.dsv o kvs) → i ≤ p → ρ[i]? = some a → ρ'[i]? = some a)
    (hz : ∀ (p : Nat) (es : List SV), m'[p]? = some (.sq es) → m[p]? = some (.sq es)) (hy : ∀ (p : Nat) (es : List SV) (i : Nat) (a : Addr), m'[p]? = some (.sq es) → i ≤ p → ρ[i]? = some a → ρ'[i]? = some a) : SvR Γ G S H ρ' m' := by
  have fwd : ∀ (p o : Nat) (kvs : List (Key × SV)) (a : Addr), m'[p]? = some (.dsv o kvs) → ρ'[p]? = some a → ρ[p]? = some a := fun p o kvs a q z => by
    obtain ⟨_, _, b, _, h3, _⟩ := t.cell p o kvs (hs p o kvs q)
    have := hq p o kvs p b q (Nat.le_refl _) h3
    rw [z] at this
    cases this
    exact h3
  refine ⟨fun p o kvs q => ?_, fun p q o o' kvs kvs' a q1 q2 q3 q4 => ?_, fun i p o kvs kvs' a q1 q2 q3 q4 => ?_, fun p es q => (let ⟨h1, a, vs, h2, h3, h4⟩ := t.sq p es (hz p es q); ⟨h1, a, vs, hy p es p a q (Nat.le_refl _) h2, h3, sqR_mono (Same.refl S) h4 fun k b z w => hy p es k b q (Nat.le_of_lt (h1 k z)) w⟩)⟩
  · obtain ⟨h1, h2, a, vs, h3, h4, h5, h6, h7⟩ := t.cell p o kvs (hs p o kvs q)
    exact ⟨h1, h2, a, vs, hq p o kvs p a q (Nat.le_refl _) h3, hq p o kvs o a q (Nat.le_of_lt h1) h4, h5, h6.mono' (Same.refl S) fun f k b z w => hq p o kvs k b q (Nat.le_of_lt (h2 f k z)) w, h7⟩
  · exact t.inj p q o o' kvs kvs' a (hs _ _ _ q1) (hs _ _ _ q2) (fwd _ _ _ _ q1 q3) (fwd _ _ _ _ q2 q4)
  · obtain ⟨b, _, g1, _⟩ := D0.cell i kvs (hm i kvs q1)
    have e1 := hr i b kvs q1 g1
    rw [q3] at e1
    cases e1
    exact t.dct i p o kvs kvs' a (hm i kvs q1) (hs _ _ _ q2) g1 (fwd _ _ _ _ q2 q4)
theorem sq_app {m : Mem} {c : Cell} (hc : ∀ es, c ≠ .sq es) {i : Nat} {es : List SV} (h : (m ++ [c])[i]? = some (.sq es)) : m[i]? = some (.sq es) := by
  by_cases hi : i < m.length
  · rw [List.getElem?_append_left hi] at h; exact h
  · rw [List.getElem?_append_right (by omega)] at h
    have h0 : i - m.length = 0 := by
      have := (List.getElem?_eq_some_iff.mp h).1
      simp at this
      omega
    rw [h0] at h
    simp at h
    exact absurd h (hc es)
theorem sq_set {m : Mem} {c : Cell} (hc : ∀ es, c ≠ .sq es) {j i : Nat} {es : List SV} (h : (m.set j c)[i]? = some (.sq es)) : m[i]? = some (.sq es) := by
  by_cases e : j = i
  · subst e
    by_cases hl : j < m.length
    · rw [List.getElem?_set_self hl] at h
      exact absurd (Option.some.inj h) (hc es)
    · rw [List.getElem?_eq_none (by rw [List.length_set]; omega)] at h
      cases h
  · rw [List.getElem?_set_ne e] at h
    exact h
theorem SvR.mem {m' : Mem} (t : SvR Γ G S H ρ m) (hd : ∀ (i : Nat) (kvs : List (Key × D)), m'[i]? = some (.dct kvs) → ∃ kvs', m[i]? = some (.dct kvs')) (hs : ∀ (p o : Nat) (kvs : List (Key × SV)), m'[p]? = some (.dsv o kvs) → m[p]? = some (.dsv o kvs))
    (hz : ∀ (p : Nat) (es : List SV), m'[p]? = some (.sq es) → m[p]? = some (.sq es) := by first | exact (fun p es q => q) | exact (fun p es q => sq_set (by intro _ z; cases z) q)) : SvR Γ G S H ρ m' :=
  ⟨fun p o kvs q => t.cell p o kvs (hs p o kvs q), fun p q o o' kvs kvs' a q1 q2 => t.inj p q o o' kvs kvs' a (hs _ _ _ q1) (hs _ _ _ q2), fun i p o kvs kvs' a q1 q2 => let ⟨kvs0, h⟩ := hd i kvs q1; t.dct i p o kvs0 kvs' a h (hs _ _ _ q2), fun p es q => t.sq p es (hz p es q)⟩
theorem dsv_app {m : Mem} {c : Cell} (hc : ∀ o kvs, c ≠ .dsv o kvs) {i o : Nat} {kvs : List (Key × SV)} (h : (m ++ [c])[i]? = some (.dsv o kvs)) : m[i]? = some (.dsv o kvs) := by
  by_cases hi : i < m.length
  · rw [List.getElem?_append_left hi] at h; exact h
  · rw [List.getElem?_append_right (by omega)] at h
    have h0 : i - m.length = 0 := by
      have := (List.getElem?_eq_some_iff.mp h).1
      simp at this
      omega
    rw [h0] at h
    simp at h
    exact absurd h (hc o kvs)
theorem dsv_set {m : Mem} {c : Cell} (hc : ∀ o kvs, c ≠ .dsv o kvs) {j i o : Nat} {kvs : List (Key × SV)} (h : (m.set j c)[i]? = some (.dsv o kvs)) : m[i]? = some (.dsv o kvs) := by
  by_cases e : j = i
  · subst e
    by_cases hl : j < m.length
    · rw [List.getElem?_set_self hl] at h
      exact absurd (Option.some.inj h) (hc o kvs)
    · rw [List.getElem?_eq_none (by rw [List.length_set]; omega)] at h
      cases h
  · rw [List.getElem?_set_ne e] at h
    exact h
theorem SvR.pushD (t : SvR Γ G S H ρ m) (hl : ρ.length = m.length) (hp : H p = none) (u : HO) (c : Cell) (hc : ∀ o kvs, c ≠ .dsv o kvs) (hc' : ∀ es, c ≠ .sq es := by intro _ z; cases z) : SvR Γ G S (upd H p u) (ρ ++ [p]) (m ++ [c]) := by
  have fwd : ∀ (q o : Nat) (kvs : List (Key × SV)) (a : Addr), (m ++ [c])[q]? = some (.dsv o kvs) → (ρ ++ [p])[q]? = some a → ρ[q]? = some a ∧ a ≠ p := fun q o kvs a h z => by
    obtain ⟨_, _, b, vs, h3, _, h5, _⟩ := t.cell q o kvs (dsv_app hc h)
    have := r_app (p := p) h3
    rw [z] at this
    cases this
    exact ⟨h3, fun w => by rw [w, hp] at h5; cases h5⟩
  refine ⟨fun q o kvs h => ?_, fun q r o o' kvs kvs' a q1 q2 q3 q4 => t.inj q r o o' kvs kvs' a (dsv_app hc q1) (dsv_app hc q2) (fwd _ _ _ _ q1 q3).1 (fwd _ _ _ _ q2 q4).1, fun i q o kvs kvs' a q1 q2 q3 q4 => ?_, fun q es z => (let ⟨h1, a, vs, h2, h3, h4⟩ := t.sq q es (sq_app hc' z); ⟨h1, a, vs, r_app h2, h3, sqR_mono (Same.refl S) h4 fun k b _ w => r_app w⟩)⟩
  · obtain ⟨h1, h2, a, vs, h3, h4, h5, h6, h7⟩ := t.cell q o kvs (dsv_app hc h)
    exact ⟨h1, h2, a, vs, r_app h3, r_app h4, by rw [upd_ne (fun w => by rw [w, hp] at h5; cases h5)]; exact h5, h6.mono' (Same.refl S) fun f k b z w => r_app w, h7⟩
  · obtain ⟨g1, g2⟩ := fwd _ _ _ _ q2 q4
    by_cases hi : i < m.length
    · rw [List.getElem?_append_left hi] at q1
      rw [List.getElem?_append_left (by rw [hl]; exact hi)] at q3
      exact t.dct i q o kvs kvs' a q1 (dsv_app hc q2) q3 g1
    · have hi2 : i < (m ++ [c]).length := (List.getElem?_eq_some_iff.mp q1).1
      rw [List.length_append, List.length_singleton] at hi2
      have e : i = ρ.length := by omega
      rw [e] at q3
      simp at q3
      exact g2 q3.symm
structure DicR (Γ : Gd) (G S H : Hp) (ρ : List Addr) (m : Mem) : Prop extends DicR0 Γ G S H ρ m where
  sv : SvR Γ G S H ρ m
theorem DicR.h (t : DicR Γ G S H ρ m) (hp : H p = none ∨ ∃ vs, H p = some (.lst vs)) (u : HO) : DicR Γ G S (upd H p u) ρ m := ⟨t.toDicR0.h hp u, t.sv.gen (Same.refl S) fun q o kvs a vs _ _ h1 h2 h3 => ⟨by
  rw [upd_ne (fun z => by
    rw [z] at h1
    rcases hp with hp | ⟨ws, hp⟩ <;> rw [hp] at h1 <;> cases h1)]
  exact h1, h2, h3⟩⟩
theorem DicR.s (t : DicR Γ G S H ρ m) (e : Same S S') (hs : ∀ a vs, H a = some (.dK vs) → S a = none → S' a = none) : DicR Γ G S' H ρ m := ⟨t.toDicR0.s e hs, t.sv.gen e fun q o kvs a vs _ _ h1 h2 h3 => ⟨h1, hs a vs h1 h2, h3⟩⟩
theorem DicR.g {G' : Hp} (t : DicR Γ G S H ρ m) (hg : ∀ a vs, H a = some (.dK vs) → G a = none → G' a = none) : DicR Γ G' S H ρ m := ⟨t.toDicR0.g hg, t.sv.gen (Same.refl S) fun q o kvs a vs _ _ h1 h2 h3 => ⟨h1, h2, hg a vs h1 h3⟩⟩
theorem DicR.cells {ρ' : List Addr} {m' : Mem} (t : DicR Γ G S H ρ m) (hm : ∀ (i : Nat) (kvs : List (Key × D)), m'[i]? = some (.dct kvs) → m[i]? = some (.dct kvs)) (hr : ∀ (i : Nat) (a : Addr) (kvs : List (Key × D)), m'[i]? = some (.dct kvs) → ρ[i]? = some a → ρ'[i]? = some a)
    (hs : ∀ (p o : Nat) (kvs : List (Key × SV)), m'[p]? = some (.dsv o kvs) → m[p]? = some (.dsv o kvs) := by first | exact (fun p o kvs q => q) | exact (fun p o kvs q => dsv_app (by intro _ _ z; cases z) q) | exact (fun p o kvs q => dsv_set (by intro _ _ z; cases z) q) | exact (fun p o kvs q => dsv_app (by intro _ _ z; cases z) (dsv_app (by intro _ _ z; cases z) q)) | exact (fun p o kvs q => dsv_set (by intro _ _ z; cases z) (dsv_app (by intro _ _ z; cases z) q)) | exact (fun p o kvs q => dsv_set (by intro _ _ z; cases z) (dsv_set (by intro _ _ z; cases z) q)) | exact (fun p o kvs q => dsv_app (by intro _ _ z; cases z) (dsv_app (by intro _ _ z; cases z) (dsv_app (by intro _ _ z; cases z) q)))) (hq : ∀ (p o : Nat) (kvs : List (Key × SV)) (i : Nat) (a : Addr), m'[p]? = some (.dsv o kvs) → i ≤ p → ρ[i]? = some a → ρ'[i]? = some a := by first | exact (fun p o kvs i a _ _ q => q) | exact (fun p o kvs i a _ _ q => r_app q) | exact (fun p o kvs i a _ _ q => r_app (r_app q)) | exact (fun p o kvs i a _ _ q => r_app (r_app (r_app q))))
    (hz : ∀ (p : Nat) (es : List SV), m'[p]? = some (.sq es) → m[p]? = some (.sq es) := by first | exact (fun p es q => q) | exact (fun p es q => sq_app (by intro _ z; cases z) q) | exact (fun p es q => sq_set (by intro _ z; cases z) q) | exact (fun p es q => sq_app (by intro _ z; cases z) (sq_app (by intro _ z; cases z) q)) | exact (fun p es q => sq_set (by intro _ z; cases z) (sq_app (by intro _ z; cases z) q)) | exact (fun p es q => sq_set (by intro _ z; cases z) (sq_set (by intro _ z; cases z) q)) | exact (fun p es q => sq_app (by intro _ z; cases z) (sq_app (by intro _ z; cases z) (sq_app (by intro _ z; cases z) q))))
    (hy : ∀ (p : Nat) (es : List SV) (i : Nat) (a : Addr), m'[p]? = some (.sq es) → i ≤ p → ρ[i]? = some a → ρ'[i]? = some a := by first | exact (fun p es i a _ _ q => q) | exact (fun p es i a _ _ q => r_app q) | exact (fun p es i a _ _ q => r_app (r_app q)) | exact (fun p es i a _ _ q => r_app (r_app (r_app q)))) : DicR Γ G S H ρ' m' :=
  ⟨t.toDicR0.cells hm hr, t.sv.cells t.toDicR0 hm hr hs hq hz hy⟩
end
def Cell.mix : Cell → Bool
  | .pair _ _ => true
  | .dtc _ _ => true
  | .sub _ _ _ => true
  | .dtl _ => true
  | .nst _ _ _ => true
  | .obj _ _ _ => true
  | .odx => true
  | _ => false
def Cell.own1 : Cell → Bool
  | .sub _ _ _ => true
  | .dtl _ => true
  | .nst t _ _ => !t
  | .obj _ _ _ => true
  | .odx => true
  | _ => false
theorem own1_mix {c : Cell} (h : c.own1 = true) : c.mix = true := by cases c <;> first | rfl | cases h
def MixA (S : Hp) (ρ : List Addr) (m : Mem) (i : Nat) (b : Addr) : Prop :=
  (∃ d xs a v, m[i]? = some (.pair d xs) ∧ ρ[i]? = some a ∧ S a = some (.tup [v, .ref b])) ∨ (∃ kss ds, m[i]? = some (.dtc kss ds) ∧ ρ[i]? = some b) ∨ ∃ c, m[i]? = some c ∧ c.own1 = true ∧ ρ[i]? = some b
def NsR (Γ : Gd) (S : Hp) (vs : List V) (es : List (Option D)) : Prop := vs.length = es.length ∧ ∀ (j : Nat) (d : D), es[j]? = some (some d) → ∃ v, vs[j]? = some v ∧ Rp Γ S v d
theorem NsR.mono {Γ : Gd} {S S' : Hp} (e : Same S S') {vs : List V} {es : List (Option D)} (h : NsR Γ S vs es) : NsR Γ S' vs es := ⟨h.1, fun j d q => let ⟨v, a, b⟩ := h.2 j d q; ⟨v, a, b.mono e⟩⟩
def NstC (G S H : Hp) (t : Bool) (a : Addr) (vs : List V) : Prop := (t = true ∧ S a = some (.tup vs)) ∨ (t = false ∧ H a = some (.lst vs) ∧ S a = none ∧ G a = none)
def FlR (Γ : Gd) (S : Hp) (ρ : List Addr) (vs : List (Str × V)) (fs : List (Str × SV)) : Prop := Paired (fun (a : Str × V) (b : Str × SV) => a.1 = b.1 ∧ RSV Γ S ρ a.2 b.2) vs fs
theorem FlR.mono' {Γ : Gd} {S S' : Hp} {ρ ρ' : List Addr} (e : Same S S') {vs : List (Str × V)} {fs : List (Str × SV)} (h : FlR Γ S ρ vs fs) : (∀ (f : Str) (k : Nat) (a : Addr), (f, SV.ref k) ∈ fs → ρ[k]? = some a → ρ'[k]? = some a) → FlR Γ S' ρ' vs fs := by
  unfold FlR at h ⊢
  induction h with
  | nil => exact fun _ => .nil
  | @cons a b as bs r _ ih =>
    intro hr
    refine .cons ⟨r.1, r.2.mono' e fun k c z q => hr b.1 k c (by rw [← z]; exact List.mem_cons_self) q⟩ (ih fun f k c z q => hr f k c (List.mem_cons_of_mem _ z) q)
structure MixR (Γ : Gd) (G S H : Hp) (ρ : List Addr) (m : Mem) : Prop where
  pair : ∀ (i : Nat) (d : D) (xs : List D), m[i]? = some (.pair d xs) → ∃ a b v vs, ρ[i]? = some a ∧ S a = some (.tup [v, .ref b]) ∧ Rp Γ S v d ∧ H b = some (.lst vs) ∧ RpAll Γ S vs xs ∧ S b = none ∧ G b = none
  dtc : ∀ (i : Nat) (kss : List (List Key)) (ds : List D), m[i]? = some (.dtc kss ds) → ∃ a es vs, ρ[i]? = some a ∧ H a = some (dtW a es) ∧ (a == sysModules) = false ∧ es.length ≤ sizeLine ∧ kss.Nodup ∧ EntR Γ.K Γ.w S es kss vs ∧ RpAll Γ S vs ds ∧ S a = none ∧ G a = none
  sub : ∀ (n i j : Nat) (xs : List D), m[n]? = some (.sub i j xs) → i < n ∧ ∃ b vs, ρ[n]? = some b ∧ H b = some (.lst vs) ∧ RpAll Γ S vs xs ∧ S b = none ∧ G b = none
  dtl : ∀ (i : Nat) (kss : List (List Key)), m[i]? = some (.dtl kss) → ∃ (a : Addr) (es : List DictEntry) (vs : List Addr), ρ[i]? = some a ∧ H a = some (dtW a es) ∧ (a == sysModules) = false ∧ es.length ≤ sizeLine ∧ kss.Nodup ∧ EntR Γ.K Γ.w S es kss (vs.map V.ref) ∧ (∀ (n j : Nat) (xs : List D) (b : Addr), m[n]? = some (.sub i j xs) → ρ[n]? = some b → vs[j]? = some b) ∧ S a = none ∧ G a = none
  nst : ∀ (n : Nat) (t : Bool) (i : Nat) (es : List (Option D)), m[n]? = some (.nst t i es) → ∃ (a : Addr) (vs : List V), ρ[n]? = some a ∧ NstC G S H t a vs ∧ NsR Γ S vs es ∧ (∀ (n' j : Nat) (xs : List D) (b : Addr), m[n']? = some (.sub i j xs) → ρ[n']? = some b → vs[j]? = some (.ref b)) ∧ i ≤ n ∧ ∀ kss, m[i]? ≠ some (.dtl kss)
  obj : ∀ (p o : Nat) (cls : Str) (fs : List (Str × SV)), m[p]? = some (.obj o cls fs) → o + 1 < p ∧ (∀ (f : Str) (k : Nat), (f, SV.ref k) ∈ fs → k < p) ∧ ∃ (x dx C : Addr) (vs : List (Str × V)), ρ[p]? = some x ∧ ρ[o]? = some x ∧ ρ[o + 1]? = some dx ∧ Γ.mg cls = some (.ref C) ∧ H x = some (.ins C dx vs) ∧ FlR Γ S ρ vs fs ∧ S x = none ∧ G x = none
  odx : ∀ (i : Nat), m[i]? = some .odx → 0 < i ∧ ∃ dx x : Addr, ρ[i]? = some dx ∧ ρ[i - 1]? = some x ∧ H dx = some (.own x) ∧ S dx = none ∧ G dx = none
  inj : ∀ (i j : Nat) (b : Addr), MixA S ρ m i b → MixA S ρ m j b → i = j
  crs : ∀ (i j : Nat) (b : Addr) (xs : List D), MixA S ρ m i b → m[j]? = some (.lst xs) → ρ[j]? ≠ some b
section
variable {Γ : Gd} {G G' S S' H H' : Hp} {ρ ρ' : List Addr} {m m' : Mem} {p : Addr}
theorem MixR.own (t : MixR Γ G S H ρ m) {i : Nat} {b : Addr} (h : MixA S ρ m i b) : S b = none ∧ G b = none ∧ ∃ o, H b = some o ∧ (∀ ps, o ≠ .tbl ps) ∧ ∀ vs, o ≠ .dK vs := by
  rcases h with ⟨d, xs, a, v, h1, h2, h3⟩ | ⟨kss, ds, h1, h2⟩ | ⟨c, h1, h0, h2⟩
  · obtain ⟨a', b', v', vs, g1, g2, _, g4, _, g6, g7⟩ := t.pair i d xs h1
    rw [h2] at g1
    cases g1
    rw [h3] at g2
    cases g2
    exact ⟨g6, g7, _, g4, (fun _ z => by cases z), (fun _ z => by cases z)⟩
  · obtain ⟨a', es, vs, g1, g2, _, _, _, _, _, g6, g7⟩ := t.dtc i kss ds h1
    rw [h2] at g1
    cases g1
    exact ⟨g6, g7, _, g2, (fun _ z => by cases z), (fun _ z => by cases z)⟩
  · cases c with
    | sub i' j' xs =>
      obtain ⟨_, b', vs, g1, g2, _, g4, g5⟩ := t.sub i i' j' xs h1
      rw [h2] at g1
      cases g1
      exact ⟨g4, g5, _, g2, (fun _ z => by cases z), (fun _ z => by cases z)⟩
    | dtl kss =>
      obtain ⟨a', es, vs, g1, g2, _, _, _, _, _, g6, g7⟩ := t.dtl i kss h1
      rw [h2] at g1
      cases g1
      exact ⟨g6, g7, _, g2, (fun _ z => by cases z), (fun _ z => by cases z)⟩
    | nst tt i' es =>
      obtain ⟨a', vs, g1, g2, _⟩ := t.nst i tt i' es h1
      rw [h2] at g1
      cases g1
      rcases g2 with ⟨rfl, _⟩ | ⟨_, k1, k2, k3⟩
      · cases h0
      · exact ⟨k2, k3, _, k1, (fun _ z => by cases z), (fun _ z => by cases z)⟩
    | obj o cls fs =>
      obtain ⟨_, _, x, dx, C, vs, g1, _, _, _, g2, _, g3, g4⟩ := t.obj i o cls fs h1
      rw [h2] at g1
      cases g1
      exact ⟨g3, g4, _, g2, (fun _ z => by cases z), (fun _ z => by cases z)⟩
    | odx =>
      obtain ⟨_, dx, x, g1, _, g2, g3, g4⟩ := t.odx i h1
      rw [h2] at g1
      cases g1
      exact ⟨g3, g4, _, g2, (fun _ z => by cases z), (fun _ z => by cases z)⟩
    | lst _ => cases h0
    | dct _ => cases h0
    | dead => cases h0
    | pair _ _ => cases h0
    | dtc _ _ => cases h0
    | dsv _ _ => cases h0
    | sq _ => cases h0
theorem MixR.at1 (t : MixR Γ G S H ρ m) {i : Nat} {c : Cell} (h : m[i]? = some c) (h0 : c.own1 = true) : ∃ b, ρ[i]? = some b := by
  cases c with
  | sub i' j' xs =>
    obtain ⟨_, b', vs, g1, _⟩ := t.sub i i' j' xs h
    exact ⟨_, g1⟩
  | dtl kss =>
    obtain ⟨a', es, vs, g1, _⟩ := t.dtl i kss h
    exact ⟨_, g1⟩
  | nst tt i' es =>
    obtain ⟨a', vs, g1, _⟩ := t.nst i tt i' es h
    exact ⟨_, g1⟩
  | obj o cls fs =>
    obtain ⟨_, _, x, dx, C, vs, g1, _⟩ := t.obj i o cls fs h
    exact ⟨_, g1⟩
  | odx =>
    obtain ⟨_, dx, x, g1, _⟩ := t.odx i h
    exact ⟨_, g1⟩
  | lst _ => cases h0
  | dct _ => cases h0
  | dead => cases h0
  | pair _ _ => cases h0
  | dtc _ _ => cases h0
  | dsv _ _ => cases h0
  | sq _ => cases h0
theorem MixR.ne (t : MixR Γ G S H ρ m) {i : Nat} {b : Addr} (h : MixA S ρ m i b) (hp : H p = none) : b ≠ p := by
  obtain ⟨_, _, o, h1, _⟩ := t.own h
  exact ne_of_none h1 hp
theorem MixR.step (t : MixR Γ G S H ρ m) (e : Same S S') (hb : ∀ (i : Nat) (b : Addr), MixA S ρ m i b → S' b = none ∧ G' b = none ∧ H' b = H b)
    (hm : ∀ (i : Nat) (c : Cell), m'[i]? = some c → c.mix = true → m[i]? = some c) (hr' : ∀ (i k : Nat) (a : Addr) (c : Cell), m'[i]? = some c → c.mix = true → k ≤ i → ρ[k]? = some a → ρ'[k]? = some a)
    (hl : ∀ (i : Nat) (b : Addr) (j : Nat) (xs : List D), MixA S ρ m i b → m'[j]? = some (.lst xs) → ρ'[j]? ≠ some b) : MixR Γ G' S' H' ρ' m' := by
  have hr : ∀ (i : Nat) (a : Addr) (c : Cell), m'[i]? = some c → c.mix = true → ρ[i]? = some a → ρ'[i]? = some a := fun i a c h1 h2 h3 => hr' i i a c h1 h2 (Nat.le_refl _) h3
  have key : ∀ (i : Nat) (b : Addr), MixA S' ρ' m' i b → MixA S ρ m i b := fun i b h => by
    rcases h with ⟨d, xs, a, v, h1, h2, h3⟩ | ⟨kss, ds, h1, h2⟩ | ⟨c, h1, h0, h2⟩
    · have q := hm i _ h1 rfl
      obtain ⟨a', b', v', vs, g1, g2, _⟩ := t.pair i d xs q
      have q2 := hr i a' _ h1 rfl g1
      rw [h2] at q2
      cases q2
      have q3 := e _ _ g2
      rw [h3] at q3
      cases q3
      exact .inl ⟨d, xs, a, v, q, g1, g2⟩
    · have q := hm i _ h1 rfl
      obtain ⟨a', es, vs, g1, _⟩ := t.dtc i kss ds q
      have q2 := hr i a' _ h1 rfl g1
      rw [h2] at q2
      cases q2
      exact .inr (.inl ⟨kss, ds, q, g1⟩)
    · have q := hm i _ h1 (own1_mix h0)
      obtain ⟨b0, g1⟩ := t.at1 q h0
      have q2 := hr i b0 _ h1 (own1_mix h0) g1
      rw [h2] at q2
      cases q2
      exact .inr (.inr ⟨c, q, h0, g1⟩)
  refine ⟨fun i d xs h => ?_, fun i kss ds h => ?_, fun n i j xs h => ?_, fun i kss h => ?_, fun n tt i es h => ?_, fun p o cls fs h => ?_, fun i h => ?_, fun i j b h1 h2 => t.inj i j b (key i b h1) (key j b h2), fun i j b xs h1 h2 => hl i b j xs (key i b h1) h2⟩
  · have q := hm i _ h rfl
    obtain ⟨a, b, v, vs, g1, g2, g3, g4, g5, g6, g7⟩ := t.pair i d xs q
    obtain ⟨k1, k2, k3⟩ := hb i b (.inl ⟨d, xs, a, v, q, g1, g2⟩)
    exact ⟨a, b, v, vs, hr i a _ h rfl g1, e _ _ g2, g3.mono e, by rw [k3]; exact g4, g5.mono e, k1, k2⟩
  · have q := hm i _ h rfl
    obtain ⟨a, es, vs, g1, g2, g3, g4, g5, g6, g6', g7, g8⟩ := t.dtc i kss ds q
    obtain ⟨k1, k2, k3⟩ := hb i a (.inr (.inl ⟨kss, ds, q, g1⟩))
    exact ⟨a, es, vs, hr i a _ h rfl g1, by rw [k3]; exact g2, g3, g4, g5, g6.mono e, g6'.mono e, k1, k2⟩
  · have q := hm n _ h rfl
    obtain ⟨g0, b, vs, g1, g2, g3, g4, g5⟩ := t.sub n i j xs q
    obtain ⟨k1, k2, k3⟩ := hb n b (.inr (.inr ⟨_, q, rfl, g1⟩))
    exact ⟨g0, b, vs, hr n b _ h rfl g1, by rw [k3]; exact g2, g3.mono e, k1, k2⟩
  · have q := hm i _ h rfl
    obtain ⟨a, es, vs, g1, g2, g3, g4, g5, g6, g6', g7, g8⟩ := t.dtl i kss q
    obtain ⟨k1, k2, k3⟩ := hb i a (.inr (.inr ⟨_, q, rfl, g1⟩))
    refine ⟨a, es, vs, hr i a _ h rfl g1, by rw [k3]; exact g2, g3, g4, g5, g6.mono e, fun n j xs b w1 w2 => ?_, k1, k2⟩
    have w3 := hm n _ w1 rfl
    obtain ⟨_, b', vs', y1, _⟩ := t.sub n i j xs w3
    have w4 := hr n b' _ w1 rfl y1
    rw [w2] at w4
    cases w4
    exact g6' n j xs b w3 y1
  · have q := hm n _ h rfl
    obtain ⟨a, vs, g1, g2, g3, g4, g5, g6⟩ := t.nst n tt i es q
    refine ⟨a, vs, hr n a _ h rfl g1, ?_, g3.mono e, fun n' j xs b w1 w2 => ?_, g5, fun kss z => g6 kss (hm i _ z rfl)⟩
    · rcases g2 with ⟨rfl, k⟩ | ⟨rfl, k1, k2, k3⟩
      · exact .inl ⟨rfl, e _ _ k⟩
      · obtain ⟨l1, l2, l3⟩ := hb n a (.inr (.inr ⟨_, q, rfl, g1⟩))
        exact .inr ⟨rfl, by rw [l3]; exact k1, l1, l2⟩
    · have w3 := hm n' _ w1 rfl
      obtain ⟨_, b', vs', y1, _⟩ := t.sub n' i j xs w3
      have w4 := hr n' b' _ w1 rfl y1
      rw [w2] at w4
      cases w4
      exact g4 n' j xs b w3 y1
  · have q := hm p _ h rfl
    obtain ⟨g1, g2, x, dx, C, vs, g3, g4, g5, g6, g7, g8, g9, g10⟩ := t.obj p o cls fs q
    obtain ⟨k1, k2, k3⟩ := hb p x (.inr (.inr ⟨_, q, rfl, g3⟩))
    exact ⟨g1, g2, x, dx, C, vs, hr p x _ h rfl g3, hr' p o x _ h rfl (by omega) g4, hr' p (o + 1) dx _ h rfl (by omega) g5, g6, by rw [k3]; exact g7, g8.mono' e fun f k a z w => hr' p k a _ h rfl (Nat.le_of_lt (g2 f k z)) w, k1, k2⟩
  · have q := hm i _ h rfl
    obtain ⟨g0, dx, x, g1, g2, g3, g4, g5⟩ := t.odx i q
    obtain ⟨k1, k2, k3⟩ := hb i dx (.inr (.inr ⟨_, q, rfl, g1⟩))
    exact ⟨g0, dx, x, hr i dx _ h rfl g1, hr' i (i - 1) x _ h rfl (by omega) g2, by rw [k3]; exact g3, k1, k2⟩
theorem mix_app {m : Mem} {c : Cell} (hc : c.mix = false) {i : Nat} {c' : Cell} (h : (m ++ [c])[i]? = some c') (h' : c'.mix = true) : m[i]? = some c' := by
  by_cases hi : i < m.length
  · rw [List.getElem?_append_left hi] at h; exact h
  · rw [List.getElem?_append_right (by omega)] at h
    have h0 : i - m.length = 0 := by
      have := (List.getElem?_eq_some_iff.mp h).1
      simp at this
      omega
    rw [h0] at h
    simp at h
    subst h
    rw [hc] at h'
    cases h'
theorem mix_set {m : Mem} {c : Cell} (hc : c.mix = false) {j i : Nat} {c' : Cell} (h : (m.set j c)[i]? = some c') (h' : c'.mix = true) : m[i]? = some c' := by
  by_cases e : j = i
  · subst e
    by_cases hl : j < m.length
    · rw [List.getElem?_set_self hl] at h
      cases h
      rw [hc] at h'
      cases h'
    · rw [List.getElem?_eq_none (by rw [List.length_set]; omega)] at h
      cases h
  · rw [List.getElem?_set_ne e] at h
    exact h
theorem lst_app {m : Mem} {c : Cell} (hc : ∀ xs, c ≠ .lst xs) {i : Nat} {xs : List D} (h : (m ++ [c])[i]? = some (.lst xs)) : m[i]? = some (.lst xs) := by
  by_cases hi : i < m.length
  · rw [List.getElem?_append_left hi] at h; exact h
  · rw [List.getElem?_append_right (by omega)] at h
    have h0 : i - m.length = 0 := by
      have := (List.getElem?_eq_some_iff.mp h).1
      simp at this
      omega
    rw [h0] at h
    simp at h
    exact absurd h (hc xs)
theorem lst_set {m : Mem} {c : Cell} (hc : ∀ xs, c ≠ .lst xs) {j i : Nat} {xs : List D} (h : (m.set j c)[i]? = some (.lst xs)) : m[i]? = some (.lst xs) := by
  by_cases e : j = i
  · subst e
    by_cases hl : j < m.length
    · rw [List.getElem?_set_self hl] at h
      exact absurd (Option.some.inj h) (hc xs)
    · rw [List.getElem?_eq_none (by rw [List.length_set]; omega)] at h
      cases h
  · rw [List.getElem?_set_ne e] at h
    exact h
theorem MixR.push (t : MixR Γ G S H ρ m) (hl : ρ.length = m.length) (hb : ∀ (i : Nat) (b : Addr), MixA S ρ m i b → H' b = H b) {c : Cell} (hc : c.mix = false) (hp : (∃ xs, c = .lst xs) → ∀ (i : Nat) (b : Addr), MixA S ρ m i b → b ≠ p) : MixR Γ G S H' (ρ ++ [p]) (m ++ [c]) := by
  refine t.step (Same.refl S) (fun i b q => ⟨(t.own q).1, (t.own q).2.1, hb i b q⟩) (fun i c' q1 q2 => mix_app hc q1 q2) (fun i k a c' _ _ _ q => r_app q) fun i b j xs q1 q2 q3 => ?_
  by_cases hj : j < m.length
  · rw [List.getElem?_append_left hj] at q2
    rw [List.getElem?_append_left (by omega)] at q3
    exact t.crs i j b xs q1 q2 q3
  · have e : j = m.length := by
      have := (List.getElem?_eq_some_iff.mp q2).1
      simp at this
      omega
    subst e
    have e1 : c = .lst xs := by simpa using q2
    rw [← hl] at q3
    have e2 : p = b := by simpa using q3
    exact hp ⟨xs, e1⟩ i b q1 e2.symm
theorem MixR.put (t : MixR Γ G S H ρ m) {i : Nat} {xs ys : List D} {a : Addr} (hm : m[i]? = some (.lst xs)) (ha : ρ[i]? = some a) (o : HO) : MixR Γ G S (upd H a o) ρ (m.set i (.lst ys)) := by
  refine t.step (Same.refl S) (fun j b q => ⟨(t.own q).1, (t.own q).2.1, upd_ne fun z => t.crs j i b xs q hm (by rw [z]; exact ha)⟩) (fun j c' q1 q2 => mix_set rfl q1 q2) (fun _ _ _ _ _ _ _ q => q) fun k b j zs q1 q2 q3 => ?_
  by_cases e : i = j
  · subst e
    exact t.crs k i b xs q1 hm q3
  · rw [List.getElem?_set_ne e] at q2
    exact t.crs k j b zs q1 q2 q3
theorem MixR.frz (t : MixR Γ G S H ρ m) {i : Nat} {xs : List D} {a : Addr} {o : HO} (hm : m[i]? = some (.lst xs)) (ha : ρ[i]? = some a) (e : Same S (upd S a o)) : MixR Γ G (upd S a o) H ρ (m.set i .dead) := by
  refine t.step e (fun j b q => ⟨upd_free (t.own q).1 fun z => t.crs j i b xs q hm (by rw [z]; exact ha), (t.own q).2.1, rfl⟩) (fun j c' q1 q2 => mix_set rfl q1 q2) (fun _ _ _ _ _ _ _ q => q) fun k b j zs q1 q2 q3 => t.crs k j b zs q1 (lst_set (fun _ z => by cases z) q2) q3
def NoCell (S : Hp) (ρ : List Addr) (m : Mem) (p : Addr) : Prop := (∀ (i : Nat) (xs : List D), m[i]? = some (.lst xs) → ρ[i]? ≠ some p) ∧ ∀ (i : Nat), ¬ MixA S ρ m i p
theorem MixR.same (t : MixR Γ G S H ρ m) (e : Same S S') (hb : ∀ (i : Nat) (b : Addr), MixA S ρ m i b → S' b = none ∧ G' b = none ∧ H' b = H b) : MixR Γ G' S' H' ρ m :=
  t.step e hb (fun _ _ h _ => h) (fun _ _ _ _ _ _ _ h => h) fun i b j xs h1 h2 => t.crs i j b xs h1 h2
end
theorem MixR.none {Γ : Gd} {G S H : Hp} : MixR Γ G S H [] [] := ⟨(fun i d xs e => by simp at e), (fun i k d e => by simp at e), (fun n i j xs e => by simp at e), (fun i k e => by simp at e), (fun n tt i es e => by simp at e), (fun p o cls fs e => by simp at e), (fun i e => by simp at e), (fun i j b e => by rcases e with ⟨_, _, _, _, e, _⟩ | ⟨_, _, e, _⟩ | ⟨_, e, _⟩ <;> simp at e), (fun i j b xs e => by rcases e with ⟨_, _, _, _, e, _⟩ | ⟨_, _, e, _⟩ | ⟨_, e, _⟩ <;> simp at e)⟩
theorem DicR.none {Γ : Gd} {G S H : Hp} : DicR Γ G S H [] [] := ⟨⟨fun i kvs e => by simp at e, fun i j xs ys a e => by simp at e⟩, ⟨fun p o kvs e => by simp at e, fun p q o o' kvs kvs' a e => by simp at e, fun i p o kvs kvs' a e => by simp at e, fun p es e => by simp at e⟩⟩
structure MR (Γ : Gd) (G S H : Hp) (ρ : List Addr) (m : Mem) : Prop where
  sub : Same S H
  gsub : Same G H
  dis : ∀ a o, G a = some o → S a = none
  len : ρ.length = m.length
  cell : ∀ (i : Nat) (xs : List D), m[i]? = some (.lst xs) → ∃ a vs, ρ[i]? = some a ∧ H a = some (.lst vs) ∧ RpAll Γ S vs xs ∧ S a = none ∧ G a = none
  inj : ∀ (i j : Nat) (xs ys : List D) (a : Addr), m[i]? = some (.lst xs) → m[j]? = some (.lst ys) → ρ[i]? = some a → ρ[j]? = some a → i = j
  tab : TabR Γ.K G S H
  dic : DicR Γ G S H ρ m
  mix : MixR Γ G S H ρ m
structure ER (Γ : Gd) (S : Hp) (ρ : List Addr) (env : En) (σ : St) : Prop where
  len : env.length = σ.length
  at_ : ∀ (i : Nat) (v : SV), env[i]? = some (some v) → ∃ vv, σ[i]? = some (some vv) ∧ RSV Γ S ρ vv v
theorem ER.mono {Γ : Gd} {S S' : Hp} {ρ ρ' : List Addr} {env : En} {σ : St} (e : Ext S ρ S' ρ') (h : ER Γ S ρ env σ) : ER Γ S' ρ' env σ :=
  ⟨h.len, fun i v q => let ⟨vv, a, b⟩ := h.at_ i v q; ⟨vv, a, b.mono e⟩⟩
theorem ER.set {Γ : Gd} {S : Hp} {ρ : List Addr} {env : En} {σ : St} (h : ER Γ S ρ env σ) (i : Nat) {v : SV} {vv : V} (r : RSV Γ S ρ vv v) : ER Γ S ρ (env.set i (some v)) (σ.set i (some vv)) := by
  refine ⟨by rw [List.length_set, List.length_set]; exact h.len, fun j x q => ?_⟩
  by_cases e : i = j
  · subst e
    by_cases hl : i < env.length
    · rw [List.getElem?_set_self hl] at q
      cases q
      exact ⟨vv, List.getElem?_set_self (by rw [← h.len]; exact hl), r⟩
    · rw [List.getElem?_eq_none (by rw [List.length_set]; omega)] at q
      cases q
  · rw [List.getElem?_set_ne e] at q
    obtain ⟨w, a, b⟩ := h.at_ j x q
    exact ⟨w, by rw [List.getElem?_set_ne e]; exact a, b⟩
theorem ER.clear {Γ : Gd} {S : Hp} {ρ : List Addr} {env : En} {σ : St} (h : ER Γ S ρ env σ) (i : Nat) : ER Γ S ρ (env.set i none) (σ.set i none) := by
  refine ⟨by rw [List.length_set, List.length_set]; exact h.len, fun j x q => ?_⟩
  by_cases e : i = j
  · subst e
    by_cases hl : i < env.length
    · rw [List.getElem?_set_self hl] at q
      cases q
    · rw [List.getElem?_eq_none (by rw [List.length_set]; omega)] at q
      cases q
  · rw [List.getElem?_set_ne e] at q
    obtain ⟨w, a, b⟩ := h.at_ j x q
    exact ⟨w, by rw [List.getElem?_set_ne e]; exact a, b⟩
section
variable {Γ : Gd} {G S H : Hp} {ρ : List Addr} {m : Mem} {p : Addr}
theorem MR.grow (M : MR Γ G S H ρ m) (hp : H p = none) (o : HO) (ho : ∀ ps, o ≠ .tbl ps := by intro _ z; cases z) (hk : ∀ vs, o ≠ .dK vs := by intro _ z; cases z) : Same S (upd S p o) ∧ MR Γ G (upd S p o) (upd H p o) ρ m := by
  have sp : S p = none := M.sub.free hp
  have gp : G p = none := M.gsub.free hp
  have s1 : Same S (upd S p o) := fun b x q => by rw [upd_ne (ne_of_none q sp)]; exact q
  refine ⟨s1, ⟨fun b x q => ?_, fun b x q => ?_, fun b x q => ?_, M.len, fun i xs q => ?_, M.inj, (M.tab.h (.inl hp) o).s ho, (M.dic.h (.inl hp) o).s s1 fun a vs q z => upd_free z fun e => by rw [e, upd_same] at q; cases q; exact hk _ rfl, M.mix.same s1 fun i b q => ⟨upd_free (M.mix.own q).1 (M.mix.ne q hp), (M.mix.own q).2.1, upd_ne (M.mix.ne q hp)⟩⟩⟩
  · by_cases e : b = p
    · subst e; rw [upd_same] at q ⊢; exact q
    · rw [upd_ne e] at q ⊢; exact M.sub b x q
  · rw [upd_ne (ne_of_none q gp)]; exact M.gsub b x q
  · rw [upd_ne (ne_of_none q gp)]; exact M.dis b x q
  · obtain ⟨a, vs, h1, h2, h3, h4, h5⟩ := M.cell i xs q
    have ne : a ≠ p := ne_of_none h2 hp
    exact ⟨a, vs, h1, by rw [upd_ne ne]; exact h2, h3.mono s1, by rw [upd_ne ne]; exact h4, h5⟩
theorem MR.alloc (M : MR Γ G S H ρ m) (hp : H p = none) {vs : List V} {xs : List D} (r : RpAll Γ S vs xs) :
    Ext S ρ S (ρ ++ [p]) ∧ MR Γ G S (upd H p (.lst vs)) (ρ ++ [p]) (m ++ [.lst xs]) := by
  have sp : S p = none := M.sub.free hp
  have gp : G p = none := M.gsub.free hp
  have pre : ∀ (i : Nat) (a : Addr), ρ[i]? = some a → (ρ ++ [p])[i]? = some a := fun i a q => by
    rw [List.getElem?_append_left (List.getElem?_eq_some_iff.mp q).1]; exact q
  have at_ : ∀ (i : Nat) (xs' : List D), (m ++ [Cell.lst xs])[i]? = some (.lst xs') → (m[i]? = some (.lst xs') ∧ i < m.length) ∨ (i = m.length ∧ xs' = xs) := fun i xs' q => by
    by_cases hi : i < m.length
    · rw [List.getElem?_append_left hi] at q; exact .inl ⟨q, hi⟩
    · rw [List.getElem?_append_right (by omega)] at q
      have h0 : i - m.length = 0 := by
        have := (List.getElem?_eq_some_iff.mp q).1
        simp at this
        omega
      rw [h0] at q
      simp at q
      exact .inr ⟨by omega, q.symm⟩
  refine ⟨⟨Same.refl S, pre⟩, ⟨fun b x q => ?_, fun b x q => ?_, M.dis, by rw [List.length_append, List.length_append, M.len]; rfl, fun i xs' q => ?_, fun i j xs' ys' a q1 q2 q3 q4 => ?_, M.tab.h (.inl hp) _, (M.dic.h (.inl hp) _).cells (fun i kvs q => dct_app (fun _ z => by cases z) q) fun i a kvs _ q => r_app q, M.mix.push M.len (fun i b q => upd_ne (M.mix.ne q hp)) rfl fun _ i b q => M.mix.ne q hp⟩⟩
  · rw [upd_ne (ne_of_none q sp)]; exact M.sub b x q
  · rw [upd_ne (ne_of_none q gp)]; exact M.gsub b x q
  · rcases at_ i xs' q with ⟨q1, _⟩ | ⟨q1, q2⟩
    · obtain ⟨a, vs', h1, h2, h3, h4, h5⟩ := M.cell i xs' q1
      exact ⟨a, vs', pre i a h1, by rw [upd_ne (ne_of_none h2 hp)]; exact h2, h3, h4, h5⟩
    · subst q1 q2
      exact ⟨p, vs, by rw [← M.len]; simp, upd_same, r, sp, gp⟩
  · have key : ∀ (i : Nat) (xs' : List D) (a : Addr), (m ++ [Cell.lst xs])[i]? = some (.lst xs') → (ρ ++ [p])[i]? = some a → (m[i]? = some (.lst xs') ∧ ρ[i]? = some a ∧ a ≠ p) ∨ (i = m.length ∧ a = p) := fun i xs' a q r => by
      rcases at_ i xs' q with ⟨q1, q2⟩ | ⟨q1, q2⟩
      · obtain ⟨a', vs', h1, h2, _⟩ := M.cell i xs' q1
        have e := pre i a' h1
        rw [r] at e
        cases e
        exact .inl ⟨q1, h1, ne_of_none h2 hp⟩
      · subst q1
        rw [← M.len] at r
        simp at r
        exact .inr ⟨rfl, r.symm⟩
    rcases key i xs' a q1 q3 with ⟨b1, b2, b3⟩ | ⟨b1, b2⟩
    · rcases key j ys' a q2 q4 with ⟨c1, c2, c3⟩ | ⟨c1, c2⟩
      · exact M.inj i j xs' ys' a b1 c1 b2 c2
      · exact absurd c2 b3
    · rcases key j ys' a q2 q4 with ⟨c1, c2, c3⟩ | ⟨c1, c2⟩
      · exact absurd b2 c3
      · rw [b1, c1]
theorem MR.write (M : MR Γ G S H ρ m) {i : Nat} {xs ys : List D} {a : Addr} {ws : List V} (hm : m[i]? = some (.lst xs)) (ha : ρ[i]? = some a) (r : RpAll Γ S ws ys) :
    MR Γ G S (upd H a (.lst ws)) ρ (m.set i (.lst ys)) := by
  have hi : i < m.length := (List.getElem?_eq_some_iff.mp hm).1
  obtain ⟨a', vs, h1, h2, h3, h4, h5⟩ := M.cell i xs hm
  rw [ha] at h1
  cases h1
  have at_ : ∀ (j : Nat) (zs : List D), (m.set i (Cell.lst ys))[j]? = some (.lst zs) → (j = i ∧ zs = ys) ∨ (j ≠ i ∧ m[j]? = some (.lst zs)) := fun j zs q => by
    by_cases e : i = j
    · subst e
      rw [List.getElem?_set_self hi] at q
      cases q
      exact .inl ⟨rfl, rfl⟩
    · rw [List.getElem?_set_ne e] at q
      exact .inr ⟨Ne.symm e, q⟩
  have live : ∀ (j : Nat) (zs : List D), (m.set i (Cell.lst ys))[j]? = some (.lst zs) → ∃ zs', m[j]? = some (.lst zs') := fun j zs q => by
    rcases at_ j zs q with ⟨rfl, _⟩ | ⟨_, q⟩
    · exact ⟨_, hm⟩
    · exact ⟨_, q⟩
  refine ⟨fun b x q => ?_, fun b x q => ?_, M.dis, by rw [List.length_set]; exact M.len, fun j zs q => ?_, fun j k zs ws' b q1 q2 q3 q4 => ?_, M.tab.h (.inr ⟨_, h2⟩) _, (M.dic.h (.inr ⟨_, h2⟩) _).cells (fun i kvs q => dct_set (fun _ z => by cases z) q) fun i a kvs _ q => q, M.mix.put hm ha _⟩
  · rw [upd_ne (ne_of_none q h4)]; exact M.sub b x q
  · rw [upd_ne (ne_of_none q h5)]; exact M.gsub b x q
  · rcases at_ j zs q with ⟨rfl, rfl⟩ | ⟨e, q⟩
    · exact ⟨a, ws, ha, upd_same, r, h4, h5⟩
    · obtain ⟨b, us, g1, g2, g3, g4, g5⟩ := M.cell j zs q
      refine ⟨b, us, g1, ?_, g3, g4, g5⟩
      rw [upd_ne (fun z => e (M.inj j i zs xs a q hm (by rw [← z]; exact g1) ha))]
      exact g2
  · obtain ⟨z1, l1⟩ := live j zs q1
    obtain ⟨z2, l2⟩ := live k ws' q2
    exact M.inj j k z1 z2 b l1 l2 q3 q4
theorem MR.freeze (M : MR Γ G S H ρ m) {i : Nat} {xs : List D} (hm : m[i]? = some (.lst xs)) :
    ∃ a vs, ρ[i]? = some a ∧ Ext S ρ (upd S a (.lst vs)) ρ ∧ MR Γ G (upd S a (.lst vs)) H ρ (m.set i .dead) ∧ Rp Γ (upd S a (.lst vs)) (.ref a) (.lst xs) := by
  have hi : i < m.length := (List.getElem?_eq_some_iff.mp hm).1
  obtain ⟨a, vs, h1, h2, h3, h4, h5⟩ := M.cell i xs hm
  have s1 : Same S (upd S a (.lst vs)) := fun b x q => by rw [upd_ne (ne_of_none q h4)]; exact q
  have at_ : ∀ (j : Nat) (zs : List D), (m.set i Cell.dead)[j]? = some (.lst zs) → j ≠ i ∧ m[j]? = some (.lst zs) := fun j zs q => by
    by_cases e : i = j
    · subst e
      rw [List.getElem?_set_self hi] at q
      cases q
    · rw [List.getElem?_set_ne e] at q
      exact ⟨Ne.symm e, q⟩
  refine ⟨a, vs, h1, ⟨s1, fun _ _ q => q⟩, ⟨fun b x q => ?_, M.gsub, fun b x q => ?_, by rw [List.length_set]; exact M.len, fun j zs q => ?_, fun j k zs ws b q1 q2 q3 q4 => ?_, M.tab.s (fun _ z => by cases z), (M.dic.s s1 fun b us q z => upd_free z fun e => by rw [e, h2] at q; cases q).cells (fun i kvs q => dct_set (fun _ z => by cases z) q) fun i a kvs _ q => q, M.mix.frz hm h1 s1⟩, .lst upd_same (h3.mono s1)⟩
  · by_cases e : b = a
    · subst e; rw [upd_same] at q; cases q; exact h2
    · rw [upd_ne e] at q; exact M.sub b x q
  · have ne : b ≠ a := fun z => by subst z; rw [q] at h5; cases h5
    rw [upd_ne ne]; exact M.dis b x q
  · obtain ⟨e, q⟩ := at_ j zs q
    obtain ⟨b, us, g1, g2, g3, g4, g5⟩ := M.cell j zs q
    refine ⟨b, us, g1, g2, g3.mono s1, ?_, g5⟩
    rw [upd_ne (fun z => e (M.inj j i zs xs a q hm (by rw [← z]; exact g1) h1))]
    exact g4
  · exact M.inj j k zs ws b (at_ j zs q1).2 (at_ k ws q2).2 q3 q4
theorem MR.take (M : MR Γ G S H ρ m) (n : Nat) : MR Γ G S H (ρ.take n) (m.take n) := by
  have at_ : ∀ (j : Nat) (c : Cell), (m.take n)[j]? = some c → j < n ∧ m[j]? = some c := fun j c q => by
    have h := (List.getElem?_eq_some_iff.mp q).1
    rw [List.length_take] at h
    have hn : j < n := by omega
    rw [List.getElem?_take_of_lt hn] at q
    exact ⟨hn, q⟩
  refine ⟨M.sub, M.gsub, M.dis, by rw [List.length_take, List.length_take, M.len], fun i xs q => ?_, fun i j xs ys a q1 q2 q3 q4 => ?_, M.tab, M.dic.cells (fun i kvs q => (at_ i _ q).2) (fun i a kvs q z => by rw [List.getElem?_take_of_lt (at_ i _ q).1]; exact z) (fun p o kvs q => (at_ p _ q).2) (fun p o kvs i a q hi z => by rw [List.getElem?_take_of_lt (Nat.lt_of_le_of_lt hi (at_ p _ q).1)]; exact z) (fun p es q => (at_ p _ q).2) fun p es i a q hi z => by rw [List.getElem?_take_of_lt (Nat.lt_of_le_of_lt hi (at_ p _ q).1)]; exact z, M.mix.step (Same.refl S) (fun i b q => ⟨(M.mix.own q).1, (M.mix.own q).2.1, rfl⟩) (fun i c q _ => (at_ i _ q).2) (fun i k a c q _ hk z => by rw [List.getElem?_take_of_lt (Nat.lt_of_le_of_lt hk (at_ i _ q).1)]; exact z) fun i b j xs q1 q2 q3 => M.mix.crs i j b xs q1 (at_ j _ q2).2 (by rw [List.getElem?_take_of_lt (at_ j _ q2).1] at q3; exact q3)⟩
  · obtain ⟨hn, q⟩ := at_ i _ q
    obtain ⟨a, vs, h1, h2⟩ := M.cell i xs q
    exact ⟨a, vs, by rw [List.getElem?_take_of_lt hn]; exact h1, h2⟩
  · obtain ⟨hi, q1⟩ := at_ i _ q1
    obtain ⟨hj, q2⟩ := at_ j _ q2
    rw [List.getElem?_take_of_lt hi] at q3
    rw [List.getElem?_take_of_lt hj] at q4
    exact M.inj i j xs ys a q1 q2 q3 q4
theorem MR.guard (M : MR Γ G S H ρ m) {o : HO} (hp : H p = some o) (hs : S p = none) (hc : NoCell S ρ m p) (ho : ∃ vs, o = .lst vs := by exact ⟨_, rfl⟩) : MR Γ (upd G p o) S H ρ m := by
  have hk : ∀ vs, o ≠ .dK vs := fun vs z => by
    obtain ⟨ws, e⟩ := ho
    rw [e] at z
    cases z
  refine ⟨M.sub, fun b x q => ?_, fun b x q => ?_, M.len, fun i xs q => ?_, M.inj, M.tab.g ho, M.dic.g fun a vs q z => upd_free z fun e => by rw [e, hp] at q; exact hk vs (Option.some.inj q), M.mix.same (Same.refl S) fun i b q => ⟨(M.mix.own q).1, upd_free (M.mix.own q).2.1 fun z => hc.2 i (by rw [← z]; exact q), rfl⟩⟩
  · by_cases e : b = p
    · subst e; rw [upd_same] at q; cases q; exact hp
    · rw [upd_ne e] at q; exact M.gsub b x q
  · by_cases e : b = p
    · subst e; exact hs
    · rw [upd_ne e] at q; exact M.dis b x q
  · obtain ⟨a, vs, h1, h2, h3, h4, h5⟩ := M.cell i xs q
    refine ⟨a, vs, h1, h2, h3, h4, ?_⟩
    rw [upd_ne (fun z => hc.1 i xs q (by rw [← z]; exact h1))]
    exact h5
theorem MR.unguard {G' : Hp} {o : HO} (M : MR Γ (upd G p o) S H ρ m) (hg : G p = none) (u : HO) (ho : ∃ vs, o = .lst vs := by exact ⟨_, rfl⟩) : MR Γ G S (upd H p u) ρ m ∧ S p = none ∧ NoCell S ρ m p := by
  have hs : S p = none := M.dis p o upd_same
  have hc : ∀ (i : Nat) (xs : List D), m[i]? = some (.lst xs) → ρ[i]? ≠ some p := fun i xs q z => by
    obtain ⟨a, vs, h1, _, _, _, h5⟩ := M.cell i xs q
    rw [z] at h1
    cases h1
    rw [upd_same] at h5
    cases h5
  have mx : ∀ (i : Nat) (b : Addr), MixA S ρ m i b → b ≠ p := fun i b q z => by
    have := (M.mix.own q).2.1
    rw [z, upd_same] at this
    cases this
  refine ⟨⟨fun b x q => ?_, fun b x q => ?_, fun b x q => ?_, M.len, fun i xs q => ?_, M.inj, (M.tab.ung hg).h (.inr (let ⟨vs, e⟩ := ho; ⟨vs, by rw [← e]; exact M.gsub p o upd_same⟩)) u, (M.dic.g fun a vs q z => by
    by_cases e : a = p
    · rw [e]; exact hg
    · rw [upd_ne e] at z; exact z).h (.inr (let ⟨vs, e⟩ := ho; ⟨vs, by rw [← e]; exact M.gsub p o upd_same⟩)) u, M.mix.same (Same.refl S) fun i b q => ⟨(M.mix.own q).1, by have := (M.mix.own q).2.1; rw [upd_ne (mx i b q)] at this; exact this, upd_ne (mx i b q)⟩⟩, hs, hc, fun i q => mx i p q rfl⟩
  · rw [upd_ne (ne_of_none q hs)]; exact M.sub b x q
  · rw [upd_ne (ne_of_none q hg)]; exact M.gsub b x (by rw [upd_ne (ne_of_none q hg)]; exact q)
  · exact M.dis b x (by rw [upd_ne (ne_of_none q hg)]; exact q)
  · obtain ⟨a, vs, h1, h2, h3, h4, h5⟩ := M.cell i xs q
    have ne : a ≠ p := fun z => hc i xs q (by rw [← z]; exact h1)
    exact ⟨a, vs, h1, by rw [upd_ne ne]; exact h2, h3, h4, by rw [upd_ne ne] at h5; exact h5⟩
end
def WE (X : Cx) (e : Expr) (σ : St) (H : Hp) (Q : VK) : Prop :=
  ∀ (pins : List (Addr × Obj)) (s : Shared), Inv X pins σ H s → wpAny (model X.prog X.w) X.A (eval e X.env) (EP X pins σ Q) X.xe s
theorem pe_we {X : Cx} {e : Expr} : PE X e (WE X e) := ⟨fun pins s _ _ _ I h => h pins s I⟩
theorem we_of {X : Cx} {e : Expr} {t : TE} {σ : St} {H : Hp} {Q : VK} (h : PE X e t) (q : t σ H Q) : WE X e σ H Q := fun pins s I => h.run pins s σ H Q I q
def WT (X : Cx) (e : Expr) (σ : St) (H : Hp) (Q : Bool → Hp → Prop) : Prop :=
  ∀ (pins : List (Addr × Obj)) (s : Shared), Inv X pins σ H s → wpAny (model X.prog X.w) X.A (isTrue e X.env (eval e X.env)) (TP X pins σ Q) X.xe s
theorem pt_wt {X : Cx} {e : Expr} : PT X e (WT X e) := ⟨fun pins s _ _ _ I h => h pins s I⟩
theorem wt_of {X : Cx} {e : Expr} {t : TT} {σ : St} {H : Hp} {Q : Bool → Hp → Prop} (h : PT X e t) (q : t σ H Q) : WT X e σ H Q := fun pins s I => h.run pins s σ H Q I q
def WA (X : Cx) (es : List Expr) (σ : St) (H : Hp) (Q : List V → Hp → Prop) : Prop :=
  ∀ (pos : Pos) (pins : List (Addr × Obj)) (s : Shared), Inv X pins σ H s → wpAny (model X.prog X.w) X.A (spliced (backTo pos (starEach es X.env))) (AP X pins σ Q) X.xe s
theorem pa_wa {X : Cx} {es : List Expr} : PA X es (WA X es) := ⟨fun pos pins s _ _ _ I h => h pos pins s I⟩
theorem wa_of {X : Cx} {es : List Expr} {t : TA} {σ : St} {H : Hp} {Q : List V → Hp → Prop} (h : PA X es t) (q : t σ H Q) : WA X es σ H Q := fun pos pins s I => h.run pos pins s σ H Q I q
def WS (X : Cx) (st : Stmt) (D : Ends) (σ : St) (H : Hp) : Prop :=
  ∀ (pins : List (Addr × Obj)) (s : Shared), Inv X pins σ H s → wpAny (model X.prog X.w) X.A (exec st X.env) (SP X pins D) X.xe s
theorem ps_ws {X : Cx} {st : Stmt} : PS X st (WS X st) := ⟨fun pins s _ _ _ I h => h pins s I⟩
theorem ws_of {X : Cx} {st : Stmt} {t : TS} {σ : St} {H : Hp} {D : Ends} (h : PS X st t) (q : t D σ H) : WS X st D σ H := fun pins s I => h.run pins s σ H D I q
def WSs (X : Cx) (st : List Stmt) (D : Ends) (σ : St) (H : Hp) : Prop :=
  ∀ (pins : List (Addr × Obj)) (s : Shared), Inv X pins σ H s → wpAny (model X.prog X.w) X.A (execs st X.env) (SP X pins D) X.xe s
theorem pss_wss {X : Cx} {st : List Stmt} : PSs X st (WSs X st) := ⟨fun pins s _ _ _ I h => h pins s I⟩
theorem wss_of {X : Cx} {st : List Stmt} {t : TS} {σ : St} {H : Hp} {D : Ends} (h : PSs X st t) (q : t D σ H) : WSs X st D σ H := fun pins s I => h.run pins s σ H D I q
def WG (X : Cx) (tg : Expr) (v : V) (σ : St) (H : Hp) (Q : St → Hp → Prop) : Prop :=
  ∀ (pins : List (Addr × Obj)) (s : Shared) (u : Value), Inv X pins σ H s → RelV v u → wpAny (model X.prog X.w) X.A (assign tg X.env u) (fun _ s' => ∃ σ' H', Inv X pins σ' H' s' ∧ Q σ' H') X.xe s
theorem pg_wg {X : Cx} {tg : Expr} : PG X tg (WG X tg) := ⟨fun pins s _ _ _ u _ I r h => h pins s u I r⟩
theorem wg_of {X : Cx} {tg : Expr} {t : TG} {v : V} {σ : St} {H : Hp} {Q : St → Hp → Prop} (h : PG X tg t) (q : t v σ H Q) : WG X tg v σ H Q := fun pins s u I r => h.run pins s σ H v u Q I r q
def WI (X : Cx) (tg iter : Expr) (σ : St) (H : Hp) (Rr : It → Hp → Prop) : Prop :=
  ∀ (pins : List (Addr × Obj)) (s : Shared), Inv X pins σ H s → wpAny (model X.prog X.w) X.A (eval iter X.env) (fun v s1 => wpAny (model X.prog X.w) X.A (pyIter v) (PIE X pins σ tg Rr) X.xe s1) X.xe s
theorem pi_wi {X : Cx} {tg iter : Expr} : PI X tg iter (WI X tg iter) := ⟨fun pins s _ _ _ I h => h pins s I⟩
theorem wi_of {X : Cx} {tg iter : Expr} {t : TI} {σ : St} {H : Hp} {Rr : It → Hp → Prop} (h : PI X tg iter t) (q : t σ H Rr) : WI X tg iter σ H Rr := fun pins s I => h.run pins s σ H Rr I q
def WO (X : Cx) (f : Value → Value → Sem Value) (x y : V) (σ : St) (H : Hp) (Q : VK) : Prop :=
  ∀ (pins : List (Addr × Obj)) (s : Shared) (v u : Value), Inv X pins σ H s → RelV x v → RelV y u → wpAny (model X.prog X.w) X.A (f v u) (EP X pins σ Q) X.xe s
theorem wo_of {X : Cx} {f : Value → Value → Sem Value} {r : R2} (h : OpR X f r) {x y : V} {σ : St} {H : Hp} {Q : VK} (q : r x y H Q) : WO X f x y σ H Q := fun pins s v u I rx ry => h pins s σ H x y v u Q I rx ry q
def WC (X : Cx) (f : Value) (xs : List V) (σ : St) (H : Hp) (Q : VK) : Prop :=
  ∀ (pins : List (Addr × Obj)) (s : Shared) (us : List Value), Inv X pins σ H s → Vals xs us → wpAny (model X.prog X.w) X.A (call f us) (EP X pins σ Q) X.xe s
theorem wc_of {X : Cx} {f : Value} {r : List V → Hp → VK → Prop} (h : CallR X f r) {xs : List V} {σ : St} {H : Hp} {Q : VK} (q : r xs H Q) : WC X f xs σ H Q := fun pins s us I rx => h pins s σ H xs us Q I rx q
def XR (Γ : Gd) (S H : Hp) (cls : Value) (d : Option Addr) (x : Exc) : Prop :=
  ∃ (C dd : Addr) (fs : List (Str × V)), Γ.mg x.cls = some (.ref C) ∧ cls = .ref C ∧ d = some dd ∧ H dd = some (.xd fs) ∧ fs.map (·.1) = x.fs.map (·.1) ∧ RpAll Γ S (fs.map (·.2)) (x.fs.map (·.2))
section
variable (X : Cx) (W : WX)
def QV (G S : Hp) (ρ : List Addr) (Q : VK) : SV → Mem → Prop := fun v m' => ∀ S' H' ρ' vv, Ext S ρ S' ρ' → MR (gd X) G S' H' ρ' m' → RSV (gd X) S' ρ' vv v → Q vv H'
def QX (G S : Hp) (ρ : List Addr) (σ : St) : Exc → Mem → Prop := fun x m' => ∀ S' H' ρ' cls d, Ext S ρ S' ρ' → MR (gd X) G S' H' ρ' m' → XR (gd X) S' H' cls d x → W cls d σ H'
def QA (G S : Hp) (ρ : List Addr) (Q : List V → Hp → Prop) : List SV → Mem → Prop := fun v m' => ∀ S' H' ρ' vv, Ext S ρ S' ρ' → MR (gd X) G S' H' ρ' m' → Paired (RSV (gd X) S' ρ') vv v → Q vv H'
def QB (G S : Hp) (ρ : List Addr) (Q : Bool → Hp → Prop) : Bool → Mem → Prop := fun b m' => ∀ S' H' ρ', Ext S ρ S' ρ' → MR (gd X) G S' H' ρ' m' → Q b H'
structure JE (e : Expr) (f : En → P SV) : Prop where
  run : ∀ {G S H : Hp} {ρ : List Addr} {m : Mem} {env : En} {σ : St} {Q : VK}, MR (gd X) G S H ρ m → ER (gd X) S ρ env σ → wpr (f env m) (QV X G S ρ Q) (QX X W G S ρ σ) → WE X e σ H Q
structure JT (e : Expr) (f : En → P Bool) : Prop where
  run : ∀ {G S H : Hp} {ρ : List Addr} {m : Mem} {env : En} {σ : St} {Q : Bool → Hp → Prop}, MR (gd X) G S H ρ m → ER (gd X) S ρ env σ → wpr (f env m) (QB X G S ρ Q) (QX X W G S ρ σ) → WT X e σ H Q
structure JA (es : List Expr) (f : En → P (List SV)) : Prop where
  run : ∀ {G S H : Hp} {ρ : List Addr} {m : Mem} {env : En} {σ : St} {Q : List V → Hp → Prop}, MR (gd X) G S H ρ m → ER (gd X) S ρ env σ → wpr (f env m) (QA X G S ρ Q) (QX X W G S ρ σ) → WA X es σ H Q
structure JO (f : Value → Value → Sem Value) (g : SV → SV → P SV) : Prop where
  run : ∀ {G S H : Hp} {ρ : List Addr} {m : Mem} {σ : St} {x y : SV} {xv yv : V} {Q : VK}, MR (gd X) G S H ρ m → RSV (gd X) S ρ xv x → RSV (gd X) S ρ yv y → wpr (g x y m) (QV X G S ρ Q) (QX X W G S ρ σ) → WO X f xv yv σ H Q
structure JC (f : Value) (g : List SV → P SV) : Prop where
  run : ∀ {G S H : Hp} {ρ : List Addr} {m : Mem} {σ : St} {xs : List SV} {xvs : List V} {Q : VK}, MR (gd X) G S H ρ m → Paired (RSV (gd X) S ρ) xvs xs → wpr (g xs m) (QV X G S ρ Q) (QX X W G S ρ σ) → WC X f xvs σ H Q
end
inductive Out where
  | nx (env : En) | rt (v : SV) | bk (env : En) | ct (env : En)
abbrev DS := En → P Out
section
variable (X : Cx) (W : WX)
def QS (G S : Hp) (ρ : List Addr) (D : Ends) : Out → Mem → Prop := fun o m' => match o with
  | .nx env => ∀ S' H' ρ' σ', Ext S ρ S' ρ' → MR (gd X) G S' H' ρ' m' → ER (gd X) S' ρ' env σ' → D.nx σ' H'
  | .rt v => ∀ S' H' ρ' vv, Ext S ρ S' ρ' → MR (gd X) G S' H' ρ' m' → RSV (gd X) S' ρ' vv v → D.rt vv H'
  | .bk env => ∀ S' H' ρ' σ', Ext S ρ S' ρ' → MR (gd X) G S' H' ρ' m' → ER (gd X) S' ρ' env σ' → D.bk σ' H'
  | .ct env => ∀ S' H' ρ' σ', Ext S ρ S' ρ' → MR (gd X) G S' H' ρ' m' → ER (gd X) S' ρ' env σ' → D.ct σ' H'
def QXs (G S : Hp) (ρ : List Addr) : Exc → Mem → Prop := fun x m' => ∀ S' H' ρ' σ' cls d, Ext S ρ S' ρ' → MR (gd X) G S' H' ρ' m' → XR (gd X) S' H' cls d x → W cls d σ' H'
structure JS (st : Stmt) (f : DS) : Prop where
  run : ∀ {G S H : Hp} {ρ : List Addr} {m : Mem} {env : En} {σ : St} {D : Ends}, MR (gd X) G S H ρ m → ER (gd X) S ρ env σ → wpr (f env m) (QS X G S ρ D) (QXs X W G S ρ) → WS X st D σ H
structure JB (st : List Stmt) (f : DS) : Prop where
  run : ∀ {G S H : Hp} {ρ : List Addr} {m : Mem} {env : En} {σ : St} {D : Ends}, MR (gd X) G S H ρ m → ER (gd X) S ρ env σ → wpr (f env m) (QS X G S ρ D) (QXs X W G S ρ) → WSs X st D σ H
end
section
variable {X : Cx} {W : WX}
theorem qv_ext {G S S1 : Hp} {ρ ρ1 : List Addr} {Q : VK} (e : Ext S ρ S1 ρ1) {v : SV} {m : Mem} (h : QV X G S ρ Q v m) : QV X G S1 ρ1 Q v m := fun S' H' ρ' vv e' M r => h S' H' ρ' vv (e.trans e') M r
theorem qb_ext {G S S1 : Hp} {ρ ρ1 : List Addr} {Q : Bool → Hp → Prop} (e : Ext S ρ S1 ρ1) {v : Bool} {m : Mem} (h : QB X G S ρ Q v m) : QB X G S1 ρ1 Q v m := fun S' H' ρ' e' M => h S' H' ρ' (e.trans e') M
theorem qx_ext {G S S1 : Hp} {ρ ρ1 : List Addr} {σ : St} (e : Ext S ρ S1 ρ1) {x : Exc} {m : Mem} (h : QX X W G S ρ σ x m) : QX X W G S1 ρ1 σ x m := fun S' H' ρ' c d e' M r => h S' H' ρ' c d (e.trans e') M r
theorem qxs_ext {G S S1 : Hp} {ρ ρ1 : List Addr} (e : Ext S ρ S1 ρ1) {x : Exc} {m : Mem} (h : QXs X W G S ρ x m) : QXs X W G S1 ρ1 x m := fun S' H' ρ' σ' c d e' M r => h S' H' ρ' σ' c d (e.trans e') M r
theorem qs_ext {G S S1 : Hp} {ρ ρ1 : List Addr} {D : Ends} (e : Ext S ρ S1 ρ1) {o : Out} {m : Mem} (h : QS X G S ρ D o m) : QS X G S1 ρ1 D o m := by
  cases o with
  | nx env => exact fun S' H' ρ' σ' e' M r => h S' H' ρ' σ' (e.trans e') M r
  | rt v => exact fun S' H' ρ' σ' e' M r => h S' H' ρ' σ' (e.trans e') M r
  | bk env => exact fun S' H' ρ' σ' e' M r => h S' H' ρ' σ' (e.trans e') M r
  | ct env => exact fun S' H' ρ' σ' e' M r => h S' H' ρ' σ' (e.trans e') M r
theorem qx_of {G S : Hp} {ρ : List Addr} {σ : St} {x : Exc} {m : Mem} (h : QXs X W G S ρ x m) : QX X W G S ρ σ x m := fun S' H' ρ' c d e' M r => h S' H' ρ' σ c d e' M r
end
end PL
namespace PL
open PySem PySem.Spec PyProof.Rows L2
section
variable {X : Cx} {W : WX} {a b c e : Expr} {es : List Expr} {pos : Pos} {σ : St} {H : Hp}
theorem we_bin {op : Operator} {Q : VK} (h : WE X a σ H fun x H1 => WE X b σ H1 fun y H2 => WO X (binaryOp op) x y σ H2 Q) : WE X (.BinOp a op b pos) σ H Q := fun pins s I =>
  wpAny_BinOp (thn (h pins s I) fun v s1 ⟨x, H1, I1, r1, q1⟩ => thn (q1 pins s1 I1) fun u s2 ⟨y, H2, I2, r2, q2⟩ => q2 pins s2 v u I2 r1 r2)
theorem we_cmp {op : CmpOp} {Q : VK} (hm : behindInMarks op b = false) (h : WE X a σ H fun x H1 => WE X b σ H1 fun y H2 => WO X (compareOp op) x y σ H2 Q) : WE X (.Compare a [op] [b] pos) σ H Q := fun pins s I =>
  wpAny_Compare1 (thn (h pins s I) fun v s1 ⟨x, H1, I1, r1, q1⟩ => thn (q1 pins s1 I1) fun u s2 ⟨y, H2, I2, r2, q2⟩ => q2 pins s2 v u I2 r1 r2) hm
theorem wt_cmp {op : CmpOp} {Q : Bool → Hp → Prop} (hm : behindInMarks op b = false) (h : WE X a σ H fun x H1 => WE X b σ H1 fun y H2 => WO X (compareOp op) x y σ H2 fun z H3 => ∃ k, z = .bl k ∧ Q k H3) : WT X (.Compare a [op] [b] pos) σ H Q := fun pins s I => by
  refine wpAny_isTrue_Compare1 (thn (h pins s I) fun v s1 ⟨x, H1, I1, r1, q1⟩ => thn (q1 pins s1 I1) fun u s2 ⟨y, H2, I2, r2, q2⟩ => thn (q2 pins s2 v u I2 r1 r2) fun cc s3 ⟨z, H3, I3, r3, k, ez, q3⟩ => ?_) hm
  subst ez
  cases r3
  exact wpAny_truthy_bool ⟨H3, I3, q3⟩
theorem we_chain {op op' : CmpOp} {Q : VK} (hm : lastMarks [op, op'] [b, c] = false) (h : WE X a σ H fun x H1 => WE X b σ H1 fun y H2 => WO X (compareOp op) x y σ H2 fun z H3 => ∃ k, z = .bl k ∧
    (if k = true then WE X c σ H3 fun w' H4 => WO X (compareOp op') y w' σ H4 Q else Q (.bl false) H3)) : WE X (.Compare a [op, op'] [b, c] pos) σ H Q := fun pins s I => by
  refine Compare_chain (thn (h pins s I) fun v s1 ⟨x, H1, I1, r1, q1⟩ => chain_link (thn (q1 pins s1 I1) fun u s2 ⟨y, H2, I2, r2, q2⟩ =>
    thn (q2 pins s2 v u I2 r1 r2) fun d s3 ⟨z, H3, I3, r3, k, ez, q3⟩ => ?_)) hm
  subst ez
  cases r3
  refine wpAny_truthy_bool ?_
  cases k with
  | false => exact ite_ff ⟨.bl false, H3, I3, rfl, q3⟩
  | true => exact ite_tt (chain_last (thn (q3 pins s3 I3) fun w' s4 ⟨z', H4, I4, r4, q4⟩ => q4 pins s4 u w' I4 r2 r4))
theorem we_callB {id : String} {x : Str} {p : Pos} {Q : VK} (hg : Gl X x) (hm : X.mg x = none) (hv : bootBuiltins x = some (.builtin id)) (h : WA X (e :: es) σ H fun vs H1 => WC X (.builtin id) vs σ H1 Q) (hn : x ≠ "__name__" := by decide) (hdb : (x == ("__debug__" : Str)) = false := by decide)
    (he : starEach (e :: es) X.env = (false, eval e X.env) :: starEach es X.env := by rfl) (hpl : (backTo pos (starEach es X.env)).any (·.1) = false := by rfl) : WE X (.Call (.Name x p) (e :: es) [] pos) σ H Q := fun pins s I => by
  refine wpAny_Call_Name_kw (ld_blt I hg hm hv ?_ hn hdb)
  exact PyProof.Rows.callWith_builtin1 (thn (h pos pins s I) fun us s1 ⟨vs, H1, I1, r1, q1⟩ => q1 pins s1 us I1 r1) he hpl
theorem we_callTy {T : String} {x : Str} {p : Pos} {Q : VK} (hg : Gl X x) (hm : X.mg x = none) (hv : bootBuiltins x = some (.type T)) (h : WA X (e :: es) σ H fun vs H1 => WC X (.type T) vs σ H1 Q) (hn : x ≠ "__name__" := by decide) (hdb : (x == ("__debug__" : Str)) = false := by decide)
    (he : starEach (e :: es) X.env = (false, eval e X.env) :: starEach es X.env := by rfl) (hpl : (backTo pos (starEach es X.env)).any (·.1) = false := by rfl) : WE X (.Call (.Name x p) (e :: es) [] pos) σ H Q := fun pins s I => by
  refine wpAny_Call_Name_kw (ld_blt I hg hm hv ?_ hn hdb)
  exact PyProof.Rows.callWith_type1 (thn (h pos pins s I) fun us s1 ⟨vs, H1, I1, r1, q1⟩ => q1 pins s1 us I1 r1) he hpl
def dVar (i : Nat) : En → P SV := fun env m => match env[i]? with
  | some (some v) => .ok v m
  | _ => .stuck
def dC (d : D) : En → P SV := fun _ => P.ret (.dat d)
theorem je_var (i : Nat) {x : Str} {pos : Pos} (hN : X.N[i]? = some x := by rfl) (hv : Vis X.env.scope x := by first | exact Or.inl rfl | exact Or.inr (Or.inl rfl) | exact Or.inr (Or.inr rfl)) (hd : (x == ("__debug__" : Str)) = false := by decide)
    (hcd : (x == ("__classdict__" : Str)) = false := by decide) : JE X W (.Name x pos) (dVar i) := ⟨fun {G S H ρ m env σ Q} M E h => by
  unfold dVar at h
  split at h
  · rename_i v hv'
    obtain ⟨vv, h1, h2⟩ := E.at_ i v hv'
    exact we_of (pe_var hN hv hd hcd) ⟨vv, h1, h S H ρ vv (Ext.refl _ _) M h2⟩
  · exact h.elim⟩
theorem je_c {t : TE} {d : D} {v : V} (h : PE X e t) (ht : ∀ σ H Q, Q v H → t σ H Q) (r : ∀ S, Rp (gd X) S v d) : JE X W e (dC d) := ⟨fun {G S H ρ m env σ Q} M E q => we_of h (ht σ H Q (q S H ρ v (Ext.refl _ _) M (r S)))⟩
theorem je_int {i j pos} : JE X W (.Constant (.int i) j pos) (dC (.int i)) := je_c pe_int (fun _ _ _ h => h) fun _ => .int i
theorem je_bl {b j pos} : JE X W (.Constant (.bool b) j pos) (dC (.bl b)) := je_c pe_bl (fun _ _ _ h => h) fun _ => .bl b
theorem je_non {j pos} : JE X W (.Constant .none j pos) (dC .non) := je_c pe_non (fun _ _ _ h => h) fun _ => .non
theorem je_str {x j pos} : JE X W (.Constant (.str x) j pos) (dC (.str x)) := je_c pe_str (fun _ _ _ h => h) fun _ => .str x
theorem je_gint {x : Str} {i : Int} {pos : Pos} (hg : Gl X x) (hm : ∃ t, X.mg x = some (.int i t)) (hd : (x == ("__debug__" : Str)) = false := by decide) : JE X W (.Name x pos) (dC (.int i)) := by
  obtain ⟨t, hm⟩ := hm
  exact je_c (pe_glob (v := .int i) hg hm ⟨t, rfl⟩ hd) (fun _ _ _ h => h) fun _ => .int i
def d2 (g : SV → SV → P SV) (fa fb : En → P SV) : En → P SV := fun env => (fa env).bnd fun x => (fb env).bnd fun y => g x y
variable {fa fb fc : En → P SV}
theorem je_bin {op : Operator} {g : SV → SV → P SV} (jo : JO X W (binaryOp op) g) (ja : JE X W a fa) (jb : JE X W b fb) : JE X W (.BinOp a op b pos) (d2 g fa fb) := ⟨fun {G S H ρ m env σ Q} M E h => by
  refine we_bin (ja.run M E (wpr_monoQ (wpr_bnd h) fun x m1 hx => ?_))
  intro S1 H1 ρ1 xv e1 M1 rx
  refine jb.run M1 (E.mono e1) (wpr_mono (wpr_bnd hx) (fun y m2 hy => ?_) fun _ _ z => qx_ext e1 z)
  intro S2 H2 ρ2 yv e2 M2 ry
  exact jo.run M2 (rx.mono e2) ry (wpr_mono hy (fun _ _ z => qv_ext (e1.trans e2) z) fun _ _ z => qx_ext (e1.trans e2) z)⟩
theorem je_cmp {op : CmpOp} {g : SV → SV → P SV} (jo : JO X W (compareOp op) g) (ja : JE X W a fa) (jb : JE X W b fb) (hm : behindInMarks op b = false := by first | exact nomark _ | rfl) : JE X W (.Compare a [op] [b] pos) (d2 g fa fb) := ⟨fun {G S H ρ m env σ Q} M E h => by
  refine we_cmp hm (ja.run M E (wpr_monoQ (wpr_bnd h) fun x m1 hx => ?_))
  intro S1 H1 ρ1 xv e1 M1 rx
  refine jb.run M1 (E.mono e1) (wpr_mono (wpr_bnd hx) (fun y m2 hy => ?_) fun _ _ z => qx_ext e1 z)
  intro S2 H2 ρ2 yv e2 M2 ry
  exact jo.run M2 (rx.mono e2) ry (wpr_mono hy (fun _ _ z => qv_ext (e1.trans e2) z) fun _ _ z => qx_ext (e1.trans e2) z)⟩
def asB (v : SV) : P Bool := match v with
  | .dat (.bl b) => P.ret b
  | _ => P.stk
def dB (f : En → P SV) : En → P Bool := fun env => (f env).bnd asB
theorem asB_ok {G S S' H' : Hp} {ρ ρ' : List Addr} {v : SV} {vv : V} {m' : Mem} {Q : Bool → Hp → Prop} {E : Exc → Mem → Prop} (e : Ext S ρ S' ρ') (M : MR (gd X) G S' H' ρ' m') (r : RSV (gd X) S' ρ' vv v)
    (h : wpr (asB v m') (QB X G S ρ Q) E) : ∃ k, vv = .bl k ∧ Q k H' := by
  cases v with
  | ref n => exact h.elim
  | dat d =>
    cases d with
    | bl b => cases r; exact ⟨b, rfl, h S' H' ρ' e M⟩
    | _ => exact h.elim
theorem jt_cmp {op : CmpOp} {g : SV → SV → P SV} (jo : JO X W (compareOp op) g) (ja : JE X W a fa) (jb : JE X W b fb) (hm : behindInMarks op b = false := by first | exact nomark _ | rfl) : JT X W (.Compare a [op] [b] pos) (dB (d2 g fa fb)) := ⟨fun {G S H ρ m env σ Q} M E h => by
  have h := wpr_bnd h
  refine wt_cmp hm (ja.run M E (wpr_monoQ (wpr_bnd h) fun x m1 hx => ?_))
  intro S1 H1 ρ1 xv e1 M1 rx
  refine jb.run M1 (E.mono e1) (wpr_mono (wpr_bnd hx) (fun y m2 hy => ?_) fun _ _ z => qx_ext e1 z)
  intro S2 H2 ρ2 yv e2 M2 ry
  refine jo.run M2 (rx.mono e2) ry (wpr_mono hy (fun z m3 hz => ?_) fun _ _ z => qx_ext (e1.trans e2) z)
  intro S3 H3 ρ3 zv e3 M3 rz
  exact asB_ok ((e1.trans e2).trans e3) M3 rz hz⟩
def dCh (g g' : SV → SV → P SV) (fa fb fc : En → P SV) : En → P SV := fun env => (fa env).bnd fun x => (fb env).bnd fun y => (g x y).bnd fun z => match z with
  | .dat (.bl true) => (fc env).bnd fun w => g' y w
  | .dat (.bl false) => P.ret (.dat (.bl false))
  | _ => P.stk
theorem je_chain {op op' : CmpOp} {g g' : SV → SV → P SV} (jo : JO X W (compareOp op) g) (jo' : JO X W (compareOp op') g') (ja : JE X W a fa) (jb : JE X W b fb) (jc : JE X W c fc)
    (hm : lastMarks [op, op'] [b, c] = false := by with_unfolding_all rfl) : JE X W (.Compare a [op, op'] [b, c] pos) (dCh g g' fa fb fc) := ⟨fun {G S H ρ m env σ Q} M E h => by
  refine we_chain hm (ja.run M E (wpr_monoQ (wpr_bnd h) fun x m1 hx => ?_))
  intro S1 H1 ρ1 xv e1 M1 rx
  refine jb.run M1 (E.mono e1) (wpr_mono (wpr_bnd hx) (fun y m2 hy => ?_) fun _ _ z => qx_ext e1 z)
  intro S2 H2 ρ2 yv e2 M2 ry
  refine jo.run M2 (rx.mono e2) ry (wpr_mono (wpr_bnd hy) (fun z m3 hz => ?_) fun _ _ z => qx_ext (e1.trans e2) z)
  intro S3 H3 ρ3 zv e3 M3 rz
  have e13 := (e1.trans e2).trans e3
  cases z with
  | ref n => exact hz.elim
  | dat d =>
    cases d with
    | bl k =>
      cases rz
      refine ⟨k, rfl, ?_⟩
      cases k with
      | true =>
        rw [if_pos rfl]
        refine jc.run M3 (E.mono e13) (wpr_mono (wpr_bnd hz) (fun w m4 hw => ?_) fun _ _ z => qx_ext e13 z)
        intro S4 H4 ρ4 wv e4 M4 rw'
        exact jo'.run M4 (ry.mono (e3.trans e4)) rw' (wpr_mono hw (fun _ _ z => qv_ext (e13.trans e4) z) fun _ _ z => qx_ext (e13.trans e4) z)
      | false =>
        rw [if_neg Bool.false_ne_true]
        exact hz S3 H3 ρ3 _ e13 M3 (.bl false)
    | _ => exact hz.elim⟩
def dAndV (fa fb : En → P SV) : En → P SV := fun env => (fa env).bnd fun x => match x with
  | .dat (.bl true) => fb env
  | .dat (.bl false) => P.ret (.dat (.bl false))
  | _ => P.stk
def dOrV (fa fb : En → P SV) : En → P SV := fun env => (fa env).bnd fun x => match x with
  | .dat (.bl true) => P.ret (.dat (.bl true))
  | .dat (.bl false) => fb env
  | _ => P.stk
def dNotV (fa : En → P SV) : En → P SV := fun env => (fa env).bnd fun x => match x with
  | .dat (.bl k) => P.ret (.dat (.bl (!k)))
  | _ => P.stk
theorem je_one {op} (ja : JE X W a fa) : JE X W (.BoolOp op [a] pos) fa := ⟨fun {G S H ρ m env σ Q} M E h => we_of (pe_one pe_we) (ja.run M E h)⟩
variable {rest : List Expr}
theorem je_and (ja : JE X W a fa) (jb : JE X W (.BoolOp .And (b :: rest) pos) fb) : JE X W (.BoolOp .And (a :: b :: rest) pos) (dAndV fa fb) := ⟨fun {G S H ρ m env σ Q} M E h => by
  refine we_of (pe_and pe_we pe_we) (ja.run M E (wpr_monoQ (wpr_bnd h) fun x m1 hx => ?_))
  intro S1 H1 ρ1 xv e1 M1 rx
  cases x with
  | ref n => exact hx.elim
  | dat d =>
    cases d with
    | bl k =>
      cases rx
      refine ⟨k, rfl, ?_⟩
      cases k with
      | true =>
        rw [if_pos rfl]
        exact jb.run M1 (E.mono e1) (wpr_mono hx (fun _ _ z => qv_ext e1 z) fun _ _ z => qx_ext e1 z)
      | false =>
        rw [if_neg Bool.false_ne_true]
        exact hx S1 H1 ρ1 _ e1 M1 (.bl false)
    | _ => exact hx.elim⟩
theorem je_or (ja : JE X W a fa) (jb : JE X W (.BoolOp .Or (b :: rest) pos) fb) : JE X W (.BoolOp .Or (a :: b :: rest) pos) (dOrV fa fb) := ⟨fun {G S H ρ m env σ Q} M E h => by
  refine we_of (pe_or pe_we pe_we) (ja.run M E (wpr_monoQ (wpr_bnd h) fun x m1 hx => ?_))
  intro S1 H1 ρ1 xv e1 M1 rx
  cases x with
  | ref n => exact hx.elim
  | dat d =>
    cases d with
    | bl k =>
      cases rx
      refine ⟨k, rfl, ?_⟩
      cases k with
      | false =>
        rw [if_neg Bool.false_ne_true]
        exact jb.run M1 (E.mono e1) (wpr_mono hx (fun _ _ z => qv_ext e1 z) fun _ _ z => qx_ext e1 z)
      | true =>
        rw [if_pos rfl]
        exact hx S1 H1 ρ1 _ e1 M1 (.bl true)
    | _ => exact hx.elim⟩
theorem je_not (ja : JE X W a fa) : JE X W (.UnaryOp .Not a pos) (dNotV fa) := ⟨fun {G S H ρ m env σ Q} M E h => by
  refine we_of (pe_not pe_we) (ja.run M E (wpr_monoQ (wpr_bnd h) fun x m1 hx => ?_))
  intro S1 H1 ρ1 xv e1 M1 rx
  cases x with
  | ref n => exact hx.elim
  | dat d =>
    cases d with
    | bl k =>
      cases rx
      exact ⟨k, rfl, hx S1 H1 ρ1 _ e1 M1 (.bl _)⟩
    | _ => exact hx.elim⟩
variable {ta tb : En → P Bool}
def dAndT (ta tb : En → P Bool) : En → P Bool := fun env => (ta env).bnd fun k => match k with
  | true => tb env
  | false => P.ret false
def dOrT (ta tb : En → P Bool) : En → P Bool := fun env => (ta env).bnd fun k => match k with
  | true => P.ret true
  | false => tb env
def dNotT (ta : En → P Bool) : En → P Bool := fun env => (ta env).bnd fun k => P.ret (!k)
def dIf (t : En → P Bool) (fa fb : En → P SV) : En → P SV := fun env => (t env).bnd fun k => match k with
  | true => fa env
  | false => fb env
structure JW (X : Cx) (W : WX) (e : Expr) (f : En → P Bool) : Prop where
  run : ∀ {G S H : Hp} {ρ : List Addr} {m : Mem} {env : En} {σ : St} {Q : Bool → Hp → Prop}, MR (gd X) G S H ρ m → ER (gd X) S ρ env σ → wpr (f env m) (QB X G S ρ Q) (QX X W G S ρ σ) →
    ∀ (whole : Sem Value) (pins : List (Addr × Obj)) (s : Shared), Inv X pins σ H s → wpAny (model X.prog X.w) X.A (isTrue e X.env whole) (TP X pins σ Q) X.xe s
theorem JW.pt (h : JW X W e ta) : JT X W e ta := ⟨fun M E q pins s I => h.run M E q _ pins s I⟩
theorem jw_and1 (ja : JT X W a ta) : JW X W (.BoolOp .And [a] pos) ta := ⟨fun M E h wh pins s I => (pw_and1 pt_wt).run wh pins s _ _ _ I (ja.run M E h)⟩
theorem jw_or1 (ja : JT X W a ta) : JW X W (.BoolOp .Or [a] pos) ta := ⟨fun M E h wh pins s I => (pw_or1 pt_wt).run wh pins s _ _ _ I (ja.run M E h)⟩
theorem jw_and (ja : JT X W a ta) (jb : JW X W (.BoolOp .And (b :: rest) pos) tb) : JW X W (.BoolOp .And (a :: b :: rest) pos) (dAndT ta tb) := ⟨fun {G S H ρ m env σ Q} M E h wh pins s I => by
  refine isTrue_and (thn (ja.run (Q := fun k H1 => if k = true then (∀ (wh : Sem Value) (pins : List (Addr × Obj)) (s : Shared), Inv X pins σ H1 s → wpAny (model X.prog X.w) X.A (isTrue (.BoolOp .And (b :: rest) pos) X.env wh) (TP X pins σ Q) X.xe s) else Q false H1) M E (wpr_monoQ (wpr_bnd h) fun k m1 hk => ?_) pins s I) fun k s1 ⟨H1, I1, q1⟩ => ?_)
  · intro S1 H1 ρ1 e1 M1
    cases k with
    | true =>
      rw [if_pos rfl]
      exact jb.run M1 (E.mono e1) (wpr_mono hk (fun _ _ z => qb_ext e1 z) fun _ _ z => qx_ext e1 z)
    | false =>
      rw [if_neg Bool.false_ne_true]
      exact hk S1 H1 ρ1 e1 M1
  · cases k with
    | true =>
      rw [if_pos rfl] at q1
      exact q1 wh pins s1 I1
    | false =>
      rw [if_neg Bool.false_ne_true] at q1
      exact ⟨H1, I1, q1⟩⟩
theorem jw_or (ja : JT X W a ta) (jb : JW X W (.BoolOp .Or (b :: rest) pos) tb) : JW X W (.BoolOp .Or (a :: b :: rest) pos) (dOrT ta tb) := ⟨fun {G S H ρ m env σ Q} M E h wh pins s I => by
  refine isTrue_or (thn (ja.run (Q := fun k H1 => if k = true then Q true H1 else (∀ (wh : Sem Value) (pins : List (Addr × Obj)) (s : Shared), Inv X pins σ H1 s → wpAny (model X.prog X.w) X.A (isTrue (.BoolOp .Or (b :: rest) pos) X.env wh) (TP X pins σ Q) X.xe s)) M E (wpr_monoQ (wpr_bnd h) fun k m1 hk => ?_) pins s I) fun k s1 ⟨H1, I1, q1⟩ => ?_)
  · intro S1 H1 ρ1 e1 M1
    cases k with
    | false =>
      rw [if_neg Bool.false_ne_true]
      exact jb.run M1 (E.mono e1) (wpr_mono hk (fun _ _ z => qb_ext e1 z) fun _ _ z => qx_ext e1 z)
    | true =>
      rw [if_pos rfl]
      exact hk S1 H1 ρ1 e1 M1
  · cases k with
    | true =>
      rw [if_pos rfl] at q1
      exact ⟨H1, I1, q1⟩
    | false =>
      rw [if_neg Bool.false_ne_true] at q1
      exact q1 wh pins s1 I1⟩
theorem jt_not (ja : JT X W a ta) : JT X W (.UnaryOp .Not a pos) (dNotT ta) := ⟨fun {G S H ρ m env σ Q} M E h => by
  refine wt_of (pt_not pt_wt) (ja.run M E (wpr_monoQ (wpr_bnd h) fun k m1 hk => ?_))
  intro S1 H1 ρ1 e1 M1
  exact hk S1 H1 ρ1 e1 M1⟩
theorem je_if (jc : JT X W c ta) (ja : JE X W a fa) (jb : JE X W b fb) : JE X W (.IfExp c a b pos) (dIf ta fa fb) := ⟨fun {G S H ρ m env σ Q} M E h => by
  refine we_of (pe_ifExp pt_wt pe_we pe_we) (jc.run M E (wpr_monoQ (wpr_bnd h) fun k m1 hk => ?_))
  intro S1 H1 ρ1 e1 M1
  cases k with
  | true =>
    rw [if_pos rfl]
    exact ja.run M1 (E.mono e1) (wpr_mono hk (fun _ _ z => qv_ext e1 z) fun _ _ z => qx_ext e1 z)
  | false =>
    rw [if_neg Bool.false_ne_true]
    exact jb.run M1 (E.mono e1) (wpr_mono hk (fun _ _ z => qv_ext e1 z) fun _ _ z => qx_ext e1 z)⟩
def truV (v : SV) : P Bool := fun m => match v with
  | .dat .non => .ok false m
  | .dat (.bl b) => .ok b m
  | .dat (.int i) => .ok (i != 0) m
  | .dat (.str y) => if y.length ≤ 16777216 then .ok ((y.length : Int) != 0) m else .stuck
  | .dat (.tup xs) => .ok (!xs.isEmpty) m
  | .dat (.lst xs) => .ok (!xs.isEmpty) m
  | .ref n => (match m[n]? with | some (.lst xs) => .ok (!xs.isEmpty) m | _ => .stuck)
  | _ => .stuck
def dTr (f : En → P SV) : En → P Bool := fun env => (f env).bnd truV
theorem rpAll_empty {Γ : Gd} {S : Hp} {vs : List V} {ds : List D} (r : RpAll Γ S vs ds) : vs.isEmpty = ds.isEmpty := by cases r <;> rfl
theorem truV_ok {G S S' H' : Hp} {ρ ρ' : List Addr} {v : SV} {vv : V} {m' : Mem} {Q : Bool → Hp → Prop} {E : Exc → Mem → Prop} (e : Ext S ρ S' ρ') (M : MR (gd X) G S' H' ρ' m') (r : RSV (gd X) S' ρ' vv v)
    (h : wpr (truV v m') (QB X G S ρ Q) E) : ∃ k, TruV X.K vv H' k ∧ Q k H' := by
  cases v with
  | ref n =>
    obtain ⟨a, h1, rfl⟩ := r
    unfold truV at h
    simp only at h
    split at h
    · rename_i xs hx
      obtain ⟨a', vs, g1, g2, g3, _⟩ := M.cell n xs hx
      rw [h1] at g1
      cases g1
      exact ⟨_, .inl ⟨vs, .inl (.inl g2), by rw [rpAll_empty g3]⟩, h S' H' ρ' e M⟩
    · exact h.elim
  | dat d =>
    cases d with
    | non => cases r; exact ⟨_, rfl, h S' H' ρ' e M⟩
    | bl b => cases r; exact ⟨_, rfl, h S' H' ρ' e M⟩
    | int i => cases r; exact ⟨_, rfl, h S' H' ρ' e M⟩
    | str y =>
      cases r
      unfold truV at h
      simp only at h
      split at h
      · rename_i hy
        exact ⟨_, ⟨by rw [sizeLine_eq]; exact hy, rfl⟩, h S' H' ρ' e M⟩
      · exact h.elim
    | tup xs =>
      cases r with
      | tup q z => exact ⟨_, .inr (.inl ⟨_, Same.seqT M.sub q, by rw [rpAll_empty z]⟩), h S' H' ρ' e M⟩
    | lst xs =>
      cases r with
      | lst q z => exact ⟨_, .inl ⟨_, .inl (.inl (M.sub _ _ q)), by rw [rpAll_empty z]⟩, h S' H' ρ' e M⟩
    | _ => exact h.elim
theorem jt_val (ja : JE X W a fa) (he : ∀ whole, isTrue a X.env whole = (do let v ← whole; standAt a.pos; holding [v] (truthy v)) := by intro _; rfl) : JT X W a (dTr fa) := ⟨fun {G S H ρ m env σ Q} M E h => by
  refine wt_of (pt_truth pe_we he) (ja.run M E (wpr_monoQ (wpr_bnd h) fun x m1 hx => ?_))
  intro S1 H1 ρ1 xv e1 M1 rx
  exact truV_ok e1 M1 rx hx⟩
def dNil : En → P (List SV) := fun _ => P.ret []
def dCons (f : En → P SV) (g : En → P (List SV)) : En → P (List SV) := fun env => (f env).bnd fun x => (g env).bnd fun xs => P.ret (x :: xs)
theorem paired_mono {Γ : Gd} {S S' : Hp} {ρ ρ' : List Addr} (e : Ext S ρ S' ρ') {vs : List V} {xs : List SV} (h : Paired (RSV Γ S ρ) vs xs) : Paired (RSV Γ S' ρ') vs xs := Paired.mapP h fun _ _ r => r.mono e
variable {fs : En → P (List SV)}
theorem ja_nil : JA X W [] dNil := ⟨fun {G S H ρ m env σ Q} M E h => wa_of pa_nil (h S H ρ [] (Ext.refl _ _) M .nil)⟩
theorem ja_cons (ja : JE X W a fa) (js : JA X W es fs) (hs : starEach (a :: es) X.env = (false, eval a X.env) :: starEach es X.env := by rfl) : JA X W (a :: es) (dCons fa fs) := ⟨fun {G S H ρ m env σ Q} M E h => by
  refine wa_of (pa_cons pe_we pa_wa hs) (ja.run M E (wpr_monoQ (wpr_bnd h) fun x m1 hx => ?_))
  intro S1 H1 ρ1 xv e1 M1 rx
  refine js.run M1 (E.mono e1) (wpr_mono (wpr_bnd hx) (fun xs m2 hxs => ?_) fun _ _ z => qx_ext e1 z)
  intro S2 H2 ρ2 xvs e2 M2 rxs
  exact hxs S2 H2 ρ2 _ (e1.trans e2) M2 (.cons (rx.mono e2) rxs)⟩
def allDat : List SV → Option (List D)
  | [] => some []
  | .dat d :: r => (match allDat r with | some ds => some (d :: ds) | none => none)
  | .ref _ :: _ => none
theorem allDat_ok {Γ : Gd} {S : Hp} {ρ : List Addr} : ∀ {vs : List V} {xs : List SV} {ds : List D}, Paired (RSV Γ S ρ) vs xs → allDat xs = some ds → RpAll Γ S vs ds
  | _, [], _, .nil, h => by cases h; exact .nil
  | _, .dat d :: r, ds, .cons q t, h => by
    unfold allDat at h
    split at h
    · rename_i ds' e
      cases h
      exact .cons q (allDat_ok t e)
    · cases h
  | _, .ref _ :: r, _, .cons _ _, h => by cases h
def mkTup (xs : List SV) : P SV := fun m => match allDat xs with
  | some ds => if ds.length ≤ 16777216 then .ok (.dat (.tup ds)) m else .stuck
  | none => .stuck
def mkLst (xs : List SV) : P SV := fun m => match allDat xs with
  | some ds => if ds.length ≤ 16777216 then .ok (.dat (.lst ds)) m else .stuck
  | none => .stuck
def mkOwn (xs : List SV) : P SV := fun m => match allDat xs with
  | some ds => if ds.length ≤ 16777216 then .ok (.ref m.length) (m ++ [.lst ds]) else .stuck
  | none => .stuck
def dA (g : List SV → P SV) (fs : En → P (List SV)) : En → P SV := fun env => (fs env).bnd g
theorem je_tup {k} (js : JA X W es fs) : JE X W (.Tuple es k pos) (dA mkTup fs) := ⟨fun {G S H ρ m env σ Q} M E h => by
  refine we_of (pe_tup pa_wa) (js.run M E (wpr_monoQ (wpr_bnd h) fun xs m1 hx => ?_))
  intro S1 H1 ρ1 xv e1 M1 rx
  unfold mkTup at hx
  split at hx
  · rename_i ds eds
    have r := allDat_ok rx eds
    split at hx
    · rename_i hl
      refine ⟨by rw [r.length, sizeLine_eq]; exact hl, fun p hp => ?_⟩
      obtain ⟨s1, M2⟩ := M1.grow hp (.tup xv)
      exact hx _ _ ρ1 _ (e1.trans ⟨s1, fun _ _ q => q⟩) M2 (.tup (.inl (.inl upd_same)) (r.mono s1))
    · exact hx.elim
  · exact hx.elim⟩
theorem je_lst (js : JA X W es fs) : JE X W (.List es pos) (dA mkLst fs) := ⟨fun {G S H ρ m env σ Q} M E h => by
  refine we_of (pe_lst pa_wa) (js.run M E (wpr_monoQ (wpr_bnd h) fun xs m1 hx => ?_))
  intro S1 H1 ρ1 xv e1 M1 rx
  unfold mkLst at hx
  split at hx
  · rename_i ds eds
    have r := allDat_ok rx eds
    split at hx
    · rename_i hl
      refine ⟨by rw [r.length, sizeLine_eq]; exact hl, fun p hp => ?_⟩
      obtain ⟨s1, M2⟩ := M1.grow hp (.lst xv)
      exact hx _ _ ρ1 _ (e1.trans ⟨s1, fun _ _ q => q⟩) M2 (.lst upd_same (r.mono s1))
    · exact hx.elim
  · exact hx.elim⟩
theorem je_own (js : JA X W es fs) : JE X W (.List es pos) (dA mkOwn fs) := ⟨fun {G S H ρ m env σ Q} M E h => by
  refine we_of (pe_lst pa_wa) (js.run M E (wpr_monoQ (wpr_bnd h) fun xs m1 hx => ?_))
  intro S1 H1 ρ1 xv e1 M1 rx
  unfold mkOwn at hx
  split at hx
  · rename_i ds eds
    have r := allDat_ok rx eds
    split at hx
    · rename_i hl
      refine ⟨by rw [r.length, sizeLine_eq]; exact hl, fun p hp => ?_⟩
      obtain ⟨e2, M2⟩ := M1.alloc hp r
      refine hx _ _ _ _ (e1.trans e2) M2 ⟨p, ?_, rfl⟩
      rw [← M1.len]
      simp
    · exact hx.elim
  · exact hx.elim⟩
theorem je_callB {id : String} {x : Str} {p : Pos} {g : List SV → P SV} (jc : JC X W (.builtin id) g) (hg : Gl X x) (hm : X.mg x = none) (hv : bootBuiltins x = some (.builtin id)) (js : JA X W (e :: es) fs) (hn : x ≠ "__name__" := by decide) (hdb : (x == ("__debug__" : Str)) = false := by decide)
    (he : starEach (e :: es) X.env = (false, eval e X.env) :: starEach es X.env := by rfl) (hpl : (backTo pos (starEach es X.env)).any (·.1) = false := by rfl) : JE X W (.Call (.Name x p) (e :: es) [] pos) (dA g fs) := ⟨fun {G S H ρ m env σ Q} M E h => by
  refine we_callB hg hm hv (js.run M E (wpr_monoQ (wpr_bnd h) fun xs m1 hx => ?_)) hn hdb he hpl
  intro S1 H1 ρ1 xv e1 M1 rx
  exact jc.run M1 rx (wpr_mono hx (fun _ _ z => qv_ext e1 z) fun _ _ z => qx_ext e1 z)⟩
theorem je_callTy {T : String} {x : Str} {p : Pos} {g : List SV → P SV} (jc : JC X W (.type T) g) (hg : Gl X x) (hm : X.mg x = none) (hv : bootBuiltins x = some (.type T)) (js : JA X W (e :: es) fs) (hn : x ≠ "__name__" := by decide) (hdb : (x == ("__debug__" : Str)) = false := by decide)
    (he : starEach (e :: es) X.env = (false, eval e X.env) :: starEach es X.env := by rfl) (hpl : (backTo pos (starEach es X.env)).any (·.1) = false := by rfl) : JE X W (.Call (.Name x p) (e :: es) [] pos) (dA g fs) := ⟨fun {G S H ρ m env σ Q} M E h => by
  refine we_callTy hg hm hv (js.run M E (wpr_monoQ (wpr_bnd h) fun xs m1 hx => ?_)) hn hdb he hpl
  intro S1 H1 ρ1 xv e1 M1 rx
  exact jc.run M1 rx (wpr_mono hx (fun _ _ z => qv_ext e1 z) fun _ _ z => qx_ext e1 z)⟩
end
end PL
namespace PL
open PySem PySem.Spec PyProof.Rows L2
def rdL (v : SV) (m : Mem) : Option (List D) := match v with
  | .dat (.lst xs) => some xs
  | .ref n => (match m[n]? with | some (.lst xs) => some xs | _ => none)
  | _ => none
theorem rdL_ok {Γ : Gd} {G S H : Hp} {ρ : List Addr} {m : Mem} {v : SV} {vv : V} {xs : List D} (M : MR Γ G S H ρ m) (r : RSV Γ S ρ vv v) (h : rdL v m = some xs) :
    ∃ a vs, vv = .ref a ∧ H a = some (.lst vs) ∧ RpAll Γ S vs xs := by
  cases v with
  | ref n =>
    obtain ⟨a, h1, rfl⟩ := r
    unfold rdL at h
    simp only at h
    split at h
    · rename_i ys hy
      cases h
      obtain ⟨a', vs, g1, g2, g3, _⟩ := M.cell n _ hy
      rw [h1] at g1
      cases g1
      exact ⟨a, vs, rfl, g2, g3⟩
    · cases h
  | dat d =>
    cases d with
    | lst ys =>
      cases h
      cases r with
      | lst q z => exact ⟨_, _, rfl, M.sub _ _ q, z⟩
    | _ => cases h
def svD (v : SV) (m : Mem) : Option D := match v with
  | .dat d => some d
  | .ref n => (match m[n]? with | some (.lst xs) => some (.lst xs) | some (.pair d xs) => some (.tup [d, .lst xs]) | _ => none)
theorem svD_ok {Γ : Gd} {G S H : Hp} {ρ : List Addr} {m : Mem} {v : SV} {vv : V} {d : D} (M : MR Γ G S H ρ m) (r : RSV Γ S ρ vv v) (h : svD v m = some d) : Rp Γ H vv d := by
  cases v with
  | ref n =>
    obtain ⟨a, h1, rfl⟩ := r
    unfold svD at h
    simp only at h
    split at h
    · rename_i ys hy
      cases h
      obtain ⟨a', vs, g1, g2, g3, _⟩ := M.cell n _ hy
      rw [h1] at g1
      cases g1
      exact .lst g2 (g3.mono M.sub)
    · rename_i d' ys hy
      cases h
      obtain ⟨a', b, v, vs, g1, g2, g3, g4, g5, _⟩ := M.mix.pair n _ _ hy
      rw [h1] at g1
      cases g1
      exact .tup (.inl (.inl (M.sub _ _ g2))) (.cons (g3.mono M.sub) (.cons (.lst g4 (g5.mono M.sub)) .nil))
    · cases h
  | dat d' =>
    cases h
    exact Rp.mono M.sub r
mutual
def toPy : D → PyData
  | .non => .none
  | .bl b => .bool b
  | .int i => .int i
  | .str x => .str x
  | .tup xs => .tuple (toPys xs)
  | .lst xs => .list (toPys xs)
  | .fn _ => .none
  | .ty _ => .none
  | .scr _ => .none
  | .ks _ => .none
  | .dt _ _ => .none
  | .lam _ => .none
  | .dw _ _ => .none
  | .dk _ _ => .none
  | .ins _ _ _ => .none
  | .clo _ _ => .none
def toPys : List D → List PyData
  | [] => []
  | d :: r => toPy d :: toPys r
end
mutual
def plain : D → Bool
  | .non => true
  | .bl _ => true
  | .int _ => true
  | .str x => PyData.canLay0 (.str x)
  | .tup xs => plains xs
  | .lst xs => plains xs
  | .fn _ => false
  | .ty _ => false
  | .scr _ => false
  | .ks _ => false
  | .dt _ _ => false
  | .lam _ => false
  | .dw _ _ => false
  | .dk _ _ => false
  | .ins _ _ _ => false
  | .clo _ _ => false
def plains : List D → Bool
  | [] => true
  | d :: r => plain d && plains r
end
mutual
def dep : D → Nat
  | .tup xs => deps xs + 1
  | .lst xs => deps xs + 1
  | _ => 0
def deps : List D → Nat
  | [] => 0
  | d :: r => max (dep d) (deps r)
end
mutual
theorem toPy_lay : ∀ d, plain d = true → PyData.canLay0 (toPy d) = true
  | .non, _ => by simp [toPy, PyData.canLay0]
  | .bl _, _ => by simp [toPy, PyData.canLay0]
  | .int _, _ => by simp [toPy, PyData.canLay0]
  | .str x, h => by simpa [toPy, plain] using h
  | .tup xs, h => by
    simp only [toPy, PyData.canLay0]
    exact toPys_lay xs (by simpa [plain] using h)
  | .lst xs, h => by
    simp only [toPy, PyData.canLay0]
    exact toPys_lay xs (by simpa [plain] using h)
  | .fn _, h => by simp [plain] at h
  | .ty _, h => by simp [plain] at h
  | .scr _, h => by simp [plain] at h
  | .ks _, h => by simp [plain] at h
  | .dt _ _, h => by simp [plain] at h
  | .lam _, h => by simp [plain] at h
  | .dw _ _, h => by simp [plain] at h
  | .dk _ _, h => by simp [plain] at h
  | .ins _ _ _, h => by simp [plain] at h
  | .clo _ _, h => by simp [plain] at h
theorem toPys_lay : ∀ ds, plains ds = true → PyData.canLayAll0 (toPys ds) = true
  | [], _ => by simp [toPys, PyData.canLayAll0]
  | d :: r, h => by
    simp only [plains, Bool.and_eq_true] at h
    simp only [toPys, PyData.canLayAll0, Bool.and_eq_true]
    exact ⟨toPy_lay d h.1, toPys_lay r h.2⟩
end
mutual
theorem toPy_dep : ∀ d, (toPy d).depth = dep d
  | .non => by simp [toPy, PyData.depth, dep]
  | .bl _ => by simp [toPy, PyData.depth, dep]
  | .int _ => by simp [toPy, PyData.depth, dep]
  | .str x => by simp [toPy, PyData.depth, dep]
  | .tup xs => by simp only [toPy, PyData.depth, dep, toPys_dep xs]
  | .lst xs => by simp only [toPy, PyData.depth, dep, toPys_dep xs]
  | .fn _ => by simp [toPy, PyData.depth, dep]
  | .ty _ => by simp [toPy, PyData.depth, dep]
  | .scr _ => by simp [toPy, PyData.depth, dep]
  | .ks _ => by simp [toPy, PyData.depth, dep]
  | .dt _ _ => by simp [toPy, PyData.depth, dep]
  | .lam _ => by simp [toPy, PyData.depth, dep]
  | .dw _ _ => by simp [toPy, PyData.depth, dep]
  | .dk _ _ => by simp [toPy, PyData.depth, dep]
  | .ins _ _ _ => by simp [toPy, PyData.depth, dep]
  | .clo _ _ => by simp [toPy, PyData.depth, dep]
theorem toPys_dep : ∀ ds, PyData.depthAll (toPys ds) = deps ds
  | [] => by simp [toPys, PyData.depthAll, deps]
  | d :: r => by simp only [toPys, PyData.depthAll, deps, toPy_dep d, toPys_dep r]
end
mutual
theorem Rp.dp {Γ : Gd} {H : Hp} : ∀ {v : V} {d : D}, Rp Γ H v d → plain d = true → Dp Γ.K H v (toPy d)
  | _, _, .non, _ => by simp only [toPy]; exact .non
  | _, _, .bl b, _ => by simp only [toPy]; exact .bl b
  | _, _, .int i, _ => by simp only [toPy]; exact .int i
  | _, _, .str x, _ => by simp only [toPy]; exact .str x
  | _, _, .lst h r, p => by simp only [toPy]; exact .lst (.inl (.inl h)) (RpAll.dp r (by simpa [plain] using p))
  | _, _, .tup h r, p => by simp only [toPy]; exact .tup h (RpAll.dp r (by simpa [plain] using p))
  | _, _, .fn _, p => by simp [plain] at p
  | _, _, .ty _, p => by simp [plain] at p
  | _, _, .scr _, p => by simp [plain] at p
  | _, _, .ks _, p => by simp [plain] at p
  | _, _, .dt _ _ _ _ _ _ _ _, p => by simp [plain] at p
  | _, _, .lam _ _ _, p => by simp [plain] at p
  | _, _, .dw _ _ _ _ _ _, p => by simp [plain] at p
  | _, _, .dk _ _ _, p => by simp [plain] at p
  | _, _, .ins _ _ _ _ _, p => by simp [plain] at p
  | _, _, .clo _ _ _ _ _ _ _, p => by simp [plain] at p
theorem RpAll.dp {Γ : Gd} {H : Hp} : ∀ {vs : List V} {ds : List D}, RpAll Γ H vs ds → plains ds = true → DpAll Γ.K H vs (toPys ds)
  | _, _, .nil, _ => by simp only [toPys]; exact .nil
  | _, _, .cons h r, p => by
    simp only [plains, Bool.and_eq_true] at p
    simp only [toPys]
    exact .cons (Rp.dp h p.1) (RpAll.dp r p.2)
end
def okD (d : D) : Bool := plain d && decide (dep d ≤ 64)
theorem okD_shaped {d : D} (h : okD d = true) : SeqAt.shaped (toPy d) = true := by
  simp only [okD, Bool.and_eq_true, decide_eq_true_eq] at h
  simp only [SeqAt.shaped, Bool.and_eq_true, decide_eq_true_eq, toPy_dep]
  exact ⟨toPy_lay d h.1, h.2⟩
theorem okD_plain {d : D} (h : okD d = true) : plain d = true := by
  simp only [okD, Bool.and_eq_true] at h
  exact h.1
def eqd (d e : D) : Bool := PyData.eqv (toPy d) (toPy e)
def eqV (x y : SV) : P SV := fun m => match svD x m, svD y m with
  | some d, some e => if okD d && okD e then .ok (.dat (.bl (eqd d e))) m else .stuck
  | _, _ => .stuck
def neV (x y : SV) : P SV := fun m => match svD x m, svD y m with
  | some d, some e => if okD d && okD e then .ok (.dat (.bl (!eqd d e))) m else .stuck
  | _, _ => .stuck
section
variable {X : Cx} {W : WX}
theorem jo_eq (hu : X.A.units + 64 < cLine) : JO X W (compareOp .Eq) eqV := ⟨fun {G S H ρ m σ x y xv yv Q} M rx ry h => by
  unfold eqV at h
  split at h
  · rename_i d e hd he
    split at h
    · rename_i ok
      rw [Bool.and_eq_true] at ok
      refine wo_of (op_eqD hu) ⟨toPy d, toPy e, (svD_ok M rx hd).dp (okD_plain ok.1), (svD_ok M ry he).dp (okD_plain ok.2), okD_shaped ok.1, okD_shaped ok.2, ?_⟩
      exact h S H ρ _ (Ext.refl _ _) M (.bl _)
    · exact h.elim
  · exact h.elim⟩
theorem jo_ne (hu : X.A.units + 64 < cLine) : JO X W (compareOp .NotEq) neV := ⟨fun {G S H ρ m σ x y xv yv Q} M rx ry h => by
  unfold neV at h
  split at h
  · rename_i d e hd he
    split at h
    · rename_i ok
      rw [Bool.and_eq_true] at ok
      refine wo_of (op_neD hu) ⟨toPy d, toPy e, (svD_ok M rx hd).dp (okD_plain ok.1), (svD_ok M ry he).dp (okD_plain ok.2), okD_shaped ok.1, okD_shaped ok.2, ?_⟩
      exact h S H ρ _ (Ext.refl _ _) M (.bl _)
    · exact h.elim
  · exact h.elim⟩
@[irreducible] def big : Nat := 2 ^ 4000
def mulOk (i j : Int) : Bool := (decide (i.natAbs < big) && decide (j.natAbs < big)) || decide (i.natAbs < 18446744073709551616) || decide (j.natAbs < 18446744073709551616) || decide (i.natAbs.log2 + j.natAbs.log2 < 1000000)
theorem log_big {n : Nat} (h : n < big) : n.log2 < 4000 := by
  unfold big at h
  exact PySem.Flt.log2_lt_of (by decide) h
theorem big_of {n : Nat} (h : n < 2 ^ 1000) : n < big := by
  unfold big
  exact Nat.lt_trans h (by decide +kernel)
def intOp (g : Int → Int → R SV) (x y : SV) : R SV := match x, y with
  | .dat (.int i), .dat (.int j) => g i j
  | _, _ => .stuck
theorem jo_int {f : Value → Value → Sem Value} {g : Int → Int → Mem → R SV} (h : ∀ {G S H : Hp} {ρ : List Addr} {m : Mem} {σ : St} {i j : Int} {Q : VK}, MR (gd X) G S H ρ m → wpr (g i j m) (QV X G S ρ Q) (QX X W G S ρ σ) → WO X f (.int i) (.int j) σ H Q) :
    JO X W f (fun x y m => intOp (fun i j => g i j m) x y) := ⟨fun {G S H ρ m σ x y xv yv Q} M rx ry q => by
  unfold intOp at q
  split at q
  · cases rx
    cases ry
    exact h M q
  · exact q.elim⟩
def subV (x y : SV) : P SV := fun m => intOp (fun i j => .ok (.dat (.int (i - j))) m) x y
def mulV (x y : SV) : P SV := fun m => intOp (fun i j => if mulOk i j = true then .ok (.dat (.int (i * j))) m else .stuck) x y
def fdivV (x y : SV) : P SV := fun m => intOp (fun i j => if j ≠ 0 ∧ j.natAbs < big then .ok (.dat (.int (i.fdiv j))) m else .stuck) x y
def modV (x y : SV) : P SV := fun m => intOp (fun i j => if j ≠ 0 then .ok (.dat (.int (i.fmod j))) m else .stuck) x y
def powV (x y : SV) : P SV := fun m => intOp (fun i j => if 0 ≤ j ∧ j ≤ 1000000 ∧ i.natAbs < 2 ^ 64 then .ok (.dat (.int (i ^ j.toNat))) m else .stuck) x y
def ltV (x y : SV) : P SV := fun m => intOp (fun i j => .ok (.dat (.bl (decide (i < j)))) m) x y
def leV (x y : SV) : P SV := fun m => intOp (fun i j => .ok (.dat (.bl (decide (i ≤ j)))) m) x y
def gtV (x y : SV) : P SV := fun m => intOp (fun i j => .ok (.dat (.bl (decide (j < i)))) m) x y
def geV (x y : SV) : P SV := fun m => intOp (fun i j => .ok (.dat (.bl (decide (j ≤ i)))) m) x y
theorem jo_sub : JO X W (binaryOp .Sub) subV := jo_int fun {G S H ρ m σ i j Q} M q => wo_of op_sub ⟨i, j, rfl, rfl, q S H ρ _ (Ext.refl _ _) M (.int _)⟩
theorem mulOk_ok {i j : Int} (h : mulOk i j = true) : IntMulOk i j := by
  unfold mulOk at h
  rw [Bool.or_eq_true, Bool.or_eq_true, Bool.or_eq_true, Bool.and_eq_true] at h
  rcases h with ((⟨h1, h2⟩ | h) | h) | h
  · have a := log_big (of_decide_eq_true h1)
    have b := log_big (of_decide_eq_true h2)
    exact CMulW.ok (show i.natAbs.log2 + j.natAbs.log2 < 1000000 by omega)
  · have := of_decide_eq_true h
    exact CMul.ok (.inl ⟨by omega, by omega⟩)
  · have := of_decide_eq_true h
    exact CMul.ok (.inr ⟨by omega, by omega⟩)
  · exact CMulW.ok (show i.natAbs.log2 + j.natAbs.log2 < 1000000 from of_decide_eq_true h)
theorem op_mulX : OpR X (binaryOp .Mult) (rI (fun i j => IntMulOk i j) fun i j => .int (i * j)) := opI fun _ _ _ _ _ _ _ hc q => mul_int q hc
theorem jo_mul : JO X W (binaryOp .Mult) mulV := jo_int fun {G S H ρ m σ i j Q} M q => by
  split at q
  · rename_i hm
    exact wo_of op_mulX ⟨i, j, rfl, rfl, mulOk_ok hm, q S H ρ _ (Ext.refl _ _) M (.int _)⟩
  · exact q.elim
theorem op_fdivX : OpR X (binaryOp .FloorDiv) (rI (fun i j => j ≠ 0 ∧ j.natAbs.log2 < 9000) fun i j => .int (i.fdiv j)) := opI fun _ _ _ _ _ _ _ hc q => floordiv_int hc.1 q (.inl (PyProof.noPylong_of_log2 hc.2))
theorem jo_fdiv : JO X W (binaryOp .FloorDiv) fdivV := jo_int fun {G S H ρ m σ i j Q} M q => by
  split at q
  · rename_i hm
    exact wo_of op_fdivX ⟨i, j, rfl, rfl, ⟨hm.1, Nat.lt_trans (log_big hm.2) (by decide)⟩, q S H ρ _ (Ext.refl _ _) M (.int _)⟩
  · exact q.elim
theorem jo_mod : JO X W (binaryOp .Mod) modV := jo_int fun {G S H ρ m σ i j Q} M q => by
  split at q
  · rename_i hm
    exact wo_of op_modN ⟨i, j, rfl, rfl, hm, q S H ρ _ (Ext.refl _ _) M (.int _)⟩
  · exact q.elim
theorem jo_pow : JO X W (binaryOp .Pow) powV := jo_int fun {G S H ρ m σ i j Q} M q => by
  split at q
  · rename_i hm
    exact wo_of op_pow ⟨i, j, rfl, rfl, hm, q S H ρ _ (Ext.refl _ _) M (.int _)⟩
  · exact q.elim
theorem jo_lt : JO X W (compareOp .Lt) ltV := jo_int fun {G S H ρ m σ i j Q} M q => wo_of op_lt ⟨i, j, rfl, rfl, q S H ρ _ (Ext.refl _ _) M (.bl _)⟩
theorem jo_le : JO X W (compareOp .LtE) leV := jo_int fun {G S H ρ m σ i j Q} M q => wo_of op_le ⟨i, j, rfl, rfl, q S H ρ _ (Ext.refl _ _) M (.bl _)⟩
theorem jo_gt : JO X W (compareOp .Gt) gtV := jo_int fun {G S H ρ m σ i j Q} M q => wo_of op_gt ⟨i, j, rfl, rfl, q S H ρ _ (Ext.refl _ _) M (.bl _)⟩
theorem jo_ge : JO X W (compareOp .GtE) geV := jo_int fun {G S H ρ m σ i j Q} M q => wo_of op_ge ⟨i, j, rfl, rfl, q S H ρ _ (Ext.refl _ _) M (.bl _)⟩
def addV (x y : SV) : P SV := fun m => match x, y with
  | .dat (.int i), .dat (.int j) => .ok (.dat (.int (i + j))) m
  | .dat (.tup xs), .dat (.tup ys) => if xs.length + ys.length ≤ 16777216 then .ok (.dat (.tup (xs ++ ys))) m else .stuck
  | .dat (.str a), .dat (.str b) => if a.length + b.length ≤ 16777216 then .ok (.dat (.str (a ++ b))) m else .stuck
  | .dat (.scr ns), .dat (.lst ys) => if ns.length + ys.length ≤ 16777216 then .ok (.dat (.lst (ns.map D.int ++ ys))) m else .stuck
  | _, _ => (match rdL x m, rdL y m with
    | some xs, some ys => if xs.length + ys.length ≤ 16777216 then .ok (.dat (.lst (xs ++ ys))) m else .stuck
    | _, _ => .stuck)
theorem catL_ok {G S H : Hp} {ρ : List Addr} {m : Mem} {σ : St} {x y : SV} {xv yv : V} {Q : VK} {E : Exc → Mem → Prop} (M : MR (gd X) G S H ρ m) (rx : RSV (gd X) S ρ xv x) (ry : RSV (gd X) S ρ yv y)
    (q : wpr (match rdL x m, rdL y m with
    | some xs, some ys => if xs.length + ys.length ≤ 16777216 then R.ok (SV.dat (.lst (xs ++ ys))) m else .stuck
    | _, _ => .stuck) (QV X G S ρ Q) E) : WO X (binaryOp .Add) xv yv σ H Q := by
  split at q
  · rename_i xs ys hx hy
    split at q
    · rename_i hl
      obtain ⟨a, vs, rfl, h1, r1⟩ := rdL_ok M rx hx
      obtain ⟨b, ws, rfl, h2, r2⟩ := rdL_ok M ry hy
      refine wo_of op_cat ⟨a, b, vs, ws, rfl, rfl, h1, h2, by rw [r1.length, r2.length, sizeLine_eq]; exact hl, fun p hp => ?_⟩
      obtain ⟨s1, M2⟩ := M.grow hp (.lst (vs ++ ws))
      exact q _ _ ρ _ ⟨s1, fun _ _ z => z⟩ M2 (.lst upd_same ((r1.append r2).mono s1))
    · exact q.elim
  · exact q.elim
theorem op_catQ : OpR X (binaryOp .Add) (fun x y H Q => ∃ l b xs zs, x = .ref l ∧ y = .ref b ∧ SqL X.K H l xs ∧ SqL X.K H b zs ∧ xs.length + zs.length ≤ sizeLine ∧ ∀ p, H p = none → Q (.ref p) (upd H p (.lst (xs ++ zs)))) := by
  intro pins s σ H x y v u Q I rx ry h
  obtain ⟨l, b, xs, zs, rfl, rfl, hH, hB, hz, q⟩ := h
  cases rx
  cases ry
  obtain ⟨its, r, p, _⟩ := I.list hH
  obtain ⟨its2, r2, p2, _⟩ := I.list hB
  obtain ⟨⟨cls, dd, data, sl⟩, ho, hc, n, hd⟩ := p.isList
  obtain ⟨⟨cls2, dd2, data2, sl2⟩, ho2, hc2, n2, hd2⟩ := p2.isList
  simp only at hc hd hc2 hd2
  subst hc hd hc2 hd2
  have e1 := r.length
  have e2 := r2.length
  refine concat_meets ⟨_, ho, rfl⟩ ⟨_, ho2, rfl⟩ noFill_list_add seq_list_add PySem.F.slot_list_add PySem.F.entry_list_add (PySem.F.args_list_add_2 _ _)
    (list_addW l b its.toArray its2.toArray n n2 dd dd2 sl sl2 (by simp; omega)) ⟨ho, ho2, ?_⟩
  have ea : its.toArray ++ its2.toArray = (its ++ its2).toArray := by simp
  rw [ea]
  exact ⟨.ref _, _, I.lnew (t' := s.toks) (r.append r2) (by rw [List.length_append]; omega), rfl, q _ I.fresh⟩
theorem rpAll_int (Γ : Gd) (S : Hp) : ∀ ns : List Int, RpAll Γ S (ns.map V.int) (ns.map D.int)
  | [] => .nil
  | n :: r => .cons (.int n) (rpAll_int Γ S r)
theorem rpAll_nil {Γ : Gd} {S : Hp} {vs : List V} {ds : List D} (r : RpAll Γ S vs ds) (h : vs = []) : ds = [] := by subst h; cases r; rfl
theorem jo_add : JO X W (binaryOp .Add) addV := ⟨fun {G S H ρ m σ x y xv yv Q} M rx ry q => by
  unfold addV at q
  split at q
  · cases rx
    cases ry
    exact wo_of op_add ⟨_, _, rfl, rfl, q S H ρ _ (Ext.refl _ _) M (.int _)⟩
  · rename_i xs ys
    split at q
    · rename_i hl
      cases rx with
      | tup h1 r1 =>
        cases ry with
        | tup h2 r2 =>
          rename_i a vs b ws
          refine wo_of op_catA ⟨a, b, vs, ws, rfl, rfl, Same.seqT M.sub h1, Same.seqT M.sub h2, by rw [r1.length, r2.length, sizeLine_eq]; exact hl, fun e => ?_, fun e1 e2 => ?_, fun e1 e2 p hp => ?_⟩
          · have z := rpAll_nil r1 e
            subst z
            exact q S H ρ _ (Ext.refl _ _) M (.tup h2 r2)
          · have z := rpAll_nil r2 e2
            subst z
            rw [List.append_nil] at q
            exact q S H ρ _ (Ext.refl _ _) M (.tup h1 r1)
          · obtain ⟨s1, M2⟩ := M.grow hp (.tup (vs ++ ws))
            exact q _ _ ρ _ ⟨s1, fun _ _ z => z⟩ M2 (.tup (.inl (.inl upd_same)) ((r1.append r2).mono s1))
    · exact q.elim
  · split at q
    · rename_i hl
      cases rx
      cases ry
      exact wo_of op_add_str ⟨_, _, rfl, rfl, by rw [sizeLine_eq]; exact hl, q S H ρ _ (Ext.refl _ _) M (.str _)⟩
    · exact q.elim
  · rename_i ns ys
    split at q
    · rename_i hl
      cases rx with
      | scr h1 =>
        cases ry with
        | lst h2 r2 =>
          rename_i a b ws
          refine wo_of op_catQ ⟨a, b, ns.map V.int, ws, rfl, rfl, M.sub.seq h1, .inl (.inl (M.sub _ _ h2)), by rw [List.length_map, r2.length, sizeLine_eq]; exact hl, fun p hp => ?_⟩
          obtain ⟨s1, M2⟩ := M.grow hp (.lst (ns.map V.int ++ ws))
          exact q _ _ ρ _ ⟨s1, fun _ _ z => z⟩ M2 (.lst upd_same (((rpAll_int _ _ ns).append r2).mono s1))
    · exact q.elim
  · exact catL_ok M rx ry q⟩
def isNon : D → Bool
  | .non => true
  | _ => false
def isNV (x y : SV) : P SV := fun m => match x, y with
  | .dat d, .dat .non => .ok (.dat (.bl (isNon d))) m
  | .ref _, .dat .non => .ok (.dat (.bl false)) m
  | _, _ => .stuck
def notNV (x y : SV) : P SV := fun m => match x, y with
  | .dat d, .dat .non => .ok (.dat (.bl (!isNon d))) m
  | .ref _, .dat .non => .ok (.dat (.bl true)) m
  | _, _ => .stuck
theorem rp_non {Γ : Gd} {S : Hp} {v : V} {d : D} (r : Rp Γ S v d) : decide (v = .non) = isNon d := by
  cases r <;> simp [isNon]
theorem jo_isN : JO X W (compareOp .Is) isNV := ⟨fun {G S H ρ m σ x y xv yv Q} M rx ry q => by
  unfold isNV at q
  split at q
  · cases ry
    refine wo_of op_isN ⟨rfl, ?_⟩
    rw [rp_non rx]
    exact q S H ρ _ (Ext.refl _ _) M (.bl _)
  · cases ry
    obtain ⟨a, _, rfl⟩ := rx
    exact wo_of op_isN ⟨rfl, by simpa using q S H ρ _ (Ext.refl _ _) M (.bl _)⟩
  · exact q.elim⟩
theorem jo_notN : JO X W (compareOp .IsNot) notNV := ⟨fun {G S H ρ m σ x y xv yv Q} M rx ry q => by
  unfold notNV at q
  split at q
  · rename_i d
    cases ry
    refine wo_of op_notN ⟨rfl, ?_⟩
    rw [rp_non rx]
    exact q S H ρ _ (Ext.refl _ _) M (.bl _)
  · cases ry
    obtain ⟨a, _, rfl⟩ := rx
    exact wo_of op_notN ⟨rfl, by simpa using q S H ρ _ (Ext.refl _ _) M (.bl _)⟩
  · exact q.elim⟩
def flatD : D → Bool
  | .non => true
  | .bl _ => true
  | .int _ => true
  | .str _ => true
  | _ => false
def eqF : D → D → Bool
  | .non, .non => true
  | .bl a, .bl b => a == b
  | .bl a, .int b => (if a then 1 else 0) == b
  | .int a, .bl b => a == (if b then 1 else 0)
  | .int a, .int b => a == b
  | .str a, .str b => a == b
  | _, _ => false
theorem rp_flat {Γ : Gd} {S : Hp} {v : V} {d : D} (r : Rp Γ S v d) (f : flatD d = true) : flatV v = true := by
  cases r <;> first | rfl | (simp [flatD] at f)
theorem rp_eqF {Γ : Gd} {S : Hp} {v w : V} {d e : D} (r : Rp Γ S v d) (q : Rp Γ S w e) (f : flatD d = true) (g : flatD e = true) : L2.eqV v w = eqF d e := by
  cases r <;> first | (simp [flatD] at f; done) | (cases q <;> first | rfl | (simp [flatD] at g; done))
theorem rpAll_flat {Γ : Gd} {S : Hp} : ∀ {vs : List V} {ds : List D}, RpAll Γ S vs ds → ds.all flatD = true → vs.all flatV = true
  | _, _, .nil, _ => rfl
  | _, _, .cons h r, f => by
    rw [List.all_cons, Bool.and_eq_true] at f ⊢
    exact ⟨rp_flat h f.1, rpAll_flat r f.2⟩
theorem rpAll_in {Γ : Gd} {S : Hp} {x : V} {d : D} (rx : Rp Γ S x d) (fx : flatD d = true) : ∀ {vs : List V} {ds : List D}, RpAll Γ S vs ds → ds.all flatD = true → inV x vs = ds.any fun e => eqF e d
  | _, _, .nil, _ => rfl
  | _, _, .cons h r, f => by
    rw [List.all_cons, Bool.and_eq_true] at f
    have ih := rpAll_in rx fx r f.2
    unfold inV at ih ⊢
    rw [List.any_cons, List.any_cons, ih, rp_eqF h rx f.1 fx]
def rdSq (v : SV) (m : Mem) : Option (List D) := match v with
  | .dat (.tup xs) => some xs
  | _ => rdL v m
theorem rdSq_ok {Γ : Gd} {G S H : Hp} {ρ : List Addr} {m : Mem} {v : SV} {vv : V} {xs : List D} (M : MR Γ G S H ρ m) (r : RSV Γ S ρ vv v) (h : rdSq v m = some xs) :
    ∃ a vs, vv = .ref a ∧ (SqL Γ.K H a vs ∨ SqT Γ.K H a vs) ∧ RpAll Γ S vs xs := by
  unfold rdSq at h
  split at h
  · cases h
    cases r with
    | tup q z => exact ⟨_, _, rfl, .inr (Same.seqT M.sub q), z⟩
  · obtain ⟨a, vs, h1, h2, h3⟩ := rdL_ok M r h
    exact ⟨a, vs, h1, .inl (.inl (.inl h2)), h3⟩
def hasD (xs : List D) (d : D) : Bool := xs.any fun e => eqF e d
def flats (xs : List D) : Bool := xs.all flatD
def notInSV (x y : SV) : P SV := fun m => match x, rdSq y m with
  | .dat d, some xs => if flatD d && flats xs then .ok (.dat (.bl (!hasD xs d))) m else .stuck
  | _, _ => .stuck
theorem jo_notIn : JO X W (compareOp .NotIn) notInSV := ⟨fun {G S H ρ m σ x y xv yv Q} M rx ry q => by
  unfold notInSV at q
  split at q
  · rename_i d xs hxs
    split at q
    · rename_i ok
      rw [Bool.and_eq_true] at ok
      obtain ⟨a, vs, rfl, h1, r⟩ := rdSq_ok M ry hxs
      refine wo_of op_notIn_seq ⟨a, vs, rfl, h1, rp_flat rx ok.1, rpAll_flat r ok.2, ?_⟩
      rw [if_pos rfl, rpAll_in rx ok.1 r ok.2]
      exact q S H ρ _ (Ext.refl _ _) M (.bl _)
    · exact q.elim
  · exact q.elim⟩
variable {a b e : Expr} {es : List Expr} {pos : Pos} {fa fb : En → P SV}
def negV (x : SV) : P SV := fun m => match x with
  | .dat (.int i) => .ok (.dat (.int (-i))) m
  | _ => .stuck
def d1 (g : SV → P SV) (fa : En → P SV) : En → P SV := fun env => (fa env).bnd g
theorem je_neg (ja : JE X W a fa) : JE X W (.UnaryOp .USub a pos) (d1 negV fa) := ⟨fun {G S H ρ m env σ Q} M E h => by
  refine we_of (pe_un un_neg pe_we) (ja.run M E (wpr_monoQ (wpr_bnd h) fun x m1 hx => ?_))
  intro S1 H1 ρ1 xv e1 M1 rx
  unfold negV at hx
  split at hx
  · cases rx
    exact ⟨_, rfl, hx S1 H1 ρ1 _ e1 M1 (.int _)⟩
  · exact hx.elim⟩
def ixV (x y : SV) : P SV := fun m => match y with
  | .dat (.int i) => (match x with
    | .dat (.scr ns) => (match atI ns i with | some n => .ok (.dat (.int n)) m | none => .stuck)
    | .dat (.str z) => if z.length ≤ 16777216 then (match atI z.cps.toList i with | some c => .ok (.dat (.str ⟨#[c]⟩)) m | none => .stuck) else .stuck
    | _ => (match rdSq x m with
      | some xs => (match atI xs i with | some d => .ok (.dat d) m | none => .stuck)
      | none => .stuck))
  | _ => .stuck
theorem atI_map {α β : Type} (f : α → β) (xs : List α) (i : Int) : atI (xs.map f) i = (atI xs i).map f := by
  unfold atI
  rw [List.length_map]
  cases ixN xs.length i with
  | none => rfl
  | some j => simp
theorem rpAll_atI {Γ : Gd} {S : Hp} {vs : List V} {ds : List D} {i : Int} {d : D} (r : RpAll Γ S vs ds) (h : atI ds i = some d) : ∃ v, atI vs i = some v ∧ Rp Γ S v d := by
  unfold atI at h ⊢
  rw [r.length]
  cases e : ixN ds.length i with
  | none => rw [e] at h; cases h
  | some j =>
    rw [e] at h
    exact r.get h
theorem je_ix (ja : JE X W a fa) (jb : JE X W b fb) (hs : PlainIx b := by exact fun _ _ => rfl) : JE X W (.Subscript a b pos) (d2 ixV fa fb) := ⟨fun {G S H ρ m env σ Q} M E h => by
  refine we_of (pe_ix ix_seq pe_we pe_we hs) (ja.run M E (wpr_monoQ (wpr_bnd h) fun x m1 hx => ?_))
  intro S1 H1 ρ1 xv e1 M1 rx
  refine jb.run M1 (E.mono e1) (wpr_mono (wpr_bnd hx) (fun y m2 hy => ?_) fun _ _ z => qx_ext e1 z)
  intro S2 H2 ρ2 yv e2 M2 ry
  have rx2 := rx.mono e2
  unfold ixV at hy
  split at hy
  · rename_i i
    cases ry
    split at hy
    · rename_i ns
      split at hy
      · rename_i n hn
        cases rx2 with
        | scr q =>
          refine .inl ⟨_, _, i, .int n, rfl, rfl, M2.sub.seq q, by rw [atI_map, hn]; rfl, ?_⟩
          exact hy S2 H2 ρ2 _ (e1.trans e2) M2 (.int n)
      · exact hy.elim
    · rename_i z
      split at hy
      · rename_i hl
        split at hy
        · rename_i c hc
          cases rx2
          exact .inr (.inr ⟨z, i, c, rfl, rfl, by rw [sizeLine_eq]; exact hl, hc, hy S2 H2 ρ2 _ (e1.trans e2) M2 (.str _)⟩)
        · exact hy.elim
      · exact hy.elim
    · split at hy
      · rename_i xs hxs
        split at hy
        · rename_i d hd
          obtain ⟨p, vs, rfl, h1, r⟩ := rdSq_ok M2 rx2 hxs
          obtain ⟨v, hv, rv⟩ := rpAll_atI r hd
          rcases h1 with h1 | h1
          · exact .inl ⟨p, vs, i, v, rfl, rfl, h1, hv, hy S2 H2 ρ2 _ (e1.trans e2) M2 rv⟩
          · exact .inr (.inl ⟨p, vs, i, v, rfl, rfl, h1, hv, hy S2 H2 ρ2 _ (e1.trans e2) M2 rv⟩)
        · exact hy.elim
      · exact hy.elim
  · exact hy.elim⟩
theorem paired1 {α β : Type} {F : α → β → Prop} {vs : List α} {x : β} (h : Paired F vs [x]) : ∃ v, vs = [v] ∧ F v x := by
  cases h with
  | cons r t => cases t; exact ⟨_, rfl, r⟩
theorem paired2 {α β : Type} {F : α → β → Prop} {vs : List α} {x y : β} (h : Paired F vs [x, y]) : ∃ v w, vs = [v, w] ∧ F v x ∧ F w y := by
  cases h with
  | cons r t => cases t with | cons r' t' => cases t'; exact ⟨_, _, rfl, r, r'⟩
def lenV (xs : List SV) : P SV := fun m => match xs with
  | [.dat (.scr ns)] => .ok (.dat (.int ns.length)) m
  | [.dat (.str z)] => if z.length ≤ 16777216 then .ok (.dat (.int z.length)) m else .stuck
  | [x] => (match rdSq x m with | some ys => .ok (.dat (.int ys.length)) m | none => .stuck)
  | _ => .stuck
theorem jc_len : JC X W (.builtin "len") lenV := ⟨fun {G S H ρ m σ xs xvs Q} M rx q => by
  unfold lenV at q
  split at q
  · rename_i ns
    obtain ⟨v, rfl, r⟩ := paired1 rx
    cases r with
    | scr h =>
      refine wc_of call_len ⟨_, ns.length, rfl, .inl ⟨_, M.sub.seq h, by rw [List.length_map]⟩, ?_⟩
      exact q S H ρ _ (Ext.refl _ _) M (.int _)
  · rename_i z
    obtain ⟨v, rfl, r⟩ := paired1 rx
    cases r
    split at q
    · rename_i hl
      exact wc_of call_len ⟨_, z.length, rfl, ⟨by rw [sizeLine_eq]; exact hl, rfl⟩, q S H ρ _ (Ext.refl _ _) M (.int _)⟩
    · exact q.elim
  · rename_i x _ _
    obtain ⟨v, rfl, r⟩ := paired1 rx
    split at q
    · rename_i ys hys
      obtain ⟨a, vs, rfl, h1, r1⟩ := rdSq_ok M r hys
      refine wc_of call_len ⟨_, ys.length, rfl, ?_, q S H ρ _ (Ext.refl _ _) M (.int _)⟩
      rcases h1 with h1 | h1
      · exact .inl ⟨vs, h1, r1.length.symm⟩
      · exact .inr ⟨vs, h1, r1.length.symm⟩
    · exact q.elim
  · exact q.elim⟩
def absV' (xs : List SV) : P SV := fun m => match xs with
  | [.dat (.int i)] => .ok (.dat (.int i.natAbs)) m
  | _ => .stuck
theorem jc_abs : JC X W (.builtin "abs") absV' := ⟨fun {G S H ρ m σ xs xvs Q} M rx q => by
  unfold absV' at q
  split at q
  · rename_i i
    obtain ⟨v, rfl, r⟩ := paired1 rx
    cases r
    refine wc_of call_abs ⟨i, rfl, ?_⟩
    have e : (if i < 0 then -i else i) = (i.natAbs : Int) := by omega
    rw [e]
    exact q S H ρ _ (Ext.refl _ _) M (.int _)
  · exact q.elim⟩
def max2V (xs : List SV) : P SV := fun m => match xs with
  | [.dat (.int i), .dat (.int j)] => .ok (.dat (.int (max i j))) m
  | _ => .stuck
def min2V (xs : List SV) : P SV := fun m => match xs with
  | [.dat (.int i), .dat (.int j)] => .ok (.dat (.int (min i j))) m
  | _ => .stuck
theorem jc_max2 (hc : X.calm = true) : JC X W (.builtin "max") max2V := ⟨fun {G S H ρ m σ xs xvs Q} M rx q => by
  unfold max2V at q
  split at q
  · rename_i i j
    obtain ⟨v, w', rfl, r1, r2⟩ := paired2 rx
    cases r1
    cases r2
    refine wc_of (call_max2 hc) ⟨i, j, rfl, ?_⟩
    have e : (if j > i then j else i) = max i j := by omega
    rw [e]
    exact q S H ρ _ (Ext.refl _ _) M (.int _)
  · exact q.elim⟩
theorem jc_min2 (hc : X.calm = true) : JC X W (.builtin "min") min2V := ⟨fun {G S H ρ m σ xs xvs Q} M rx q => by
  unfold min2V at q
  split at q
  · rename_i i j
    obtain ⟨v, w', rfl, r1, r2⟩ := paired2 rx
    cases r1
    cases r2
    refine wc_of (call_min2 hc) ⟨i, j, rfl, ?_⟩
    have e : (if j < i then j else i) = min i j := by omega
    rw [e]
    exact q S H ρ _ (Ext.refl _ _) M (.int _)
  · exact q.elim⟩
def intV (xs : List SV) : P SV := fun m => match xs with
  | [.dat (.int i)] => .ok (.dat (.int i)) m
  | [.dat (.bl k)] => .ok (.dat (.int (if k then 1 else 0))) m
  | _ => .stuck
theorem jc_int : JC X W (.type "int") intV := ⟨fun {G S H ρ m σ xs xvs Q} M rx q => by
  unfold intV at q
  split at q
  · obtain ⟨v, rfl, r⟩ := paired1 rx
    cases r
    exact wc_of call_int1 (.inl ⟨_, rfl, q S H ρ _ (Ext.refl _ _) M (.int _)⟩)
  · obtain ⟨v, rfl, r⟩ := paired1 rx
    cases r
    exact wc_of call_int1 (.inr ⟨_, rfl, q S H ρ _ (Ext.refl _ _) M (.int _)⟩)
  · exact q.elim⟩
def asBs : List D → Option (List Bool)
  | [] => some []
  | .bl b :: r => (match asBs r with | some bs => some (b :: bs) | none => none)
  | _ => none
def asIs : List D → Option (List Int)
  | [] => some []
  | .int i :: r => (match asIs r with | some is => some (i :: is) | none => none)
  | _ => none
theorem rpAll_bs {Γ : Gd} {S : Hp} : ∀ {vs : List V} {ds : List D} {bs : List Bool}, RpAll Γ S vs ds → asBs ds = some bs → vs = bs.map V.bl
  | _, _, bs, .nil, h => by cases h; rfl
  | _, _, bs, .cons h0 r, h => by
    cases h0 <;> first | (simp [asBs] at h; done) | skip
    unfold asBs at h
    split at h
    · rename_i bs' e
      cases h
      rw [rpAll_bs r e]
      rfl
    · cases h
theorem rpAll_is {Γ : Gd} {S : Hp} : ∀ {vs : List V} {ds : List D} {is : List Int}, RpAll Γ S vs ds → asIs ds = some is → vs = is.map V.int
  | _, _, bs, .nil, h => by cases h; rfl
  | _, _, bs, .cons h0 r, h => by
    cases h0 <;> first | (simp [asIs] at h; done) | skip
    unfold asIs at h
    split at h
    · rename_i bs' e
      cases h
      rw [rpAll_is r e]
      rfl
    · cases h
def allV (xs : List SV) : P SV := fun m => match xs with
  | [x] => (match rdL x m with | some ds => (match asBs ds with | some bs => .ok (.dat (.bl (bs.all id))) m | none => .stuck) | none => .stuck)
  | _ => .stuck
theorem jc_all (hc : X.calm = true) : JC X W (.builtin "all") allV := ⟨fun {G S H ρ m σ xs xvs Q} M rx q => by
  unfold allV at q
  split at q
  · obtain ⟨v, rfl, r⟩ := paired1 rx
    split at q
    · rename_i ds hd
      split at q
      · rename_i bs hb
        obtain ⟨a, vs, rfl, h1, r1⟩ := rdL_ok M r hd
        have e := rpAll_bs r1 hb
        subst e
        exact wc_of (cr_all hc) ⟨a, bs, rfl, .inl (.inl h1), q S H ρ _ (Ext.refl _ _) M (.bl _)⟩
      · exact q.elim
    · exact q.elim
  · exact q.elim⟩
def tupleV (xs : List SV) : P SV := fun m => match xs with
  | [x] => (match rdSq x m with | some ds => .ok (.dat (.tup ds)) m | none => .stuck)
  | _ => .stuck
theorem jc_tuple : JC X W (.type "tuple") tupleV := ⟨fun {G S H ρ m σ xs xvs Q} M rx q => by
  unfold tupleV at q
  split at q
  · rename_i x
    obtain ⟨v, rfl, r⟩ := paired1 rx
    split at q
    · rename_i ds hd
      unfold rdSq at hd
      split at hd
      · cases hd
        cases r with
        | tup h1 z => exact wc_of call_tuple_of ⟨_, _, rfl, .inr ⟨Same.seqT M.sub h1, q S H ρ _ (Ext.refl _ _) M (.tup h1 z)⟩⟩
      · obtain ⟨a, vs, rfl, h1, r1⟩ := rdL_ok M r hd
        refine wc_of call_tuple_of ⟨a, vs, rfl, .inl ⟨.inl (.inl h1), fun l hl => ?_⟩⟩
        obtain ⟨s1, M2⟩ := M.grow hl (.tup vs)
        exact q _ _ ρ _ ⟨s1, fun _ _ z => z⟩ M2 (.tup (.inl (.inl upd_same)) (r1.mono s1))
    · exact q.elim
  · exact q.elim⟩
def tyName (v : SV) (m : Mem) : Option String := match v with
  | .dat .non => some "NoneType"
  | .dat (.bl _) => some "bool"
  | .dat (.int _) => some "int"
  | .dat (.str _) => some "str"
  | .dat (.tup _) => some "tuple"
  | .dat (.lst _) => some "list"
  | .dat (.scr _) => some "list"
  | .dat (.dk _ _) => some "dict"
  | .dat (.ks _) => some "dict"
  | .ref n => (match m[n]? with | some (.lst _) => some "list" | _ => none)
  | _ => none
def tyIs (a b : String) : Bool := a == b || (a == "bool" && b == "int")
def tyNames : List String := ["NoneType", "bool", "int", "str", "tuple", "list", "dict"]
theorem tyName_ok {G S H : Hp} {ρ : List Addr} {m : Mem} {v : SV} {vv : V} {n : String} (M : MR (gd X) G S H ρ m) (r : RSV (gd X) S ρ vv v) (h : tyName v m = some n) : TyX X.K H vv (.type n) ∧ n ∈ tyNames := by
  cases v with
  | ref k =>
    unfold tyName at h
    simp only at h
    split at h
    · rename_i ys hy
      cases h
      obtain ⟨a, vs, rfl, g2, g3⟩ := rdL_ok (v := .ref k) (xs := ys) M r (by unfold rdL; simp only [hy])
      exact ⟨.base (.lst g2), by simp [tyNames]⟩
    · cases h
  | dat d =>
    cases d with
    | non => cases h; cases r; exact ⟨.base .non, by simp [tyNames]⟩
    | bl b => cases h; cases r; exact ⟨.base (.bl b), by simp [tyNames]⟩
    | int i => cases h; cases r; exact ⟨.base (.int i), by simp [tyNames]⟩
    | str x => cases h; cases r; exact ⟨.base (.str x), by simp [tyNames]⟩
    | tup xs =>
      cases h
      cases r with
      | tup q z =>
        refine ⟨?_, by simp [tyNames]⟩
        rcases Same.seqT M.sub q with (q | ⟨o, q⟩) | ⟨o, its, n, q, c, _⟩
        · exact .base (.tup q)
        · exact .fTuple q
        · exact .kTuple q c
    | lst xs =>
      cases h
      cases r with
      | lst q z => exact ⟨.base (.lst (M.sub _ _ q)), by simp [tyNames]⟩
    | scr ns =>
      cases h
      cases r with
      | scr q =>
        refine ⟨?_, by simp [tyNames]⟩
        rcases M.sub.seq q with (q | ⟨o, q⟩) | ⟨o, its, n, q, c, _⟩
        · exact .base (.lst q)
        · exact .base (.frz q)
        · exact .kList q c
    | dk ks ds =>
      cases h
      cases r with
      | dk q1 q2 q3 => exact ⟨.fDict (M.sub _ _ q1), by simp [tyNames]⟩
    | ks ns =>
      cases h
      cases r with
      | ks q => exact ⟨.fDict (M.sub _ _ q), by simp [tyNames]⟩
    | _ => cases h
def isiV (ts : List String) (v : SV) : P SV := fun m => match tyName v m with
  | some n => .ok (.dat (.bl (ts.any fun t => tyIs n t))) m
  | none => .stuck
def TyTab (t : String) : Prop := ∀ n ∈ tyNames, kitB n t = some (tyIs n t)
theorem je_isi {t : String} {x : Str} {p p2 : Pos} (ht : TyTab t) (hg : Gl X "isinstance") (hm : X.mg "isinstance" = none) (hgx : Gl X x) (hmx : X.mg x = none) (hvx : bootBuiltins x = some (.type t)) (ja : JE X W a fa) (hnx : x ≠ "__name__" := by decide) (hdx : (x == ("__debug__" : Str)) = false := by decide)
    (he : starEach (a :: [Expr.Name x p2]) X.env = (false, eval a X.env) :: starEach [Expr.Name x p2] X.env := by rfl) (hpl : (backTo pos (starEach [Expr.Name x p2] X.env)).any (·.1) = false := by rfl) : JE X W (.Call (.Name "isinstance" p) [a, .Name x p2] [] pos) (d1 (isiV [t]) fa) := ⟨fun {G S H ρ m env σ Q} M E h => by
  refine we_of (pe_callB call_isi hg hm (by decide +kernel) (pa_cons pe_we (pa_cons (pe_bltn (v := .ty t) hgx hmx hvx rfl hnx hdx) pa_nil) he) (by decide) (by decide) he hpl) (ja.run M E (wpr_monoQ (wpr_bnd h) fun v m1 hv => ?_))
  intro S1 H1 ρ1 xv e1 M1 rx
  unfold isiV at hv
  split at hv
  · rename_i n hn
    obtain ⟨ty, mem⟩ := tyName_ok M1 rx hn
    refine ⟨xv, .ty t, .type n, .type t, tyIs n t, rfl, .ty t, ty, kit_ty (ht n mem), ?_⟩
    have q := hv S1 H1 ρ1 _ e1 M1 (.bl _)
    simpa using q
  · exact hv.elim⟩
theorem je_isi2 {t u : String} {x y : Str} {k : Nat} {p p2 p3 p4 : Pos} (ht : TyTab t) (hu : TyTab u) (hg : Gl X "isinstance") (hm : X.mg "isinstance" = none) (hgx : Gl X x) (hmx : X.mg x = none) (hvx : bootBuiltins x = some (.type t)) (hgy : Gl X y) (hmy : X.mg y = none) (hvy : bootBuiltins y = some (.type u)) (ja : JE X W a fa)
    (hnx : x ≠ "__name__" := by decide) (hdx : (x == ("__debug__" : Str)) = false := by decide) (hny : y ≠ "__name__" := by decide) (hdy : (y == ("__debug__" : Str)) = false := by decide)
    (he : starEach (a :: [Expr.Tuple [.Name x p2, .Name y p3] k p4]) X.env = (false, eval a X.env) :: starEach [Expr.Tuple [.Name x p2, .Name y p3] k p4] X.env := by rfl) (hpl : (backTo pos (starEach [Expr.Tuple [.Name x p2, .Name y p3] k p4] X.env)).any (·.1) = false := by rfl) :
    JE X W (.Call (.Name "isinstance" p) [a, .Tuple [.Name x p2, .Name y p3] k p4] [] pos) (d1 (isiV [t, u]) fa) := ⟨fun {G S H ρ m env σ Q} M E h => by
  refine we_of (pe_callB call_isiT hg hm (by decide +kernel) (pa_cons pe_we (pa_cons (pe_tup (pa_cons (pe_bltn (v := .ty t) hgx hmx hvx rfl hnx hdx) (pa_cons (pe_bltn (v := .ty u) hgy hmy hvy rfl hny hdy) pa_nil))) pa_nil) he) (by decide) (by decide) he hpl) (ja.run M E (wpr_monoQ (wpr_bnd h) fun v m1 hv => ?_))
  intro S1 H1 ρ1 xv e1 M1 rx
  refine ⟨by show 2 ≤ sizeLine; decide, fun tp htp => ?_⟩
  obtain ⟨s2, M2⟩ := M1.grow htp (.tup [.ty t, .ty u])
  unfold isiV at hv
  split at hv
  · rename_i n hn
    obtain ⟨ty, mem⟩ := tyName_ok M2 (rx.mono ⟨s2, fun _ _ z => z⟩) hn
    refine ⟨xv, tp, [.ty t, .ty u], .type n, [.type t, .type u], tyIs n t || tyIs n u, rfl, upd_same, .cons (.ty t) (.cons (.ty u) .nil), ty, kitAny_cons (kit_ty (ht n mem)) (fun h1 => ?_) (fun h1 => by rw [h1]; rfl), ?_⟩
    · rw [h1, Bool.false_or]
      exact kitAny_cons (kit_ty (hu n mem)) (fun h2 => by rw [h2]; exact kitAny_nil) fun h2 => h2
    · have q := hv (upd S1 tp (.tup [.ty t, .ty u])) _ ρ1 _ (e1.trans ⟨s2, fun _ _ z => z⟩) M2 (.bl _)
      simpa using q
  · exact hv.elim⟩
end
theorem tab_int : TyTab "int" := by unfold TyTab tyNames; decide +kernel
theorem tab_bool : TyTab "bool" := by unfold TyTab tyNames; decide +kernel
theorem tab_tuple : TyTab "tuple" := by unfold TyTab tyNames; decide +kernel
theorem tab_list : TyTab "list" := by unfold TyTab tyNames; decide +kernel
theorem tab_str : TyTab "str" := by unfold TyTab tyNames; decide +kernel
end PL
namespace PL
open PySem PySem.Spec PyProof.Rows L2
structure Sm (ts : List Nat) (σ σ' : St) : Prop where
  len : σ'.length = σ.length
  out : ∀ j, j ∉ ts → σ'[j]? = σ[j]?
theorem Sm.refl (ts : List Nat) (σ : St) : Sm ts σ σ := ⟨rfl, fun _ _ => rfl⟩
theorem Sm.trans {ts us : List Nat} {σ σ1 σ2 : St} (a : Sm ts σ σ1) (b : Sm us σ1 σ2) : Sm (ts ++ us) σ σ2 :=
  ⟨b.len.trans a.len, fun j h => (b.out j fun z => h (List.mem_append_right _ z)).trans (a.out j fun z => h (List.mem_append_left _ z))⟩
theorem wipe_in {σ : St} {i : Nat} : ∀ {vs : List Nat}, i ∈ vs → i < σ.length → (wipe σ vs)[i]? = some none
  | [], h, _ => by cases h
  | v :: vs, h, hl => by
    unfold wipe
    by_cases e : v = i
    · subst e
      exact List.getElem?_set_self (by rw [wipe_length]; exact hl)
    · rw [List.getElem?_set_ne e]
      exact wipe_in ((List.mem_cons.mp h).resolve_left fun z => e z.symm) hl
theorem Sm.wipe {ts vs : List Nat} {σ σ' : St} (h : Sm ts σ σ') (sub : ∀ t ∈ ts, t ∈ vs) : wipe σ' vs = wipe σ vs := by
  apply List.ext_getElem?
  intro i
  by_cases hi : i ∈ vs
  · by_cases hl : i < σ.length
    · rw [wipe_in hi hl, wipe_in hi (by rw [h.len]; exact hl)]
    · rw [List.getElem?_eq_none (by rw [wipe_length, h.len]; omega), List.getElem?_eq_none (by rw [wipe_length]; omega)]
  · rw [wipe_out hi, wipe_out hi]
    exact h.out i fun z => hi (sub i z)
def wipeE (env : En) : List Nat → En
  | [] => env
  | v :: vs => (wipeE env vs).set v none
theorem ER.wipe {Γ : Gd} {S : Hp} {ρ : List Addr} {env : En} {σ : St} (h : ER Γ S ρ env σ) : ∀ vs : List Nat, ER Γ S ρ (wipeE env vs) (wipe σ vs)
  | [] => h
  | v :: vs => (ER.wipe h vs).clear v
structure JG (X : Cx) (tg : Expr) (ts : List Nat) (g : D → En → Option En) : Prop where
  run : ∀ {G S H : Hp} {ρ : List Addr} {m : Mem} {env env' : En} {σ : St} {v : V} {d : D} {Q : St → Hp → Prop}, MR (gd X) G S H ρ m → ER (gd X) S ρ env σ → Rp (gd X) S v d → g d env = some env' →
    (∀ σ', ER (gd X) S ρ env' σ' → Sm ts σ σ' → Q σ' H) → WG X tg v σ H Q
structure JGs (X : Cx) (es : List Expr) (ts : List Nat) (g : List D → En → Option En) : Prop where
  run : ∀ {G S H : Hp} {ρ : List Addr} {m : Mem} {env env' : En} {σ : St} {vs : List V} {ds : List D} {Q : St → Hp → Prop}, MR (gd X) G S H ρ m → ER (gd X) S ρ env σ → RpAll (gd X) S vs ds → g ds env = some env' →
    (∀ σ', ER (gd X) S ρ env' σ' → Sm ts σ σ' → Q σ' H) →
    ∀ (pins : List (Addr × Obj)) (s : Shared) (us : List Value), Inv X pins σ H s → Vals vs us → wpAny (model X.prog X.w) X.A (assignInOrder ((assignEach es X.env).map (·.2)) us) (fun _ s' => ∃ σ' H', Inv X pins σ' H' s' ∧ Q σ' H') X.xe s
def gN (i : Nat) : D → En → Option En := fun d env => some (env.set i (some (.dat d)))
def gsN : List D → En → Option En := fun ds env => match ds with
  | [] => some env
  | _ => none
def gsC (g : D → En → Option En) (gs : List D → En → Option En) : List D → En → Option En := fun ds env => match ds with
  | d :: r => (match g d env with | some env' => gs r env' | none => none)
  | [] => none
def gT (n : Nat) (gs : List D → En → Option En) : D → En → Option En := fun d env => match d with
  | .tup xs => if xs.length = n then gs xs env else none
  | _ => none
section
variable {X : Cx} {W : WX} {pos : Pos}
theorem jg_name {i : Nat} {x : Str} (hN : X.N.Nodup) (hi : X.N[i]? = some x := by rfl) (hx : Loc X.env.scope x := by first | exact Or.inl rfl | exact Or.inr rfl) (hf : X.fn x = true ∨ X.env.scope.names.lookup x = some .local := by first | exact .inl rfl | exact .inr rfl | assumption) : JG X (.Name x pos) [i] (gN i) :=
  ⟨fun {G S H ρ m env env' σ v d Q} M E r hg h => by
    cases hg
    refine wg_of (pg_name hN hi hx hf) (h _ (E.set i (v := .dat d) r) ⟨List.length_set, fun j hj => ?_⟩)
    rw [List.getElem?_set_ne (fun z => hj (by simp [z]))]⟩
theorem jgs_nil : JGs X [] [] gsN := ⟨fun {G S H ρ m env env' σ vs ds Q} M E r hg h pins s us I rv => by
  cases r with
  | nil =>
    cases hg
    cases rv
    exact assignInOrder_nil ⟨σ, H, I, h σ E (Sm.refl _ _)⟩
  | cons _ _ => cases hg⟩
theorem jgs_cons {e : Expr} {es : List Expr} {ts us : List Nat} {g : D → En → Option En} {gs : List D → En → Option En} (j1 : JG X e ts g) (j2 : JGs X es us gs) (hs : (assignEach (e :: es) X.env).map (·.2) = assign e X.env :: (assignEach es X.env).map (·.2) := by rfl) : JGs X (e :: es) (ts ++ us) (gsC g gs) :=
  ⟨fun {G S H ρ m env env' σ vs ds Q} M E r hg h pins s uv I rv => by
    cases r with
    | nil => cases hg
    | cons r1 r2 =>
      unfold gsC at hg
      simp only at hg
      split at hg
      · rename_i env1 h1
        cases rv with
        | cons q1 q2 =>
          rw [hs]
          refine assignInOrder_cons (thn (j1.run (Q := fun σ1 H1 => H1 = H ∧ ER (gd X) S ρ env1 σ1 ∧ Sm ts σ σ1) M E r1 h1 (fun σ' e' s' => ⟨rfl, e', s'⟩) pins s _ I q1) fun _ s1 ⟨σ1, H1, I1, e1, er1, sm1⟩ => ?_)
          subst e1
          exact j2.run M er1 r2 hg (fun σ' e' s' => h σ' e' (sm1.trans s')) pins s1 _ I1 q2
      · cases hg⟩
theorem jg_tup {es : List Expr} {k : Nat} {ts : List Nat} {n : Nat} {gs : List D → En → Option En} (hc : X.calm = true) (j : JGs X es ts gs) (hn : (assignEach es X.env).length = n := by rfl) (hst : (assignEach es X.env).findIdx? (·.1) = none := by rfl) : JG X (.Tuple es k pos) ts (gT n gs) :=
  ⟨fun {G S H ρ m env env' σ v d Q} M E r hg h => by
    unfold gT at hg
    split at hg
    · split at hg
      · rename_i xs hl
        cases r with
        | tup hq hr =>
          refine wg_of (pg_tup (n := n) (t := fun vs σ H Q => ∀ (pins : List (Addr × Obj)) (s : Shared) (us : List Value), Inv X pins σ H s → Vals vs us → wpAny (model X.prog X.w) X.A (assignInOrder ((assignEach es X.env).map (·.2)) us) (fun _ s' => ∃ σ' H', Inv X pins σ' H' s' ∧ Q σ' H') X.xe s) hc ⟨fun pins s σ H vs us Q I rv q => q pins s us I rv⟩ hn hst) ⟨_, _, rfl, Same.seqT M.sub hq, by rw [hr.length]; exact hl, ?_⟩
          exact j.run M E hr hg h
      · cases hg
    · cases hg⟩
end
def ItS (Γ : Gd) (S0 : Hp) (J : It) (items : List D) : Prop := ∀ (i : Nat) {G S H : Hp} {ρ : List Addr} {m : Mem}, Same S0 S → MR Γ G S H ρ m →
  (items.length = i → J.stop i H) ∧ (∀ d, items[i]? = some d → J.go i H ∧ ∀ x H', J.yld i H x H' → ∃ S', Ext S ρ S' ρ ∧ MR Γ G S' H' ρ m ∧ Rp Γ S' x d)
theorem rpAll_ge {Γ : Gd} {S : Hp} {vs : List V} {ds : List D} (r : RpAll Γ S vs ds) {i : Nat} (h : ds.length ≤ i) : vs.length ≤ i := by rw [r.length]; exact h
theorem itS_list {Γ : Gd} {S0 : Hp} {a : Addr} {vs : List V} {ds : List D} (h : SqL Γ.K S0 a vs) (r : RpAll Γ S0 vs ds) : ItS Γ S0 (Itl Γ.K a) ds := fun i {G S H ρ m} s M => by
  have hl : SqL Γ.K H a vs := M.sub.seq (s.seq h)
  refine ⟨fun hi => ⟨vs, hl, rpAll_ge r (Nat.le_of_eq hi)⟩, fun d hd => ?_⟩
  obtain ⟨v, hv, rv⟩ := r.get hd
  refine ⟨⟨vs, v, hl, hv⟩, fun x H' y => ?_⟩
  obtain ⟨e, y⟩ := y
  subst e
  have e2 := y vs hl
  rw [hv] at e2
  cases e2
  exact ⟨S, Ext.refl _ _, M, rv.mono s⟩
theorem itS_tup {Γ : Gd} {S0 : Hp} {a : Addr} {vs : List V} {ds : List D} (h : SqT Γ.K S0 a vs) (r : RpAll Γ S0 vs ds) : ItS Γ S0 (Itt Γ.K a) ds := fun i {G S H ρ m} s M => by
  have hl : SqT Γ.K H a vs := Same.seqT M.sub (Same.seqT s h)
  refine ⟨fun hi => ⟨vs, hl, rpAll_ge r (Nat.le_of_eq hi)⟩, fun d hd => ?_⟩
  obtain ⟨v, hv, rv⟩ := r.get hd
  refine ⟨⟨vs, v, hl, hv⟩, fun x H' y => ?_⟩
  obtain ⟨e, y⟩ := y
  subst e
  have e2 := y vs hl
  rw [hv] at e2
  cases e2
  exact ⟨S, Ext.refl _ _, M, rv.mono s⟩
def rngD (lo : Int) (n : Nat) : List D := (List.range n).map fun (i : Nat) => .int (lo + (i : Int))
theorem itS_rng {Γ : Gd} {S0 : Hp} (lo : Int) (n : Nat) : ItS Γ S0 (Itr lo n) (rngD lo n) := fun i {G S H ρ m} s M => by
  refine ⟨fun hi => (by show n ≤ i; have : n = i := (by simpa [rngD] using hi); omega), fun d hd => ?_⟩
  unfold rngD at hd
  rw [List.getElem?_map] at hd
  by_cases hi : i < n
  · rw [List.getElem?_range hi] at hd
    cases hd
    refine ⟨hi, fun x H' y => ?_⟩
    obtain ⟨e, y⟩ := y
    subst e
    subst y
    exact ⟨S, Ext.refl _ _, M, .int _⟩
  · rw [List.getElem?_eq_none (by simpa using hi)] at hd
    cases hd
section
variable (X : Cx) (W : WX)
def QI (G S : Hp) (ρ : List Addr) (Rr : It → Hp → Prop) : List D → Mem → Prop := fun items m' => ∀ S' H' ρ' J, Ext S ρ S' ρ' → MR (gd X) G S' H' ρ' m' → ItS (gd X) S' J items → Rr J H'
structure JI (tg iter : Expr) (f : En → P (List D)) : Prop where
  run : ∀ {G S H : Hp} {ρ : List Addr} {m : Mem} {env : En} {σ : St} {Rr : It → Hp → Prop}, MR (gd X) G S H ρ m → ER (gd X) S ρ env σ → wpr (f env m) (QI X G S ρ Rr) (QX X W G S ρ σ) → WI X tg iter σ H Rr
end
section
variable {X : Cx} {W : WX} {pos p : Pos} {tg a b : Expr} {fa fb : En → P SV}
theorem iter_list {pins : List (Addr × Obj)} {σ : St} {H : Hp} {s : Shared} {Rr : It → Hp → Prop} {q : Addr} {xs : List V} (I : Inv X pins σ H s) (h : SqL X.K H q xs) (r : Rr (Itl X.K q) H) : wpAny (model X.prog X.w) X.A (pyIter (.ref q)) (PIE X pins σ tg Rr) X.xe s := by
  obtain ⟨its, rv, p, hz⟩ := I.list h
  refine wpAny_pyIter_list p.isList ?_
  refine ⟨s.heap.objs.size, [s.heap.objs.size], _, _, H, rfl, I.kept (t' := s.toks) fun b o e => Heap.get?_push_of_some _ e, turn_list q _, ⟨_, Heap.get?_push_size _ rfl, rfl, rfl⟩, fun b hb => ?_, r⟩
  have e : b = s.heap.objs.size := by simpa using hb
  subst e
  exact I.fpOk (Nat.le_refl _) (I.hok.fresh (Nat.le_refl _))
theorem iter_tup {pins : List (Addr × Obj)} {σ : St} {H : Hp} {s : Shared} {Rr : It → Hp → Prop} {q : Addr} {xs : List V} (I : Inv X pins σ H s) (h : SqT X.K H q xs) (r : Rr (Itt X.K q) H) : wpAny (model X.prog X.w) X.A (pyIter (.ref q)) (PIE X pins σ tg Rr) X.xe s := by
  obtain ⟨its, rv, p, hz⟩ := I.tuple h
  refine wpAny_pyIter_tuple (show s.heap.IsTuple q its.toArray from p) ?_
  refine ⟨s.heap.objs.size, [s.heap.objs.size], _, _, H, rfl, I.kept (t' := s.toks) fun b o e => Heap.get?_push_of_some _ e, turn_tuple q _, ⟨_, Heap.get?_push_size _ rfl, rfl, rfl⟩, fun b hb => ?_, r⟩
  have e : b = s.heap.objs.size := by simpa using hb
  subst e
  exact I.fpOk (Nat.le_refl _) (I.hok.fresh (Nat.le_refl _))
def itemsV (v : SV) : P (List D) := fun m => match v with
  | .dat (.lst xs) => .ok xs m
  | .dat (.tup xs) => .ok xs m
  | .dat (.scr ns) => .ok (ns.map D.int) m
  | _ => .stuck
def dIt (f : En → P SV) : En → P (List D) := fun env => (f env).bnd itemsV
theorem rpAll_ints {Γ : Gd} {S : Hp} : ∀ ns : List Int, RpAll Γ S (ns.map V.int) (ns.map D.int)
  | [] => .nil
  | n :: r => .cons (.int n) (rpAll_ints r)
theorem ji_seq (ja : JE X W a fa) : JI X W tg a (dIt fa) := ⟨fun {G S H ρ m env σ Rr} M E h pins s I => by
  refine thn (ja.run (Q := fun x H1 => (∃ q xs, x = .ref q ∧ SqL X.K H1 q xs ∧ Rr (Itl X.K q) H1) ∨ (∃ q xs, x = .ref q ∧ SqT X.K H1 q xs ∧ Rr (Itt X.K q) H1)) M E (wpr_monoQ (wpr_bnd h) fun x m1 hx => ?_) pins s I) fun v s1 ⟨x, H1, I1, r1, q1⟩ => ?_
  · intro S1 H1 ρ1 xv e1 M1 rx
    unfold itemsV at hx
    split at hx
    · cases rx with
      | lst q z => exact .inl ⟨_, _, rfl, .inl (.inl (M1.sub _ _ q)), hx S1 H1 ρ1 _ e1 M1 (itS_list (.inl (.inl q)) z)⟩
    · cases rx with
      | tup q z => exact .inr ⟨_, _, rfl, Same.seqT M1.sub q, hx S1 H1 ρ1 _ e1 M1 (itS_tup q z)⟩
    · cases rx with
      | scr q => exact .inl ⟨_, _, rfl, M1.sub.seq q, hx S1 H1 ρ1 _ e1 M1 (itS_list q (rpAll_ints _))⟩
    · exact hx.elim
  · rcases q1 with ⟨q, xs, rfl, h1, h2⟩ | ⟨q, xs, rfl, h1, h2⟩
    · cases r1
      exact iter_list I1 h1 h2
    · cases r1
      exact iter_tup I1 h1 h2⟩
def rng1V (xs : List SV) : P (List D) := fun m => match xs with
  | [.dat (.int j)] => if -(2 ^ 62) ≤ j ∧ j < 2 ^ 62 then .ok (rngD 0 j.toNat) m else .stuck
  | _ => .stuck
def dAI (g : List SV → P (List D)) (fs : En → P (List SV)) : En → P (List D) := fun env => (fs env).bnd g
variable {fs : En → P (List SV)}
theorem ji_rng1 (hg : Gl X "range") (hm : X.mg "range" = none) (ja : JA X W [a] fs) (hs : starEach [a] X.env = [(false, eval a X.env)] := by rfl) : JI X W tg (.Call (.Name "range" p) [a] [] pos) (dAI rng1V fs) := ⟨fun {G S H ρ m env σ Rr} M E h => by
  refine wi_of (pi_range1 hg hm pa_wa hs) (ja.run M E (wpr_monoQ (wpr_bnd h) fun xs m1 hx => ?_))
  intro S1 H1 ρ1 xv e1 M1 rx
  unfold rng1V at hx
  split at hx
  · rename_i j
    obtain ⟨v, rfl, r⟩ := paired1 rx
    cases r
    split at hx
    · rename_i hb
      exact ⟨j, rfl, hb.1, hb.2, hx S1 H1 ρ1 _ e1 M1 (itS_rng 0 _)⟩
    · exact hx.elim
  · exact hx.elim⟩
variable {st : Stmt} {sts : List Stmt} {f g : DS} {t : En → P Bool} {e : Expr} {es : List Expr}
def dNx : DS := fun env => P.ret (.nx env)
def dSeq (f g : DS) : DS := fun env => (f env).bnd fun o => match o with
  | .nx env' => g env'
  | o => P.ret o
theorem jb_nil : JB X W [] dNx := ⟨fun {G S H ρ m env σ D} M E h => wss_of pss_nil (h S H ρ σ (Ext.refl _ _) M E)⟩
theorem jb_one (j : JS X W st f) : JB X W [st] f := ⟨fun {G S H ρ m env σ D} M E h => wss_of (pss_one ps_ws) (j.run M E h)⟩
theorem jb_cons (j1 : JS X W st f) (j2 : JB X W sts g) : JB X W (st :: sts) (dSeq f g) := ⟨fun {G S H ρ m env σ D} M E h => by
  refine wss_of (pss_cons ps_ws pss_wss) (j1.run M E (wpr_monoQ (wpr_bnd h) fun o m1 ho => ?_))
  cases o with
  | nx env' =>
    intro S1 H1 ρ1 σ1 e1 M1 E1
    exact j2.run M1 E1 (wpr_mono ho (fun _ _ z => qs_ext e1 z) fun _ _ z => qxs_ext e1 z)
  | rt v => exact ho
  | bk env' => exact ho
  | ct env' => exact ho⟩
def dNever : DS := fun _ => P.stk
theorem js_never : JS X W st dNever := ⟨fun {G S H ρ m env σ D} M E h => h.elim⟩
def dRet (fa : En → P SV) : DS := fun env => (fa env).bnd fun v => P.ret (.rt v)
theorem js_ret (ja : JE X W a fa) : JS X W (.Return (some a) pos) (dRet fa) := ⟨fun {G S H ρ m env σ D} M E h => by
  refine ws_of (ps_ret pe_we) (ja.run M E (wpr_mono (wpr_bnd h) (fun v m1 hv => ?_) fun _ _ z => qx_of z))
  intro S1 H1 ρ1 xv e1 M1 rx
  exact hv S1 H1 ρ1 xv e1 M1 rx⟩
def dIfS (t : En → P Bool) (f g : DS) : DS := fun env => (t env).bnd fun k => match k with
  | true => f env
  | false => g env
theorem js_if {c : Expr} {A B : List Stmt} (jc : JT X W c t) (ja : JB X W A f) (jb : JB X W B g) : JS X W (.If c A B pos) (dIfS t f g) := ⟨fun {G S H ρ m env σ D} M E h => by
  refine ws_of (ps_if pt_wt pss_wss pss_wss) (jc.run M E (wpr_mono (wpr_bnd h) (fun k m1 hk => ?_) fun _ _ z => qx_of z))
  intro S1 H1 ρ1 e1 M1
  cases k with
  | true =>
    rw [if_pos rfl]
    exact ja.run M1 (E.mono e1) (wpr_mono hk (fun _ _ z => qs_ext e1 z) fun _ _ z => qxs_ext e1 z)
  | false =>
    rw [if_neg Bool.false_ne_true]
    exact jb.run M1 (E.mono e1) (wpr_mono hk (fun _ _ z => qs_ext e1 z) fun _ _ z => qxs_ext e1 z)⟩
def dSet (i : Nat) (fa : En → P SV) : DS := fun env => (fa env).bnd fun v => P.ret (.nx (env.set i (some v)))
theorem js_set (i : Nat) {x : Str} {pos' : Pos} (hN : X.N.Nodup) (ja : JE X W a fa) (hi : X.N[i]? = some x := by rfl) (hx : Loc X.env.scope x := by first | exact Or.inl rfl | exact Or.inr rfl) (hs : swapsWith a (some (.Name x pos')) pos.line X.env = pure false := by rfl) (hf : X.fn x = true ∨ X.env.scope.names.lookup x = some .local := by first | exact .inl rfl | exact .inr rfl | assumption) :
    JS X W (.Assign [.Name x pos'] a pos) (dSet i fa) := ⟨fun {G S H ρ m env σ D} M E h => by
  refine ws_of (ps_set hN hi hx pe_we hs hf) (ja.run M E (wpr_mono (wpr_bnd h) (fun v m1 hv => ?_) fun _ _ z => qx_of z))
  intro S1 H1 ρ1 xv e1 M1 rx
  exact hv S1 H1 ρ1 _ e1 M1 ((E.mono e1).set i rx)⟩
def dAsg (fa : En → P SV) (g : D → En → Option En) : DS := fun env => (fa env).bnd fun v m => match v with
  | .dat d => (match g d env with | some env' => .ok (.nx env') m | none => .stuck)
  | .ref _ => .stuck
theorem js_asg {ts : List Nat} {gg : D → En → Option En} (ja : JE X W a fa) (jg : JG X tg ts gg) (hs : swapsWithSole [tg] a pos.line X.env = pure false := by rfl) (hw : swappedStores [tg] a X.env = pure none := by rfl)
    (h1 : (assignEach [tg] X.env).map (·.2) = [assign tg X.env] := by rfl) : JS X W (.Assign [tg] a pos) (dAsg fa gg) := ⟨fun {G S H ρ m env σ D} M E h => by
  refine ws_of (ps_asg pe_we pg_wg hs hw h1) (ja.run M E (wpr_mono (wpr_bnd h) (fun v m1 hv => ?_) fun _ _ z => qx_of z))
  intro S1 H1 ρ1 xv e1 M1 rx
  cases v with
  | ref n => exact hv.elim
  | dat d =>
    simp only at hv
    split at hv
    · rename_i env' he
      exact jg.run M1 (E.mono e1) rx he fun σ' E' _ => hv S1 H1 ρ1 σ' e1 M1 E'
    · exact hv.elim⟩
def dPar (i j : Nat) (fs : En → P (List SV)) : DS := fun env => (fs env).bnd fun vs m => match vs with
  | [v, w] => .ok (.nx ((env.set i (some v)).set j (some w))) m
  | _ => .stuck
theorem js_par (i j : Nat) {x y : Str} {px py pt : Pos} {kt k2 pt2} (hc : X.calm = true) (hN : X.N.Nodup) (ja : JA X W [a, b] fs)
    (hi : X.N[i]? = some x := by rfl) (hj : X.N[j]? = some y := by rfl) (hij : i ≠ j := by decide)
    (hx : X.env.scope.names.lookup x = some .local := by rfl) (hy : X.env.scope.names.lookup y = some .local := by rfl)
    (hw : swappedStores [.Tuple [.Name x px, .Name y py] kt pt] (.Tuple [a, b] k2 pt2) X.env = pure (some [x, y]) := by rfl)
    (hs : swapsWithSole [.Tuple [.Name x px, .Name y py] kt pt] (.Tuple [a, b] k2 pt2) pos.line X.env = pure false := by rfl) :
    JS X W (.Assign [.Tuple [.Name x px, .Name y py] kt pt] (.Tuple [a, b] k2 pt2) pos) (dPar i j fs) := ⟨fun {G S H ρ m env σ D} M E h => by
  refine ws_of (ps_par hc hN hi hj hij hx hy pa_wa hw hs) (ja.run M E (wpr_mono (wpr_bnd h) (fun vs m1 hv => ?_) fun _ _ z => qx_of z))
  intro S1 H1 ρ1 xv e1 M1 rx
  split at hv
  · rename_i v w'
    obtain ⟨v1, w1, rfl, r1, r2⟩ := paired2 rx
    exact ⟨v1, w1, rfl, hv S1 H1 ρ1 _ e1 M1 (((E.mono e1).set i r1).set j r2)⟩
  · exact hv.elim⟩
def dDrop (fa : En → P SV) : DS := fun env => (fa env).bnd fun _ => P.ret (.nx env)
theorem js_expr (ja : JE X W a fa) (hs : swapsWith a none pos.line X.env = pure false := by rfl) : JS X W (.Expr a pos) (dDrop fa) := ⟨fun {G S H ρ m env σ D} M E h => by
  refine ws_of (ps_expr pe_we hs) (ja.run M E (wpr_mono (wpr_bnd h) (fun v m1 hv => ?_) fun _ _ z => qx_of z))
  intro S1 H1 ρ1 xv e1 M1 rx
  exact hv S1 H1 ρ1 _ e1 M1 (E.mono e1)⟩
def dApp (fa fb : En → P SV) : DS := fun env => (fa env).bnd fun x m => match rdL x m with
  | some _ => ((fb env).bnd fun y m1 => match x, y with
    | .ref n, .dat d => (match m1[n]? with
      | some (.lst xs) => if xs.length < 16777216 then .ok (.nx env) (m1.set n (.lst (xs ++ [d]))) else .stuck
      | _ => .stuck)
    | _, _ => .stuck) m
  | none => .stuck
theorem js_append {apos cpos : Pos} (ja : JE X W a fa) (jb : JE X W b fb) (hbase : attributeBase a "append" X.env (eval a X.env) = eval a X.env := by rfl)
    (hfew : ((backTo cpos (starEach [b] X.env)).all (fun x => !x.1) && (backToKw cpos (keywordEach [] X.env)).all (fun x => x.1.isSome)
      && decide ([b].length + ([] : List Keyword).length + (if ([] : List Keyword).isEmpty then 0 else 1) < 30)) = true := by rfl)
    (hline : (apos.endLine == cpos.line) = true := by rfl) (hs1 : starEach [b] X.env = (false, eval b X.env) :: starEach [] X.env := by rfl) (hplain : (backTo cpos (starEach [] X.env)).any (·.1) = false := by rfl)
    (hs : swapsWith (.Call (.Attribute a "append" apos) [b] [] cpos) none pos.line X.env = pure false := by rfl) : JS X W (.Expr (.Call (.Attribute a "append" apos) [b] [] cpos) pos) (dApp fa fb) := ⟨fun {G S H ρ m env σ D} M E h => by
  refine ws_of (ps_expr (pe_bm PySem.F.plainAttrs_list PySem.F.slot_list_append PySem.F.type_list_append mt_append pe_we (pa_cons pe_we pa_nil hs1) hbase hfew hline hs1 hplain) hs) (ja.run M E (wpr_mono (wpr_bnd h) (fun x m1 hx => ?_) fun _ _ z => qx_of z))
  intro S1 H1 ρ1 xv e1 M1 rx
  split at hx
  · rename_i ys hys
    obtain ⟨p, vs, rfl, g1, _⟩ := rdL_ok M1 rx hys
    refine ⟨.inl ⟨rfl, vs, .inl (.inl g1)⟩, jb.run M1 (E.mono e1) (wpr_mono (wpr_bnd hx) (fun y m2 hy => ?_) fun _ _ z => qx_ext e1 (qx_of z))⟩
    intro S2 H2 ρ2 yv e2 M2 ry
    split at hy
    · rename_i n d
      split at hy
      · rename_i xs hxs
        split at hy
        · rename_i hl
          obtain ⟨q, ws, k1, k2, k3, k4, k5⟩ := M2.cell n xs hxs
          obtain ⟨p', z1, z2⟩ := rx
          cases z2
          have e3 := e2.r n _ z1
          rw [k1] at e3
          cases e3
          refine ⟨p, ws, yv, rfl, rfl, k2, by rw [k3.length, sizeLine_eq]; exact hl, ?_⟩
          exact hy S2 _ ρ2 σ (e1.trans e2) (M2.write hxs k1 (k3.append (.cons ry .nil))) ((E.mono e1).mono e2)
        · exact hy.elim
      · exact hy.elim
    · exact hy.elim
  · exact hx.elim⟩
def dSetIx (fo fi fv : En → P SV) : DS := fun env => (fv env).bnd fun v => (fo env).bnd fun o => (fi env).bnd fun i m => match o, i, v with
  | .ref n, .dat (.int k), .dat d => (match m[n]? with
    | some (.lst xs) => (match ixN xs.length k with
      | some j => .ok (.nx env) (m.set n (.lst (xs.set j d)))
      | none => .stuck)
    | _ => .stuck)
  | _, _, _ => .stuck
theorem js_setIx {o i : Expr} {fo fi fv : En → P SV} {pos' : Pos} (jo : JE X W o fo) (ji : JE X W i fi) (jv : JE X W e fv) (ha : ∀ v, assign (.Subscript o i pos') X.env v = (do
      let ov ← holding [v] (eval o X.env)
      let iv ← holding [v, ov] (eval i X.env)
      standAt pos'
      holding [v, ov, iv] (setItem ov iv v)
      release [v, ov, iv] []) := by intro _; rfl) (hs : swapsWithSole [.Subscript o i pos'] e pos.line X.env = pure false := by rfl) (hw : swappedStores [.Subscript o i pos'] e X.env = pure none := by rfl)
    (h1 : (assignEach [.Subscript o i pos'] X.env).map (·.2) = [assign (.Subscript o i pos') X.env] := by rfl) : JS X W (.Assign [.Subscript o i pos'] e pos) (dSetIx fo fi fv) := ⟨fun {G S H ρ m env σ D} M E h => by
  refine ws_of (ps_asg pe_we (pg_sub pe_we pe_we set_list ha) hs hw h1) (jv.run M E (wpr_mono (wpr_bnd h) (fun v m1 hv => ?_) fun _ _ z => qx_of z))
  intro S1 H1 ρ1 vv e1 M1 rv
  refine jo.run M1 (E.mono e1) (wpr_mono (wpr_bnd hv) (fun ov m2 ho => ?_) fun _ _ z => qx_ext e1 (qx_of z))
  intro S2 H2 ρ2 ovv e2 M2 ro
  refine ji.run M2 ((E.mono e1).mono e2) (wpr_mono (wpr_bnd ho) (fun iv m3 hi => ?_) fun _ _ z => qx_ext (e1.trans e2) (qx_of z))
  intro S3 H3 ρ3 ivv e3 M3 ri
  split at hi
  · rename_i n k d
    split at hi
    · rename_i xs hxs
      split at hi
      · rename_i j hj
        obtain ⟨q, ws, k1, k2, k3, k4, k5⟩ := M3.cell n xs hxs
        obtain ⟨p', z1, rfl⟩ := ro
        have e4 := e3.r n _ z1
        rw [k1] at e4
        cases e4
        cases ri
        refine ⟨q, ws, k, j, rfl, rfl, k2, by rw [k3.length]; exact hj, ?_⟩
        exact hi S3 _ ρ3 σ ((e1.trans e2).trans e3) (M3.write hxs k1 (RpAll.set (rv.mono (e2.trans e3)) j k3)) (((E.mono e1).mono e2).mono e3)
      · exact hi.elim
    · exact hi.elim
  · exact hi.elim⟩
def loopF (g : D → En → Option En) (body : DS) : List D → En → P Out
  | [], env => P.ret (.nx env)
  | d :: r, env => fun m => match g d env with
    | none => .stuck
    | some env1 => ((body env1).bnd fun o => match o with
      | .nx e => loopF g body r e
      | .ct e => loopF g body r e
      | .bk e => P.ret (.nx e)
      | .rt v => P.ret (.rt v)) m
def dFor (fi : En → P (List D)) (g : D → En → Option En) (body : DS) : DS := fun env => (fi env).bnd fun items => loopF g body items env
theorem js_for {iter : Expr} {body : List Stmt} {ts : List Nat} {gg : D → En → Option En} {fi : En → P (List D)} (hp : PassesOwn (model X.prog X.w) X.A X.env X.xe) (hc : X.calm = true) (ji : JI X W tg iter fi) (jg : JG X tg ts gg) (jb : JB X W body f)
    (hs : ∀ x, foldedSetIterable iter X.env x = pure x := by intro _; rfl) : JS X W (.For tg iter body [] pos) (dFor fi gg f) := ⟨fun {G S H ρ m env σ D} M E h => by
  refine ws_of (ps_for hp hc pi_wi pg_wg pss_wss hs) (ji.run M E (wpr_mono (wpr_bnd h) (fun items m1 hi => ?_) fun _ _ z => qx_of z))
  intro S1 H1 ρ1 J e1 M1 its
  refine ⟨fun i k σ' H' => ∃ S' ρ' m' env', Ext S1 ρ1 S' ρ' ∧ MR (gd X) G S' H' ρ' m' ∧ ER (gd X) S' ρ' env' σ' ∧ i + k = items.length ∧ wpr (loopF gg f (items.drop i) env' m') (QS X G S ρ D) (QXs X W G S ρ),
    ⟨items.length, S1, ρ1, m1, env, Ext.refl _ _, M1, E.mono e1, Nat.zero_add _, by rw [List.drop_zero]; exact hi⟩, ?_⟩
  rintro i k σ' H' ⟨S', ρ', m', env', x1, x2, x3, x4, x5⟩
  obtain ⟨t1, t2⟩ := its i x1.s x2
  cases hd : items[i]? with
  | none =>
    have hge : items.length ≤ i := List.getElem?_eq_none_iff.mp hd
    rw [List.drop_of_length_le hge] at x5
    exact .inl ⟨t1 (by omega), x5 S' H' ρ' σ' (e1.trans x1) x2 x3⟩
  | some d =>
    obtain ⟨go, yl⟩ := t2 d hd
    obtain ⟨hlt, hdd⟩ := List.getElem?_eq_some_iff.mp hd
    rw [List.drop_eq_getElem_cons hlt, hdd] at x5
    refine .inr ⟨go, fun σ2 H2 => ∃ S2 ρ2 m2 env2, Ext S1 ρ1 S2 ρ2 ∧ MR (gd X) G S2 H2 ρ2 m2 ∧ ER (gd X) S2 ρ2 env2 σ2 ∧ wpr (loopF gg f (items.drop (i + 1)) env2 m2) (QS X G S ρ D) (QXs X W G S ρ), fun σ2 H2 hN => ?_, fun x H2 hy => ?_⟩
    · obtain ⟨S2, ρ2, m2, env2, y1, y2, y3, y4⟩ := hN
      exact ⟨k - 1, by omega, S2, ρ2, m2, env2, y1, y2, y3, by omega, y4⟩
    · obtain ⟨S2, e2, M2, rx⟩ := yl x H2 hy
      unfold loopF at x5
      split at x5
      · exact x5.elim
      · rename_i env1 hg
        refine jg.run M2 (x3.mono e2) rx hg fun σ3 E3 _ => jb.run M2 E3 ?_
        have e02 : Ext S ρ S2 ρ' := (e1.trans x1).trans e2
        refine wpr_mono (wpr_bnd x5) (fun o m3 ho => ?_) fun _ _ z => qxs_ext e02 z
        cases o with
        | nx env4 => exact fun S4 H4 ρ4 σ4 e4 M4 E4 => ⟨S4, ρ4, m3, env4, (x1.trans e2).trans e4, M4, E4, ho⟩
        | ct env4 => exact fun S4 H4 ρ4 σ4 e4 M4 E4 => ⟨S4, ρ4, m3, env4, (x1.trans e2).trans e4, M4, E4, ho⟩
        | bk env4 => exact fun S4 H4 ρ4 σ4 e4 M4 E4 => ho S4 H4 ρ4 σ4 (e02.trans e4) M4 E4
        | rt v => exact fun S4 H4 ρ4 σ4 e4 M4 E4 => ho S4 H4 ρ4 σ4 (e02.trans e4) M4 E4⟩
def loopW (t : En → P Bool) (body : DS) : Nat → En → P Out
  | 0, _ => P.stk
  | n + 1, env => (t env).bnd fun k => match k with
    | true => (body env).bnd fun o => (match o with
      | .nx e => loopW t body n e
      | .ct e => loopW t body n e
      | .bk e => P.ret (.nx e)
      | .rt v => P.ret (.rt v))
    | false => P.ret (.nx env)
def dWhile (n : Nat) (t : En → P Bool) (body : DS) : DS := fun env => loopW t body n env
theorem js_while {c : Expr} {body : List Stmt} {n : Nat} (hp : PassesOwn (model X.prog X.w) X.A X.env X.xe) (jc : JT X W c t) (jb : JB X W body f) : JS X W (.While c body [] pos) (dWhile n t f) := ⟨fun {G S H ρ m env σ D} M E h => by
  refine ws_of (ps_while hp pt_wt pss_wss) ?_
  refine ⟨fun k σ' H' => ∃ S' ρ' m' env', Ext S ρ S' ρ' ∧ MR (gd X) G S' H' ρ' m' ∧ ER (gd X) S' ρ' env' σ' ∧ wpr (loopW t f k env' m') (QS X G S ρ D) (QXs X W G S ρ), ⟨n, S, ρ, m, env, Ext.refl _ _, M, E, h⟩, ?_⟩
  rintro k σ' H' ⟨S', ρ', m', env', x1, x2, x3, x5⟩
  cases k with
  | zero => exact x5.elim
  | succ k =>
    unfold loopW at x5
    refine jc.run x2 x3 (wpr_mono (wpr_bnd x5) (fun b m1 hb => ?_) fun _ _ z => qx_ext x1 (qx_of z))
    intro S1 H1 ρ1 e1 M1
    cases b with
    | false =>
      rw [if_neg Bool.false_ne_true]
      exact hb S1 H1 ρ1 σ' (x1.trans e1) M1 (x3.mono e1)
    | true =>
      rw [if_pos rfl]
      refine ⟨fun σ2 H2 => ∃ S2 ρ2 m2 env2, Ext S ρ S2 ρ2 ∧ MR (gd X) G S2 H2 ρ2 m2 ∧ ER (gd X) S2 ρ2 env2 σ2 ∧ wpr (loopW t f k env2 m2) (QS X G S ρ D) (QXs X W G S ρ), fun σ2 H2 hN => ⟨k, Nat.lt_succ_self k, hN⟩, ?_⟩
      refine jb.run M1 (x3.mono e1) (wpr_mono (wpr_bnd hb) (fun o m3 ho => ?_) fun _ _ z => qxs_ext (x1.trans e1) z)
      have e02 := x1.trans e1
      cases o with
      | nx env4 => exact fun S4 H4 ρ4 σ4 e4 M4 E4 => ⟨S4, ρ4, m3, env4, e02.trans e4, M4, E4, ho⟩
      | ct env4 => exact fun S4 H4 ρ4 σ4 e4 M4 E4 => ⟨S4, ρ4, m3, env4, e02.trans e4, M4, E4, ho⟩
      | bk env4 => exact fun S4 H4 ρ4 σ4 e4 M4 E4 => ho S4 H4 ρ4 σ4 (e02.trans e4) M4 E4
      | rt v => exact fun S4 H4 ρ4 σ4 e4 M4 E4 => ho S4 H4 ρ4 σ4 (e02.trans e4) M4 E4⟩
end
end PL
namespace PL
open PySem PySem.Spec PyProof.Rows L2
abbrev W0 : WX := fun _ _ _ _ => False
def dYes : En → P Bool := fun _ => P.ret true
def loopC (g : D → En → Option En) (t : En → P Bool) (f : En → P SV) (env : En) : List D → List D → P (List D)
  | [], acc => P.ret acc
  | d :: r, acc => fun m => match g d env with
    | none => .stuck
    | some env1 => ((t env1).bnd fun k => match k with
      | true => (f env1).bnd fun v m1 => (match v with
        | .dat y => if acc.length < 16777216 then loopC g t f env r (acc ++ [y]) m1 else .stuck
        | .ref _ => .stuck)
      | false => loopC g t f env r acc) m
def noX {α : Type} (x : P α) : P α := fun m => match x m with
  | .ok a m' => .ok a m'
  | _ => .stuck
theorem wpr_noX {α : Type} {x : P α} {m : Mem} {Q : α → Mem → Prop} {E E' : Exc → Mem → Prop} (h : wpr (noX x m) Q E) : wpr (x m) Q E' := by
  unfold noX at h
  cases e : x m with
  | ok a m' => rw [e] at h; exact h
  | exc y m' => rw [e] at h; exact h.elim
  | stuck => rw [e] at h; exact h
def dLc (vs : List Nat) (fi : En → P (List D)) (g : D → En → Option En) (t : En → P Bool) (f : En → P SV) : En → P SV :=
  fun env => (fi env).bnd fun items => (noX (loopC g t f (wipeE env vs) items [])).bnd fun acc => P.ret (.dat (.lst acc))
def dLcO (vs : List Nat) (fi : En → P (List D)) (g : D → En → Option En) (t : En → P Bool) (f : En → P SV) : En → P SV :=
  fun env => (fi env).bnd fun items => (noX (loopC g t f (wipeE env vs) items [])).bnd fun acc m => .ok (.ref m.length) (m ++ [.lst acc])
section
variable {X : Cx} {W : WX} {pos : Pos} {tg iter elt : Expr} {ifs : List Expr} {scope : Scope} {own : List (Str × Nat)}
abbrev Bk (X : Cx) (scope : Scope) (s : Shared) (H : Hp) (C : Addr) (cl : List (Str × Addr)) (fp : List Addr) : Cx := X.blk s H scope (compEnvC scope cl C X.env) fp
def gAll (X : Cx) (scope : Scope) (tg : Expr) : TG := fun v σ H Q => ∀ (s0 : Shared) (H0 : Hp) (C : Addr) (cl : List (Str × Addr)) (fp : List Addr), WG (Bk X scope s0 H0 C cl fp) tg v σ H Q
def eAll (X : Cx) (scope : Scope) (e : Expr) : TE := fun σ H Q => ∀ (s0 : Shared) (H0 : Hp) (C : Addr) (cl : List (Str × Addr)) (fp : List Addr), WE (Bk X scope s0 H0 C cl fp) e σ H Q
def tAll (X : Cx) (scope : Scope) (e : Expr) : TT := fun σ H Q => ∀ (s0 : Shared) (H0 : Hp) (C : Addr) (cl : List (Str × Addr)) (fp : List Addr), WT (Bk X scope s0 H0 C cl fp) e σ H Q
structure TestOk (X : Cx) (scope : Scope) (ifs : List Expr) (tt : TT) (t : En → P Bool) : Prop where
  pts : ∀ (s : Shared) (H : Hp) (C : Addr) (cl : List (Str × Addr)) (fp : List Addr), PTs (Bk X scope s H C cl fp) ifs tt
  run : ∀ {G S H : Hp} {ρ : List Addr} {m : Mem} {env : En} {σ : St} {Q : Bool → Hp → Prop}, MR (gd X) G S H ρ m → ER (gd X) S ρ env σ → wpr (t env m) (QB X G S ρ Q) (fun _ _ => False) → tt σ H Q
theorem test_no : TestOk X scope [] tYes dYes := ⟨fun _ _ _ _ _ => pts_nil, fun M E h => h _ _ _ (Ext.refl _ _) M⟩
theorem test_one {c : Expr} {t : En → P Bool} (j : ∀ (s : Shared) (H : Hp) (C : Addr) (cl : List (Str × Addr)) (fp : List Addr), JT (Bk X scope s H C cl fp) W0 c t) : TestOk X scope [c] (tAll X scope c) t :=
  ⟨fun s H C cl fp => pts_one ⟨fun pins s σ H Q I h => h _ _ _ _ _ pins s I⟩, fun M E h s H C cl fp => (j s H C cl fp).run M E (wpr_mono h (fun _ _ z => z) fun _ _ z => z.elim)⟩
theorem lc_ok {fi : En → P (List D)} {ts : List Nat} {g : D → En → Option En} {tt : TT} {t : En → P Bool} {f : En → P SV} (ji : JI X W tg iter fi)
    (jg : ∀ (s : Shared) (H : Hp) (C : Addr) (cl : List (Str × Addr)) (fp : List Addr), JG (Bk X scope s H C cl fp) tg ts g) (hts : ∀ t ∈ ts, t ∈ own.map (·.2)) (jt : TestOk X scope ifs tt t)
    (je : ∀ (s : Shared) (H : Hp) (C : Addr) (cl : List (Str × Addr)) (fp : List Addr), JE (Bk X scope s H C cl fp) W0 elt f)
    {G S H : Hp} {ρ : List Addr} {m : Mem} {env : En} {σ : St} {Q : VK} (M : MR (gd X) G S H ρ m) (E : ER (gd X) S ρ env σ)
    (h : wpr (((fi env).bnd fun items => noX (loopC g t f (wipeE env (own.map (·.2))) items [])) m) (fun acc m' => ∀ S' H' ρ' D ws, Ext S ρ S' ρ' → MR (gd X) G S' H' ρ' m' → H' D = some (.lst ws) → RpAll (gd X) S' ws acc → S' D = none → G D = none → NoCell S' ρ' m' D → Q (.ref D) H') (QX X W G S ρ σ)) :
    tLc (WI X tg iter) (gAll X scope tg) tt (eAll X scope elt) (own.map (·.2)) σ H Q := by
  refine ji.run M E (wpr_mono (wpr_bnd h) (fun items m1 hi => ?_) fun _ _ z => z)
  intro S1 H1 ρ1 J e1 M1 its D hD
  have hi := wpr_noX (E' := fun _ _ => False) hi
  have sD : S1 D = none := M1.sub.free hD
  have gD : G D = none := M1.gsub.free hD
  generalize hvs : own.map (·.2) = vs at *
  have E1 := (E.mono e1).wipe vs
  -- the state between two turns
  refine ⟨fun i k H' => ∃ S' ρ' m' acc ws, Ext S1 ρ1 S' ρ' ∧ MR (gd X) (upd G D (.lst ws)) S' H' ρ' m' ∧ RpAll (gd X) S' ws acc ∧ i + k = items.length ∧
      wpr (loopC g t f (wipeE env vs) (items.drop i) acc m') (fun acc m' => ∀ S' H' ρ' D ws, Ext S ρ S' ρ' → MR (gd X) G S' H' ρ' m' → H' D = some (.lst ws) → RpAll (gd X) S' ws acc → S' D = none → G D = none → NoCell S' ρ' m' D → Q (.ref D) H') (fun _ _ => False), ⟨items.length, ?_⟩, ?_⟩
  · have M2 : MR (gd X) (upd G D (.lst [])) S1 (upd H1 D (.lst [])) ρ1 m1 := by
      have Mw : MR (gd X) G S1 (upd H1 D (.lst [])) ρ1 m1 := by
        refine ⟨fun b x q => ?_, fun b x q => ?_, M1.dis, M1.len, fun i xs q => ?_, M1.inj, M1.tab.h (.inl hD) _, M1.dic.h (.inl hD) _, M1.mix.same (Same.refl _) fun i b q => ⟨(M1.mix.own q).1, (M1.mix.own q).2.1, upd_ne (M1.mix.ne q hD)⟩⟩
        · rw [upd_ne (ne_of_none q sD)]; exact M1.sub b x q
        · rw [upd_ne (ne_of_none q gD)]; exact M1.gsub b x q
        · obtain ⟨a, us, h1, h2, h3, h4, h5⟩ := M1.cell i xs q
          exact ⟨a, us, h1, by rw [upd_ne (ne_of_none h2 hD)]; exact h2, h3, h4, h5⟩
      refine Mw.guard upd_same sD ⟨fun i xs q z => ?_, fun i q => M1.mix.ne q hD rfl⟩
      obtain ⟨a, us, h1, h2, _⟩ := M1.cell i xs q
      rw [z] at h1
      cases h1
      rw [hD] at h2
      cases h2
    exact ⟨S1, ρ1, m1, [], [], Ext.refl _ _, M2, .nil, Nat.zero_add _, by rw [List.drop_zero]; exact hi⟩
  · rintro i k H' ⟨S', ρ', m', acc, ws, x1, x2, x3, x4, x5⟩
    obtain ⟨t1, t2⟩ := its i x1.s x2
    have hDD : H' D = some (.lst ws) := x2.gsub D _ upd_same
    cases hd : items[i]? with
    | none =>
      have hge : items.length ≤ i := List.getElem?_eq_none_iff.mp hd
      rw [List.drop_of_length_le hge] at x5
      obtain ⟨u1, u2, u3⟩ := x2.unguard (G' := G) gD (.lst ws)
      have eH : upd H' D (.lst ws) = H' := by
        funext b
        by_cases e : b = D
        · subst e; rw [upd_same, hDD]
        · rw [upd_ne e]
      rw [eH] at u1
      exact .inl ⟨t1 (by omega), x5 S' H' ρ' D ws (e1.trans x1) u1 hDD x3 u2 gD u3⟩
    | some d =>
      obtain ⟨go, yl⟩ := t2 d hd
      obtain ⟨hlt, hdd⟩ := List.getElem?_eq_some_iff.mp hd
      rw [List.drop_eq_getElem_cons hlt, hdd] at x5
      refine .inr ⟨go, fun H2 => ∃ S2 ρ2 m2 acc2 ws2, Ext S1 ρ1 S2 ρ2 ∧ MR (gd X) (upd G D (.lst ws2)) S2 H2 ρ2 m2 ∧ RpAll (gd X) S2 ws2 acc2 ∧
        wpr (loopC g t f (wipeE env vs) (items.drop (i + 1)) acc2 m2) (fun acc m' => ∀ S' H' ρ' D ws, Ext S ρ S' ρ' → MR (gd X) G S' H' ρ' m' → H' D = some (.lst ws) → RpAll (gd X) S' ws acc → S' D = none → G D = none → NoCell S' ρ' m' D → Q (.ref D) H') (fun _ _ => False), fun H2 hN => ?_, fun x H2 hy => ?_⟩
      · obtain ⟨S2, ρ2, m2, acc2, ws2, y1, y2, y3, y4⟩ := hN
        exact ⟨k - 1, by omega, S2, ρ2, m2, acc2, ws2, y1, y2, y3, by omega, y4⟩
      · obtain ⟨S2, e2, M2, rx⟩ := yl x H2 hy
        unfold loopC at x5
        split at x5
        · exact x5.elim
        · rename_i env1 hg
          have E2 : ER (gd X) S2 ρ' (wipeE env vs) (wipe σ vs) := (E1.mono x1).mono e2
          intro s0 H0 C cl fp
          refine (jg s0 H0 C cl fp).run M2 E2 rx hg fun σ3 E3 sm => ⟨?_, ?_⟩
          · have z := sm.wipe (vs := vs) hts
            rw [z]
            -- wiping twice is wiping once
            apply List.ext_getElem?
            intro j
            by_cases hj : j ∈ vs
            · by_cases hl : j < σ.length
              · rw [wipe_in hj (by rw [wipe_length]; exact hl), wipe_in hj hl]
              · rw [List.getElem?_eq_none (by rw [wipe_length, wipe_length]; omega), List.getElem?_eq_none (by rw [wipe_length]; omega)]
            · rw [wipe_out hj]
          · refine jt.run M2 E3 (wpr_mono (wpr_bnd x5) (fun b m3 hb => ?_) fun _ _ z => z)
            intro S3 H3 ρ3 e3 M3
            cases b with
            | false =>
              rw [if_neg Bool.false_ne_true]
              exact ⟨S3, ρ3, m3, acc, ws, (x1.trans e2).trans e3, M3, x3.mono (e2.trans e3).s, hb⟩
            | true =>
              rw [if_pos rfl]
              intro s1 H01 C1 cl1 fp1
              refine (je s1 H01 C1 cl1 fp1).run M3 (E3.mono e3) (wpr_mono (wpr_bnd hb) (fun v m4 hv => ?_) fun _ _ z => z.elim)
              intro S4 H4 ρ4 vv e4 M4 rv
              cases v with
              | ref n => exact hv.elim
              | dat y =>
                simp only at hv
                split at hv
                · rename_i hl
                  have e24 := (e2.trans e3).trans e4
                  have h4 : H4 D = some (.lst ws) := M4.gsub D _ upd_same
                  refine ⟨ws, h4, by rw [x3.length, sizeLine_eq]; exact hl, S4, ρ4, m4, acc ++ [y], ws ++ [vv], x1.trans e24, ?_, (x3.mono e24.s).append (.cons rv .nil), hv⟩
                  obtain ⟨u1, u2, u3⟩ := M4.unguard (G' := G) gD (.lst (ws ++ [vv]))
                  exact u1.guard upd_same u2 u3
                · exact hv.elim
theorem MR.adopt {Γ : Gd} {G S H : Hp} {ρ : List Addr} {m : Mem} {p : Addr} {o : HO} (M : MR Γ G S H ρ m) (hp : H p = some o) (hs : S p = none) (hg : G p = none) (hc : NoCell S ρ m p) (ho : ∀ ps, o ≠ .tbl ps := by intro _ z; cases z) (hk : ∀ vs, o ≠ .dK vs := by intro _ z; cases z) :
    Same S (upd S p o) ∧ MR Γ G (upd S p o) H ρ m := by
  have s1 : Same S (upd S p o) := fun b x q => by rw [upd_ne (ne_of_none q hs)]; exact q
  refine ⟨s1, ⟨fun b x q => ?_, M.gsub, fun b x q => ?_, M.len, fun i xs q => ?_, M.inj, M.tab.s ho, M.dic.s s1 fun a vs q z => upd_free z fun e => by rw [e, hp] at q; exact hk vs (Option.some.inj q), M.mix.same s1 fun i b q => ⟨upd_free (M.mix.own q).1 fun z => hc.2 i (by rw [← z]; exact q), (M.mix.own q).2.1, rfl⟩⟩⟩
  · by_cases e : b = p
    · subst e; rw [upd_same] at q; cases q; exact hp
    · rw [upd_ne e] at q; exact M.sub b x q
  · rw [upd_ne (ne_of_none q hg)]; exact M.dis b x q
  · obtain ⟨a, vs, h1, h2, h3, h4, h5⟩ := M.cell i xs q
    exact ⟨a, vs, h1, h2, h3.mono s1, by rw [upd_ne (fun z => hc.1 i xs q (by rw [← z]; exact h1))]; exact h4, h5⟩
theorem MR.take_own {Γ : Gd} {G S H : Hp} {ρ : List Addr} {m : Mem} {p : Addr} {vs : List V} {xs : List PL.D} (M : MR Γ G S H ρ m) (hp : H p = some (.lst vs)) (hs : S p = none) (hg : G p = none) (hc : NoCell S ρ m p) (r : RpAll Γ S vs xs) :
    Ext S ρ S (ρ ++ [p]) ∧ MR Γ G S H (ρ ++ [p]) (m ++ [.lst xs]) := by
  have pre : ∀ (i : Nat) (a : Addr), ρ[i]? = some a → (ρ ++ [p])[i]? = some a := fun i a q => by
    rw [List.getElem?_append_left (List.getElem?_eq_some_iff.mp q).1]; exact q
  have at_ : ∀ (i : Nat) (xs' : List PL.D), (m ++ [Cell.lst xs])[i]? = some (.lst xs') → (m[i]? = some (.lst xs') ∧ i < m.length) ∨ (i = m.length ∧ xs' = xs) := fun i xs' q => by
    by_cases hi : i < m.length
    · rw [List.getElem?_append_left hi] at q; exact .inl ⟨q, hi⟩
    · rw [List.getElem?_append_right (by omega)] at q
      have h0 : i - m.length = 0 := by
        have := (List.getElem?_eq_some_iff.mp q).1
        simp at this
        omega
      rw [h0] at q
      simp at q
      exact .inr ⟨by omega, q.symm⟩
  refine ⟨⟨Same.refl S, pre⟩, ⟨M.sub, M.gsub, M.dis, by rw [List.length_append, List.length_append, M.len]; rfl, fun i xs' q => ?_, fun i j xs' ys' a q1 q2 q3 q4 => ?_, M.tab, M.dic.cells (fun i kvs q => dct_app (fun _ z => by cases z) q) fun i a kvs _ q => r_app q, M.mix.push M.len (fun i b q => rfl) rfl fun _ i b q z => hc.2 i (by rw [← z]; exact q)⟩⟩
  · rcases at_ i xs' q with ⟨q1, _⟩ | ⟨q1, q2⟩
    · obtain ⟨a, vs', h1, h2⟩ := M.cell i xs' q1
      exact ⟨a, vs', pre i a h1, h2⟩
    · subst q1 q2
      exact ⟨p, vs, by rw [← M.len]; simp, hp, r, hs, hg⟩
  · have key : ∀ (i : Nat) (xs' : List PL.D) (a : Addr), (m ++ [Cell.lst xs])[i]? = some (.lst xs') → (ρ ++ [p])[i]? = some a → (m[i]? = some (.lst xs') ∧ ρ[i]? = some a ∧ a ≠ p) ∨ (i = m.length ∧ a = p) := fun i xs' a q r => by
      rcases at_ i xs' q with ⟨q1, q2⟩ | ⟨q1, q2⟩
      · obtain ⟨a', vs', h1, h2, _⟩ := M.cell i xs' q1
        have e := pre i a' h1
        rw [r] at e
        cases e
        exact .inl ⟨q1, h1, fun z => hc.1 i xs' q1 (by rw [← z]; exact h1)⟩
      · subst q1
        rw [← M.len] at r
        simp at r
        exact .inr ⟨rfl, r.symm⟩
    rcases key i xs' a q1 q3 with ⟨b1, b2, b3⟩ | ⟨b1, b2⟩
    · rcases key j ys' a q2 q4 with ⟨c1, c2, c3⟩ | ⟨c1, c2⟩
      · exact M.inj i j xs' ys' a b1 c1 b2 c2
      · exact absurd c2 b3
    · rcases key j ys' a q2 q4 with ⟨c1, c2, c3⟩ | ⟨c1, c2⟩
      · exact absurd b2 c3
      · rw [b1, c1]
theorem bnd_assoc {α β γ : Type} (x : P α) (f : α → P β) (g : β → P γ) : (x.bnd f).bnd g = x.bnd fun a => (f a).bnd g := by
  funext m
  unfold P.bnd R.bnd
  cases x m <;> rfl
section
variable {fi : En → P (List PL.D)} {ts : List Nat} {g : PL.D → En → Option En} {tt : TT} {t : En → P Bool} {f : En → P SV}
theorem lc_frozen {G S : Hp} {ρ : List Addr} {Q : VK} {vs : List Nat} {env : En} {m : Mem} {E : Exc → Mem → Prop} (h : wpr (dLc vs fi g t f env m) (QV X G S ρ Q) E) :
    wpr (((fi env).bnd fun items => noX (loopC g t f (wipeE env vs) items [])) m) (fun acc m' => ∀ S' H' ρ' D ws, Ext S ρ S' ρ' → MR (gd X) G S' H' ρ' m' → H' D = some (.lst ws) → RpAll (gd X) S' ws acc → S' D = none → G D = none → NoCell S' ρ' m' D → Q (.ref D) H') E := by
  unfold dLc at h
  rw [← bnd_assoc] at h
  refine wpr_monoQ (wpr_bnd h) fun acc m1 ha S' H' ρ' D ws e M hD r sD gD nD => ?_
  obtain ⟨s1, M1⟩ := M.adopt hD sD gD nD
  exact ha _ H' ρ' _ (e.trans ⟨s1, fun _ _ z => z⟩) M1 (.lst upd_same (r.mono s1))
theorem lc_owned {G S : Hp} {ρ : List Addr} {Q : VK} {vs : List Nat} {env : En} {m : Mem} {E : Exc → Mem → Prop} (h : wpr (dLcO vs fi g t f env m) (QV X G S ρ Q) E) :
    wpr (((fi env).bnd fun items => noX (loopC g t f (wipeE env vs) items [])) m) (fun acc m' => ∀ S' H' ρ' D ws, Ext S ρ S' ρ' → MR (gd X) G S' H' ρ' m' → H' D = some (.lst ws) → RpAll (gd X) S' ws acc → S' D = none → G D = none → NoCell S' ρ' m' D → Q (.ref D) H') E := by
  unfold dLcO at h
  rw [← bnd_assoc] at h
  refine wpr_monoQ (wpr_bnd h) fun acc m1 ha S' H' ρ' D ws e M hD r sD gD nD => ?_
  obtain ⟨e1, M1⟩ := M.take_own hD sD gD nD r
  refine ha _ H' _ _ (e.trans e1) M1 ⟨D, ?_, rfl⟩
  rw [← M.len]
  simp
theorem pg_gAll (s : Shared) (H : Hp) (C : Addr) (cl : List (Str × Addr)) (fp : List Addr) : PG (Bk X scope s H C cl fp) tg (gAll X scope tg) := ⟨fun pins s σ H v u Q I r h => h _ _ _ _ _ pins s u I r⟩
theorem pe_eAll (s : Shared) (H : Hp) (C : Addr) (cl : List (Str × Addr)) (fp : List Addr) : PE (Bk X scope s H C cl fp) elt (eAll X scope elt) := ⟨fun pins s σ H Q I h => h _ _ _ _ _ pins s I⟩
theorem je_lc {vs : List Nat} (own : List (Str × Nat)) (hc : X.calm = true) (hN : X.N.Nodup) (ji : JI X W tg iter fi) (ok : BlkOk X.N X.env.scope scope own)
    (jg : ∀ (s : Shared) (H : Hp) (C : Addr) (cl : List (Str × Addr)) (fp : List Addr), JG (Bk X scope s H C cl fp) tg ts g) (hts : ∀ t ∈ ts, t ∈ vs) (jt : TestOk X scope ifs tt t)
    (je : ∀ (s : Shared) (H : Hp) (C : Addr) (cl : List (Str × Addr)) (fp : List Addr), JE (Bk X scope s H C cl fp) W0 elt f) (hs : ∀ x, foldedSetIterable iter X.env x = pure x := by intro _; rfl) (hvs : own.map (·.2) = vs := by rfl) :
    JE X W (.ListComp elt [⟨tg, iter, ifs, 0⟩] scope pos) (dLc vs fi g t f) := by
  subst hvs
  exact ⟨fun {G S H ρ m env σ Q} M E h =>
  we_of (pe_lc hc hN pi_wi ok pg_gAll jt.pts pe_eAll hs) (lc_ok ji jg hts jt je M E (lc_frozen h))⟩
theorem je_lcO {vs : List Nat} (own : List (Str × Nat)) (hc : X.calm = true) (hN : X.N.Nodup) (ji : JI X W tg iter fi) (ok : BlkOk X.N X.env.scope scope own)
    (jg : ∀ (s : Shared) (H : Hp) (C : Addr) (cl : List (Str × Addr)) (fp : List Addr), JG (Bk X scope s H C cl fp) tg ts g) (hts : ∀ t ∈ ts, t ∈ vs) (jt : TestOk X scope ifs tt t)
    (je : ∀ (s : Shared) (H : Hp) (C : Addr) (cl : List (Str × Addr)) (fp : List Addr), JE (Bk X scope s H C cl fp) W0 elt f) (hs : ∀ x, foldedSetIterable iter X.env x = pure x := by intro _; rfl) (hvs : own.map (·.2) = vs := by rfl) :
    JE X W (.ListComp elt [⟨tg, iter, ifs, 0⟩] scope pos) (dLcO vs fi g t f) := by
  subst hvs
  exact ⟨fun {G S H ρ m env σ Q} M E h =>
  we_of (pe_lc hc hN pi_wi ok pg_gAll jt.pts pe_eAll hs) (lc_ok ji jg hts jt je M E (lc_owned h))⟩
theorem js_setLc {vs : List Nat} (i : Nat) {y : Str} {py spos : Pos} (own : List (Str × Nat)) (hc : X.calm = true) (hN : X.N.Nodup) (ji : JI X W tg iter fi) (ok : BlkOk X.N X.env.scope scope own)
    (jg : ∀ (s : Shared) (H : Hp) (C : Addr) (cl : List (Str × Addr)) (fp : List Addr), JG (Bk X scope s H C cl fp) tg ts g) (hts : ∀ t ∈ ts, t ∈ vs) (jt : TestOk X scope ifs tt t)
    (je : ∀ (s : Shared) (H : Hp) (C : Addr) (cl : List (Str × Addr)) (fp : List Addr), JE (Bk X scope s H C cl fp) W0 elt f) 
    (hsw : swapsWith (.ListComp elt [⟨tg, iter, ifs, 0⟩] scope pos) (some (.Name y py)) spos.line X.env = pure true) (hy : X.N[i]? = some y := by rfl) (hyl : X.env.scope.names.lookup y = some .local := by rfl) (hs : ∀ x, foldedSetIterable iter X.env x = pure x := by intro _; rfl) (hvs : own.map (·.2) = vs := by rfl) :
    JS X W (.Assign [.Name y py] (.ListComp elt [⟨tg, iter, ifs, 0⟩] scope pos) spos) (dSet i (dLc vs fi g t f)) := by
  subst hvs
  refine ⟨fun {G S H ρ m env σ D} M E h => ?_⟩
  have h2 : wpr (dLc (own.map (·.2)) fi g t f env m) (QV X G S ρ fun v H1 => gName i v σ H1 D.nx) (QX X W G S ρ σ) := by
    refine wpr_mono (wpr_bnd h) (fun v m1 hv => ?_) fun _ _ z => qx_of z
    intro S1 H1 ρ1 xv e1 M1 rx
    exact hv S1 H1 ρ1 _ e1 M1 ((E.mono e1).set i rx)
  exact ws_of (ps_setLc hc hN hy hyl hsw pi_wi ok pg_gAll jt.pts pe_eAll hs) (lc_ok ji jg hts jt je M E (lc_frozen h2))
end
def idxOf (d : PL.D) : List PL.D → Option Nat
  | [] => none
  | e :: r => if eqF e d = true then some 0 else (match idxOf d r with | some k => some (k + 1) | none => none)
theorem idxOf_ok {d : PL.D} : ∀ {xs : List PL.D} {j : Nat}, idxOf d xs = some j → (∃ z, xs[j]? = some z ∧ eqF z d = true) ∧ ∀ (m : Nat) (z : PL.D), m < j → xs[m]? = some z → eqF z d = false
  | [], _, h => by cases h
  | e :: r, j, h => by
    unfold idxOf at h
    split at h
    · rename_i he
      cases h
      exact ⟨⟨e, rfl, he⟩, fun m z hm => by omega⟩
    · rename_i he
      split at h
      · rename_i k hk
        cases h
        obtain ⟨⟨z, h1, h2⟩, h3⟩ := idxOf_ok hk
        refine ⟨⟨z, by simpa using h1, h2⟩, fun m z' hm hz => ?_⟩
        cases m with
        | zero =>
          simp at hz
          subst hz
          exact Bool.not_eq_true _ ▸ he
        | succ m => exact h3 m z' (by omega) (by simpa using hz)
      · cases h
def indexV (x y : SV) : P SV := fun m => match rdL x m, y with
  | some xs, .dat d => if flatD d && flats xs then (match idxOf d xs with | some j => .ok (.dat (.int (j : Nat))) m | none => .stuck) else .stuck
  | _, _ => .stuck
def dIndex (fa fb : En → P SV) : En → P SV := fun env => (fa env).bnd fun x m => match rdL x m with
  | some _ => ((fb env).bnd fun y => indexV x y) m
  | none => .stuck
theorem je_index {a b : Expr} {fa fb : En → P SV} {apos cpos : Pos} (ja : JE X W a fa) (jb : JE X W b fb) (hbase : attributeBase a "index" X.env (eval a X.env) = eval a X.env := by rfl)
    (hfew : ((backTo cpos (starEach [b] X.env)).all (fun x => !x.1) && (backToKw cpos (keywordEach [] X.env)).all (fun x => x.1.isSome)
      && decide ([b].length + ([] : List Keyword).length + (if ([] : List Keyword).isEmpty then 0 else 1) < 30)) = true := by rfl)
    (hline : (apos.endLine == cpos.line) = true := by rfl) (hs1 : starEach [b] X.env = (false, eval b X.env) :: starEach [] X.env := by rfl) (hplain : (backTo cpos (starEach [] X.env)).any (·.1) = false := by rfl) :
    JE X W (.Call (.Attribute a "index" apos) [b] [] cpos) (dIndex fa fb) := ⟨fun {G S H ρ m env σ Q} M E h => by
  refine we_of (pe_bm PySem.F.plainAttrs_list PySem.F.slot_list_index PySem.F.type_list_index mt_index pe_we (pa_cons pe_we pa_nil hs1) hbase hfew hline hs1 hplain) (ja.run M E (wpr_monoQ (wpr_bnd h) fun x m1 hx => ?_))
  intro S1 H1 ρ1 xv e1 M1 rx
  split at hx
  · rename_i ys hys
    obtain ⟨p, vs, rfl, g1, _⟩ := rdL_ok M1 rx hys
    refine ⟨.inl ⟨rfl, vs, .inl (.inl g1)⟩, jb.run M1 (E.mono e1) (wpr_mono (wpr_bnd hx) (fun y m2 hy => ?_) fun _ _ z => qx_ext e1 z)⟩
    intro S2 H2 ρ2 yv e2 M2 ry
    unfold indexV at hy
    split at hy
    · rename_i xs d hxs
      split at hy
      · rename_i ok
        rw [Bool.and_eq_true] at ok
        split at hy
        · rename_i j hj
          obtain ⟨p', ws, z1, z2, z3⟩ := rdL_ok M2 (rx.mono e2) hxs
          cases z1
          obtain ⟨⟨z, i1, i2⟩, i3⟩ := idxOf_ok hj
          obtain ⟨zv, j1, j2⟩ := z3.get i1
          have fz : flatD z = true := List.all_eq_true.mp ok.2 z (List.mem_of_getElem? i1)
          refine ⟨p, ws, yv, j, zv, rfl, rfl, .inl (.inl z2), rp_flat ry ok.1, rpAll_flat z3 ok.2, j1, by rw [rp_eqF j2 ry fz ok.1]; exact i2, fun k zv' hk hz => ?_, hy S2 H2 ρ2 _ (e1.trans e2) M2 (.int _)⟩
          obtain ⟨z', k1, k2⟩ := z3.get' hz
          have fz' : flatD z' = true := List.all_eq_true.mp ok.2 z' (List.mem_of_getElem? k1)
          rw [rp_eqF k2 ry fz' ok.1]
          exact i3 k z' hk k1
        · exact hy.elim
      · exact hy.elim
    · exact hy.elim
  · exact hx.elim⟩
end
def exitV (k : Nat) (v : SV) (m : Mem) : R SV := match v with
  | .dat d => .ok (.dat d) (m.take k)
  | .ref i => if i < k then .ok (.ref i) (m.take k) else (match m[i]? with | some (.lst xs) => .ok (.dat (.lst xs)) (m.take k) | _ => .stuck)
def exitO (k : Nat) (v : SV) (m : Mem) : R SV := match v with
  | .dat _ => .stuck
  | .ref i => if i < k then .stuck else (match m[i]? with | some (.lst xs) => .ok (.ref k) (m.take k ++ [.lst xs]) | _ => .stuck)
def enter (n : Nat) (xs : List SV) : En := xs.map some ++ List.replicate (n - xs.length) none
def fnRun (n : Nat) (ex : Nat → SV → Mem → R SV) (fb : DS) : List SV → P SV := fun xs m => match fb (enter n xs) m with
  | .ok (.nx _) m' => .ok (.dat .non) (m'.take m.length)
  | .ok (.rt v) m' => ex m.length v m'
  | .ok _ _ => .stuck
  | .exc x m' => .exc x (m'.take m.length)
  | .stuck => .stuck
def spF (Γ : Gd) (n : Nat) (F : List SV → P SV) : Sp := fun vs H Q E => vs.length = n ∧ ∃ G S ρ m xs, MR Γ G S H ρ m ∧ Paired (RSV Γ S ρ) vs xs ∧
  wpr (F xs m) (fun v m' => ∀ S' H' ρ' vv, Ext S ρ S' ρ' → MR Γ G S' H' ρ' m' → RSV Γ S' ρ' vv v → Q vv H') (fun x m' => ∀ S' H' ρ' cls d, Ext S ρ S' ρ' → MR Γ G S' H' ρ' m' → XR Γ S' H' cls d x → E cls d H')
def ExitOk (ex : Nat → SV → Mem → R SV) : Prop := ∀ {Γ : Gd} {G S H : Hp} {ρ : List Addr} {m : Mem} {k : Nat} {v : SV} {vv : V} {Q : SV → Mem → Prop} {E : Exc → Mem → Prop}, MR Γ G S H ρ m → RSV Γ S ρ vv v → k ≤ m.length → wpr (ex k v m) Q E →
  ∃ S' ρ' w m', Q w m' ∧ Same S S' ∧ (∀ (i : Nat) (a : Addr), i < k → ρ[i]? = some a → ρ'[i]? = some a) ∧ MR Γ G S' H ρ' m' ∧ RSV Γ S' ρ' vv w
theorem take_get {ρ : List Addr} {k i : Nat} {a : Addr} (h : i < k) (q : ρ[i]? = some a) : (ρ.take k)[i]? = some a := by rw [List.getElem?_take_of_lt h]; exact q
theorem exitV_ok : ExitOk exitV := by
  intro Γ G S H ρ m k v vv Q E M r hk h
  unfold exitV at h
  split at h
  · exact ⟨S, ρ.take k, _, _, h, Same.refl _, fun i a hi q => take_get hi q, M.take k, r⟩
  · rename_i i
    split at h
    · rename_i hi
      obtain ⟨a, h1, h2⟩ := r
      exact ⟨S, ρ.take k, _, _, h, Same.refl _, fun i a hi q => take_get hi q, M.take k, a, take_get hi h1, h2⟩
    · rename_i hi
      split at h
      · rename_i xs hx
        obtain ⟨a, vs, h1, h2, h3, h4⟩ := M.freeze hx
        obtain ⟨a', z1, z2⟩ := r
        rw [h1] at z1
        cases z1
        have e : (m.set i Cell.dead).take k = m.take k := by
          rw [List.take_set_of_le (by omega)]
        have M2 := h3.take k
        rw [e] at M2
        exact ⟨_, ρ.take k, _, _, h, h2.s, fun i a hi q => take_get hi q, M2, by subst z2; exact h4⟩
      · exact h.elim
theorem exitO_ok : ExitOk exitO := by
  intro Γ G S H ρ m k v vv Q E M r hk h
  unfold exitO at h
  split at h
  · exact h.elim
  · rename_i i
    split at h
    · exact h.elim
    · rename_i hi
      split at h
      · rename_i xs hx
        obtain ⟨a, z1, rfl⟩ := r
        obtain ⟨a', vs, h1, h2, h3, h4, h5⟩ := M.cell i xs hx
        rw [z1] at h1
        cases h1
        have M2 := M.take k
        have hc : ∀ (j : Nat) (ys : List D), (m.take k)[j]? = some (.lst ys) → (ρ.take k)[j]? ≠ some a := fun j ys q z => by
          have hj : j < k := by
            have := (List.getElem?_eq_some_iff.mp q).1
            rw [List.length_take] at this
            omega
          rw [List.getElem?_take_of_lt hj] at q z
          have := M.inj j i ys xs a q hx z z1
          omega
        have hx2 : ∀ j, ¬ MixA S (ρ.take k) (m.take k) j a := fun j q => by
          have q' : MixA S ρ m j a := by
            have low : ∀ {c : Cell}, (m.take k)[j]? = some c → j < k := fun {c} q => by
              have := (List.getElem?_eq_some_iff.mp q).1
              rw [List.length_take] at this
              omega
            rcases q with ⟨d, xs, a', v, g1, g2, g3⟩ | ⟨kss, ds, g1, g2⟩ | ⟨c, g1, g0, g2⟩
            · have hj := low g1
              rw [List.getElem?_take_of_lt hj] at g1 g2
              exact .inl ⟨d, xs, a', v, g1, g2, g3⟩
            · have hj := low g1
              rw [List.getElem?_take_of_lt hj] at g1 g2
              exact .inr (.inl ⟨kss, ds, g1, g2⟩)
            · have hj := low g1
              rw [List.getElem?_take_of_lt hj] at g1 g2
              exact .inr (.inr ⟨c, g1, g0, g2⟩)
          exact M.mix.crs j i a xs q' hx z1
        obtain ⟨e1, M3⟩ := M2.take_own h2 h4 h5 ⟨hc, hx2⟩ h3
        refine ⟨S, _, _, _, h, Same.refl _, fun i a hi q => e1.r i a (take_get hi q), M3, a, ?_, rfl⟩
        have e : (ρ.take k).length = k := by rw [List.length_take, M.len]; omega
        rw [List.getElem?_append_right (by omega), e]
        simp
      · exact h.elim
theorem er_enter {Γ : Gd} {S : Hp} {ρ : List Addr} {N : List Str} {vs : List V} {xs : List SV} (r : Paired (RSV Γ S ρ) vs xs) : ER Γ S ρ (enter N.length xs) (L2.start N vs) := by
  have hl : vs.length = xs.length := Paired.length r
  have get : ∀ {vs : List V} {xs : List SV} (i : Nat) (v : SV), Paired (RSV Γ S ρ) vs xs → xs[i]? = some v → ∃ vv, vs[i]? = some vv ∧ RSV Γ S ρ vv v := by
    intro vs xs i v r
    induction r generalizing i with
    | nil => intro h; simp at h
    | cons h t ih =>
      intro q
      cases i with
      | zero => simp at q; subst q; exact ⟨_, rfl, h⟩
      | succ i =>
        obtain ⟨vv, a, b⟩ := ih i (by simpa using q)
        exact ⟨vv, by simpa using a, b⟩
  refine ⟨?_, fun i v q => ?_⟩
  · unfold enter L2.start
    rw [List.length_append, List.length_append, List.length_map, List.length_map, List.length_replicate, List.length_replicate, hl]
  · unfold enter at q
    unfold L2.start
    by_cases hi : i < xs.length
    · rw [List.getElem?_append_left (by simpa using hi), List.getElem?_map] at q
      cases e : xs[i]? with
      | none => rw [e] at q; cases q
      | some x =>
        rw [e] at q
        cases q
        obtain ⟨vv, h1, h2⟩ := get i v r e
        refine ⟨vv, ?_, h2⟩
        rw [List.getElem?_append_left (by rw [List.length_map, hl]; exact hi), List.getElem?_map, h1]
        rfl
    · rw [List.getElem?_append_right (by simpa using hi), List.getElem?_replicate] at q
      split at q <;> cases q
structure RoomG (k : Nat) (A : Around) : Prop where
  rm : Room k A
  gd : reprs = true → A.guards = some []
theorem RoomG.mono {j k : Nat} {A : Around} (r : RoomG k A) (h : j ≤ k) : RoomG j A := ⟨r.rm.mono h, r.gd⟩
theorem RoomG.units {k : Nat} {A : Around} (r : RoomG k A) : A.units + 64 < cLine := r.rm.units
structure FnG (P : Program) (w : World) (K : PySem.W.Frag) (mg : Str → Option Value) (base : Heap) (k : Nat) (f : Addr) (fd : FuncData) (ps : List Str) (sp : Sp) : Prop where
  ln : ∀ vs H Q E, sp vs H Q E → vs.length = ps.length
  go : ∀ (A : Around) (outer : List Env) (s : Shared) (H : Hp) (args : Args) (us : List Value) (vs : List V) (Q : VK) (E : XK), RoomG k A → Env0 P w K mg base A outer s H → BindsTo s fd args (ps.zip us) → Vals vs us → sp vs H Q E →
    codeAny (model P w) A (.call (.ref f) args) (CR (L2.CX P w) outer P w H s Q E) s
theorem FnG.mono {P : Program} {w : World} {K : PySem.W.Frag} {mg : Str → Option Value} {base : Heap} {j k : Nat} {f : Addr} {fd : FuncData} {ps : List Str} {sp : Sp} (F : FnG P w K mg base j f fd ps sp) (h : j ≤ k) : FnG P w K mg base k f fd ps sp :=
  ⟨F.ln, fun A o s H args us vs Q E r => F.go A o s H args us vs Q E (r.mono h)⟩
theorem FnG.imp {P : Program} {w : World} {K : PySem.W.Frag} {mg : Str → Option Value} {base : Heap} {k : Nat} {f : Addr} {fd : FuncData} {ps : List Str} {sp sp' : Sp} (F : FnG P w K mg base k f fd ps sp) (h : ∀ vs H Q E, sp' vs H Q E → sp vs H Q E) : FnG P w K mg base k f fd ps sp' :=
  ⟨fun vs H Q E q => F.ln vs H Q E (h _ _ _ _ q), fun A o s H args us vs Q E r e b v q => F.go A o s H args us vs Q E r e b v (h _ _ _ _ q)⟩
theorem fng_of {P : Program} {w : World} {K : PySem.W.Frag} {mg : Str → Option Value} {base : Heap} {k : Nat} {x qual : Str} {N ps : List Str} {params : Arguments} {body : List Stmt} {scope : Scope} {f : Addr} {fd : FuncData} {dvs : List V} {kws : List (Str × V)} {sp : Sp}
    (F : FunD K x qual params body scope dvs kws f fd) (S : FnScope N ps scope) (ln : ∀ vs H Q E, sp vs H Q E → vs.length = ps.length)
    (hbody : ∀ (cdv : Value) (A : Around) (outer : List Env) (s : Shared) (H : Hp) (vs : List V) (Q : VK) (E : XK), fd.code = cdv → RoomG k (A.deeper (envOfC qual scope s.heap.objs.size f cdv)) → sp vs H Q E →
      ∃ t, PSs (cxOf (L2.CX P w) P w K mg base N qual scope f cdv A outer s H E) body t ∧ t { nx := fun _ H' => Q .non H', rt := Q } (start N vs) H) : FnG P w K mg base (k + 1) f fd ps sp := by
  obtain ⟨oc, od, dV, kV, doc, pm, an, cdv, ct, osl, rfl, lk, hcd, _, _⟩ := F.ex
  refine ⟨ln, fun A outer s H args us vs Q E R e0 hb rv hsp => ?_⟩
  have stays : ∀ b o, base.get? b = some o → s.heap.get? b = some o := fun b o q => (e0.bs b o q).1
  have kin : K.In s.heap := e0.mod.kin.keeps stays
  have par : ∀ y ∈ ps.zip us, scope.names.lookup y.1 = some .local ∨ (scope.names.lookup y.1 = some .cell ∧
      ((cellsFrom (s.heap.objs.size + 1) scope.names []).lookup y.1).isSome = true) := by
    rintro ⟨n, v⟩ hy
    exact (S.par n (List.of_mem_zip hy).1).elim .inl fun q => .inr ⟨q, PySem.W.cellsFrom_some _ _ _ (.inl q)⟩
  refine codeAny_call_function R.rm.depth (kin _ _ lk) rfl S.co S.gen rfl (PySem.W.codeRec_of kin hcd) (hb _ _ _ _ ?_)
  refine wpAny_newFunctionEnv_cells S.kind par fun env he s1 x1 => ?_
  subst he
  refine ⟨(e0.mod.nolimit.keeps stays).keeps x1.toInCall.keep, codeAny_func ?_⟩
  obtain ⟨t, ht, hq⟩ := hbody cdv A outer s H vs Q E rfl ⟨R.rm.deeper _, R.gd⟩ hsp
  have I := inv_start (CX := L2.CX P w) (E := E) S R.rm.hd e0 (ln _ _ _ _ hsp) rv x1
  refine wpAny_mono (ht.run [] s1 (start N vs) H _ I hq) (fun fl s' hs => ?_) (fun _ _ z => z)
  cases fl with
  | ret u => obtain ⟨v, _, H', J, r1, q⟩ := hs; exact ⟨v, H', J.os, J.bare, J.base, J.hok, r1, q⟩
  | next => obtain ⟨_, H', J, q⟩ := hs; exact ⟨.non, H', J.os, J.bare, J.base, J.hok, rfl, q⟩
  | brk => obtain ⟨_, _, _, q⟩ := hs; exact q.elim
  | cont => obtain ⟨_, _, _, q⟩ := hs; exact q.elim
def AfterR (X : Cx) (pins : List (Addr × Obj)) (σ : St) (Q : VK) (rr : Result) (s' : Shared) : Prop := match rr with
  | .ok (.ret u) => EP X pins σ Q u s'
  | .ok _ => False
  | .error e => X.xe e s'
theorem after_go {X : Cx} {W : WX} {pins : List (Addr × Obj)} {σ : St} {H : Hp} {s s' : Shared} {Q : VK} {rr : Result} (tk : Takes X W) (I : Inv X pins σ H s) (hq : CR (L2.CX X.prog X.w) X.stack X.prog X.w H s Q (fun cls d H => W cls d σ H) rr s') :
    AfterR X pins σ Q rr s' := by
  cases rr with
  | error e => exact passAt tk σ pins H s e s' I hq
  | ok fl =>
    cases fl with
    | ret u => exact I.after hq
    | next => exact hq
    | brk => exact hq
    | cont => exact hq
theorem law_callG {P : Program} {w : World} {K : PySem.W.Frag} {mg mb : Str → Option Value} {k : Nat} {fa a : Addr} {fd : FuncData} {x : Str} {sp : Sp} {s₁ : Shared} {vs : List Value} {ns : List Int}
    (KX : K.In s₁.heap) (hns : s₁.heap.Ns mainGlobals mg) (hb : s₁.heap.Ns builtinsNs mb) (hbb : ∀ x : Str, x ≠ "__name__" → mb x = bootBuiltins x) (hlim : s₁.heap.NoLimit) (hg : s₁.gens = #[])
    (ha : s₁.heap.get? a = some { cls := .type "list", data := .seq vs.toArray }) (hi : IntsAre vs ns) (hl : ns.length ≤ sizeLine) (hr : Room k callerA)
    (F : ∀ base : Heap, FnG P w K mg base k fa fd [x] sp) (hbind : ∀ (s : Shared) (u : Value), BindsTo s fd ⟨[u], []⟩ [(x, u)])
    (hsp : ∀ H : Hp, SqL K H a (ns.map V.int) → sp [.ref a] H (fun v _ => v = .bl true) fun _ _ _ => False)
    (hCX : ∀ H e s', L2.CX P w [] H s₁ (fun _ _ _ => False) e s' → False) :
    codeAny (model P w) callerA (.call (.ref fa) ⟨[.ref a], []⟩) (fun r s' => r = .ok (.ret (.bool true)) ∧ OldK s₁.heap s'.heap ∧ s'.os = s₁.os ∧ AllBare s'.gens) s₁ := by
  have go : ∀ H : Hp, L2.Only H → SqL K H a (ns.map V.int) → HOk P w H s₁.heap → (∀ b u, H b = some u → b = a ∧ K.lookup a = none) →
      codeAny (model P w) callerA (.call (.ref fa) ⟨[.ref a], []⟩) (fun r s' => r = .ok (.ret (.bool true)) ∧ OldK s₁.heap s'.heap ∧ s'.os = s₁.os ∧ AllBare s'.gens) s₁ := by
    intro H hO hS hok hA
    have none_at : ∀ {b : Addr}, b ≠ a → H b = none := fun {b} ne => by
      cases q : H b with
      | none => rfl
      | some u => exact absurd (hA b u q).1 ne
    have dict_ne : ∀ {b : Addr} {o : Obj} {es : Array DictEntry} {ep : Nat}, s₁.heap.get? b = some o → o.data = .dict es ep → b ≠ a := by
      rintro b o es ep e d rfl
      rw [ha] at e
      cases e
      exact nomatch d
    have nsK : ∀ {b : Addr} {m : Str → Option Value}, s₁.heap.Ns b m → (hidT s₁.heap H).Ns b m := by
      rintro b m ⟨o, es, ep, e, d, r⟩
      exact ⟨o, es, ep, hidT_get e (none_at (dict_ne e d)), d, r⟩
    have kb : K.In (hidT s₁.heap H) := fun b o e => by
      refine hidT_get (KX b o e) ?_
      cases q : H b with
      | none => rfl
      | some u =>
        obtain ⟨z1, z2⟩ := hA b u q
        subst z1
        rw [z2] at e
        cases e
    obtain ⟨mc, l1, l2⟩ := hlim
    have md : Mod K mg (hidT s₁.heap H) := ⟨kb, nsK hns, ⟨mb, nsK hb, hbb⟩, mc, nsK l1, l2⟩
    have e0 : Env0 P w K mg (hidT s₁.heap H) callerA [] s₁ H := ⟨rfl, md, fun b o e => of_hidT e, Nat.le_of_eq (hidT_size _ _), trivial, (by intro b z; cases z), hok, .of_eq hg⟩
    refine codeAny_mono ((F _).go callerA [] s₁ H _ [.ref a] [.ref a] _ _ ⟨hr, fun _ => rfl⟩ e0 (hbind s₁ (.ref a)) (.cons rfl .nil) (hsp H hS)) fun r s' h => ?_
    cases r with
    | error e => exact (hCX H e s' h).elim
    | ok fl =>
      cases fl with
      | next => exact h.elim
      | brk => exact h.elim
      | cont => exact h.elim
      | ret u =>
        obtain ⟨v, H', os, bare, un, hok', r', q⟩ := h
        obtain rfl : v = .bl true := q
        obtain rfl : u = Value.bool true := r'
        refine ⟨rfl, OldK.of_keep fun b o e => ?_, os, bare⟩
        rcases hO b with z | ⟨ob, xs, z⟩
        · exact un.keep b o e z (by intro z; cases z) (by simp)
        · obtain ⟨e1, _⟩ := hok b _ z
          obtain ⟨e2, _⟩ := hok' b _ (un.frzs b ob _ z)
          rw [e] at e1
          cases e1
          exact e2
  have rv := vals_ints hi
  cases hk : K.lookup a with
  | some o =>
    have e := KX a o hk
    rw [ha] at e
    cases e
    exact go (fun _ => none) (fun _ => .inl rfl) (.inr ⟨_, vs.toArray, _, hk, rfl, rfl, rfl, by rw [List.size_toArray, hi.length]; exact hl, by simpa using rv⟩) (fun b u z => nomatch z) (fun b u z => nomatch z)
  | none =>
    have at_ : ∀ {b : Addr} {u : HO}, (if b = a then some (HO.frz { cls := .type "list", data := .seq vs.toArray } (.lst (ns.map V.int))) else none) = some u → b = a ∧ u = HO.frz { cls := .type "list", data := .seq vs.toArray } (.lst (ns.map V.int)) := fun {b u} z => by
      by_cases h : b = a
      · rw [if_pos h] at z
        exact ⟨h, (Option.some.inj z).symm⟩
      · rw [if_neg h] at z
        cases z
    refine go (fun b => if b = a then some (.frz { cls := .type "list", data := .seq vs.toArray } (.lst (ns.map V.int))) else none) (fun b => ?_) (.inl (.inr ⟨_, if_pos rfl⟩)) (fun b u z => ?_) fun b u z => ⟨(at_ z).1, hk⟩
    · by_cases h : b = a
      · exact .inr ⟨_, _, if_pos h⟩
      · exact .inl (if_neg h)
    · obtain ⟨z1, z2⟩ := at_ z
      subst z1 z2
      exact ⟨ha, by rw [List.length_map]; exact hl, vs, _, rv, ha⟩
structure Cal (P : Program) (w : World) (K : PySem.W.Frag) (mg : Str → Option Value) (base : Heap) (k : Nat) (x : Str) (ps : List Str) (F : List SV → PL.P SV) : Prop where
  ex : ∃ f fd, mg x = some (.ref f) ∧ PySem.W.keepIn K (.ref f) = true ∧ Binds K fd ps [] ∧ FnG P w K mg base k f fd ps (spF ⟨K, mg, w⟩ ps.length F)
def chk (n : Nat) (F : List SV → P SV) : List SV → P SV := fun xs => if xs.length = n then F xs else P.stk
section
variable {X : Cx} {W : WX} {e : Expr} {es : List Expr} {pos p : Pos} {fs : En → P (List SV)}
theorem je_call {k n : Nat} {x : Str} {ps : List Str} {F : List SV → PL.P SV} (C : Cal X.prog X.w X.K X.mg X.base k x ps F) (hr : RoomG k X.A) (tk : Takes X W) (hg : Gl X x) (js : JA X W (e :: es) fs)
    (hdb : (x == ("__debug__" : Str)) = false := by decide) (he : starEach (e :: es) X.env = (false, eval e X.env) :: starEach es X.env := by rfl) (hpl : (backTo pos (starEach es X.env)).any (·.1) = false := by rfl) (hn : ps.length = n := by rfl) :
    JE X W (.Call (.Name x p) (e :: es) [] pos) (dA (chk n F) fs) := by
  subst hn
  obtain ⟨f, fd, hm, hk, hb, hF⟩ := C.ex
  refine ⟨fun {G S H ρ m env σ Q} M E h pins s I => ?_⟩
  refine wpAny_Call_Name_kw (ld_glob I hg hm ?_ hdb)
  refine PySem.W.callWith_K (h₀ := X.base) I.ok.mod.kin hk (thn (js.run (Q := fun vs H1 => spF ⟨X.K, X.mg, X.w⟩ ps.length F vs H1 Q fun cls d H => W cls d σ H) M E (wpr_monoQ (wpr_bnd h) fun xs m1 hx => ?_) pos pins s I) fun us s1 ⟨vs, H1, I1, r, q⟩ => ⟨I1.kIn, ?_⟩) he hpl
  · intro S1 H1 ρ1 xv e1 M1 rx
    unfold chk at hx
    split at hx
    · rename_i hl
      exact ⟨by rw [Paired.length rx]; exact hl, G, S1, ρ1, m1, xs, M1, rx, wpr_mono hx (fun v m2 hv => qv_ext e1 hv) fun x m2 hv => qx_ext e1 hv⟩
    · exact hx.elim
  · have hl : us.length = ps.length := by rw [← r.length]; exact hF.ln _ _ _ _ q
    have b := hb s1 us I1.kIn (by rw [List.append_nil]; exact hl)
    rw [List.append_nil] at b
    exact wpAny_call (codeAny_mono (hF.go X.A X.stack s1 H1 _ us vs Q _ hr I1.env0 b r q) fun rr s' hq => after_go tk I1 hq)
end
theorem fok_of {P : Program} {w : World} {K : PySem.W.Frag} {mg : Str → Option Value} {base : Heap} {k : Nat} {x : Str} {N ps : List Str} {st : Stmt} {f : Addr} {fd : FuncData} {ex : Nat → SV → Mem → R SV} {fb : DS} {dvs : List V} {kws : List (Str × V)}
    (F : FunD K x x (defArgs st) (defBody st) (defScope st) dvs kws f fd) (S : FnScope N ps (defScope st)) (hex : ExitOk ex)
    (j : ∀ (cdv : Value) (A : Around) (outer : List Env) (s : Shared) (H : Hp) (E : XK), fd.code = cdv → RoomG k (A.deeper (envOfC x (defScope st) s.heap.objs.size f cdv)) →
      JB (cxOf (L2.CX P w) P w K mg base N x (defScope st) f cdv A outer s H E) (fun cls d _ H => E cls d H) (defBody st) fb) :
    FnG P w K mg base (k + 1) f fd ps (spF ⟨K, mg, w⟩ ps.length (fnRun N.length ex fb)) := by
  refine fng_of F S (fun vs H Q E h => h.1) fun cdv A outer s H vs Q E hcd hr h => ?_
  obtain ⟨hl, G, S0, ρ, m, xs, M, r, h⟩ := h
  refine ⟨_, pss_wss, (j cdv A outer s H E hcd hr).run (env := enter N.length xs) (σ := L2.start N vs) M (er_enter r) ?_⟩
  have kept : ∀ {S' : Hp} {ρ' : List Addr}, Ext S0 ρ S' ρ' → Ext S0 ρ S' (ρ'.take m.length) := fun {S' ρ'} e => ⟨e.s, fun i a q => take_get (by rw [← M.len]; exact (List.getElem?_eq_some_iff.mp q).1) (e.r i a q)⟩
  have more : ∀ {S' : Hp} {ρ' : List Addr} {H' : Hp} {m' : Mem}, Ext S0 ρ S' ρ' → MR ⟨K, mg, w⟩ G S' H' ρ' m' → m.length ≤ m'.length := fun {S' ρ' H' m'} e M' => by
    rw [← M.len, ← M'.len]
    by_cases h0 : ρ.length ≤ ρ'.length
    · exact h0
    · have hlt : ρ'.length < ρ.length := by omega
      have q := e.r ρ'.length ρ[ρ'.length] (List.getElem?_eq_getElem hlt)
      rw [List.getElem?_eq_none (Nat.le_refl _)] at q
      cases q
  unfold fnRun at h
  cases e : fb (enter N.length xs) m with
  | stuck => rw [e] at h; exact h.elim
  | exc y m' =>
    rw [e] at h
    exact fun S' H' ρ' σ' cls d e' M' x' => h S' H' (ρ'.take m.length) cls d (kept e') (M'.take _) x'
  | ok o m' =>
    rw [e] at h
    cases o with
    | nx env' => exact fun S' H' ρ' σ' e' M' E' => h S' H' (ρ'.take m.length) .non (kept e') (M'.take _) .non
    | rt v =>
      intro S' H' ρ' vv e' M' rv
      obtain ⟨S2, ρ2, w2, m2, q, s2, r2, M2, rv2⟩ := hex M' rv (more e' M') h
      exact q S2 H' ρ2 vv ⟨e'.s.trans s2, fun i a z => r2 i a (by rw [← M.len]; exact (List.getElem?_eq_some_iff.mp z).1) (e'.r i a z)⟩ M2 rv2
    | bk _ => exact h.elim
    | ct _ => exact h.elim
theorem cal_of {P : Program} {w : World} {K : PySem.W.Frag} {mg : Str → Option Value} {base : Heap} {k : Nat} {x : Str} {ps : List Str} {f : Addr} {fd : FuncData} {params : Arguments} {body : List Stmt} {scope : Scope} {dvs : List V} {kws : List (Str × V)} {F0 : List SV → PL.P SV}
    (F : FunD K x x params body scope dvs kws f fd) (hm : mg x = some (.ref f)) (hb : Binds K fd ps []) (h : FnG P w K mg base k f fd ps (spF ⟨K, mg, w⟩ ps.length F0)) : Cal P w K mg base k x ps F0 := ⟨f, fd, hm, F.kp, hb, h⟩
theorem Cal.by {P : Program} {w : World} {K : PySem.W.Frag} {mg : Str → Option Value} {base : Heap} {k : Nat} {x : Str} {ps : List Str} {F F' : List SV → PL.P SV} (C : Cal P w K mg base k x ps F) (h : ∀ xs m, F' xs m ≠ .stuck → F xs m = F' xs m) : Cal P w K mg base k x ps F' := by
  obtain ⟨f, fd, hm, hk, hb, hF⟩ := C.ex
  refine ⟨f, fd, hm, hk, hb, hF.imp fun vs H Q E q => ?_⟩
  obtain ⟨hl, G, S, ρ, m, xs, M, r, q⟩ := q
  refine ⟨hl, G, S, ρ, m, xs, M, r, ?_⟩
  rw [h xs m fun z => by rw [z] at q; exact q]
  exact q
def noTab (H : Hp) : Hp := fun a => match H a with
  | some (.tbl _) => none
  | o => o
theorem noTab_of {H : Hp} {a : Addr} {o : HO} (h : H a = some o) (n : ∀ ps, o ≠ .tbl ps) : noTab H a = some o := by
  unfold noTab
  rw [h]
  split
  · rename_i z
    exact absurd (Option.some.inj z) (n _)
  · rfl
theorem noTab_sub (H : Hp) : Same (noTab H) H := fun b x q => by
  unfold noTab at q
  split at q
  · cases q
  · exact q
theorem noTab_nt (H : Hp) : ∀ a ps, noTab H a ≠ some (.tbl ps) := fun a ps z => by
  unfold noTab at z
  split at z
  · cases z
  · rename_i h
    exact h ps z
theorem noTab_seq {K : PySem.W.Frag} {H : Hp} {a : Addr} {xs : List V} (h : SqL K H a xs) : SqL K (noTab H) a xs := by
  rcases h with (h | ⟨o, h⟩) | h
  · exact .inl (.inl (noTab_of h fun _ z => by cases z))
  · exact .inl (.inr ⟨o, noTab_of h fun _ z => by cases z⟩)
  · exact .inr h
theorem walk_law {l : PySem.W.OpenLaw} {n k : Nat} {q : Program} {loose : List Str} {XP : (Str → Option Value) → Heap → Prop} {YP : World → Heap → Prop} {d : DefRec} {x : Str} {F : List SV → PL.P SV}
    (hlam : lamDefs = []) (hn : l.most = some n) (hn2 : n ≤ sizeLine) (hdf : d.params.defaults = []) (hr : Room k callerA)
    (hF : ∀ (w : World) (mg : Str → Option Value) (h : Heap), YP w h → h.Ns mainGlobals mg → ∃ (K : PySem.W.Frag) (f : Addr) (fd : FuncData), K.In h ∧ mg d.name = some (.ref f) ∧ (∀ (s : Shared) (u : Value), BindsTo s fd ⟨[u], []⟩ [(x, u)]) ∧
      ∀ base : Heap, FnG l.prog w K mg base k f fd [x] (spF ⟨K, mg, w⟩ 1 F))
    (hl : ∀ ns : List Int, ns.length ≤ n → ∃ m', F [.dat (.scr ns)] [] = .ok (.dat (.bl true)) m') :
    PySem.W.WalkO q loose XP YP l.row.toRowW d [] (fun f vs => PySem.call f vs) := by
  refine Att.attach_call hn hdf fun w s₀ s₁ mg mb fa o pm cd doc a vs ns G Y ho hd hcd hmg hobj hints hlen hg => ?_
  obtain ⟨K, f, fd, KX, hm, hb, hok⟩ := hF w mg _ Y G.T.g
  rw [hmg] at hm
  cases hm
  refine law_callG (sp := spF ⟨K, mg, w⟩ 1 F) KX G.T.g G.T.b G.T.builtins G.T.nolimit hg hobj hints (Nat.le_trans hlen hn2) hr hok hb (fun H hS => ?_) fun H e s' hx => ?_
  · obtain ⟨m', e⟩ := hl ns hlen
    refine ⟨rfl, fun _ => none, noTab H, [], [], [.dat (.scr ns)], ⟨noTab_sub H, (fun b o e => by cases e), (fun b o e => by cases e), rfl, (fun i xs e => by simp at e), (fun i j xs ys a e => by simp at e), ⟨noTab_nt H, (fun b o e => by cases e), ?_⟩, DicR.none, MixR.none⟩, .cons (.scr (noTab_seq hS)) .nil, ?_⟩
    · intro p hp
      simp [tabsK, hlam] at hp
    rw [e]
    intro S' H' ρ' vv _ _ r
    cases r
    rfl
  · obtain ⟨_, _, _, _, _, _, _, _, _, _, _, _, z⟩ := hx
    exact z
theorem Cal.mono {P : Program} {w : World} {K : PySem.W.Frag} {mg : Str → Option Value} {base : Heap} {j k : Nat} {x : Str} {ps : List Str} {F : List SV → PL.P SV} (C : Cal P w K mg base j x ps F) (h : j ≤ k) : Cal P w K mg base k x ps F := by
  obtain ⟨f, fd, hm, hk, hb, hF⟩ := C.ex
  exact ⟨f, fd, hm, hk, hb, hF.mono h⟩
end PL
namespace PL
open PySem PySem.Spec PyProof.Rows L2
section
variable {α β : Type}
@[simp] theorem ret_ap (a : α) (m : Mem) : P.ret a m = .ok a m := (rfl)
@[simp] theorem stk_ap (m : Mem) : (P.stk m : R α) = .stuck := (rfl)
@[simp] theorem bnd_ap (x : P α) (f : α → P β) (m : Mem) : P.bnd x f m = R.bnd (x m) f := (rfl)
@[simp] theorem bnd_ok (a : α) (m : Mem) (f : α → Mem → R β) : R.bnd (.ok a m) f = f a m := (rfl)
@[simp] theorem bnd_exc (x : Exc) (m : Mem) (f : α → Mem → R β) : R.bnd (.exc x m) f = .exc x m := (rfl)
@[simp] theorem bnd_stuck (f : α → Mem → R β) : R.bnd (.stuck : R α) f = .stuck := (rfl)
end
def look (o : Option (Option SV)) (m : Mem) : R SV := match o with
  | some (some v) => .ok v m
  | _ => .stuck
@[simp] theorem look_some (v : SV) (m : Mem) : look (some (some v)) m = .ok v m := (rfl)
@[simp] theorem look_none (m : Mem) : look (some none) m = .stuck := (rfl)
@[simp] theorem dVar_ap (i : Nat) (env : En) (m : Mem) : dVar i env m = look env[i]? m := by
  unfold dVar look
  split <;> simp_all
@[simp] theorem dC_ap (d : D) (env : En) (m : Mem) : dC d env m = .ok (.dat d) m := (rfl)
def k2 (g : SV → SV → P SV) (fb : En → P SV) (env : En) (x : SV) (m : Mem) : R SV := (fb env m).bnd (g x)
@[simp] theorem k2_ap (g : SV → SV → P SV) (fb : En → P SV) (env : En) (x : SV) (m : Mem) : k2 g fb env x m = (fb env m).bnd (g x) := (rfl)
@[simp] theorem d2_ap (g : SV → SV → P SV) (fa fb : En → P SV) (env : En) (m : Mem) : d2 g fa fb env m = (fa env m).bnd (k2 g fb env) := (rfl)
@[simp] theorem d1_ap (g : SV → P SV) (fa : En → P SV) (env : En) (m : Mem) : d1 g fa env m = (fa env m).bnd g := (rfl)
@[simp] theorem dA_ap (g : List SV → P SV) (fs : En → P (List SV)) (env : En) (m : Mem) : dA g fs env m = (fs env m).bnd g := (rfl)
@[simp] theorem dNil_ap (env : En) (m : Mem) : dNil env m = .ok [] m := (rfl)
def kCons2 (x : SV) (xs : List SV) (m : Mem) : R (List SV) := .ok (x :: xs) m
@[simp] theorem kCons2_ap (x : SV) (xs : List SV) (m : Mem) : kCons2 x xs m = .ok (x :: xs) m := (rfl)
def kCons (g : En → P (List SV)) (env : En) (x : SV) (m : Mem) : R (List SV) := (g env m).bnd (kCons2 x)
@[simp] theorem kCons_ap (g : En → P (List SV)) (env : En) (x : SV) (m : Mem) : kCons g env x m = (g env m).bnd (kCons2 x) := (rfl)
@[simp] theorem dCons_ap (f : En → P SV) (g : En → P (List SV)) (env : En) (m : Mem) : dCons f g env m = (f env m).bnd (kCons g env) := (rfl)
@[simp] theorem chk_ap (n : Nat) (F : List SV → P SV) (xs : List SV) (m : Mem) : chk n F xs m = if xs.length = n then F xs m else .stuck := by
  unfold chk
  split <;> rfl
@[simp] theorem dB_ap (f : En → P SV) (env : En) (m : Mem) : dB f env m = (f env m).bnd asB := (rfl)
@[simp] theorem asB_bl (b : Bool) (m : Mem) : asB (.dat (.bl b)) m = .ok b m := (rfl)
def onB (v : SV) (a b : R SV) : R SV := match v with
  | .dat (.bl true) => a
  | .dat (.bl false) => b
  | _ => .stuck
@[simp] theorem onB_bl (k : Bool) (a b : R SV) : onB (.dat (.bl k)) a b = if k = true then a else b := by cases k <;> rfl
def kCh2 (g' : SV → SV → P SV) (fc : En → P SV) (env : En) (y z : SV) (m : Mem) : R SV := onB z ((fc env m).bnd (g' y)) (.ok (.dat (.bl false)) m)
@[simp] theorem kCh2_ap (g' : SV → SV → P SV) (fc : En → P SV) (env : En) (y z : SV) (m : Mem) : kCh2 g' fc env y z m = onB z ((fc env m).bnd (g' y)) (.ok (.dat (.bl false)) m) := (rfl)
def kCh1 (g g' : SV → SV → P SV) (fc : En → P SV) (env : En) (x y : SV) (m : Mem) : R SV := (g x y m).bnd (kCh2 g' fc env y)
@[simp] theorem kCh1_ap (g g' : SV → SV → P SV) (fc : En → P SV) (env : En) (x y : SV) (m : Mem) : kCh1 g g' fc env x y m = (g x y m).bnd (kCh2 g' fc env y) := (rfl)
def kCh0 (g g' : SV → SV → P SV) (fb fc : En → P SV) (env : En) (x : SV) (m : Mem) : R SV := (fb env m).bnd (kCh1 g g' fc env x)
@[simp] theorem kCh0_ap (g g' : SV → SV → P SV) (fb fc : En → P SV) (env : En) (x : SV) (m : Mem) : kCh0 g g' fb fc env x m = (fb env m).bnd (kCh1 g g' fc env x) := (rfl)
theorem onB_ap (z : SV) (a b : P SV) (m : Mem) : (match z with
  | .dat (.bl true) => a
  | .dat (.bl false) => b
  | _ => P.stk) m = onB z (a m) (b m) := by
  unfold onB
  split <;> simp_all
@[simp] theorem dCh_ap (g g' : SV → SV → P SV) (fa fb fc : En → P SV) (env : En) (m : Mem) : dCh g g' fa fb fc env m = (fa env m).bnd (kCh0 g g' fb fc env) := by
  unfold dCh P.bnd
  congr 1
  funext x m1
  show R.bnd _ _ = R.bnd _ _
  congr 1
  funext y m2
  show R.bnd _ _ = R.bnd _ _
  congr 1
  funext z m3
  exact onB_ap z _ _ m3
def kAnd (fb : En → P SV) (env : En) (x : SV) (m : Mem) : R SV := onB x (fb env m) (.ok (.dat (.bl false)) m)
def kOr (fb : En → P SV) (env : En) (x : SV) (m : Mem) : R SV := onB x (.ok (.dat (.bl true)) m) (fb env m)
@[simp] theorem kAnd_ap (fb : En → P SV) (env : En) (x : SV) (m : Mem) : kAnd fb env x m = onB x (fb env m) (.ok (.dat (.bl false)) m) := (rfl)
@[simp] theorem kOr_ap (fb : En → P SV) (env : En) (x : SV) (m : Mem) : kOr fb env x m = onB x (.ok (.dat (.bl true)) m) (fb env m) := (rfl)
@[simp] theorem dAndV_ap (fa fb : En → P SV) (env : En) (m : Mem) : dAndV fa fb env m = (fa env m).bnd (kAnd fb env) := by
  unfold dAndV P.bnd
  congr 1
  funext x m1
  exact onB_ap x _ _ m1
@[simp] theorem dOrV_ap (fa fb : En → P SV) (env : En) (m : Mem) : dOrV fa fb env m = (fa env m).bnd (kOr fb env) := by
  unfold dOrV P.bnd
  congr 1
  funext x m1
  exact onB_ap x _ _ m1
def kNot (x : SV) (m : Mem) : R SV := match x with
  | .dat (.bl k) => .ok (.dat (.bl (!k))) m
  | _ => .stuck
@[simp] theorem kNot_bl (k : Bool) (m : Mem) : kNot (.dat (.bl k)) m = .ok (.dat (.bl (!k))) m := (rfl)
@[simp] theorem dNotV_ap (fa : En → P SV) (env : En) (m : Mem) : dNotV fa env m = (fa env m).bnd kNot := by
  unfold dNotV P.bnd
  congr 1
  funext x m1
  unfold kNot
  split <;> simp_all
def kAndT (tb : En → P Bool) (env : En) (k : Bool) (m : Mem) : R Bool := if k = true then tb env m else .ok false m
def kOrT (tb : En → P Bool) (env : En) (k : Bool) (m : Mem) : R Bool := if k = true then .ok true m else tb env m
@[simp] theorem kAndT_ap (tb : En → P Bool) (env : En) (k : Bool) (m : Mem) : kAndT tb env k m = if k = true then tb env m else .ok false m := (rfl)
@[simp] theorem kOrT_ap (tb : En → P Bool) (env : En) (k : Bool) (m : Mem) : kOrT tb env k m = if k = true then .ok true m else tb env m := (rfl)
@[simp] theorem dAndT_ap (ta tb : En → P Bool) (env : En) (m : Mem) : dAndT ta tb env m = (ta env m).bnd (kAndT tb env) := by
  unfold dAndT P.bnd
  congr 1
  funext k m1
  cases k <;> rfl
@[simp] theorem dOrT_ap (ta tb : En → P Bool) (env : En) (m : Mem) : dOrT ta tb env m = (ta env m).bnd (kOrT tb env) := by
  unfold dOrT P.bnd
  congr 1
  funext k m1
  cases k <;> rfl
def kNotT (k : Bool) (m : Mem) : R Bool := .ok (!k) m
@[simp] theorem kNotT_ap (k : Bool) (m : Mem) : kNotT k m = .ok (!k) m := (rfl)
@[simp] theorem dNotT_ap (ta : En → P Bool) (env : En) (m : Mem) : dNotT ta env m = (ta env m).bnd kNotT := (rfl)
def kIf (fa fb : En → P SV) (env : En) (k : Bool) (m : Mem) : R SV := if k = true then fa env m else fb env m
@[simp] theorem kIf_ap (fa fb : En → P SV) (env : En) (k : Bool) (m : Mem) : kIf fa fb env k m = if k = true then fa env m else fb env m := (rfl)
@[simp] theorem dIf_ap (t : En → P Bool) (fa fb : En → P SV) (env : En) (m : Mem) : dIf t fa fb env m = (t env m).bnd (kIf fa fb env) := by
  unfold dIf P.bnd
  congr 1
  funext k m1
  cases k <;> rfl
@[simp] theorem dTr_ap (f : En → P SV) (env : En) (m : Mem) : dTr f env m = (f env m).bnd truV := (rfl)
@[simp] theorem truV_bl (b : Bool) (m : Mem) : truV (.dat (.bl b)) m = .ok b m := (rfl)
@[simp] theorem dNx_ap (env : En) (m : Mem) : dNx env m = .ok (.nx env) m := (rfl)
@[simp] theorem dNever_ap (env : En) (m : Mem) : dNever env m = .stuck := (rfl)
def kSeq (g : DS) (o : Out) (m : Mem) : R Out := match o with
  | .nx env' => g env' m
  | o => .ok o m
@[simp] theorem kSeq_nx (g : DS) (env : En) (m : Mem) : kSeq g (.nx env) m = g env m := (rfl)
@[simp] theorem kSeq_rt (g : DS) (v : SV) (m : Mem) : kSeq g (.rt v) m = .ok (.rt v) m := (rfl)
@[simp] theorem kSeq_bk (g : DS) (env : En) (m : Mem) : kSeq g (.bk env) m = .ok (.bk env) m := (rfl)
@[simp] theorem kSeq_ct (g : DS) (env : En) (m : Mem) : kSeq g (.ct env) m = .ok (.ct env) m := (rfl)
@[simp] theorem dSeq_ap (f g : DS) (env : En) (m : Mem) : dSeq f g env m = (f env m).bnd (kSeq g) := by
  unfold dSeq P.bnd
  congr 1
  funext o m1
  cases o <;> rfl
def kRt (v : SV) (m : Mem) : R Out := .ok (.rt v) m
@[simp] theorem kRt_ap (v : SV) (m : Mem) : kRt v m = .ok (.rt v) m := (rfl)
@[simp] theorem dRet_ap (fa : En → P SV) (env : En) (m : Mem) : dRet fa env m = (fa env m).bnd kRt := (rfl)
def kIfS (f g : DS) (env : En) (k : Bool) (m : Mem) : R Out := if k = true then f env m else g env m
@[simp] theorem kIfS_ap (f g : DS) (env : En) (k : Bool) (m : Mem) : kIfS f g env k m = if k = true then f env m else g env m := (rfl)
@[simp] theorem dIfS_ap (t : En → P Bool) (f g : DS) (env : En) (m : Mem) : dIfS t f g env m = (t env m).bnd (kIfS f g env) := by
  unfold dIfS P.bnd
  congr 1
  funext k m1
  cases k <;> rfl
def kSet (i : Nat) (env : En) (v : SV) (m : Mem) : R Out := .ok (.nx (env.set i (some v))) m
@[simp] theorem kSet_ap (i : Nat) (env : En) (v : SV) (m : Mem) : kSet i env v m = .ok (.nx (env.set i (some v))) m := (rfl)
@[simp] theorem dSet_ap (i : Nat) (fa : En → P SV) (env : En) (m : Mem) : dSet i fa env m = (fa env m).bnd (kSet i env) := (rfl)
def kDrop (env : En) (v : SV) (m : Mem) : R Out := .ok (.nx env) m
@[simp] theorem kDrop_ap (env : En) (v : SV) (m : Mem) : kDrop env v m = .ok (.nx env) m := (rfl)
@[simp] theorem dDrop_ap (fa : En → P SV) (env : En) (m : Mem) : dDrop fa env m = (fa env m).bnd (kDrop env) := (rfl)
def kPar (i j : Nat) (env : En) (vs : List SV) (m : Mem) : R Out := match vs with
  | [v, w] => .ok (.nx ((env.set i (some v)).set j (some w))) m
  | _ => .stuck
@[simp] theorem kPar_ap (i j : Nat) (env : En) (v w : SV) (m : Mem) : kPar i j env [v, w] m = .ok (.nx ((env.set i (some v)).set j (some w))) m := (rfl)
@[simp] theorem dPar_ap (i j : Nat) (fs : En → P (List SV)) (env : En) (m : Mem) : dPar i j fs env m = (fs env m).bnd (kPar i j env) := (rfl)
def kFor (g : D → En → Option En) (body : DS) (env : En) (items : List D) (m : Mem) : R Out := loopF g body items env m
@[simp] theorem kFor_ap (g : D → En → Option En) (body : DS) (env : En) (items : List D) (m : Mem) : kFor g body env items m = loopF g body items env m := (rfl)
@[simp] theorem dFor_ap (fi : En → P (List D)) (g : D → En → Option En) (body : DS) (env : En) (m : Mem) : dFor fi g body env m = (fi env m).bnd (kFor g body env) := (rfl)
@[simp] theorem dWhile_ap (n : Nat) (t : En → P Bool) (body : DS) (env : En) (m : Mem) : dWhile n t body env m = loopW t body n env m := (rfl)
@[simp] theorem dIt_ap (f : En → P SV) (env : En) (m : Mem) : dIt f env m = (f env m).bnd itemsV := (rfl)
@[simp] theorem dAI_ap (g : List SV → P (List D)) (fs : En → P (List SV)) (env : En) (m : Mem) : dAI g fs env m = (fs env m).bnd g := (rfl)
def ofEn (o : Option En) (m : Mem) : R Out := match o with
  | some env => .ok (.nx env) m
  | none => .stuck
@[simp] theorem ofEn_some (env : En) (m : Mem) : ofEn (some env) m = .ok (.nx env) m := (rfl)
def kAsg (g : D → En → Option En) (env : En) (v : SV) (m : Mem) : R Out := match v with
  | .dat d => ofEn (g d env) m
  | .ref _ => .stuck
@[simp] theorem kAsg_dat (g : D → En → Option En) (env : En) (d : D) (m : Mem) : kAsg g env (.dat d) m = ofEn (g d env) m := (rfl)
@[simp] theorem dAsg_ap (fa : En → P SV) (g : D → En → Option En) (env : En) (m : Mem) : dAsg fa g env m = (fa env m).bnd (kAsg g env) := by
  unfold dAsg P.bnd
  congr 1
def kLc2 (acc : List D) (m : Mem) : R SV := .ok (.dat (.lst acc)) m
@[simp] theorem kLc2_ap (acc : List D) (m : Mem) : kLc2 acc m = .ok (.dat (.lst acc)) m := (rfl)
def kLc (g : D → En → Option En) (t : En → P Bool) (f : En → P SV) (env : En) (items : List D) (m : Mem) : R SV := (noX (loopC g t f env items []) m).bnd kLc2
@[simp] theorem kLc_ap (g : D → En → Option En) (t : En → P Bool) (f : En → P SV) (env : En) (items : List D) (m : Mem) : kLc g t f env items m = (noX (loopC g t f env items []) m).bnd kLc2 := (rfl)
@[simp] theorem dLc_ap (vs : List Nat) (fi : En → P (List D)) (g : D → En → Option En) (t : En → P Bool) (f : En → P SV) (env : En) (m : Mem) : dLc vs fi g t f env m = (fi env m).bnd (kLc g t f (wipeE env vs)) := (rfl)
def kLcO2 (acc : List D) (m : Mem) : R SV := .ok (.ref m.length) (m ++ [.lst acc])
@[simp] theorem kLcO2_ap (acc : List D) (m : Mem) : kLcO2 acc m = .ok (.ref m.length) (m ++ [.lst acc]) := (rfl)
def kLcO (g : D → En → Option En) (t : En → P Bool) (f : En → P SV) (env : En) (items : List D) (m : Mem) : R SV := (noX (loopC g t f env items []) m).bnd kLcO2
@[simp] theorem kLcO_ap (g : D → En → Option En) (t : En → P Bool) (f : En → P SV) (env : En) (items : List D) (m : Mem) : kLcO g t f env items m = (noX (loopC g t f env items []) m).bnd kLcO2 := (rfl)
@[simp] theorem dLcO_ap (vs : List Nat) (fi : En → P (List D)) (g : D → En → Option En) (t : En → P Bool) (f : En → P SV) (env : En) (m : Mem) : dLcO vs fi g t f env m = (fi env m).bnd (kLcO g t f (wipeE env vs)) := (rfl)
def setC (o : Option Cell) (env : En) (n : Nat) (k : Int) (d : D) (m : Mem) : R Out := match o with
  | some (.lst xs) => (match ixN xs.length k with
    | some j => .ok (.nx env) (m.set n (.lst (xs.set j d)))
    | none => .stuck)
  | _ => .stuck
def kSx2 (env : En) (v o i : SV) (m : Mem) : R Out := match o, i, v with
  | .ref n, .dat (.int k), .dat d => setC m[n]? env n k d m
  | _, _, _ => .stuck
@[simp] theorem kSx2_ap (env : En) (n : Nat) (k : Int) (d : D) (m : Mem) : kSx2 env (.dat d) (.ref n) (.dat (.int k)) m = setC m[n]? env n k d m := (rfl)
def kSx1 (fi : En → P SV) (env : En) (v o : SV) (m : Mem) : R Out := (fi env m).bnd (kSx2 env v o)
@[simp] theorem kSx1_ap (fi : En → P SV) (env : En) (v o : SV) (m : Mem) : kSx1 fi env v o m = (fi env m).bnd (kSx2 env v o) := (rfl)
def kSx (fo fi : En → P SV) (env : En) (v : SV) (m : Mem) : R Out := (fo env m).bnd (kSx1 fi env v)
@[simp] theorem kSx_ap (fo fi : En → P SV) (env : En) (v : SV) (m : Mem) : kSx fo fi env v m = (fo env m).bnd (kSx1 fi env v) := (rfl)
@[simp] theorem dSetIx_ap (fo fi fv : En → P SV) (env : En) (m : Mem) : dSetIx fo fi fv env m = (fv env m).bnd (kSx fo fi env) := (rfl)
def appC (o : Option Cell) (env : En) (n : Nat) (d : D) (m : Mem) : R Out := match o with
  | some (.lst xs) => if xs.length < 16777216 then .ok (.nx env) (m.set n (.lst (xs ++ [d]))) else .stuck
  | _ => .stuck
@[simp] theorem appC_lst (xs : List D) (env : En) (n : Nat) (d : D) (m : Mem) : appC (some (.lst xs)) env n d m = if xs.length < 16777216 then .ok (.nx env) (m.set n (.lst (xs ++ [d]))) else .stuck := (rfl)
def kApp1 (env : En) (x y : SV) (m : Mem) : R Out := match x, y with
  | .ref n, .dat d => appC m[n]? env n d m
  | _, _ => .stuck
@[simp] theorem kApp1_ap (env : En) (n : Nat) (d : D) (m : Mem) : kApp1 env (.ref n) (.dat d) m = appC m[n]? env n d m := (rfl)
def ifL (o : Option (List D)) (r : R Out) : R Out := match o with
  | some _ => r
  | none => .stuck
@[simp] theorem ifL_some (xs : List D) (r : R Out) : ifL (some xs) r = r := (rfl)
def kApp (fb : En → P SV) (env : En) (x : SV) (m : Mem) : R Out := ifL (rdL x m) ((fb env m).bnd (kApp1 env x))
@[simp] theorem kApp_ap (fb : En → P SV) (env : En) (x : SV) (m : Mem) : kApp fb env x m = ifL (rdL x m) ((fb env m).bnd (kApp1 env x)) := (rfl)
@[simp] theorem dApp_ap (fa fb : En → P SV) (env : En) (m : Mem) : dApp fa fb env m = (fa env m).bnd (kApp fb env) := by
  unfold dApp P.bnd
  congr 1
@[simp] theorem set_app_len (m : Mem) (c c' : Cell) : (m ++ [c]).set m.length c' = m ++ [c'] := by
  rw [List.set_append_right _ _ (Nat.le_refl _)]
  simp
@[simp] theorem get_app_len (m : Mem) (c : Cell) : (m ++ [c])[m.length]? = some c := by simp
@[simp] theorem take_app_len (m : Mem) (c : Cell) : (m ++ [c]).take m.length = m := by simp
@[simp] theorem take_set_len (m : Mem) (k : Nat) (c : Cell) : (m.set k c).take m.length = m.set k c := List.take_of_length_le (by simp)
@[simp] theorem exitV_dat (k : Nat) (d : D) (m : Mem) : exitV k (.dat d) m = .ok (.dat d) (m.take k) := (rfl)
def fin (ex : Nat → SV → Mem → R SV) (k : Nat) (r : R Out) : R SV := match r with
  | .ok (.nx _) m' => .ok (.dat .non) (m'.take k)
  | .ok (.rt v) m' => ex k v m'
  | .ok _ _ => .stuck
  | .exc x m' => .exc x (m'.take k)
  | .stuck => .stuck
@[simp] theorem fin_nx (ex : Nat → SV → Mem → R SV) (k : Nat) (env : En) (m : Mem) : fin ex k (.ok (.nx env) m) = .ok (.dat .non) (m.take k) := (rfl)
@[simp] theorem fin_rt (ex : Nat → SV → Mem → R SV) (k : Nat) (v : SV) (m : Mem) : fin ex k (.ok (.rt v) m) = ex k v m := (rfl)
@[simp] theorem fin_exc (ex : Nat → SV → Mem → R SV) (k : Nat) (x : Exc) (m : Mem) : fin ex k (.exc x m) = .exc x (m.take k) := (rfl)
theorem fnRun_ap (n : Nat) (ex : Nat → SV → Mem → R SV) (fb : DS) (xs : List SV) (m : Mem) : fnRun n ex fb xs m = fin ex m.length (fb (enter n xs) m) := (rfl)
@[simp] theorem addV_int (i j : Int) (m : Mem) : addV (.dat (.int i)) (.dat (.int j)) m = .ok (.dat (.int (i + j))) m := (rfl)
@[simp] theorem subV_int (i j : Int) (m : Mem) : subV (.dat (.int i)) (.dat (.int j)) m = .ok (.dat (.int (i - j))) m := (rfl)
@[simp] theorem mulV_int (i j : Int) (m : Mem) : mulV (.dat (.int i)) (.dat (.int j)) m = if mulOk i j = true then .ok (.dat (.int (i * j))) m else .stuck := (rfl)
@[simp] theorem fdivV_int (i j : Int) (m : Mem) : fdivV (.dat (.int i)) (.dat (.int j)) m = if j ≠ 0 ∧ j.natAbs < big then .ok (.dat (.int (i.fdiv j))) m else .stuck := (rfl)
@[simp] theorem modV_int (i j : Int) (m : Mem) : modV (.dat (.int i)) (.dat (.int j)) m = if j ≠ 0 then .ok (.dat (.int (i.fmod j))) m else .stuck := (rfl)
@[simp] theorem powV_int (i j : Int) (m : Mem) : powV (.dat (.int i)) (.dat (.int j)) m = if 0 ≤ j ∧ j ≤ 1000000 ∧ i.natAbs < 2 ^ 64 then .ok (.dat (.int (i ^ j.toNat))) m else .stuck := (rfl)
@[simp] theorem ltV_int (i j : Int) (m : Mem) : ltV (.dat (.int i)) (.dat (.int j)) m = .ok (.dat (.bl (decide (i < j)))) m := (rfl)
@[simp] theorem leV_int (i j : Int) (m : Mem) : leV (.dat (.int i)) (.dat (.int j)) m = .ok (.dat (.bl (decide (i ≤ j)))) m := (rfl)
@[simp] theorem gtV_int (i j : Int) (m : Mem) : gtV (.dat (.int i)) (.dat (.int j)) m = .ok (.dat (.bl (decide (j < i)))) m := (rfl)
@[simp] theorem geV_int (i j : Int) (m : Mem) : geV (.dat (.int i)) (.dat (.int j)) m = .ok (.dat (.bl (decide (j ≤ i)))) m := (rfl)
@[simp] theorem negV_int (i : Int) (m : Mem) : negV (.dat (.int i)) m = .ok (.dat (.int (-i))) m := (rfl)
@[simp] theorem max2V_int (i j : Int) (m : Mem) : max2V [.dat (.int i), .dat (.int j)] m = .ok (.dat (.int (max i j))) m := (rfl)
@[simp] theorem min2V_int (i j : Int) (m : Mem) : min2V [.dat (.int i), .dat (.int j)] m = .ok (.dat (.int (min i j))) m := (rfl)
@[simp] theorem absV_int (i : Int) (m : Mem) : absV' [.dat (.int i)] m = .ok (.dat (.int i.natAbs)) m := (rfl)
@[simp] theorem intV_int (i : Int) (m : Mem) : intV [.dat (.int i)] m = .ok (.dat (.int i)) m := (rfl)
@[simp] theorem intV_bl (k : Bool) (m : Mem) : intV [.dat (.bl k)] m = .ok (.dat (.int (if k then 1 else 0))) m := (rfl)
@[simp] theorem isNV_dat (d : D) (m : Mem) : isNV (.dat d) (.dat .non) m = .ok (.dat (.bl (isNon d))) m := (rfl)
@[simp] theorem notNV_dat (d : D) (m : Mem) : notNV (.dat d) (.dat .non) m = .ok (.dat (.bl (!isNon d))) m := (rfl)
@[simp] theorem isNon_non : isNon .non = true := (rfl)
@[simp] theorem isNon_int (i : Int) : isNon (.int i) = false := (rfl)
@[simp] theorem isNon_tup (xs : List D) : isNon (.tup xs) = false := (rfl)
@[simp] theorem isNon_lst (xs : List D) : isNon (.lst xs) = false := (rfl)
@[simp] theorem isNon_bl (b : Bool) : isNon (.bl b) = false := (rfl)
@[simp] theorem isNon_str (x : Str) : isNon (.str x) = false := (rfl)
theorem okD_int (i : Int) : okD (.int i) = true := by simp [okD, plain, dep]
theorem okD_non : okD .non = true := by simp [okD, plain, dep]
theorem eqd_int (i j : Int) : eqd (.int i) (.int j) = decide (i = j) := by
  simp only [eqd, toPy, PyData.eqv]
  by_cases h : i = j <;> simp [h]
@[simp] theorem eqV_int (i j : Int) (m : Mem) : eqV (.dat (.int i)) (.dat (.int j)) m = .ok (.dat (.bl (decide (i = j)))) m := by
  simp [eqV, svD, okD_int, eqd_int]
@[simp] theorem neV_int (i j : Int) (m : Mem) : neV (.dat (.int i)) (.dat (.int j)) m = .ok (.dat (.bl (!decide (i = j)))) m := by
  simp [neV, svD, okD_int, eqd_int]
@[simp] theorem eqV_int_non (i : Int) (m : Mem) : eqV (.dat (.int i)) (.dat .non) m = .ok (.dat (.bl false)) m := by
  simp [eqV, svD, okD_int, okD_non, eqd, toPy, PyData.eqv]
@[simp] theorem eqV_non_int (i : Int) (m : Mem) : eqV (.dat .non) (.dat (.int i)) m = .ok (.dat (.bl false)) m := by
  simp [eqV, svD, okD_int, okD_non, eqd, toPy, PyData.eqv]
@[simp] theorem eqV_non (m : Mem) : eqV (.dat .non) (.dat .non) m = .ok (.dat (.bl true)) m := by
  simp [eqV, svD, okD_non, eqd, toPy, PyData.eqv]
@[simp] theorem neV_int_non (i : Int) (m : Mem) : neV (.dat (.int i)) (.dat .non) m = .ok (.dat (.bl true)) m := by
  simp [neV, svD, okD_int, okD_non, eqd, toPy, PyData.eqv]
@[simp] theorem neV_non_int (i : Int) (m : Mem) : neV (.dat .non) (.dat (.int i)) m = .ok (.dat (.bl true)) m := by
  simp [neV, svD, okD_int, okD_non, eqd, toPy, PyData.eqv]
@[simp] theorem neV_non (m : Mem) : neV (.dat .non) (.dat .non) m = .ok (.dat (.bl false)) m := by
  simp [neV, svD, okD_non, eqd, toPy, PyData.eqv]
theorem plains_ints (ns : List Int) : plains (ns.map D.int) = true := by
  induction ns with
  | nil => rfl
  | cons n r ih => simp [plains, plain, ih]
theorem deps_ints (ns : List Int) : deps (ns.map D.int) = 0 := by
  induction ns with
  | nil => rfl
  | cons n r ih => simp [deps, dep, ih]
theorem okD_ints (ns : List Int) : okD (.lst (ns.map D.int)) = true := by simp [okD, plain, dep, plains_ints, deps_ints]
theorem eqvAll_ints : ∀ ns ms : List Int, PyData.eqvAll (toPys (ns.map D.int)) (toPys (ms.map D.int)) = decide (ns = ms)
  | [], [] => by simp [toPys, PyData.eqvAll]
  | [], m :: ms => by simp [toPys, PyData.eqvAll]
  | n :: ns, [] => by simp [toPys, PyData.eqvAll]
  | n :: ns, m :: ms => by
    simp only [List.map_cons, toPys, toPy, PyData.eqvAll, PyData.eqv, eqvAll_ints ns ms]
    by_cases h : n = m <;> by_cases h2 : ns = ms <;> simp [h, h2]
theorem eqd_ints (ns ms : List Int) : eqd (.lst (ns.map D.int)) (.lst (ms.map D.int)) = decide (ns = ms) := by
  simp only [eqd, toPy, PyData.eqv, eqvAll_ints]
@[simp] theorem flatD_int (i : Int) : flatD (.int i) = true := (rfl)
@[simp] theorem flats_ints (xs : List Int) : flats (xs.map D.int) = true := by
  unfold flats
  induction xs with
  | nil => rfl
  | cons y r ih => simp [flatD]
theorem hasD_ints (x : Int) (xs : List Int) : hasD (xs.map D.int) (.int x) = decide (x ∈ xs) := by
  unfold hasD
  induction xs with
  | nil => rfl
  | cons y r ih =>
    rw [List.map_cons, List.any_cons, ih]
    by_cases h : y = x
    · subst h; simp [eqF]
    · have h' : ¬ x = y := fun e => h e.symm
      simp [eqF, h, h']
@[simp] theorem rngD_length (lo : Int) (n : Nat) : (rngD lo n).length = n := by simp [rngD]
section
variable {g : D → En → Option En} {body : DS} {d : D} {r : List D} {env env1 env2 : En} {m m2 : Mem}
theorem loopF_nil : loopF g body [] env m = .ok (.nx env) m := (rfl)
theorem loopF_nx (hg : g d env = some env1) (hb : body env1 m = .ok (.nx env2) m2) : loopF g body (d :: r) env m = loopF g body r env2 m2 := by
  simp [loopF, hg, hb]
theorem loopF_ct (hg : g d env = some env1) (hb : body env1 m = .ok (.ct env2) m2) : loopF g body (d :: r) env m = loopF g body r env2 m2 := by
  simp [loopF, hg, hb]
theorem loopF_rt {v : SV} (hg : g d env = some env1) (hb : body env1 m = .ok (.rt v) m2) : loopF g body (d :: r) env m = .ok (.rt v) m2 := by
  simp [loopF, hg, hb]
theorem loopF_inv (I : Nat → En → Mem → Prop) : ∀ (items : List D) (j : Nat) (env : En) (m : Mem), I j env m →
    (∀ i d env m, items[i]? = some d → I (j + i) env m → ∃ env1 env2 m2, g d env = some env1 ∧ (body env1 m = .ok (.nx env2) m2 ∨ body env1 m = .ok (.ct env2) m2) ∧ I (j + i + 1) env2 m2) →
    ∃ env' m', loopF g body items env m = .ok (.nx env') m' ∧ I (j + items.length) env' m'
  | [], j, env, m, h0, _ => ⟨env, m, rfl, h0⟩
  | d :: r, j, env, m, h0, hs => by
    obtain ⟨env1, env2, m2, hg, hb, h1⟩ := hs 0 d env m rfl h0
    obtain ⟨env', m', q, h2⟩ := loopF_inv I r (j + 1) env2 m2 h1 fun i d env m hi hI => by
      have := hs (i + 1) d env m (by simpa using hi) (by rw [show j + (i + 1) = j + 1 + i by omega]; exact hI)
      rw [show j + (i + 1) + 1 = j + 1 + i + 1 by omega] at this
      exact this
    refine ⟨env', m', ?_, by rw [List.length_cons, show j + (r.length + 1) = j + 1 + r.length by omega]; exact h2⟩
    rcases hb with hb | hb
    · rw [loopF_nx hg hb]; exact q
    · rw [loopF_ct hg hb]; exact q
theorem loopC_map {t : En → P Bool} {f : En → P SV} {env : En} {m : Mem} (p : D → Bool) (h : D → D) : ∀ (items acc : List D), (∀ d ∈ items, ∃ env1, g d env = some env1 ∧ t env1 m = .ok (p d) m ∧ (p d = true → f env1 m = .ok (.dat (h d)) m)) → acc.length + items.length ≤ 16777216 →
    loopC g t f env items acc m = .ok (acc ++ (items.filter p).map h) m
  | [], acc, _, _ => by simp [loopC]
  | d :: r, acc, hs, hl => by
    obtain ⟨env1, hg, ht, hf⟩ := hs d List.mem_cons_self
    have hr := fun d hd => hs d (List.mem_cons_of_mem _ hd)
    rw [List.length_cons] at hl
    by_cases hp : p d = true
    · have ih := loopC_map (t := t) (f := f) (env := env) (m := m) p h r (acc ++ [h d]) hr (by simp; omega)
      simp [loopC, hg, ht, hp, hf hp, show acc.length < 16777216 by omega, ih]
    · have hp' : p d = false := by simpa using hp
      have ih := loopC_map (t := t) (f := f) (env := env) (m := m) p h r acc hr (by omega)
      simp [loopC, hg, ht, hp', ih]
theorem loopC_all {f : En → P SV} {env : En} {m : Mem} (h : D → D) (items : List D) (hs : ∀ d ∈ items, ∃ env1, g d env = some env1 ∧ f env1 m = .ok (.dat (h d)) m) (hl : items.length ≤ 16777216) :
    noX (loopC g dYes f env items []) m = .ok (items.map h) m := by
  have e := loopC_map (g := g) (t := dYes) (f := f) (env := env) (m := m) (fun _ => true) h items [] (fun d hd => let ⟨e1, a, b⟩ := hs d hd; ⟨e1, a, rfl, fun _ => b⟩) (by simpa using hl)
  rw [List.filter_eq_self.mpr (fun _ _ => rfl)] at e
  simp [noX, e]
end
end PL
namespace PL
open PySem PySem.Spec PyProof.Rows L2
def frs (own : Bool) (xs : List D) : P SV := fun m => if own then .ok (.ref m.length) (m ++ [.lst xs]) else .ok (.dat (.lst xs)) m
@[simp] theorem frs_false (xs : List D) (m : Mem) : frs false xs m = .ok (.dat (.lst xs)) m := (rfl)
@[simp] theorem frs_true (xs : List D) (m : Mem) : frs true xs m = .ok (.ref m.length) (m ++ [.lst xs]) := (rfl)
section
variable {X : Cx} {W : WX}
theorem frs_ok {own : Bool} {G S0 S H : Hp} {ρ0 ρ : List Addr} {m : Mem} {Q : VK} {E : Exc → Mem → Prop} {vs : List V} {xs : List D} (M : MR (gd X) G S H ρ m) (r : RpAll (gd X) S vs xs) (e : Ext S0 ρ0 S ρ)
    (q : wpr (frs own xs m) (QV X G S0 ρ0 Q) E) (p : Addr) (hp : H p = none) : Q (.ref p) (upd H p (.lst vs)) := by
  cases own with
  | false =>
    obtain ⟨s1, M2⟩ := M.grow hp (.lst vs)
    exact q _ _ ρ _ (e.trans ⟨s1, fun _ _ z => z⟩) M2 (.lst upd_same (r.mono s1))
  | true =>
    obtain ⟨e2, M2⟩ := M.alloc hp r
    refine q _ _ _ _ (e.trans e2) M2 ⟨p, ?_, rfl⟩
    rw [← M.len]
    simp
def sortI (ns : List Int) : List Int := ns.mergeSort fun a b => decide (a ≤ b)
variable {a e : Expr} {lo hi : Option Expr} {pos p2 : Pos} {fa : En → P SV}
def cutD (xs : List D) (lo hi : Option Int) : List D := (xs.drop (HT.sIx xs.length 0 lo)).take (HT.sIx xs.length xs.length hi - HT.sIx xs.length 0 lo)
theorem rpAll_cut {Γ : Gd} {S : Hp} {vs : List V} {ds : List D} (r : RpAll Γ S vs ds) (lo hi : Option Int) : RpAll Γ S (cutV vs lo hi) (cutD ds lo hi) := by
  unfold cutV cutD
  rw [r.length]
  exact (r.drop _).take _
structure JPt (X : Cx) (W : WX) (lo : Option Expr) (f : En → P (Option Int)) : Prop where
  run : ∀ {G S H : Hp} {ρ : List Addr} {m : Mem} {env : En} {σ : St} {Q : Option Int → Hp → Prop}, MR (gd X) G S H ρ m → ER (gd X) S ρ env σ →
    wpr (f env m) (fun o m' => ∀ S' H' ρ', Ext S ρ S' ρ' → MR (gd X) G S' H' ρ' m' → Q o H') (QX X W G S ρ σ) →
    ∀ (pins : List (Addr × Obj)) (s : Shared), Inv X pins σ H s → wpAny (model X.prog X.w) X.A (evalPart lo X.env) (fun u s' => ∃ o H', Inv X pins σ H' s' ∧ IsPart u o ∧ Q o H') X.xe s
def dNoPt : En → P (Option Int) := fun _ => P.ret none
def dPt (f : En → P SV) : En → P (Option Int) := fun env => (f env).bnd fun v => match v with
  | .dat (.int i) => P.ret (some i)
  | _ => P.stk
theorem jp_none : JPt X W none dNoPt := ⟨fun {G S H ρ m env σ Q} M E h pins s I => po_none.run pins s σ H Q I (h S H ρ (Ext.refl _ _) M)⟩
theorem jp_some (ja : JE X W e fa) : JPt X W (some e) (dPt fa) := ⟨fun {G S H ρ m env σ Q} M E h pins s I => by
  refine (po_some (pe_we (X := X) (e := e))).run pins s σ H Q I (ja.run M E (wpr_monoQ (wpr_bnd h) fun v m1 hv => ?_))
  intro S1 H1 ρ1 xv e1 M1 rx
  split at hv
  · rename_i i
    cases rx
    exact ⟨i, rfl, hv S1 H1 ρ1 e1 M1⟩
  · exact hv.elim⟩
def cutVl (own : Bool) (v : SV) (lo hi : Option Int) : P SV := fun m => match v with
  | .dat (.tup xs) => .ok (.dat (.tup (cutD xs lo hi))) m
  | .dat (.scr ns) => frs own (cutD (ns.map D.int) lo hi) m
  | v => (match rdL v m with | some xs => frs own (cutD xs lo hi) m | none => .stuck)
def dSl (own : Bool) (fa : En → P SV) (fl fh : En → P (Option Int)) : En → P SV := fun env => (fa env).bnd fun v => (fl env).bnd fun l => (fh env).bnd fun h => cutVl own v l h
theorem cutD_whole (xs : List D) (lo hi : Option Int) (h : HT.sIx xs.length 0 lo = 0 ∧ HT.sIx xs.length xs.length hi = xs.length) : cutD xs lo hi = xs := by
  unfold cutD
  rw [h.1, h.2]
  simp
theorem je_slice {own : Bool} {fl fh : En → P (Option Int)} (ja : JE X W a fa) (jl : JPt X W lo fl) (jh : JPt X W hi fh) : JE X W (.Subscript a (.Slice lo hi none p2) pos) (dSl own fa fl fh) := ⟨fun {G S H ρ m env σ Q} M E h => by
  refine we_of (pe_slice (SlR.or sl_tupA sl_list) pe_we
    (tl := fun σ H Q => ∀ (pins : List (Addr × Obj)) (s : Shared), Inv X pins σ H s → wpAny (model X.prog X.w) X.A (evalPart lo X.env) (fun u s' => ∃ o H', Inv X pins σ H' s' ∧ IsPart u o ∧ Q o H') X.xe s) ⟨fun pins s σ H Q I q => q pins s I⟩
    (th := fun σ H Q => ∀ (pins : List (Addr × Obj)) (s : Shared), Inv X pins σ H s → wpAny (model X.prog X.w) X.A (evalPart hi X.env) (fun u s' => ∃ o H', Inv X pins σ H' s' ∧ IsPart u o ∧ Q o H') X.xe s) ⟨fun pins s σ H Q I q => q pins s I⟩) ?_
  refine ja.run M E (wpr_monoQ (wpr_bnd h) fun v m1 hv => ?_)
  intro S1 H1 ρ1 xv e1 M1 rx
  refine jl.run M1 (E.mono e1) (wpr_mono (wpr_bnd hv) (fun l m2 hl => ?_) fun _ _ z => qx_ext e1 z)
  intro S2 H2 ρ2 e2 M2
  refine jh.run M2 ((E.mono e1).mono e2) (wpr_mono (wpr_bnd hl) (fun u m3 hu => ?_) fun _ _ z => qx_ext (e1.trans e2) z)
  intro S3 H3 ρ3 e3 M3
  have e03 := (e1.trans e2).trans e3
  have rx3 := rx.mono (e2.trans e3)
  unfold cutVl at hu
  split at hu
  · cases rx3 with
    | tup hq hr =>
      rename_i ad vs
      refine .inl ⟨ad, vs, rfl, Same.seqT M3.sub hq, fun hw => ?_, fun hw p hp => ?_⟩
      · rw [cutD_whole _ _ _ (by rw [← hr.length]; exact hw)] at hu
        exact hu S3 H3 ρ3 _ e03 M3 (.tup hq hr)
      · obtain ⟨s1, M4⟩ := M3.grow hp (.tup (cutV vs l u))
        exact hu _ _ ρ3 _ (e03.trans ⟨s1, fun _ _ z => z⟩) M4 (.tup (.inl (.inl upd_same)) ((rpAll_cut hr l u).mono s1))
  · cases rx3 with
    | scr q =>
      exact .inr ⟨_, _, rfl, M3.sub.seq q, fun p hp => frs_ok M3 (rpAll_cut (rpAll_ints _) l u) e03 hu p hp⟩
  · split at hu
    · rename_i xs hx
      obtain ⟨ad, vs, rfl, h1, r1⟩ := rdL_ok M3 rx3 hx
      exact .inr ⟨ad, vs, rfl, .inl (.inl h1), fun p hp => frs_ok M3 (rpAll_cut r1 l u) e03 hu p hp⟩
    · exact hu.elim⟩
theorem rpAll_rev {Γ : Gd} {S : Hp} : ∀ {vs : List V} {ds : List D}, RpAll Γ S vs ds → RpAll Γ S vs.reverse ds.reverse
  | _, _, .nil => .nil
  | _, _, .cons h r => by
    rw [List.reverse_cons, List.reverse_cons]
    exact (rpAll_rev r).append (.cons h .nil)
inductive Gk (K : PySem.W.Frag) : V → D → Prop
  | non : Gk K .non .non
  | bl (b : Bool) : Gk K (.bl b) (.bl b)
  | int (i : Int) : Gk K (.int i) (.int i)
  | str (x : Str) : Gk K (.str x) (.str x)
inductive GkAll (K : PySem.W.Frag) : List V → List D → Prop
  | nil : GkAll K [] []
  | cons {v : V} {vs : List V} {d : D} {ds : List D} : Gk K v d → GkAll K vs ds → GkAll K (v :: vs) (d :: ds)
theorem GkAll.rp {Γ : Gd} {S : Hp} {K : PySem.W.Frag} : ∀ {vs : List V} {ds : List D}, GkAll K vs ds → RpAll Γ S vs ds
  | _, _, .nil => .nil
  | _, _, .cons h r => .cons (by cases h <;> constructor) (GkAll.rp r)
def gvD : D → He.Dv
  | .bl b => .bl b
  | .int i => .int i
  | .str x => .str x
  | _ => .non
end
def exG (n : Nat) (fa : List He.Fa) (fn : List He.DefD) (ex : PySem.W.Frag → Bool) (g : Addr → Option Obj) : He.AlD × Bool := (He.obsDG n fa fn g, ex (He.frG g (He.asD g n)))
def hookX (n : Nat) (fa : List He.Fa) (fn : List He.DefD) (ex : PySem.W.Frag → Bool) : PySem.W.Hook where
  α := He.AlD × Bool
  obs := fun s => exG n fa fn ex s.heap.get?
  val := fun _ => (He.valD fn, true)
  says := fun _ h => ∃ K : PySem.W.Frag, K.In h ∧ He.SaysD fa fn K ∧ ex K = true
  of := fun _ _ e => ⟨_, He.frG_in, congrArg Prod.fst e, congrArg Prod.snd e⟩
  keeps := fun _ _ _ ⟨K, hK, c⟩ k => ⟨K, PySem.W.Frag.In.keeps hK k, c⟩
theorem exG_eq {n : Nat} {fa : List He.Fa} {fn : List He.DefD} {ex : PySem.W.Frag → Bool} {g : Addr → Option Obj} {s : Shared} (h : ∀ a, g a = s.heap.get? a) : exG n fa fn ex g = (hookX n fa fn ex).obs s := by
  have e : g = s.heap.get? := funext h
  rw [e] <;> rfl
@[simp] theorem asIs_ints : ∀ xs : List Int, asIs (xs.map D.int) = some xs
  | [] => rfl
  | x :: r => by simp [asIs, asIs_ints r]
@[simp] theorem asBs_bls : ∀ xs : List Bool, asBs (xs.map D.bl) = some xs
  | [] => rfl
  | x :: r => by simp [asBs, asBs_bls r]
@[simp] theorem eqV_lstI (xs ys : List Int) (m : Mem) : PL.eqV (.dat (.lst (xs.map D.int))) (.dat (.lst (ys.map D.int))) m = .ok (.dat (.bl (decide (xs = ys)))) m := by simp [PL.eqV, svD, okD_ints, eqd_ints]
@[simp] theorem neV_lstI (xs ys : List Int) (m : Mem) : PL.neV (.dat (.lst (xs.map D.int))) (.dat (.lst (ys.map D.int))) m = .ok (.dat (.bl (!decide (xs = ys)))) m := by simp [PL.neV, svD, okD_ints, eqd_ints]
end PL
namespace PL
open PySem PySem.Spec PyProof.Rows L2
def SqK (k : Bool) (K : PySem.W.Frag) (H : Hp) (a : Addr) (xs : List V) : Prop := match k with
  | true => SqT K H a xs
  | false => SqL K H a xs
def ItK (k : Bool) (h : Heap) (it l : Addr) (i : Nat) : Prop := match k with
  | true => h.IsTupleIter it l i
  | false => h.IsListIter it l i
def IsK (k : Bool) (h : Heap) (l : Addr) (its : Array Value) : Prop := match k with
  | true => h.IsTuple l its
  | false => h.IsList l its
def itO (k : Bool) (l : Addr) : Obj := match k with
  | true => { cls := .type "tuple_iterator", data := .fields #[.ref l, .int 0 0] }
  | false => { cls := .type "list_iterator", data := .fields #[.ref l, .int 0 0] }
theorem ItK.at {k : Bool} {h h' : Heap} {it l : Addr} {i : Nat} (x : ItK k h it l i) (f : ∀ o, h.get? it = some o → h'.get? it = some o) : ItK k h' it l i := by
  cases k with
  | true => exact Heap.IsTupleIter.at x f
  | false => exact Heap.IsListIter.at x f
theorem ItK.obj {k : Bool} {h : Heap} {it l : Addr} {i : Nat} (x : ItK k h it l i) : ∃ o, h.get? it = some o ∧ ∀ v, o.data ≠ .cell v := by
  cases k with
  | true => obtain ⟨o, e, _, d⟩ := x; exact ⟨o, e, fun v q => by rw [d] at q; cases q⟩
  | false => obtain ⟨o, e, _, d⟩ := x; exact ⟨o, e, fun v q => by rw [d] at q; cases q⟩
theorem ItK.new {k : Bool} {h : Heap} {it l : Addr} (e : h.get? it = some (itO k l)) : ItK k h it l 0 := by
  cases k with
  | true => exact ⟨_, e, rfl, rfl⟩
  | false => exact ⟨_, e, rfl, rfl⟩
theorem drawsK {prog : Program} {w : World} {A : Around} (hh : A.handled = none) (k : Bool) (it l : Addr) (hne : l ≠ it) (items : Array Value) :
    Draws prog w A it [it, l] items.size (fun i v => items[i]? = some v) (fun i h => ItK k h it l i ∧ IsK k h l items) := by
  cases k with
  | true => exact Draws.tuple hh it l hne items
  | false => exact Draws.list hh it l hne items
theorem beginsK (k : Bool) (l : Addr) (items : Array Value) : Begins (.ref l) (itO k l) fun h => IsK k h l items := by
  cases k with
  | true => exact begins_tuple l items
  | false => exact begins_list l items
theorem Inv.seqK {X : Cx} {pins : List (Addr × Obj)} {σ : St} {H : Hp} {s : Shared} {k : Bool} {a : Addr} {xs : List V} (I : Inv X pins σ H s) (h : SqK k X.K H a xs) : ∃ its, Vals xs its ∧ IsK k s.heap a its.toArray ∧ a < s.heap.objs.size := by
  cases k with
  | true => obtain ⟨its, rv, p, _⟩ := I.tuple h; exact ⟨its, rv, p, by obtain ⟨_, e, _⟩ := p; exact Heap.lt_size e⟩
  | false => obtain ⟨its, rv, p, _⟩ := I.list h; exact ⟨its, rv, p.isList, p.lt⟩
theorem Inv.seqK_inj {X : Cx} {pins : List (Addr × Obj)} {σ : St} {H : Hp} {s : Shared} {k : Bool} {a : Addr} {xs ys : List V} (I : Inv X pins σ H s) (h : SqK k X.K H a xs) (h' : SqK k X.K H a ys) : xs = ys := by
  cases k with
  | true => exact I.tuple_inj h h'
  | false => exact I.list_inj h h'
def ItZ2 (K : PySem.W.Frag) (k1 k2 : Bool) (a b : Addr) : It :=
  ⟨fun i H => ∃ (xs ys : List V) (x y : V), SqK k1 K H a xs ∧ SqK k2 K H b ys ∧ xs[i]? = some x ∧ ys[i]? = some y,
    fun i H v H' => ∃ T x y, v = .ref T ∧ H T = none ∧ H' = upd H T (.tup [x, y]) ∧ (∀ xs, SqK k1 K H a xs → xs[i]? = some x) ∧ ∀ ys, SqK k2 K H b ys → ys[i]? = some y,
    fun i H => ∃ xs ys : List V, SqK k1 K H a xs ∧ SqK k2 K H b ys ∧ i ≤ xs.length ∧ i ≤ ys.length ∧ (i = xs.length ∨ i = ys.length)⟩
theorem turn_Z2 {P : Program} {w : World} {K : PySem.W.Frag} {elts : List Expr} {kk : Nat} {tpos : Pos} {k1 k2 : Bool} {a b z TI TO i1 i2 : Addr} (D : ZipSep2 z TI TO i1 i2 [i1, a] [i2, b]) (n1 : a ≠ i1) (n2 : b ≠ i2) :
    Turn P w K (.Tuple elts kk tpos) (ItZ2 K k1 k2 a b) [z, TI, TO, i1, i2] z (fun i h => IsZip h z TI TO .none ∧ IsTupOf2 h TI (.ref i1) (.ref i2) ∧ (∃ x y, IsTupOf2 h TO x y) ∧ ItK k1 h i1 a i ∧ ItK k2 h i2 b i) where
  mem := by simp
  obj := fun i h st c hc => by
    obtain ⟨hz, hTI, ⟨x, y, hTO⟩, h1, h2⟩ := st
    have e' : c = z ∨ c = TI ∨ c = TO ∨ c = i1 ∨ c = i2 := by simpa using hc
    rcases e' with q | q | q | q | q
    · rw [q]; exact ⟨_, hz, fun v q => nomatch q⟩
    · rw [q]; exact ⟨_, hTI, fun v q => nomatch q⟩
    · rw [q]; exact ⟨_, hTO, fun v q => nomatch q⟩
    · rw [q]; exact h1.obj
    · rw [q]; exact h2.obj
  keep := fun i h h' st k => by
    obtain ⟨hz, hTI, ⟨x, y, hTO⟩, h1, h2⟩ := st
    exact ⟨k z (by simp) _ hz, k TI (by simp) _ hTI, ⟨x, y, k TO (by simp) _ hTO⟩, h1.at fun o q => k i1 (by simp) o q, h2.at fun o q => k i2 (by simp) o q⟩
  item := by
    intro X hP hw hK hc i pins s σ H E I hf st hg
    subst hP hw hK
    obtain ⟨hz, hTI, ⟨x0, y0, hTO⟩, h1, h2⟩ := st
    obtain ⟨xs, ys, x, y, hqx, hqy, hx, hy⟩ := hg
    obtain ⟨its, rv, p, _⟩ := Inv.seqK I hqx
    obtain ⟨its2, rv2, p2, _⟩ := Inv.seqK I hqy
    obtain ⟨u, hu, ru⟩ := rv.get hx
    obtain ⟨u2, hu2, ru2⟩ := rv2.get hy
    have hzl : z < s.heap.objs.size := Heap.lt_size hz
    have hh : X.A.in1.handled = none := I.ok.hd hc
    have lt1 : i < its.toArray.size := by have := (List.getElem?_eq_some_iff.mp hu).1; simpa using this
    have lt2 : i < its2.toArray.size := by have := (List.getElem?_eq_some_iff.mp hu2).1; simpa using this
    refine wpAny_pyNext_zipD2_item D (drawsK hh k1 i1 a n1 its.toArray) (drawsK hh k2 i2 b n2 its2.toArray) hz hTI hTO ⟨h1, p⟩ ⟨h2, p2⟩ lt1 lt2 fun v1 v2 h' tk q1 q2 z' TO' h1' h2' hT hsz hk => ?_
    have e1 : v1 = u := by
      have : its[i]? = some v1 := by simpa using q1
      rw [hu] at this
      exact (Option.some.inj this).symm
    have e2 : v2 = u2 := by
      have : its2[i]? = some v2 := by simpa using q2
      rw [hu2] at this
      exact (Option.some.inj this).symm
    subst e1 e2
    refine ⟨_, rfl, wpAny_letOwnedTupleGo_zip (s := { s with heap := h', toks := tk }) z' fun h'' z'' sb => ?_⟩
    have hT2 : h''.get? s.heap.objs.size = some { cls := .type "tuple", data := .seq #[v1, v2] } := (sb.2 _ (Nat.ne_of_gt hzl)).trans hT
    have new : ObjOk X.prog X.w (upd H s.heap.objs.size (.tup [x, y])) h'' s.heap.objs.size (.tup [x, y]) :=
      ⟨by show 2 ≤ sizeLine; decide, [v1, v2], .cons ru (.cons ru2 .nil), ⟨_, hT2, rfl, _, rfl⟩⟩
    have I1 : Inv X pins σ (upd H s.heap.objs.size (.tup [x, y])) { s with heap := h'', toks := tk } :=
      I.turnedNew (ch := [z, TI, TO, i1, i2]) (fun c o hb q => (sb.2 c (fun q' => hb (by simp [q']))).trans (hk c o (fun q' => hb (by simp [q'])) (fun q' => hb (by simp [q'])) (fun q' => hb (by simp [q'])) (fun q' => hb (by simp [q'])) q)) hf (Nat.le_refl _) new
    refine ⟨.ref s.heap.objs.size, _, I1, rfl, ⟨_, x, y, rfl, I.hok.fresh (Nat.le_refl _), rfl, fun l hl => by rw [Inv.seqK_inj I hl hqx]; exact hx, fun l hl => by rw [Inv.seqK_inj I hl hqy]; exact hy⟩, ⟨z'', ?_, ⟨v1, v2, ?_⟩, ?_, ?_⟩, fun c hcm => ?_⟩
    · exact (sb.2 _ D.TIz).trans (hk _ _ D.TIz D.TITO D.TIi1 D.TIi2 hTI)
    · exact (sb.2 _ D.TOz).trans TO'
    · exact h1'.1.at fun o q => (sb.2 _ (Ne.symm D.zi1)).trans q
    · exact h2'.1.at fun o q => (sb.2 _ (Ne.symm D.zi2)).trans q
    · have hlt : c < s.heap.objs.size := by
        have e' : c = z ∨ c = TI ∨ c = TO ∨ c = i1 ∨ c = i2 := by simpa using hcm
        rcases e' with q | q | q | q | q
        · rw [q]; exact hzl
        · rw [q]; exact Heap.lt_size hTI
        · rw [q]; exact Heap.lt_size hTO
        · rw [q]; obtain ⟨_, e1, _⟩ := h1.obj; exact Heap.lt_size e1
        · rw [q]; obtain ⟨_, e2, _⟩ := h2.obj; exact Heap.lt_size e2
      rw [upd_ne (Nat.ne_of_lt hlt)]
      exact (hf c hcm).1
  done := by
    intro X hP hw hK hc i pins s σ H E I hf st hg
    subst hP hw hK
    obtain ⟨hz, hTI, ⟨x0, y0, hTO⟩, h1, h2⟩ := st
    obtain ⟨xs, ys, hqx, hqy, le1, le2, hend⟩ := hg
    obtain ⟨its, rv, p, _⟩ := Inv.seqK I hqx
    obtain ⟨its2, rv2, p2, _⟩ := Inv.seqK I hqy
    have l1 := rv.length
    have l2 := rv2.length
    have hh : X.A.in1.handled = none := I.ok.hd hc
    exact wpAny_pyNext_zipD2_end D (drawsK hh k1 i1 a n1 its.toArray) (drawsK hh k2 i2 b n2 its2.toArray) hz hTI hTO ⟨h1, p⟩ ⟨h2, p2⟩ (by simp; omega) (by simp; omega) (by simp; omega) fun h' tk hk => ⟨rfl, I.turnedL (ch := [z, TI, TO, i1, i2]) (fun c o hb q =>
      hk c o (fun q' => hb (by simp [q'])) (fun q' => hb (by simp [q'])) (fun q' => hb (by simp [q'])) (fun q' => hb (by simp [q'])) q) hf⟩
  self := fun A i s Q E st h => wpAny_pyIter_zip st.1 h
def ItE (K : PySem.W.Frag) (k : Bool) (a : Addr) : It :=
  ⟨fun i H => ∃ (xs : List V) (x : V), SqK k K H a xs ∧ xs[i]? = some x,
    fun i H v H' => ∃ T x, v = .ref T ∧ H T = none ∧ H' = upd H T (.tup [.int (i : Nat), x]) ∧ ∀ xs, SqK k K H a xs → xs[i]? = some x,
    fun i H => ∃ xs : List V, SqK k K H a xs ∧ i = xs.length⟩
theorem turn_E {P : Program} {w : World} {K : PySem.W.Frag} {elts : List Expr} {kk : Nat} {tpos : Pos} {k : Bool} {a e it : Addr} (hne : e ≠ it) (hea : e ≠ a) (n1 : a ≠ it) :
    Turn P w K (.Tuple elts kk tpos) (ItE K k a) [e, it] e (fun i h => (∃ old, IsEnum h e it ((i : Nat) : Int) old) ∧ ItK k h it a i) where
  mem := by simp
  obj := fun i h st b hb => by
    obtain ⟨⟨old, he⟩, hi⟩ := st
    have e' : b = e ∨ b = it := by simpa using hb
    rcases e' with z | z
    · rw [z]; exact ⟨_, he, fun v q => nomatch q⟩
    · rw [z]; exact hi.obj
  keep := fun i h h' st k => let ⟨⟨old, he⟩, hi⟩ := st; ⟨⟨old, k e (by simp) _ he⟩, hi.at fun o q => k it (by simp) o q⟩
  item := by
    intro X hP hw hK hc i pins s σ H E I hf st hg
    subst hP hw hK
    obtain ⟨⟨old, he⟩, hit⟩ := st
    obtain ⟨xs, x, hq, hx⟩ := hg
    obtain ⟨its, rv, p, _⟩ := Inv.seqK I hq
    obtain ⟨u, hu, ru⟩ := rv.get hx
    have hel : e < s.heap.objs.size := Heap.lt_size he
    have hil : it < s.heap.objs.size := by obtain ⟨_, q, _⟩ := hit.obj; exact Heap.lt_size q
    have hh : X.A.in1.handled = none := I.ok.hd hc
    have lt1 : i < its.toArray.size := by have := (List.getElem?_eq_some_iff.mp hu).1; simpa using this
    refine wpAny_pyNext_enum_itemD (drawsK hh k it a n1 its.toArray) he ⟨hit, p⟩ lt1 hne (by simp [hne, hea]) fun v h' tk q1 ho hit' hT hsz hk => ?_
    have e1 : v = u := by
      have : its[i]? = some v := by simpa using q1
      rw [hu] at this
      exact (Option.some.inj this).symm
    subst e1
    refine ⟨_, rfl, wpAny_letOwnedTupleGo_enum (s := { s with heap := h', toks := tk + 1 }) ho fun h'' he' sb => ?_⟩
    have hT2 : h''.get? s.heap.objs.size = some { cls := .type "tuple", data := .seq #[.int i tk, v] } := (sb.2 _ (Nat.ne_of_gt hel)).trans hT
    have new : ObjOk X.prog X.w (upd H s.heap.objs.size (.tup [.int (i : Nat), x])) h'' s.heap.objs.size (.tup [.int (i : Nat), x]) :=
      ⟨by show 2 ≤ sizeLine; decide, [.int i tk, v], .cons ⟨_, rfl⟩ (.cons ru .nil), ⟨_, hT2, rfl, _, rfl⟩⟩
    have I1 : Inv X pins σ (upd H s.heap.objs.size (.tup [.int (i : Nat), x])) { s with heap := h'', toks := tk + 1 } :=
      I.turnedNew (ch := [e, it]) (fun b ob hb q => (sb.2 b (fun z => hb (by simp [z]))).trans (hk b ob (fun z => hb (by simp [z])) (fun z => hb (by simp [z])) q)) hf (Nat.le_refl _) new
    refine ⟨.ref s.heap.objs.size, _, I1, rfl, ⟨_, x, rfl, I.hok.fresh (Nat.le_refl _), rfl, fun ys hy => by rw [Inv.seqK_inj I hy hq]; exact hx⟩, ⟨⟨v, ?_⟩, hit'.1.at fun o q => (sb.2 it (Ne.symm hne)).trans q⟩, fun b hb => ?_⟩
    · have e1 : ((i + 1 : Nat) : Int) = (i : Int) + 1 := by omega
      rw [e1]; exact he'
    · have hb' : b < s.heap.objs.size := by
        have e' : b = e ∨ b = it := by simpa using hb
        rcases e' with z | z
        · rw [z]; exact hel
        · rw [z]; exact hil
      rw [upd_ne (Nat.ne_of_lt hb')]
      exact (hf b hb).1
  done := by
    intro X hP hw hK hc i pins s σ H E I hf st hg
    subst hP hw hK
    obtain ⟨⟨old, he⟩, hit⟩ := st
    obtain ⟨xs, hq, hx⟩ := hg
    obtain ⟨its, rv, p, hz⟩ := Inv.seqK I hq
    have hl := rv.length
    have hh : X.A.in1.handled = none := I.ok.hd hc
    obtain ⟨f0, f1, f2, f3, f4, f5⟩ := hf it (by simp)
    have ei : i = its.toArray.size := by simp; omega
    refine wpAny_pyNext_enum_endD (drawsK hh k it a n1 its.toArray) he ⟨by rw [← ei]; exact hit, p⟩ fun h' eb => ⟨rfl, I.turned (t' := s.toks) (fun b o hb q => eb b o hb q) f0 f1 f3 f4 f5⟩
  self := fun A i s Q E st h => let ⟨⟨_, he⟩, _⟩ := st; wpAny_pyIter_enum he h
end PL
namespace PL
open PySem PySem.Spec PyProof.Rows L2
def seqD (v : SV) : Option (Bool × List D) := match v with
  | .dat (.tup xs) => some (true, xs)
  | .dat (.lst xs) => some (false, xs)
  | .dat (.scr ns) => some (false, ns.map D.int)
  | _ => none
@[simp] theorem seqD_tup (xs : List D) : seqD (.dat (.tup xs)) = some (true, xs) := (rfl)
@[simp] theorem seqD_lst (xs : List D) : seqD (.dat (.lst xs)) = some (false, xs) := (rfl)
theorem seqD_ok {Γ : Gd} {S : Hp} {ρ : List Addr} {v : V} {x : SV} {k : Bool} {ds : List D} (r : RSV Γ S ρ v x) (h : seqD x = some (k, ds)) : ∃ a vs, v = .ref a ∧ SqK k Γ.K S a vs ∧ RpAll Γ S vs ds := by
  unfold seqD at h
  split at h
  · cases h
    cases r with
    | tup q z => exact ⟨_, _, rfl, q, z⟩
  · cases h
    cases r with
    | lst q z => exact ⟨_, _, rfl, .inl (.inl q), z⟩
  · cases h
    cases r with
    | scr q => exact ⟨_, _, rfl, q, rpAll_ints _⟩
  · cases h
theorem SqK.mono {K : PySem.W.Frag} {k : Bool} {S S' : Hp} {a : Addr} {vs : List V} (s : Same S S') (h : SqK k K S a vs) : SqK k K S' a vs := by
  cases k with
  | true => exact Same.seqT s h
  | false => exact s.seq h
def zipD2 (xs ys : List D) : List D := List.zipWith (fun x y => D.tup [x, y]) xs ys
theorem itS_zip2 {Γ : Gd} {S0 : Hp} {k1 k2 : Bool} {a b : Addr} {vs ws : List V} {xs ys : List D} (h1 : SqK k1 Γ.K S0 a vs) (r1 : RpAll Γ S0 vs xs) (h2 : SqK k2 Γ.K S0 b ws) (r2 : RpAll Γ S0 ws ys) : ItS Γ S0 (ItZ2 Γ.K k1 k2 a b) (zipD2 xs ys) := fun i {G S H ρ m} s M => by
  have q1 : SqK k1 Γ.K H a vs := (h1.mono s).mono M.sub
  have q2 : SqK k2 Γ.K H b ws := (h2.mono s).mono M.sub
  have l1 := r1.length
  have l2 := r2.length
  refine ⟨fun hi => ⟨vs, ws, q1, q2, ?_⟩, fun d hd => ?_⟩
  · simp [zipD2] at hi
    omega
  · unfold zipD2 at hd
    rw [List.getElem?_zipWith] at hd
    cases hx : xs[i]? with
    | none => rw [hx] at hd; simp at hd
    | some x =>
      cases hy : ys[i]? with
      | none => rw [hx, hy] at hd; simp at hd
      | some y =>
        rw [hx, hy] at hd
        simp at hd
        subst hd
        obtain ⟨v, hv, rv⟩ := r1.get hx
        obtain ⟨w, hw, rw'⟩ := r2.get hy
        refine ⟨⟨vs, ws, v, w, q1, q2, hv, hw⟩, fun z H' yl => ?_⟩
        obtain ⟨T, v', w', rfl, hT, rfl, f1, f2⟩ := yl
        have e1 := f1 vs q1
        have e2 := f2 ws q2
        rw [hv] at e1
        rw [hw] at e2
        cases e1
        cases e2
        obtain ⟨s1, M1⟩ := M.grow hT (.tup [v, w])
        exact ⟨_, ⟨s1, fun _ _ z => z⟩, M1, .tup (.inl (.inl upd_same)) (.cons (rv.mono (s.trans s1)) (.cons (rw'.mono (s.trans s1)) .nil))⟩
def enumD (xs : List D) : List D := xs.zipIdx.map fun p => D.tup [.int (p.2 : Int), p.1]
theorem itS_enum {Γ : Gd} {S0 : Hp} {k : Bool} {a : Addr} {vs : List V} {xs : List D} (h1 : SqK k Γ.K S0 a vs) (r1 : RpAll Γ S0 vs xs) : ItS Γ S0 (ItE Γ.K k a) (enumD xs) := fun i {G S H ρ m} s M => by
  have q1 : SqK k Γ.K H a vs := (h1.mono s).mono M.sub
  have l1 := r1.length
  refine ⟨fun hi => ⟨vs, q1, by simp [enumD] at hi; omega⟩, fun d hd => ?_⟩
  unfold enumD at hd
  rw [List.getElem?_map, List.getElem?_zipIdx] at hd
  cases hx : xs[i]? with
  | none => rw [hx] at hd; simp at hd
  | some x =>
    rw [hx] at hd
    simp at hd
    subst hd
    obtain ⟨v, hv, rv⟩ := r1.get hx
    refine ⟨⟨vs, v, q1, hv⟩, fun z H' yl => ?_⟩
    obtain ⟨T, v', rfl, hT, rfl, f1⟩ := yl
    have e1 := f1 vs q1
    rw [hv] at e1
    cases e1
    obtain ⟨s1, M1⟩ := M.grow hT (.tup [.int (i : Nat), v])
    exact ⟨_, ⟨s1, fun _ _ z => z⟩, M1, .tup (.inl (.inl upd_same)) (.cons (.int _) (.cons (rv.mono (s.trans s1)) .nil))⟩
def zip2V (xs : List SV) : P (List D) := fun m => match xs with
  | [x, y] => (match seqD x, seqD y with
    | some a, some b => .ok (zipD2 a.2 b.2) m
    | _, _ => .stuck)
  | _ => .stuck
def enumV (xs : List SV) : P (List D) := fun m => match xs with
  | [x] => (match seqD x with
    | some a => .ok (enumD a.2) m
    | _ => .stuck)
  | _ => .stuck
section
variable {X : Cx} {W : WX} {p pos tpos : Pos} {a b c : Expr} {elts : List Expr} {kk : Nat} {fs : En → P (List SV)}
theorem ji_zip2 (hg : Gl X "zip") (hm : X.mg "zip" = none) (ja : JA X W [a, b] fs) (hs : starEach [a, b] X.env = (false, eval a X.env) :: starEach [b] X.env := by rfl) (hpl : (backTo pos (starEach [b] X.env)).any (·.1) = false := by rfl) :
    JI X W (.Tuple elts kk tpos) (.Call (.Name "zip" p) [a, b] [] pos) (dAI zip2V fs) := ⟨fun {G S H ρ m env σ Rr} M E h pins s I => by
  refine Call_ (ld_blt I hg hm PyProof.Rows.boot_zip (PyProof.Rows.callWith_type1 (thn (ja.run (Q := fun vs H1 => ∃ a b k1 k2 xs ys, vs = [.ref a, .ref b] ∧ SqK k1 X.K H1 a xs ∧ SqK k2 X.K H1 b ys ∧ Rr (ItZ2 X.K k1 k2 a b) H1) M E (wpr_monoQ (wpr_bnd h) fun xs m1 hx => ?_) pos pins s I) fun us s1 ⟨vs, H1, I1, r1, q1⟩ => ?_) hs hpl))
  · intro S1 H1 ρ1 xv e1 M1 rx
    unfold zip2V at hx
    split at hx
    · rename_i x y
      obtain ⟨v, w', rfl, rv, rw'⟩ := paired2 rx
      split at hx
      · rename_i qa qb ea eb
        obtain ⟨ka, da⟩ := qa
        obtain ⟨kb, db⟩ := qb
        obtain ⟨a1, vs, rfl, h1, z1⟩ := seqD_ok rv ea
        obtain ⟨b1, ws, rfl, h2, z2⟩ := seqD_ok rw' eb
        exact ⟨a1, b1, ka, kb, vs, ws, rfl, h1.mono M1.sub, h2.mono M1.sub, hx S1 H1 ρ1 _ e1 M1 (itS_zip2 (Γ := gd X) h1 z1 h2 z2)⟩
      · exact hx.elim
    · exact hx.elim
  · obtain ⟨a1, b1, k1, k2, xs, ys, rfl, h1, h2, q⟩ := q1
    cases r1 with
    | cons r rr =>
      cases rr with
      | cons r' rr =>
        cases rr
        cases r
        cases r'
        obtain ⟨its, rv, p1, la⟩ := Inv.seqK I1 h1
        obtain ⟨its2, rv2, p2, lb⟩ := Inv.seqK I1 h2
        refine zip_begins2 (beginsK k1 a1 its.toArray) (beginsK k2 b1 its2.toArray) p1 p2 fun h' hz hTI hTO e1 e2 hsz hk => wpAny_pyIter_zip hz ?_
        have I2 : Inv X pins σ H1 { s1 with heap := h' } := I1.kept (t' := s1.toks) hk
        have one : ∀ {q : Addr}, q < s1.heap.objs.size → ∀ x ∈ [q], x < s1.heap.objs.size := fun {q} l x hx => by
          have e : x = q := by simpa using hx
          rw [e]; exact l
        refine ⟨s1.heap.objs.size + 4, [s1.heap.objs.size + 4, s1.heap.objs.size + 2, s1.heap.objs.size + 3, s1.heap.objs.size, s1.heap.objs.size + 1], _, _, H1, rfl, I2,
          turn_Z2 (zip_sep2 (N := s1.heap.objs.size) (fp1 := [a1]) (fp2 := [b1]) (one la) (one lb)) (Nat.ne_of_lt la) (Nat.ne_of_lt (Nat.lt_succ_of_lt lb)), ⟨hz, hTI, ⟨_, _, hTO⟩, ItK.new e1, ItK.new e2⟩, fun c hcm => ?_, q⟩
        have hle : s1.heap.objs.size ≤ c := by
          have e' : c = s1.heap.objs.size + 4 ∨ c = s1.heap.objs.size + 2 ∨ c = s1.heap.objs.size + 3 ∨ c = s1.heap.objs.size ∨ c = s1.heap.objs.size + 1 := by simpa using hcm
          rcases e' with z | z | z | z | z
          · rw [z]; exact Nat.le_add_right _ _
          · rw [z]; exact Nat.le_add_right _ _
          · rw [z]; exact Nat.le_add_right _ _
          · rw [z]; exact Nat.le_refl _
          · rw [z]; exact Nat.le_add_right _ _
        exact I1.fpOk hle (I1.hok.fresh hle)⟩
theorem meets_enumK {v : Value} {o : Obj} {H : Heap → Prop} (B : Begins v o H) :
    Meets (Builtin.«enumerate.__new__» ⟨[.type "enumerate", v], []⟩) (fun _ R s => H s.heap ∧
      R (.ok (.ret (.ref (s.heap.push o).objs.size))) { s with heap := (s.heap.push o).push { cls := .type "enumerate", data := .fields #[.none, .bool false, .ref s.heap.objs.size, rawInt 0, .none, .none] } }) :=
  .of_wp fun prog w A R s h => by
    obtain ⟨hp, g, d, tk, os⟩ := s; obtain ⟨h1, h⟩ := h
    have hsub := sub_enumerate
    have q1 : ∀ {A' : Around} {E : Value → Shared → Prop} {Q : Value → Shared → Prop}, Q (.ref hp.objs.size) ⟨hp.push o, g, d, tk, os⟩ → wpAny (model prog w) A' (pyIter v) Q E ⟨hp, g, d, tk, os⟩ :=
      fun q => B.iter prog w _ _ ⟨hp, g, d, tk, os⟩ _ h1 q
    wp_walk using q1
    refine wpAny_stack_any fun st => wpAny_pure ?_
    split
    · rename_i c _ _ _ _ _
      cases (c == Value.type "enumerate")
      · wp_walk using q1
        exact ⟨_, rfl, h⟩
      · wp_walk using q1
        exact ⟨_, rfl, h⟩
    · wp_walk using q1
      exact ⟨_, rfl, h⟩
theorem enum_begins1 {prog : Program} {w : World} {A : Around} {E : Value → Shared → Prop} {s : Shared} {v : Value} {o : Obj} {H : Heap → Prop} {Q : Value → Shared → Prop} (B : Begins v o H) (h1 : H s.heap)
    (h : ∀ h', IsEnum h' (s.heap.objs.size + 1) s.heap.objs.size 0 .none → h'.get? s.heap.objs.size = some o → h'.objs.size = s.heap.objs.size + 2 →
      (∀ b o, s.heap.get? b = some o → h'.get? b = some o) → Q (.ref (s.heap.objs.size + 1)) { s with heap := h' }) :
    wpAny (model prog w) A (call (.type "enumerate") [v]) Q E s := by
  refine callType_new F.called_enumerate (by decide) (F.typeCall_enumerate_1 _) (F.newCall_enumerate_1 _) (fun obj => F.args_object_init_2 obj _) F.entry_enumerate_new (meets_enumK B) ⟨h1, ?_⟩
  have hz : (s.heap.push o).objs.size = s.heap.objs.size + 1 := Heap.size_push ..
  show _ ∧ _
  rw [hz]
  have he : IsEnum ((s.heap.push o).push { cls := .type "enumerate", data := .fields #[.none, .bool false, .ref s.heap.objs.size, rawInt 0, .none, .none] }) (s.heap.objs.size + 1) s.heap.objs.size 0 .none := by
    have := Heap.get?_push_size (s.heap.push o) (o := { cls := .type "enumerate", data := .fields #[.none, .bool false, .ref s.heap.objs.size, rawInt 0, .none, .none] }) rfl
    rw [hz] at this; exact this
  refine ⟨⟨_, he, rfl⟩, h _ he (Heap.get?_push_of_some _ (Heap.get?_push_size _ B.free)) (by rw [Heap.size_push, hz]) fun b o x => Heap.get?_push_of_some _ (Heap.get?_push_of_some _ x)⟩
theorem ji_enum (hg : Gl X "enumerate") (hm : X.mg "enumerate" = none) (ja : JA X W [a] fs) (hs : starEach [a] X.env = [(false, eval a X.env)] := by rfl) :
    JI X W (.Tuple elts kk tpos) (.Call (.Name "enumerate" p) [a] [] pos) (dAI enumV fs) := ⟨fun {G S H ρ m env σ Rr} M E h pins s I => by
  refine Call_ (ld_blt I hg hm boot_enumerate (PyProof.Rows.callWith_type1 (thn (ja.run (Q := fun vs H1 => ∃ a k xs, vs = [.ref a] ∧ SqK k X.K H1 a xs ∧ Rr (ItE X.K k a) H1) M E (wpr_monoQ (wpr_bnd h) fun xs m1 hx => ?_) pos pins s I) fun us s1 ⟨vs, H1, I1, r1, q1⟩ => ?_) hs rfl))
  · intro S1 H1 ρ1 xv e1 M1 rx
    unfold enumV at hx
    split at hx
    · rename_i x
      obtain ⟨v, rfl, rv⟩ := paired1 rx
      split at hx
      · rename_i qa ea
        obtain ⟨ka, da⟩ := qa
        obtain ⟨a1, vs, rfl, h1, z1⟩ := seqD_ok rv ea
        exact ⟨a1, ka, vs, rfl, h1.mono M1.sub, hx S1 H1 ρ1 _ e1 M1 (itS_enum (Γ := gd X) h1 z1)⟩
      · exact hx.elim
    · exact hx.elim
  · obtain ⟨a1, k1, xs, rfl, h1, q⟩ := q1
    cases r1 with
    | cons r rr =>
      cases rr
      cases r
      obtain ⟨its, rv, p1, la⟩ := Inv.seqK I1 h1
      refine enum_begins1 (beginsK k1 a1 its.toArray) p1 fun h' he e1 hsz hk => wpAny_pyIter_enum he ?_
      have I2 : Inv X pins σ H1 { s1 with heap := h' } := I1.kept (t' := s1.toks) hk
      refine ⟨s1.heap.objs.size + 1, [s1.heap.objs.size + 1, s1.heap.objs.size], _, _, H1, rfl, I2, turn_E (k := k1) (a := a1) (Nat.succ_ne_self _) (Ne.symm (Nat.ne_of_lt (Nat.lt_succ_of_lt la))) (Nat.ne_of_lt la), ⟨⟨.none, he⟩, ItK.new e1⟩, fun b hb => ?_, q⟩
      have e' : b = s1.heap.objs.size + 1 ∨ b = s1.heap.objs.size := by simpa using hb
      have hle : s1.heap.objs.size ≤ b := by
        rcases e' with z | z
        · rw [z]; exact Nat.le_add_right _ _
        · rw [z]; exact Nat.le_refl _
      exact I1.fpOk hle (I1.hok.fresh hle)⟩
end
end PL
namespace PL
open PySem PySem.Spec PyProof.Rows L2
section
variable {prog : Program} {w : World} {A : Around} {E : Value → Shared → Prop} {s : Shared}
theorem adjust_rev (n : Nat) : Builtin.Slice.sliceAdjust none none (-1) (n : Int) = ((n : Int) - 1, -1) := by
  unfold Builtin.Slice.sliceAdjust
  simp
theorem places_rev (n : Nat) : Builtin.Slice.slicePlaces ((n : Int) - 1) (-1) (-1) = n := by
  unfold Builtin.Slice.slicePlaces
  simp
  split <;> omega
theorem sliceApplied_rev {sl : Addr} {tk : Tok} {n : Nat} {Q : Int × Int × Nat → Shared → Prop} (hs : s.heap.IsSliceOf sl .none .none (.int (-1) tk))
    (h : Q ((n : Int) - 1, -1, n) s) : wpAny (model prog w) A (Builtin.Slice.sliceApplied (.ref sl) (pure (n : Int))) Q E s := by
  obtain ⟨os, hos, hcs, hds⟩ := id hs
  unfold Builtin.Slice.sliceApplied Builtin.Slice.sliceFields
  refine wpAny_bind (wpAny_bind (wpAny_field hos hds (x := .none) rfl (wpAny_bind (wpAny_field hos hds (x := .none) rfl (wpAny_bind (wpAny_field hos hds (x := .int (-1) tk) rfl (wpAny_pure ?_)))))))
  refine wpAny_bind (slicePart_int ?_)
  show wpAny _ _ (if ((-1 : Int) == 0) = true then _ else _) _ _ s
  rw [if_neg (by decide)]
  refine wpAny_bind (slicePart_none (wpAny_bind (slicePart_none (wpAny_bind (wpAny_pure ?_)))))
  show wpAny _ _ (match Builtin.Slice.sliceAdjust none none (-1) (n : Int) with | (lo, hi) => pure (lo, (-1 : Int), Builtin.Slice.slicePlaces lo hi (-1))) _ _ s
  rw [adjust_rev n]
  show wpAny _ _ (pure ((n : Int) - 1, (-1 : Int), Builtin.Slice.slicePlaces ((n : Int) - 1) (-1) (-1))) _ _ s
  rw [places_rev]
  exact wpAny_pure h
theorem pick_rev (xs : Array Value) : ((List.range xs.size).filterMap fun (m : Nat) => xs[(((xs.size : Int) - 1) + (m : Int) * (-1)).toNat]?).toArray = xs.toList.reverse.toArray := by
  congr 1
  have key : ∀ l : List Nat, (∀ m ∈ l, m < xs.size) → l.filterMap (fun (m : Nat) => xs[(((xs.size : Int) - 1) + (m : Int) * (-1)).toNat]?) = l.map fun m => xs.toList.reverse.getD m .none := by
    intro l
    induction l with
    | nil => intro _; rfl
    | cons m r ih =>
      intro h
      have hm := h m List.mem_cons_self
      have e : (((xs.size : Int) - 1) + (m : Int) * (-1)).toNat = xs.size - 1 - m := by omega
      have hlt : xs.size - 1 - m < xs.size := by omega
      have e2 : xs[xs.size - 1 - m]? = some (xs.toList.reverse.getD m .none) := by
        rw [List.getD_eq_getElem?_getD, List.getElem?_reverse (by simpa using hm)]
        rw [Array.getElem?_eq_getElem hlt]
        simp [hlt]
      rw [List.filterMap_cons, e, e2, List.map_cons, ih fun q hq => h q (List.mem_cons_of_mem _ hq)]
  rw [key _ fun m hm => List.mem_range.mp hm]
  apply List.ext_getElem?
  intro i
  by_cases hi : i < xs.size
  · rw [List.getElem?_map, List.getElem?_range hi]
    simp [List.getD_eq_getElem?_getD, hi]
  · rw [List.getElem?_eq_none (by simpa using hi), List.getElem?_eq_none (by simpa using hi)]
theorem getItem_tuple_rev {t sl : Addr} {tk : Tok} {items : Array Value} {Q : Value → Shared → Prop} (ht : IsTup s.heap t items) (hs : s.heap.IsSliceOf sl .none .none (.int (-1) tk))
    (h : Q (.ref s.heap.objs.size) { s with heap := s.heap.push { cls := .type "tuple", data := .seq items.toList.reverse.toArray } }) (hsz : items.size ≤ sizeLine) : wpAny (model prog w) A (getItem (.ref t) (.ref sl)) Q E s := by
  have htake : sizeOk (.seq items.toList.reverse.toArray) := by
    show items.toList.reverse.toArray.size ≤ sizeLine
    simpa using hsz
  obtain ⟨os, hos, hcs, hds⟩ := id hs
  have hTs : s.TypeIs (.ref sl) "slice" := ⟨os, hos, hcs⟩
  unfold getItem
  try with_reducible refine wpAny_holding ?_
  first | refine wpAny_bind (wpAny_pure ?_) | skip
  refine wpAny_bind (wpAny_sequenceKey ht.typeIs (by decide) ?_)
  refine wpAny_bind (wpAny_callSpecial?_slot (name := Str.ofString "__getitem__") ht.typeIs PyProof.Rows.slot_tuple_getitem
    (wpAny_call_entry PyProof.Rows.slot_tuple_getitem ht.typeIs entry_tuple_getitem ?_ (args_tuple_getitem _ _)))
  show wpAny _ _ (Builtin.Tuple.tupleItemsOf (.ref t) >>= _) _ _ s
  refine wpAny_bind (tupleItemsOf_ ht ?_)
  refine wpAny_bind (wpAny_typeOf hTs ?_)
  rw [if_pos (by decide)]
  refine wpAny_bind (sliceApplied_rev hs ?_)
  have hno : ¬ ((((items.size : Int) - 1) == 0 && (-1 : Int) == 1 && items.size == items.size) = true) := by simp
  show wpAny _ _ (if (((items.size : Int) - 1) == 0 && (-1 : Int) == 1 && items.size == items.size) = true then _ else _) _ _ s
  rw [if_neg hno, pick_rev]
  first
    | exact wpAny_bind (m := Builtin.Tuple.tupleExact _) (wpAny_newObj_type (wpAny_pure ⟨_, rfl, wpAny_pure h⟩) htake)
    | exact wpAny_bind (m := Builtin.Tuple.tupleExact _) (wpAny_newObj_type (wpAny_bind (wpAny_pure (wpAny_pure ⟨_, rfl, wpAny_pure h⟩))) htake)
    | exact wpAny_bind (wpAny_bind (m := Builtin.Tuple.tupleExact _) (wpAny_newObj_type (wpAny_pure (wpAny_pure ⟨_, rfl, wpAny_pure h⟩)) htake))
    | exact wpAny_bind (wpAny_bind (m := Builtin.Tuple.tupleExact _) (wpAny_newObj_type (wpAny_pure ⟨_, rfl, wpAny_pure h⟩) htake))
end
section
variable {X : Cx} {W : WX} {pos : Pos} {a e : Expr} {es : List Expr} {fa : En → P SV} {fs : En → P (List SV)}
def revA (own : Bool) (v : SV) : P SV := fun m => match v with
  | .dat (.tup xs) => .ok (.dat (.tup xs.reverse)) m
  | v => (match rdL v m with
    | some xs => frs own xs.reverse m
    | none => .stuck)
@[simp] theorem revA_tup (own : Bool) (xs : List D) (m : Mem) : revA own (.dat (.tup xs)) m = .ok (.dat (.tup xs.reverse)) m := (rfl)
@[simp] theorem revA_lst (own : Bool) (xs : List D) (m : Mem) : revA own (.dat (.lst xs)) m = frs own xs.reverse m := (rfl)
theorem pe_revX {te : TE} {k : Nat} {p1 p2 p3 : Pos} (he : PE X e te) : PE X (.Subscript e (.Slice none none (some (.UnaryOp .USub (.Constant (.int 1) k p1) p2)) p3) pos)
    (fun σ H Q => te σ H fun x H1 => ∃ a xs, x = .ref a ∧ ((SqL X.K H1 a xs ∧ ∀ p, H1 p = none → Q (.ref p) (upd H1 p (.lst xs.reverse))) ∨ (SqT X.K H1 a xs ∧ ∀ p, H1 p = none → Q (.ref p) (upd H1 p (.tup xs.reverse))))) := by
  refine ⟨fun pins s σ H Q I h => ?_⟩
  refine Subscript_ (thn (he.run pins s σ H _ I h) fun v s1 ⟨x, H1, I1, r1, q1⟩ => ?_)
  obtain ⟨a, xs, ex, hx⟩ := q1
  subst ex
  cases r1
  have hst : PO X (some (.UnaryOp .USub (.Constant (.int 1) k p1) p2)) (tPart (tUn (rU fun i => .int (-i)) (tC (.int 1)))) := po_some (pe_un un_neg pe_int)
  refine wpAny_Slice (thn (po_none.run pins s1 σ H1 (fun o H2 => o = none ∧ H2 = H1) I1 ⟨rfl, rfl⟩) fun vl s2 ⟨l, H2, I2, pl, el, e2⟩ => ?_)
  subst el e2
  refine thn (po_none.run pins s2 σ H2 (fun o H3 => o = none ∧ H3 = H2) I2 ⟨rfl, rfl⟩) fun vu s3 ⟨u, H3, I3, pu, eu, e3⟩ => ?_
  subst eu e3
  refine thn (hst.run pins s3 σ H3 (fun o H4 => o = some (-1) ∧ H4 = H3) I3 ⟨1, rfl, -1, rfl, rfl, rfl⟩) fun vs s4 ⟨o, H4, I4, ps, eo, e4⟩ => ?_
  subst eo e4
  have I5 : Inv X pins σ H4 { s4 with heap := s4.heap.push { cls := .type "slice", data := .fields #[vl, vu, vs] } } := I4.kept (t' := s4.toks) fun b ob q => Heap.get?_push_of_some _ q
  rcases hx with ⟨hx, q⟩ | ⟨hx, q⟩
  · obtain ⟨its, r, ht, hz⟩ := I5.list hx
    have hlen := r.length
    refine tail_any (ops := [.ref a, .ref s4.heap.objs.size]) ht.isList.typeIs (PySem.slot_list_getitem.lookup) ?_ (by with_unfolding_all rfl)
    refine wpAny_getItem_list_slice ht.isList (Heap.IsSliceOf.new _ vl vu vs) pl pu ps (by decide) ?_ (by rw [List.size_toArray]; omega)
    rw [PySem.W.krv_pick]
    refine ⟨.ref _, _, I5.laid (t' := s4.toks) (o := .lst xs.reverse) (fun b ob q => Heap.get?_push_of_some _ q) (Nat.le_refl _) ?_, rfl, q _ (I5.hok.fresh (Nat.le_refl _))⟩
    exact ⟨by rw [List.length_reverse]; exact hz, _, 0, r.reverse, Heap.get?_push_size _ rfl⟩
  · obtain ⟨its, r, ht, hz⟩ := I5.tuple hx
    have hlen := r.length
    refine tail_any (ops := [.ref a, .ref s4.heap.objs.size]) ht.typeIs (PyProof.Rows.slot_tuple_getitem.lookup) ?_ (by with_unfolding_all rfl)
    cases pl
    cases pu
    cases ps with
    | int i tk =>
      refine getItem_tuple_rev (tk := tk) ht (Heap.IsSliceOf.new _ .none .none _) ?_ (by rw [List.size_toArray]; omega)
      refine ⟨.ref _, _, I5.laid (t' := s4.toks) (o := .tup xs.reverse) (fun b ob q => Heap.get?_push_of_some _ q) (Nat.le_refl _) ?_, rfl, q _ (I5.hok.fresh (Nat.le_refl _))⟩
      exact ⟨by rw [List.length_reverse]; exact hz, its.reverse, r.reverse, IsTup.new _ _⟩
theorem je_rev {own : Bool} {k : Nat} {p1 p2 p3 : Pos} (ja : JE X W a fa) : JE X W (.Subscript a (.Slice none none (some (.UnaryOp .USub (.Constant (.int 1) k p1) p2)) p3) pos) (d1 (revA own) fa) := ⟨fun {G S H ρ m env σ Q} M E h => by
  refine we_of (pe_revX pe_we) (ja.run M E (wpr_monoQ (wpr_bnd h) fun v m1 hv => ?_))
  intro S1 H1 ρ1 xv e1 M1 rx
  unfold revA at hv
  split at hv
  · cases rx with
    | tup hq hr =>
      refine ⟨_, _, rfl, .inr ⟨Same.seqT M1.sub hq, fun p hp => ?_⟩⟩
      rename_i ad vs
      obtain ⟨s1, M2⟩ := M1.grow hp (.tup vs.reverse)
      exact hv _ _ ρ1 _ (e1.trans ⟨s1, fun _ _ z => z⟩) M2 (.tup (.inl (.inl upd_same)) ((rpAll_rev hr).mono s1))
  · split at hv
    · rename_i xs hx
      obtain ⟨ad, vs, rfl, h1, r1⟩ := rdL_ok M1 rx hx
      exact ⟨ad, vs, rfl, .inl ⟨.inl (.inl h1), fun p hp => frs_ok M1 (rpAll_rev r1) e1 hv p hp⟩⟩
    · exact hv.elim⟩
def setAll (env : En) : List Nat → List SV → En
  | i :: is, v :: vs => setAll (env.set i (some v)) is vs
  | _, _ => env
structure JN (X : Cx) (es : List Expr) (is : List Nat) : Prop where
  run : ∀ {S : Hp} {ρ : List Addr} {env : En} {σ : St} {H : Hp} {vs : List V} {xs : List SV} {Q : St → Hp → Prop}, ER (gd X) S ρ env σ → Paired (RSV (gd X) S ρ) vs xs → xs.length = is.length →
    (∀ σ', ER (gd X) S ρ (setAll env is xs) σ' → Q σ' H) →
    ∀ (pins : List (Addr × Obj)) (s : Shared) (us : List Value), Inv X pins σ H s → Vals vs us → wpAny (model X.prog X.w) X.A (assignInOrder ((assignEach es X.env).map (·.2)) us) (fun _ s' => ∃ σ' H', Inv X pins σ' H' s' ∧ Q σ' H') X.xe s
theorem jn_nil : JN X [] [] := ⟨fun {S ρ env σ H vs xs Q} E r hl h pins s us I rv => by
  cases r with
  | nil =>
    cases rv
    exact assignInOrder_nil ⟨σ, H, I, h σ E⟩
  | cons _ _ => cases hl⟩
theorem jn_cons {i : Nat} {x : Str} {is : List Nat} {px : Pos} (hN : X.N.Nodup) (j : JN X es is) (hi : X.N[i]? = some x := by rfl) (hx : Loc X.env.scope x := by first | exact Or.inl rfl | exact Or.inr rfl) (hf : X.fn x = true ∨ X.env.scope.names.lookup x = some .local := by first | exact .inl rfl | exact .inr rfl | assumption)
    (hs : (assignEach (.Name x px :: es) X.env).map (·.2) = assign (.Name x px) X.env :: (assignEach es X.env).map (·.2) := by rfl) : JN X (.Name x px :: es) (i :: is) := ⟨fun {S ρ env σ H vs xs Q} E r hl h pins s us I rv => by
  cases r with
  | nil => cases hl
  | cons r1 r2 =>
    cases rv with
    | cons q1 q2 =>
      rw [hs]
      refine assignInOrder_cons (thn (wg_of (pg_name (pos := px) hN hi hx hf) (Q := fun σ1 H1 => H1 = H ∧ σ1 = σ.set i (some _)) ⟨rfl, rfl⟩ pins s _ I q1) fun _ s1 ⟨σ1, H1, I1, e1, e2⟩ => ?_)
      subst e1 e2
      exact j.run (E.set i r1) r2 (Nat.succ.inj hl) h pins s1 _ I1 q2⟩
def dParT (is : List Nat) (fs : En → P (List SV)) : DS := fun env => (fs env).bnd fun vs m => if vs.length = is.length ∧ vs.length ≤ 1000 then .ok (.nx (setAll env is vs)) m else .stuck
theorem js_parT {tgs : List Expr} {kt k2 : Nat} {pt pt2 : Pos} {is : List Nat} (hc : X.calm = true) (ja : JA X W es fs) (jn : JN X tgs is) (hn : (assignEach tgs X.env).length = is.length := by rfl) (hst : (assignEach tgs X.env).findIdx? (·.1) = none := by rfl)
    (hs : swapsWithSole [.Tuple tgs kt pt] (.Tuple es k2 pt2) pos.line X.env = pure false := by rfl) (hw : swappedStores [.Tuple tgs kt pt] (.Tuple es k2 pt2) X.env = pure none := by rfl)
    (h1 : (assignEach [.Tuple tgs kt pt] X.env).map (·.2) = [assign (.Tuple tgs kt pt) X.env] := by rfl) : JS X W (.Assign [.Tuple tgs kt pt] (.Tuple es k2 pt2) pos) (dParT is fs) := ⟨fun {G S H ρ m env σ D} M E h => by
  refine ws_of (ps_asg (pe_tup pa_wa) (pg_tup (n := is.length) (t := fun vs σ H Q => ∀ (pins : List (Addr × Obj)) (s : Shared) (us : List Value), Inv X pins σ H s → Vals vs us → wpAny (model X.prog X.w) X.A (assignInOrder ((assignEach tgs X.env).map (·.2)) us) (fun _ s' => ∃ σ' H', Inv X pins σ' H' s' ∧ Q σ' H') X.xe s) hc ⟨fun pins s σ H vs us Q I rv q => q pins s us I rv⟩ hn hst) hs hw h1)
    (ja.run M E (wpr_mono (wpr_bnd h) (fun xs m1 hx => ?_) fun _ _ z => qx_of z))
  intro S1 H1 ρ1 xv e1 M1 rx
  split at hx
  · rename_i hl
    have hlen := Paired.length rx
    refine ⟨by rw [hlen, sizeLine_eq]; omega, fun p hp => ?_⟩
    obtain ⟨s1, M2⟩ := M1.grow hp (.tup xv)
    have e2 : Ext S1 ρ1 (upd S1 p (.tup xv)) ρ1 := ⟨s1, fun _ _ z => z⟩
    refine ⟨p, xv, rfl, .inl (.inl upd_same), by rw [hlen]; exact hl.1, ?_⟩
    exact jn.run ((E.mono e1).mono e2) (paired_mono e2 rx) hl.1 fun σ' E' => hx _ _ ρ1 σ' (e1.trans e2) M2 E'
  · exact hx.elim⟩
end
end PL
namespace PL
open PySem PySem.Spec PyProof.Rows L2
inductive Ax where
  | p (j : Nat) | k (j : Nat) | d (j : Nat)
def Ax.get {α : Type} (us ws ds : List α) : Ax → Option α
  | .p j => us[j]?
  | .k j => ws[j]?
  | .d j => ds[j]?
@[simp] theorem get_p {α : Type} (us ws ds : List α) (j : Nat) : Ax.get us ws ds (.p j) = us[j]? := (rfl)
@[simp] theorem get_k {α : Type} (us ws ds : List α) (j : Nat) : Ax.get us ws ds (.k j) = ws[j]? := (rfl)
@[simp] theorem get_d {α : Type} (us ws ds : List α) (j : Nat) : Ax.get us ws ds (.d j) = ds[j]? := (rfl)
def kParT (is : List Nat) (env : En) (vs : List SV) (m : Mem) : R Out := if vs.length = is.length ∧ vs.length ≤ 1000 then .ok (.nx (setAll env is vs)) m else .stuck
@[simp] theorem kParT_ap (is : List Nat) (env : En) (vs : List SV) (m : Mem) : kParT is env vs m = if vs.length = is.length ∧ vs.length ≤ 1000 then .ok (.nx (setAll env is vs)) m else .stuck := (rfl)
@[simp] theorem dParT_ap (is : List Nat) (fs : En → P (List SV)) (env : En) (m : Mem) : dParT is fs env m = (fs env m).bnd (kParT is env) := (rfl)
@[simp] theorem setAll_nil (env : En) (vs : List SV) : setAll env [] vs = env := (rfl)
@[simp] theorem setAll_cons (env : En) (i : Nat) (is : List Nat) (v : SV) (vs : List SV) : setAll env (i :: is) (v :: vs) = setAll (env.set i (some v)) is vs := (rfl)
@[simp] theorem dNoPt_ap (env : En) (m : Mem) : dNoPt env m = .ok none m := (rfl)
def kPt (v : SV) (m : Mem) : R (Option Int) := match v with
  | .dat (.int i) => .ok (some i) m
  | _ => .stuck
@[simp] theorem kPt_int (i : Int) (m : Mem) : kPt (.dat (.int i)) m = .ok (some i) m := (rfl)
@[simp] theorem dPt_ap (f : En → P SV) (env : En) (m : Mem) : dPt f env m = (f env m).bnd kPt := by
  unfold dPt P.bnd
  congr 1
  funext v m1
  unfold kPt
  split <;> simp_all
def kSl2 (own : Bool) (v : SV) (lo : Option Int) (hi : Option Int) (m : Mem) : R SV := cutVl own v lo hi m
@[simp] theorem kSl2_ap (own : Bool) (v : SV) (lo hi : Option Int) (m : Mem) : kSl2 own v lo hi m = cutVl own v lo hi m := (rfl)
def kSl1 (own : Bool) (fh : En → P (Option Int)) (env : En) (v : SV) (lo : Option Int) (m : Mem) : R SV := (fh env m).bnd (kSl2 own v lo)
@[simp] theorem kSl1_ap (own : Bool) (fh : En → P (Option Int)) (env : En) (v : SV) (lo : Option Int) (m : Mem) : kSl1 own fh env v lo m = (fh env m).bnd (kSl2 own v lo) := (rfl)
def kSl (own : Bool) (fl fh : En → P (Option Int)) (env : En) (v : SV) (m : Mem) : R SV := (fl env m).bnd (kSl1 own fh env v)
@[simp] theorem kSl_ap (own : Bool) (fl fh : En → P (Option Int)) (env : En) (v : SV) (m : Mem) : kSl own fl fh env v m = (fl env m).bnd (kSl1 own fh env v) := (rfl)
@[simp] theorem dSl_ap (own : Bool) (fa : En → P SV) (fl fh : En → P (Option Int)) (env : En) (m : Mem) : dSl own fa fl fh env m = (fa env m).bnd (kSl own fl fh env) := (rfl)
@[simp] theorem cutVl_tup (own : Bool) (xs : List D) (lo hi : Option Int) (m : Mem) : cutVl own (.dat (.tup xs)) lo hi m = .ok (.dat (.tup (cutD xs lo hi))) m := (rfl)
@[simp] theorem cutVl_scr (own : Bool) (xs : List Int) (lo hi : Option Int) (m : Mem) : cutVl own (.dat (.scr xs)) lo hi m = frs own (cutD (xs.map D.int) lo hi) m := (rfl)
@[simp] theorem cutVl_lst (own : Bool) (xs : List D) (lo hi : Option Int) (m : Mem) : cutVl own (.dat (.lst xs)) lo hi m = frs own (cutD xs lo hi) m := (rfl)
end PL
namespace PL
open PySem PySem.Spec PyProof.Rows L2
def Ok {α : Type} (r : R α) (Q : α → Mem → Prop) : Prop := ∃ a m, r = .ok a m ∧ Q a m
section
variable {α β : Type} {Q Q' : α → Mem → Prop} {r : R α} {m : Mem}
@[simp] theorem ok_ok (a : α) (m : Mem) (Q : α → Mem → Prop) : Ok (.ok a m) Q ↔ Q a m := by
  constructor
  · rintro ⟨b, n, e, h⟩
    cases e
    exact h
  · intro h
    exact ⟨a, m, rfl, h⟩
@[simp] theorem ok_bnd (r : R α) (f : α → Mem → R β) (Q : β → Mem → Prop) : Ok (R.bnd r f) Q ↔ Ok r fun a m => Ok (f a m) Q := by
  constructor
  · rintro ⟨b, n, e, h⟩
    cases r with
    | ok a m => exact ⟨a, m, rfl, b, n, e, h⟩
    | exc x m => cases e
    | stuck => cases e
  · rintro ⟨a, m, rfl, b, n, e, h⟩
    exact ⟨b, n, e, h⟩
theorem Ok.mono (h : Ok r Q) (i : ∀ a m, Q a m → Q' a m) : Ok r Q' := by
  obtain ⟨a, m, e, q⟩ := h
  exact ⟨a, m, e, i a m q⟩
def kFin (ex : Nat → SV → Mem → R SV) (k : Nat) (o : Out) (m : Mem) : R SV := fin ex k (.ok o m)
@[simp] theorem kFin_nx (ex : Nat → SV → Mem → R SV) (k : Nat) (env : En) (m : Mem) : kFin ex k (.nx env) m = .ok (.dat .non) (m.take k) := (rfl)
@[simp] theorem kFin_rt (ex : Nat → SV → Mem → R SV) (k : Nat) (v : SV) (m : Mem) : kFin ex k (.rt v) m = ex k v m := (rfl)
@[simp] theorem ok_fin (ex : Nat → SV → Mem → R SV) (k : Nat) (r : R Out) (Q : SV → Mem → Prop) : Ok (fin ex k r) Q ↔ Ok r fun o m => Ok (kFin ex k o m) Q := by
  constructor
  · rintro ⟨b, n, e, h⟩
    cases r with
    | ok a m => exact ⟨a, m, rfl, b, n, e, h⟩
    | exc x m => cases e
    | stuck => cases e
  · rintro ⟨a, m, rfl, b, n, e, h⟩
    exact ⟨b, n, e, h⟩
end
@[simp] theorem get_app_set (m : Mem) (k : Nat) (c x : Cell) : (m.set k c ++ [x])[m.length]? = some x := by
  have := get_app_len (m.set k c) x
  rwa [List.length_set] at this
@[simp] theorem set_app_set (m : Mem) (k : Nat) (c x y : Cell) : (m.set k c ++ [x]).set m.length y = m.set k c ++ [y] := by
  have := set_app_len (m.set k c) x y
  rwa [List.length_set] at this
@[simp] theorem take_app_set (m : Mem) (k : Nat) (c x : Cell) : (m.set k c ++ [x]).take m.length = m.set k c := by
  have := take_app_len (m.set k c) x
  rwa [List.length_set] at this
end PL
namespace PL
open PySem PySem.Spec PyProof.Rows L2
section
variable {X : Cx} {W : WX}
def shOk (d : D) : Bool := okD d && (toPy d).showable && !(toPy d).hasDict && decide ((toPy d).shown.length ≤ 16777216)
def shD (d : D) (m : Mem) : R SV := match d with
  | .lst xs => if shOk (.lst xs) = true then .ok (.dat (.str (toPy (.lst xs)).shown)) m else .stuck
  | .tup xs => if shOk (.tup xs) = true then .ok (.dat (.str (toPy (.tup xs)).shown)) m else .stuck
  | _ => .stuck
end
@[simp] theorem notInSV_ints (x : Int) (xs : List Int) (m : Mem) : notInSV (.dat (.int x)) (.dat (.lst (xs.map D.int))) m = .ok (.dat (.bl (!decide (x ∈ xs)))) m := by
  simp [notInSV, rdSq, rdL, hasD_ints]
end PL
namespace PL
open PySem PySem.Spec PyProof.Rows L2
theorem MR.more {Γ : Gd} {G S H : Hp} {ρ : List Addr} {m : Mem} {p : Addr} (M : MR Γ G S H ρ m) (hp : H p = none) (o : HO) : MR Γ G S (upd H p o) ρ m := by
  refine ⟨fun b x q => ?_, fun b x q => ?_, M.dis, M.len, fun i xs q => ?_, M.inj, M.tab.h (.inl hp) o, M.dic.h (.inl hp) o, M.mix.same (Same.refl S) fun i b q => ⟨(M.mix.own q).1, (M.mix.own q).2.1, upd_ne (M.mix.ne q hp)⟩⟩
  · rw [upd_ne (ne_of_none (M.sub b x q) hp)]; exact M.sub b x q
  · rw [upd_ne (ne_of_none (M.gsub b x q) hp)]; exact M.gsub b x q
  · obtain ⟨a, vs, h1, h2, h3⟩ := M.cell i xs q
    exact ⟨a, vs, h1, by rw [upd_ne (ne_of_none h2 hp)]; exact h2, h3⟩
theorem XR.more {Γ : Gd} {S S' H : Hp} {cls : Value} {d : Option Addr} {y : Exc} {p : Addr} {o : HO} (x : XR Γ S H cls d y) (s : Same S S') (hp : H p = none) : XR Γ S' (upd H p o) cls d y := by
  obtain ⟨C, dd, fs, h1, h2, h3, h4, h5, h6⟩ := x
  exact ⟨C, dd, fs, h1, h2, h3, by rw [upd_ne (ne_of_none h4 hp)]; exact h4, h5, h6.mono s⟩
def clsDef (s : Stmt) (j : Nat) : Stmt := match s with
  | .ClassDef _ _ _ b _ _ _ _ _ _ _ => b.getD j (.Pass ⟨0, 0, 0, 0⟩)
  | _ => .Pass ⟨0, 0, 0, 0⟩
end PL
namespace PL
open PySem PySem.Spec PyProof.Rows L2
def dd : List Int → List Int
  | [] => []
  | x :: r => if x ∈ r then dd r else x :: dd r
end PL
namespace PL
open PySem PySem.Spec PyProof.Rows L2
theorem RoomG.units1 {k : Nat} {A : Around} (r : RoomG k A) : A.units + 1 < cLine := by have := r.units; omega
def dGetI (kvs : List (Key × D)) (k : Key) : Option D := (kvs.find? fun kv => decide (kv.1 = k)).map (·.2)
def dPutI (kvs : List (Key × D)) (k : Key) (v : D) : List (Key × D) :=
  if (kvs.any fun kv => decide (kv.1 = k)) = true then kvs.map (fun kv => if kv.1 = k then (kv.1, v) else kv) else kvs ++ [(k, v)]
section
variable {Γ : Gd} {S : Hp} {vs : List (Key × V)} {kvs : List (Key × D)}
def keyD (d : D) : Option Key := match d with
  | .int i => some (Sum.inl i)
  | .str x => some (Sum.inr x)
  | _ => none
theorem keyD_ok {v : V} {d : D} {k : Key} (r : Rp Γ S v d) (h : keyD d = some k) : v = kV k := by
  unfold keyD at h
  split at h
  · cases h; cases r; rfl
  · cases h; cases r; rfl
  · cases h
@[simp] theorem keyD_int (i : Int) : keyD (.int i) = some (Sum.inl i) := (rfl)
@[simp] theorem keyD_str (x : Str) : keyD (.str x) = some (Sum.inr x) := (rfl)
theorem KvR.length (h : KvR Γ S vs kvs) : vs.length = kvs.length := by
  induction h with
  | nil => rfl
  | cons _ _ ih => simp [ih]
theorem KvR.get (h : KvR Γ S vs kvs) (k : Key) : (∃ v d, valV vs k = some v ∧ dGetI kvs k = some d ∧ Rp Γ S v d) ∨ (valV vs k = none ∧ dGetI kvs k = none) := by
  induction h with
  | nil => exact .inr ⟨rfl, rfl⟩
  | @cons i v d vs kvs r _ ih =>
    by_cases e : i = k
    · subst e
      exact .inl ⟨v, d, by simp [valV, List.find?_cons], by simp [dGetI, List.find?_cons], r⟩
    · have e1 : valV ((i, v) :: vs) k = valV vs k := valV_neg e
      have e2 : dGetI ((i, d) :: kvs) k = dGetI kvs k := by simp [dGetI, List.find?_cons, e]
      rw [e1, e2]
      exact ih
theorem KvR.any (h : KvR Γ S vs kvs) (k : Key) : (vs.any fun kv => decide (kv.1 = k)) = kvs.any fun kv => decide (kv.1 = k) := by
  induction h with
  | nil => rfl
  | cons r _ ih => rw [List.any_cons, List.any_cons, ih]
theorem KvR.snoc (h : KvR Γ S vs kvs) (k : Key) {v : V} {d : D} (r : Rp Γ S v d) : KvR Γ S (vs ++ [(k, v)]) (kvs ++ [(k, d)]) := by
  induction h with
  | nil => exact .cons r .nil
  | cons q _ ih => exact .cons q ih
theorem KvR.swap (h : KvR Γ S vs kvs) (k : Key) {v : V} {d : D} (r : Rp Γ S v d) : KvR Γ S (vs.map fun kv => if kv.1 = k then (kv.1, v) else kv) (kvs.map fun kv => if kv.1 = k then (kv.1, d) else kv) := by
  induction h with
  | nil => exact .nil
  | @cons i v' d' vs kvs q _ ih =>
    rw [List.map_cons, List.map_cons]
    by_cases e : i = k
    · rw [if_pos e, if_pos e]
      exact .cons r ih
    · rw [if_neg e, if_neg e]
      exact .cons q ih
theorem KvR.put (h : KvR Γ S vs kvs) (k : Key) {v : V} {d : D} (r : Rp Γ S v d) : KvR Γ S (putK vs k v) (dPutI kvs k d) := by
  unfold putK dPutI
  rw [h.any k]
  by_cases q : (kvs.any fun kv => decide (kv.1 = k)) = true
  · rw [if_pos q, if_pos q]
    exact h.swap k r
  · rw [if_neg q, if_neg q]
    exact h.snoc k r
end
section
variable {Γ : Gd} {G S H : Hp} {ρ : List Addr} {m : Mem} {p : Addr}
theorem MR.allocD (M : MR Γ G S H ρ m) (hp : H p = none) : Ext S ρ S (ρ ++ [p]) ∧ MR Γ G S (upd H p (.dK [])) (ρ ++ [p]) (m ++ [.dct []]) := by
  have sp : S p = none := M.sub.free hp
  have gp : G p = none := M.gsub.free hp
  have low : ∀ (i : Nat) (xs : List D), (m ++ [Cell.dct []])[i]? = some (.lst xs) → m[i]? = some (.lst xs) ∧ i < m.length := fun i xs q => by
    by_cases hi : i < m.length
    · rw [List.getElem?_append_left hi] at q; exact ⟨q, hi⟩
    · rw [List.getElem?_append_right (by omega)] at q
      have h0 : i - m.length = 0 := by
        have := (List.getElem?_eq_some_iff.mp q).1
        simp at this
        omega
      rw [h0] at q
      simp at q
  have dat : ∀ (i : Nat) (kvs : List (Key × D)), (m ++ [Cell.dct []])[i]? = some (.dct kvs) → (m[i]? = some (.dct kvs) ∧ i < m.length) ∨ (i = m.length ∧ kvs = []) := fun i kvs q => by
    by_cases hi : i < m.length
    · rw [List.getElem?_append_left hi] at q; exact .inl ⟨q, hi⟩
    · rw [List.getElem?_append_right (by omega)] at q
      have h0 : i - m.length = 0 := by
        have := (List.getElem?_eq_some_iff.mp q).1
        simp at this
        omega
      rw [h0] at q
      simp at q
      exact .inr ⟨by omega, q⟩
  have back : ∀ (i : Nat) (a : Addr), i < m.length → (ρ ++ [p])[i]? = some a → ρ[i]? = some a := fun i a hi q => by
    rw [List.getElem?_append_left (by rw [M.len]; exact hi)] at q; exact q
  refine ⟨⟨Same.refl S, fun i a q => r_app q⟩, ⟨fun b x q => ?_, fun b x q => ?_, M.dis, by rw [List.length_append, List.length_append, M.len]; rfl, fun i xs q => ?_, fun i j xs ys a q1 q2 q3 q4 => ?_, M.tab.h (.inl hp) _, ⟨⟨fun i kvs q => ?_, fun i j xs ys a q1 q2 q3 q4 => ?_⟩, M.dic.sv.pushD M.len hp _ _ (fun _ _ z => by cases z)⟩, M.mix.push M.len (fun i b q => upd_ne (M.mix.ne q hp)) rfl fun ⟨_, z⟩ => by cases z⟩⟩
  · rw [upd_ne (ne_of_none q sp)]; exact M.sub b x q
  · rw [upd_ne (ne_of_none q gp)]; exact M.gsub b x q
  · obtain ⟨a, vs, h1, h2, h3⟩ := M.cell i xs (low i xs q).1
    exact ⟨a, vs, r_app h1, by rw [upd_ne (ne_of_none h2 hp)]; exact h2, h3⟩
  · obtain ⟨w1, l1⟩ := low i xs q1
    obtain ⟨w2, l2⟩ := low j ys q2
    exact M.inj i j xs ys a w1 w2 (back i a l1 q3) (back j a l2 q4)
  · rcases dat i kvs q with ⟨q1, _⟩ | ⟨q1, q2⟩
    · obtain ⟨a, vs, h1, h2, h3⟩ := M.dic.cell i kvs q1
      exact ⟨a, vs, r_app h1, by rw [upd_ne (ne_of_none h2 hp)]; exact h2, h3⟩
    · subst q1 q2
      exact ⟨p, [], by rw [← M.len]; simp, upd_same, .nil, sp, gp⟩
  · have key : ∀ (i : Nat) (xs : List (Key × D)), (m ++ [Cell.dct []])[i]? = some (.dct xs) → (ρ ++ [p])[i]? = some a → (m[i]? = some (.dct xs) ∧ ρ[i]? = some a ∧ a ≠ p) ∨ (i = m.length ∧ a = p) := fun i xs q r => by
      rcases dat i xs q with ⟨w1, w2⟩ | ⟨w1, w2⟩
      · obtain ⟨a', vs', h1, h2, _⟩ := M.dic.cell i xs w1
        have e := r_app (p := p) h1
        rw [r] at e
        cases e
        exact .inl ⟨w1, h1, ne_of_none h2 hp⟩
      · subst w1
        rw [← M.len] at r
        simp at r
        exact .inr ⟨rfl, r.symm⟩
    rcases key i xs q1 q3 with ⟨b1, b2, b3⟩ | ⟨b1, b2⟩
    · rcases key j ys q2 q4 with ⟨c1, c2, c3⟩ | ⟨c1, c2⟩
      · exact M.dic.inj i j xs ys a b1 c1 b2 c2
      · exact absurd c2 b3
    · rcases key j ys q2 q4 with ⟨c1, c2, c3⟩ | ⟨c1, c2⟩
      · exact absurd b2 c3
      · rw [b1, c1]
theorem MR.writeD (M : MR Γ G S H ρ m) {i : Nat} {kvs kvs' : List (Key × D)} {a : Addr} {ws : List (Key × V)} (hm : m[i]? = some (.dct kvs)) (ha : ρ[i]? = some a) (r : KvR Γ S ws kvs') :
    MR Γ G S (upd H a (.dK ws)) ρ (m.set i (.dct kvs')) := by
  have hi : i < m.length := (List.getElem?_eq_some_iff.mp hm).1
  obtain ⟨a', vs, h1, h2, h3, h4, h5⟩ := M.dic.cell i kvs hm
  rw [ha] at h1
  cases h1
  have low : ∀ (j : Nat) (xs : List D), (m.set i (Cell.dct kvs'))[j]? = some (.lst xs) → m[j]? = some (.lst xs) := fun j xs q => by
    by_cases e : i = j
    · subst e
      rw [List.getElem?_set_self hi] at q
      cases q
    · rw [List.getElem?_set_ne e] at q; exact q
  have dat : ∀ (j : Nat) (zs : List (Key × D)), (m.set i (Cell.dct kvs'))[j]? = some (.dct zs) → (j = i ∧ zs = kvs') ∨ (j ≠ i ∧ m[j]? = some (.dct zs)) := fun j zs q => by
    by_cases e : i = j
    · subst e
      rw [List.getElem?_set_self hi] at q
      cases q
      exact .inl ⟨rfl, rfl⟩
    · rw [List.getElem?_set_ne e] at q
      exact .inr ⟨Ne.symm e, q⟩
  have live : ∀ (j : Nat) (zs : List (Key × D)), (m.set i (Cell.dct kvs'))[j]? = some (.dct zs) → ∃ zs', m[j]? = some (.dct zs') := fun j zs q => by
    rcases dat j zs q with ⟨rfl, _⟩ | ⟨_, q⟩
    · exact ⟨_, hm⟩
    · exact ⟨_, q⟩
  have tabs : TabR Γ.K G S (upd H a (.dK ws)) := ⟨M.tab.st, M.tab.gt, fun q hq => by
    obtain ⟨ps, g1, g2, g3⟩ := M.tab.tb q hq
    refine ⟨ps, by rw [upd_ne (fun z => by rw [z, h2] at g1; cases g1)]; exact g1, g2, fun pos cv hc => ?_⟩
    obtain ⟨c, e1, e2⟩ := g3 pos cv hc
    exact ⟨c, e1, by rw [upd_ne (fun z => by rw [z, h2] at e2; unfold LamX.CodeO at e2; cases e2)]; exact e2⟩⟩
  refine ⟨fun b x q => ?_, fun b x q => ?_, M.dis, by rw [List.length_set]; exact M.len, fun j zs q => ?_, fun j k zs ws' b q1 q2 q3 q4 => M.inj j k zs ws' b (low j zs q1) (low k ws' q2) q3 q4, tabs, ⟨⟨fun j zs q => ?_, fun j k zs ws' b q1 q2 q3 q4 => ?_⟩, (M.dic.sv.gen (Same.refl S) fun p o ks b us q1 q2 g1 g2 g3 => ⟨by rw [upd_ne (fun z => M.dic.sv.dct i p o kvs ks a hm q1 ha (by rw [← z]; exact q2))]; exact g1, g2, g3⟩).mem live fun p o ks q => dsv_set (fun _ _ z => by cases z) q⟩, M.mix.step (Same.refl S) (fun j b q => ⟨(M.mix.own q).1, (M.mix.own q).2.1, upd_ne fun z => by obtain ⟨_, _, o, g1, _, g3⟩ := M.mix.own q; rw [z, h2] at g1; exact g3 vs (Option.some.inj g1).symm⟩) (fun j c' q1 q2 => mix_set rfl q1 q2) (fun _ _ _ _ _ _ _ q => q) fun k b j zs q1 q2 q3 => M.mix.crs k j b zs q1 (low j zs q2) q3⟩
  · rw [upd_ne (ne_of_none q h4)]; exact M.sub b x q
  · rw [upd_ne (ne_of_none q h5)]; exact M.gsub b x q
  · obtain ⟨b, us, g1, g2, g3⟩ := M.cell j zs (low j zs q)
    exact ⟨b, us, g1, by rw [upd_ne (fun z => by rw [z, h2] at g2; cases g2)]; exact g2, g3⟩
  · rcases dat j zs q with ⟨rfl, rfl⟩ | ⟨e, q⟩
    · exact ⟨a, ws, ha, upd_same, r, h4, h5⟩
    · obtain ⟨b, us, g1, g2, g3, g4, g5⟩ := M.dic.cell j zs q
      refine ⟨b, us, g1, ?_, g3, g4, g5⟩
      rw [upd_ne (fun z => e (M.dic.inj j i zs kvs a q hm (by rw [← z]; exact g1) ha))]
      exact g2
  · obtain ⟨z1, l1⟩ := live j zs q1
    obtain ⟨z2, l2⟩ := live k ws' q2
    exact M.dic.inj j k z1 z2 b l1 l2 q3 q4
end
section
variable {X : Cx} {W : WX} {o i e value : Expr} {pos pos' apos cpos : Pos} {fa fb fv : En → P SV}
def dNewD : En → P SV := fun _ m => .ok (.ref m.length) (m ++ [.dct []])
theorem je_dnew : JE X W (.Dict [] [] pos) dNewD := ⟨fun {G S H ρ m env σ Q} M E h => by
  refine we_of pe_dnewK fun p hp => ?_
  obtain ⟨e1, M1⟩ := M.allocD hp
  exact h S _ _ (.ref p) e1 M1 ⟨p, by rw [← M.len]; simp, rfl⟩⟩
def putC (env : En) (n : Nat) (k : Option Key) (v : D) (c : Option Cell) : P Out := fun m => match c, k with
  | some (.dct kvs), some k => if kvs.length < 16777216 then .ok (.nx env) (m.set n (.dct (dPutI kvs k v))) else .stuck
  | _, _ => .stuck
def putV (env : En) (v d k : SV) : P Out := fun m => match d, k, v with
  | .ref n, .dat i, .dat x => putC env n (keyD i) x m[n]? m
  | _, _, _ => .stuck
def dPutD (fd fk fv : En → P SV) : DS := fun env => (fv env).bnd fun v => (fd env).bnd fun d => (fk env).bnd fun k => putV env v d k
theorem js_dput (hu : X.A.units + 1 < cLine) (jo : JE X W o fa) (ji : JE X W i fb) (jv : JE X W value fv) (hs : swapsWith value (some (.Subscript o i pos')) pos.line X.env = pure false := by rfl) :
    JS X W (.Assign [.Subscript o i pos'] value pos) (dPutD fa fb fv) := ⟨fun {G S H ρ m env σ D} M E h => by
  refine ws_of (ps_dput hu pe_we pe_we pe_we hs) (jv.run M E (wpr_mono (wpr_bnd h) (fun v m1 hv => ?_) fun _ _ z => qx_of z))
  intro S1 H1 ρ1 vv e1 M1 rv
  refine jo.run M1 (E.mono e1) (wpr_mono (wpr_bnd hv) (fun d m2 hd => ?_) fun _ _ z => qx_ext e1 (qx_of z))
  intro S2 H2 ρ2 dv e2 M2 rd
  refine ji.run M2 ((E.mono e1).mono e2) (wpr_mono (wpr_bnd hd) (fun k m3 hk => ?_) fun _ _ z => qx_ext (e1.trans e2) (qx_of z))
  intro S3 H3 ρ3 kv e3 M3 rk
  unfold putV at hk
  split at hk
  · rename_i n j x
    unfold putC at hk
    split at hk
    · rename_i kvs key hc hkey
      split at hk
      · rename_i hl
        obtain ⟨a, ha, rfl⟩ := rd.mono e3
        obtain ⟨a', vs, g1, g2, g3, g4, g5⟩ := M3.dic.cell n kvs hc
        rw [ha] at g1
        cases g1
        have ek := keyD_ok rk hkey
        subst ek
        have rv3 := (rv.mono e2).mono e3
        have M4 := M3.writeD hc ha (g3.put key rv3)
        refine ⟨a, _, rfl, DPut.k (k := key) g2 (by rw [g3.length, sizeLine_eq]; exact hl), ?_⟩
        exact hk S3 _ ρ3 σ ((e1.trans e2).trans e3) M4 (((E.mono e1).mono e2).mono e3)
      · exact hk.elim
    · exact hk.elim
  · exact hk.elim⟩
def isDc (c : Option Cell) : Bool := match c with
  | some (.dct _) => true
  | _ => false
end
@[simp] theorem dNewD_ap (env : En) (m : Mem) : dNewD env m = .ok (.ref m.length) (m ++ [.dct []]) := (rfl)
def kPut2 (fk : En → P SV) (env : En) (v d : SV) (m : Mem) : R Out := (fk env m).bnd (putV env v d)
@[simp] theorem kPut2_ap (fk : En → P SV) (env : En) (v d : SV) (m : Mem) : kPut2 fk env v d m = (fk env m).bnd (putV env v d) := (rfl)
def kPut1 (fd fk : En → P SV) (env : En) (v : SV) (m : Mem) : R Out := (fd env m).bnd (kPut2 fk env v)
@[simp] theorem kPut1_ap (fd fk : En → P SV) (env : En) (v : SV) (m : Mem) : kPut1 fd fk env v m = (fd env m).bnd (kPut2 fk env v) := (rfl)
@[simp] theorem dPutD_ap (fd fk fv : En → P SV) (env : En) (m : Mem) : dPutD fd fk fv env m = (fv env m).bnd (kPut1 fd fk env) := (rfl)
@[simp] theorem putV_ap (env : En) (n : Nat) (i : D) (x : D) (m : Mem) : putV env (.dat x) (.ref n) (.dat i) m = putC env n (keyD i) x m[n]? m := (rfl)
@[simp] theorem putC_ap (env : En) (n : Nat) (i : Key) (x : D) (kvs : List (Key × D)) (m : Mem) : putC env n (some i) x (some (.dct kvs)) m = if kvs.length < 16777216 then .ok (.nx env) (m.set n (.dct (dPutI kvs i x))) else .stuck := (rfl)
@[simp] theorem isDc_ap (kvs : List (Key × D)) : isDc (some (.dct kvs)) = true := (rfl)
end PL
namespace PL
open PySem PySem.Spec PyProof.Rows L2
def kT (n : Int) : Key × V := ((Sum.inl n : Key), V.bl true)
theorem paired_imp {α β : Type} {R R' : α → β → Prop} (f : ∀ a b, R a b → R' a b) : ∀ {xs : List α} {ys : List β}, Paired R xs ys → Paired R' xs ys
  | _, _, .nil => .nil
  | _, _, .cons h r => .cons (f _ _ h) (paired_imp f r)
section
variable {X : Cx} {W : WX} {pos p : Pos} {tg a o i : Expr} {fa fb : En → P SV}
def inC (k : Option Key) (c : Option Cell) : P SV := fun m => match c, k with
  | some (.dct kvs), some k => .ok (.dat (.bl (dGetI kvs k).isSome)) m
  | _, _ => .stuck
def inA (ns : List Int) (x : SV) : P SV := fun m => match x with
  | .dat (.int k) => .ok (.dat (.bl (decide (k ∈ ns)))) m
  | _ => .stuck
def inB_ (n : Nat) (x : SV) : P SV := fun m => match x with
  | .dat d => inC (keyD d) m[n]? m
  | .ref _ => .stuck
def inKV (x y : SV) : P SV := fun m => match y with
  | .dat (.ks ns) => inA ns x m
  | .ref n => inB_ n x m
  | _ => .stuck
theorem val_kT (k : Int) : ∀ ns : List Int, (valV (ns.map kT) (Sum.inl k)).isSome = decide (k ∈ ns)
  | [] => by simp [valV]
  | n :: ns => by
    have ih := val_kT k ns
    by_cases e : n = k
    · subst e
      simp [valV, kT, List.find?_cons]
    · have e' : ¬ k = n := fun z => e z.symm
      have : valV ((n :: ns).map kT) (Sum.inl k) = valV (ns.map kT) (Sum.inl k) := valV_neg (fun z => e (Sum.inl.inj z))
      rw [this, ih]
      simp [e']
theorem jo_inK (hu : X.A.units + 1 < cLine) : JO X W (compareOp .In) inKV := ⟨fun {G S H ρ m σ x y xv yv Q} M rx ry q pins s v u I r1 r2 => by
  unfold inKV at q
  split at q
  · rename_i ns
    unfold inA at q
    split at q
    · rename_i k
      have rx : Rp (gd X) S xv (.int k) := rx
      have ry : Rp (gd X) S yv (.ks ns) := ry
      cases rx
      cases ry with
      | ks h =>
        rename_i a o
        obtain rfl : u = Value.ref a := r2
        refine d_in hu I (.inl ⟨ns.map kT, Sum.inl k, .inr ⟨o, M.sub a _ h⟩, rfl, rfl⟩) r1 fun s' I' => ⟨.bl _, H, I', rfl, ?_⟩
        rw [val_kT]
        exact q S H ρ _ (Ext.refl _ _) M (.bl _)
    · exact q.elim
  · rename_i n
    unfold inB_ at q
    split at q
    · rename_i d
      unfold inC at q
      split at q
      · rename_i kvs k hc hk
        obtain ⟨a, ha, rfl⟩ := ry
        have ek := keyD_ok (show Rp (gd X) S xv d from rx) hk
        subst ek
        obtain ⟨a', vs, g1, g2, g3, _⟩ := M.dic.cell n kvs hc
        rw [ha] at g1
        cases g1
        obtain rfl : u = Value.ref a := r2
        refine d_in hu I (.inl ⟨vs, k, .inl g2, rfl, rfl⟩) r1 fun s' I' => ⟨.bl _, H, I', rfl, ?_⟩
        have : (valV vs k).isSome = (dGetI kvs k).isSome := by
          rcases g3.get k with ⟨v, d, q1, q2, _⟩ | ⟨q1, q2⟩ <;> rw [q1, q2] <;> rfl
        rw [this]
        exact q S H ρ _ (Ext.refl _ _) M (.bl _)
      · exact q.elim
    · exact q.elim
  · exact q.elim⟩
def itemC (k : Option Key) (c : Option Cell) : P SV := fun m => match c, k with
  | some (.dct kvs), some k => (match dGetI kvs k with | some d => .ok (.dat d) m | none => .stuck)
  | _, _ => .stuck
def itemV (d k : SV) : P SV := fun m => match d, k with
  | .ref n, .dat i => itemC (keyD i) m[n]? m
  | _, _ => .stuck
theorem je_dix (hu : X.A.units + 1 < cLine) (ja : JE X W o fa) (jb : JE X W i fb) (hs : NoSl i := by exact fun _ _ => rfl) : JE X W (.Subscript o i pos) (d2 itemV fa fb) := ⟨fun {G S H ρ m env σ Q} M E h => by
  refine we_of (pe_dget hu pe_we pe_we hs) (ja.run M E (wpr_monoQ (wpr_bnd h) fun d m1 hd => ?_))
  intro S1 H1 ρ1 dv e1 M1 rd
  refine jb.run M1 (E.mono e1) (wpr_mono (wpr_bnd hd) (fun k m2 hk => ?_) fun _ _ z => qx_ext e1 z)
  intro S2 H2 ρ2 kv e2 M2 rk
  unfold itemV at hk
  split at hk
  · rename_i n j
    unfold itemC at hk
    split at hk
    · rename_i kvs key hc hkey
      split at hk
      · rename_i x hx
        obtain ⟨a, ha, rfl⟩ := rd.mono e2
        have ek := keyD_ok (show Rp (gd X) S2 kv j from rk) hkey
        subst ek
        obtain ⟨a', vs, g1, g2, g3, _⟩ := M2.dic.cell n kvs hc
        rw [ha] at g1
        cases g1
        rcases g3.get key with ⟨v, d, q1, q2, q3⟩ | ⟨q1, q2⟩
        · rw [q2] at hx
          cases hx
          exact ⟨a, v, rfl, by rw [← q1]; exact DGet.k g2, hk S2 H2 ρ2 v (e1.trans e2) M2 q3⟩
        · rw [q2] at hx
          cases hx
      · exact hk.elim
    · exact hk.elim
  · exact hk.elim⟩
def frzC (i n : Nat) (env : En) (c : Option Cell) : P Out := fun m => match c with
  | some (.lst xs) => .ok (.nx (env.set i (some (.dat (.lst xs))))) (m.set n .dead)
  | _ => .stuck
def frzV (i : Nat) (env : En) (v : Option (Option SV)) : P Out := fun m => match v with
  | some (some (.ref n)) => frzC i n env m[n]? m
  | _ => .stuck
def dFrz (i : Nat) : DS := fun env => frzV i env env[i]?
theorem jb_frz {sts : List Stmt} {f : DS} (i : Nat) (jb : JB X W sts f) : JB X W sts (dSeq (dFrz i) f) := ⟨fun {G S H ρ m env σ D} M E h => by
  have h' := wpr_bnd h
  unfold dFrz frzV at h'
  split at h'
  · rename_i n hv
    unfold frzC at h'
    split at h'
    · rename_i xs hc
      obtain ⟨a, vs, ha, e1, M1, rp⟩ := M.freeze hc
      obtain ⟨vv, hσ, a', ha', rfl⟩ := E.at_ i _ hv
      rw [ha] at ha'
      cases ha'
      have E1 := E.mono e1
      refine jb.run (G := G) M1 (env := env.set i (some (.dat (.lst xs)))) ⟨by rw [List.length_set]; exact E1.len, fun j x q => ?_⟩ (wpr_mono h' (fun o m1 ho => qs_ext e1 ho) fun _ _ z => qxs_ext e1 z)
      by_cases e : i = j
      · subst e
        by_cases hl : i < env.length
        · rw [List.getElem?_set_self hl] at q
          cases q
          exact ⟨.ref a, hσ, rp⟩
        · rw [List.getElem?_eq_none (by rw [List.length_set]; omega)] at q
          cases q
      · rw [List.getElem?_set_ne e] at q
        exact E1.at_ j x q
    · exact h'.elim
  · exact h'.elim⟩
end
theorem paired_back {α β : Type} {R : α → β → Prop} : ∀ {xs : List α} {ys : List β} {i : Nat} {y : β}, Paired R xs ys → ys[i]? = some y → ∃ x, xs[i]? = some x ∧ R x y
  | _, _, _, _, .nil, h => by simp at h
  | _, _, 0, _, .cons h _, e => by simp at e; subst e; exact ⟨_, rfl, h⟩
  | _, _, i + 1, y, .cons _ r, e => by
    obtain ⟨x, h1, h2⟩ := paired_back (i := i) (y := y) r (by simpa using e)
    exact ⟨x, by simpa using h1, h2⟩
@[simp] theorem inKV_ks (k : Int) (ns : List Int) (m : Mem) : inKV (.dat (.int k)) (.dat (.ks ns)) m = .ok (.dat (.bl (decide (k ∈ ns)))) m := (rfl)
@[simp] theorem inKV_ref (d : D) (n : Nat) (m : Mem) : inKV (.dat d) (.ref n) m = inC (keyD d) m[n]? m := (rfl)
@[simp] theorem inC_ap (k : Key) (kvs : List (Key × D)) (m : Mem) : inC (some k) (some (.dct kvs)) m = .ok (.dat (.bl (dGetI kvs k).isSome)) m := (rfl)
@[simp] theorem itemV_ap (n : Nat) (i : D) (m : Mem) : itemV (.ref n) (.dat i) m = itemC (keyD i) m[n]? m := (rfl)
@[simp] theorem dFrz_ap (i : Nat) (env : En) (m : Mem) : dFrz i env m = frzV i env env[i]? m := (rfl)
@[simp] theorem frzV_ap (i n : Nat) (env : En) (m : Mem) : frzV i env (some (some (.ref n))) m = frzC i n env m[n]? m := (rfl)
@[simp] theorem frzC_ap (i n : Nat) (env : En) (xs : List D) (m : Mem) : frzC i n env (some (.lst xs)) m = .ok (.nx (env.set i (some (.dat (.lst xs))))) (m.set n .dead) := (rfl)
end PL
namespace PL
open PySem PySem.Spec PyProof.Rows L2
structure Lam1 (N : List Str) (sc scope : Scope) (b : Str) : Prop where
  kind : scope.kind = .function
  co : scope.isCoroutine = false
  gen : scope.isGenerator = false
  nocell : ∀ y ∈ scope.names, y.2 ≠ .cell
  own : ∀ y ∈ scope.names, y.2 = .local → y.1 = b
  par : scope.names.lookup b = some .local
  free : ∀ y ∈ scope.names, y.2 = .free → sc.names.lookup y.1 = some .cell ∨ sc.names.lookup y.1 = some .free
  new : b ∉ N
theorem Lam1.has {X : Cx} {N : List Str} {scope : Scope} {b : Str} (L : Lam1 N X.env.scope scope b) (ok : X.Ok) : ∀ y ∈ scope.names, y.2 = .free → ∃ c, X.env.cells.lookup y.1 = some c := fun y hy e => by
  rcases L.free y hy e with k | k
  · exact ok.has _ (.inl k)
  · exact ok.has _ (.inr k)
def mid (lo hi : Int) : Int := (lo + hi).fdiv 2
def LW (Γ : Gd) (tl : V → Hp → VK → Prop) (Q : VK) (G : Hp) : Nat → Int → Int → Hp → List Addr → Mem → Prop
  | 0, _, _, _, _, _ => False
  | n + 1, lo, hi, S, ρ, m => ∀ S' H' ρ', Ext S ρ S' ρ' → MR Γ G S' H' ρ' m → if lo < hi then ∀ K : VK, (∀ (b : Bool) S'' H'' ρ'' m'', Ext S' ρ' S'' ρ'' → MR Γ G S'' H'' ρ'' m'' → LW Γ tl Q G n (if b = true then lo else mid lo hi + 1) (if b = true then mid lo hi else hi) S'' ρ'' m'' → K (.bl b) H'') → tl (.int (mid lo hi)) H' K
    else Q (.int lo) H'
theorem LW.ext {Γ : Gd} {tl : V → Hp → VK → Prop} {Q : VK} {G S S1 : Hp} {ρ ρ1 : List Addr} {n : Nat} {lo hi : Int} {m : Mem} (h : LW Γ tl Q G n lo hi S ρ m) (e : Ext S ρ S1 ρ1) : LW Γ tl Q G n lo hi S1 ρ1 m := by
  cases n with
  | zero => exact h
  | succ n => exact fun S' H' ρ' e' M' => h S' H' ρ' (e.trans e') M'
theorem ER.snoc {Γ : Gd} {S : Hp} {ρ : List Addr} {env : En} {σ : St} (h : ER Γ S ρ env σ) {v : SV} {vv : V} (r : RSV Γ S ρ vv v) : ER Γ S ρ (env ++ [some v]) (σ ++ [some vv]) := by
  refine ⟨by simp [h.len], fun i x q => ?_⟩
  by_cases hi : i < env.length
  · rw [List.getElem?_append_left hi] at q
    rw [List.getElem?_append_left (by rw [← h.len]; exact hi)]
    exact h.at_ i x q
  · rw [List.getElem?_append_right (by omega)] at q
    have : i - env.length = 0 := by
      have := (List.getElem?_eq_some_iff.mp q).1
      simp at this
      omega
    rw [this] at q
    cases q
    rw [List.getElem?_append_right (by rw [← h.len]; omega), ← h.len, this]
    exact ⟨vv, rfl, r⟩
theorem MR.dead {Γ : Gd} {G S H : Hp} {ρ : List Addr} {m : Mem} (M : MR Γ G S H ρ m) (f : Addr) : MR Γ G S H (ρ ++ [f]) (m ++ [.dead]) := by
  have back : ∀ {i : Nat} {c : Cell}, (m ++ [Cell.dead])[i]? = some c → c ≠ .dead → m[i]? = some c ∧ i < m.length := fun {i c} q n => by
    by_cases hi : i < m.length
    · rw [List.getElem?_append_left hi] at q
      exact ⟨q, hi⟩
    · rw [List.getElem?_append_right (by omega)] at q
      have : i - m.length = 0 := by
        have := (List.getElem?_eq_some_iff.mp q).1
        simp at this
        omega
      rw [this] at q
      cases q
      exact absurd rfl n
  have rl : ∀ {i : Nat}, i < m.length → (ρ ++ [f])[i]? = ρ[i]? := fun {i} hi => List.getElem?_append_left (by rw [M.len]; exact hi)
  refine ⟨M.sub, M.gsub, M.dis, by simp [M.len], fun i xs q => ?_, fun i j xs ys a q1 q2 r1 r2 => ?_, M.tab, ⟨⟨fun i kvs q => ?_, fun i j xs ys a q1 q2 r1 r2 => ?_⟩, (M.dic.cells (fun i kvs q => dct_app (fun _ z => by cases z) q) (fun i a kvs _ q => r_app q)).sv⟩, M.mix.push M.len (fun _ _ _ => rfl) rfl fun ⟨_, z⟩ => by cases z⟩
  · obtain ⟨q1, q2⟩ := back q (by intro z; cases z)
    rw [rl q2]
    exact M.cell i xs q1
  · obtain ⟨a1, a2⟩ := back q1 (by intro z; cases z)
    obtain ⟨b1, b2⟩ := back q2 (by intro z; cases z)
    rw [rl a2] at r1
    rw [rl b2] at r2
    exact M.inj i j xs ys a a1 b1 r1 r2
  · obtain ⟨q1, q2⟩ := back q (by intro z; cases z)
    rw [rl q2]
    exact M.dic.cell i kvs q1
  · obtain ⟨a1, a2⟩ := back q1 (by intro z; cases z)
    obtain ⟨b1, b2⟩ := back q2 (by intro z; cases z)
    rw [rl a2] at r1
    rw [rl b2] at r2
    exact M.dic.inj i j xs ys a a1 b1 r1 r2
end PL
namespace PL
open PySem PySem.Spec PyProof.Rows L2
abbrev knd (P : Program) (w : World) : HeapKind P w (List L2.Key) := tupleKind (mixKind P w)
instance (k : List Key) (kss : List (List Key)) : Decidable (k ∈ kss) := @List.instDecidableMemOfLawfulBEq _ instBEqOfDecidableEq inferInstance k kss
def getT : List (List Key) → List D → List Key → Option D
  | k' :: kss, d :: ds, k => if k' = k then some d else getT kss ds k
  | _, _, _ => none
section
variable {X : Cx} {W : WX} {pos p : Pos} {tg a o i : Expr} {fa fb : En → P SV}
theorem EntR.get {K : PySem.W.Frag} {w : World} {S : Hp} : ∀ {es : List DictEntry} {kss : List (List Key)} {vs : List V} {i : Nat} {en : DictEntry}, EntR K w S es kss vs → es[i]? = some en → ∃ q k, en.key = .ref q ∧ kss[i]? = some k ∧ SqT K S q (k.map kV)
  | _, _, _, _, _, .nil, h => by simp at h
  | _, _, _, 0, _, .cons h1 h2 h3 h4 r, h => by simp at h; subst h; exact ⟨_, _, h2, rfl, h3⟩
  | _, _, _, i + 1, en, .cons h1 h2 h3 h4 r, h => by
    obtain ⟨q, k, g1, g2, g3⟩ := EntR.get (i := i) (en := en) r (by simpa using h)
    exact ⟨q, k, g1, by simpa using g2, g3⟩
end
end PL
namespace PL
open PySem PySem.Spec PyProof.Rows L2
section
variable {X : Cx} {W : WX} {e : Expr} {es : List Expr} {pos p : Pos} {fs : En → P (List SV)}
abbrev FTab := List (Str × Nat × (List SV → P SV))
end
theorem cell_app {m : Mem} {c c' : Cell} {i : Nat} (hc : c ≠ c') (h : (m ++ [c])[i]? = some c') : m[i]? = some c' := by
  by_cases hi : i < m.length
  · rw [List.getElem?_append_left hi] at h; exact h
  · rw [List.getElem?_append_right (by omega)] at h
    have h0 : i - m.length = 0 := by
      have := (List.getElem?_eq_some_iff.mp h).1
      simp at this
      omega
    rw [h0] at h
    simp at h
    exact absurd h hc
theorem cell_set {m : Mem} {c c' : Cell} {i j : Nat} (hc : c ≠ c') (h : (m.set j c)[i]? = some c') : m[i]? = some c' := by
  by_cases e : j = i
  · subst e
    by_cases hl : j < m.length
    · rw [List.getElem?_set_self hl] at h
      exact absurd (Option.some.inj h) hc
    · rw [List.getElem?_eq_none (by rw [List.length_set]; omega)] at h
      cases h
  · rw [List.getElem?_set_ne e] at h
    exact h
section
variable {Γ : Gd} {G S H : Hp} {ρ : List Addr} {m : Mem}
theorem MixA.set_dead {n i : Nat} {b : Addr} (h : MixA S ρ (m.set n .dead) i b) : MixA S ρ m i b := by
  rcases h with ⟨d, xs, a, v, h1, h2, h3⟩ | ⟨kss, ds, h1, h2⟩ | ⟨k, h1, h0, h2⟩
  · exact .inl ⟨d, xs, a, v, mix_set rfl h1 rfl, h2, h3⟩
  · exact .inr (.inl ⟨kss, ds, mix_set rfl h1 rfl, h2⟩)
  · exact .inr (.inr ⟨k, mix_set rfl h1 (own1_mix h0), h0, h2⟩)
theorem MR.kill (M : MR Γ G S H ρ m) (n : Nat) : MR Γ G S H ρ (m.set n .dead) := by
  have low : ∀ (j : Nat) (xs : List D), (m.set n Cell.dead)[j]? = some (.lst xs) → m[j]? = some (.lst xs) := fun j xs q => lst_set (fun _ z => by cases z) q
  refine ⟨M.sub, M.gsub, M.dis, by rw [List.length_set]; exact M.len, fun j xs q => M.cell j xs (low j xs q), fun i j xs ys a q1 q2 q3 q4 => M.inj i j xs ys a (low i xs q1) (low j ys q2) q3 q4, M.tab, M.dic.cells (fun i kvs q => dct_set (fun _ z => by cases z) q) fun i a kvs _ q => q, ?_⟩
  exact M.mix.step (Same.refl S) (fun i b q => ⟨(M.mix.own q).1, (M.mix.own q).2.1, rfl⟩) (fun i c q1 q2 => mix_set rfl q1 q2) (fun _ _ _ _ _ _ _ q => q) fun i b j xs q1 q2 q3 => M.mix.crs i j b xs q1 (low j xs q2) q3
theorem MR.noPair (M : MR Γ G S H ρ m) {n : Nat} {b : Addr} (hm : MixA S ρ m n b) : NoCell S ρ (m.set n .dead) b := by
  refine ⟨fun i ys q z => M.mix.crs n i b ys hm (lst_set (fun _ z => by cases z) q) z, fun i q => ?_⟩
  have e := M.mix.inj i n b q.set_dead hm
  subst e
  have hi : i < m.length := by
    rcases hm with ⟨_, _, _, _, h1, _⟩ | ⟨_, _, h1, _⟩ | ⟨_, h1, _⟩ <;> exact (List.getElem?_eq_some_iff.mp h1).1
  rcases q with ⟨_, _, _, _, h1, _⟩ | ⟨_, _, h1, _⟩ | ⟨_, h1, h0, _⟩ <;> (rw [List.getElem?_set_self hi] at h1; cases h1) <;> cases h0
theorem MR.freezeP (M : MR Γ G S H ρ m) {i : Nat} {d : D} {xs : List D} (hm : m[i]? = some (.pair d xs)) :
    ∃ a S', ρ[i]? = some a ∧ Ext S ρ S' ρ ∧ MR Γ G S' H ρ (m.set i .dead) ∧ Rp Γ S' (.ref a) (.tup [d, .lst xs]) := by
  obtain ⟨a, b, v, vs, g1, g2, g3, g4, g5, g6, g7⟩ := M.mix.pair i d xs hm
  have nc := M.noPair (.inl ⟨d, xs, a, v, hm, g1, g2⟩ : MixA S ρ m i b)
  obtain ⟨s1, M1⟩ := (M.kill i).adopt g4 g6 g7 nc
  exact ⟨a, _, g1, ⟨s1, fun _ _ z => z⟩, M1, .tup (.inl (.inl (s1 _ _ g2))) (.cons (g3.mono s1) (.cons (.lst upd_same (g5.mono s1)) .nil))⟩
end
end PL
namespace PL
open PySem PySem.Spec PyProof.Rows L2
section
variable {X : Cx} {W : WX} {es : List Expr} {e a b : Expr} {pos : Pos} {fs : En → P (List SV)} {fa fb f : En → P SV}
def fzC (n : Nat) (c : Option Cell) : P SV := fun m => match c with
  | some (.pair d xs) => .ok (.dat (.tup [d, .lst xs])) (m.take n)
  | some (.lst xs) => .ok (.dat (.lst xs)) (m.take n)
  | _ => .stuck
def fzL (k : Nat) (v : SV) : P SV := fun m => match v with
  | .ref n => if k ≤ n then fzC n m[n]? m else .stuck
  | .dat d => .ok (.dat d) m
def dFz (f : En → P SV) : En → P SV := fun env m => (f env m).bnd (fzL m.length)
theorem je_fz (ja : JE X W a f) : JE X W a (dFz f) := ⟨fun {G S H ρ m env σ Q} M E h => by
  unfold dFz at h
  refine ja.run M E ?_
  have h' : wpr (f env m) (fun x m' => wpr (fzL m.length x m') (QV X G S ρ Q) (QX X W G S ρ σ)) (QX X W G S ρ σ) := by
    cases e : f env m with
    | ok x m' => rw [e] at h; exact h
    | exc y m' => rw [e] at h; exact h
    | stuck => rw [e] at h; exact h
  refine wpr_monoQ h' fun x m1 hx => ?_
  intro S1 H1 ρ1 xv e1 M1 rx
  unfold fzL at hx
  split at hx
  · rename_i n
    split at hx
    · rename_i hn
      obtain ⟨a', z1, rfl⟩ := rx
      have keep : ∀ {S2 : Hp}, Ext S1 ρ1 S2 ρ1 → Ext S ρ S2 (ρ1.take n) := fun {S2} e2 => ⟨(e1.trans e2).s, fun i b q => take_get (by have := (List.getElem?_eq_some_iff.mp q).1; rw [M.len] at this; omega) (e1.r i b q)⟩
      have tk : (m1.set n Cell.dead).take n = m1.take n := by rw [List.take_set_of_le (by omega)]
      unfold fzC at hx
      split at hx
      · rename_i d xs hc
        obtain ⟨a2, S2, g1, e2, M2, r2⟩ := M1.freezeP hc
        rw [z1] at g1
        cases g1
        have M3 := M2.take n
        rw [tk] at M3
        exact hx S2 H1 _ _ (keep e2) M3 r2
      · rename_i xs hc
        obtain ⟨a2, vs, g1, e2, M2, r2⟩ := M1.freeze hc
        rw [z1] at g1
        cases g1
        have M3 := M2.take n
        rw [tk] at M3
        exact hx _ H1 _ _ (keep e2) M3 r2
      · exact hx.elim
    · exact hx.elim
  · exact hx S1 H1 ρ1 xv e1 M1 rx⟩
end
end PL
namespace ZL
open PySem PySem.W PySem.Calls PyProof.Rows PyProof.V PySem.Spec
structure ZSt (h : Heap) (z TI TO i1 i2 l1 l2 S : Addr) (xs ys : Array Value) (i : Nat) : Prop where
  ti : IsPair h TI (.ref i1) (.ref i2)
  h1 : h.IsListIter i1 l1 i
  h2 : h.IsListIter i2 l2 i
  l1 : h.IsList l1 xs
  l2 : h.IsList l2 ys
  z : (IsZip h z TI TO .none ∧ ∃ a b, IsPair h TO a b) ∨ ∃ T f oT, IsZipHeld h z TI TO T f ∧ h.get? T = some oT ∧ T ≠ z ∧ T ≠ i1 ∧ T ≠ i2 ∧ T ≠ S
structure Off (S z TI TO i1 i2 l1 l2 : Addr) : Prop where
  z : z < S
  TI : TI < S
  TO : TO < S
  i1 : i1 < S
  i2 : i2 < S
  l1 : l1 < S
  l2 : l2 < S
theorem ZSt.keep {h h' : Heap} {z TI TO i1 i2 l1 l2 S : Addr} {xs ys : Array Value} {i : Nat} (st : ZSt h z TI TO i1 i2 l1 l2 S xs ys i) (O : Off S z TI TO i1 i2 l1 l2) (k : ∀ b o, b ≠ S → h.get? b = some o → h'.get? b = some o) : ZSt h' z TI TO i1 i2 l1 l2 S xs ys i := by
  refine ⟨k _ _ (Nat.ne_of_lt O.TI) st.ti, st.h1.at fun o e => k _ o (Nat.ne_of_lt O.i1) e, st.h2.at fun o e => k _ o (Nat.ne_of_lt O.i2) e, st.l1.at fun o e => k _ o (Nat.ne_of_lt O.l1) e, st.l2.at fun o e => k _ o (Nat.ne_of_lt O.l2) e, ?_⟩
  rcases st.z with ⟨hz, a, b, hTO⟩ | ⟨T, f, oT, hz, hT, r1, r2, r3, r4⟩
  · exact .inl ⟨k _ _ (Nat.ne_of_lt O.z) hz, a, b, k _ _ (Nat.ne_of_lt O.TO) hTO⟩
  · exact .inr ⟨T, f, oT, k _ _ (Nat.ne_of_lt O.z) hz, k _ _ r4 hT, r1, r2, r3, r4⟩
end ZL
namespace PL
open PySem PySem.Spec PyProof.Rows L2
structure FTabOk (P : Program) (w : World) (K : PySem.W.Frag) (mg : Str → Option Value) (base : Heap) (k : Nat) (tab : FTab) : Prop where
  ex : ∀ e ∈ tab, ∃ ps, ps.length = e.2.1 ∧ Cal P w K mg base k e.1 ps e.2.2
section
variable {P : Program} {w : World} {K : PySem.W.Frag} {mg : Str → Option Value} {base : Heap} {k : Nat} {tab : FTab}
theorem FTabOk.look (t : FTabOk P w K mg base k tab) : ∀ y n F, tab.lookup y = some (n, F) → ∃ ps, ps.length = n ∧ Cal P w K mg base k y ps F := fun y n F h => t.ex (y, n, F) (PySem.mem_of_lookup h)
end
@[simp] theorem dFz_ap (f : En → P SV) (env : En) (m : Mem) : dFz f env m = (f env m).bnd (fzL m.length) := (rfl)
@[simp] theorem fzL_dat (k : Nat) (d : D) (m : Mem) : fzL k (.dat d) m = .ok (.dat d) m := (rfl)
theorem fzL_pair {k : Nat} {m : Mem} {d : D} {xs : List D} (h : m.length = k) : fzL k (.ref k) (m ++ [.pair d xs]) = .ok (.dat (.tup [d, .lst xs])) m := by
  subst h
  unfold fzL fzC
  simp
@[simp] theorem fzL_pair' (m : Mem) (d : D) (xs : List D) : fzL m.length (.ref m.length) (m ++ [.pair d xs]) = .ok (.dat (.tup [d, .lst xs])) m := fzL_pair rfl
@[simp] theorem fzL_lst' (m : Mem) (xs : List D) : fzL m.length (.ref m.length) (m ++ [.lst xs]) = .ok (.dat (.lst xs)) m := by
  unfold fzL fzC
  simp
end PL
namespace PL
open PySem PySem.Spec PyProof.Rows L2
theorem merge_nodup : ∀ (kvs acc : List (Key × V)), ((acc ++ kvs).map (·.1)).Nodup → mergeK acc kvs = acc ++ kvs
  | [], acc, _ => by simp [mergeK]
  | kv :: kvs, acc, h => by
    have hput : putK acc kv.1 kv.2 = acc ++ [kv] := by
      unfold putK
      rw [if_neg]
      intro q
      obtain ⟨x, hx, e⟩ := List.any_eq_true.mp q
      have e : x.1 = kv.1 := of_decide_eq_true e
      rw [List.map_append, List.nodup_append] at h
      exact h.2.2 x.1 (List.mem_map.mpr ⟨x, hx, rfl⟩) kv.1 (List.mem_map.mpr ⟨kv, List.mem_cons_self .., rfl⟩) e
    have := merge_nodup kvs (acc ++ [kv]) (by rw [List.append_assoc]; exact h)
    rw [List.append_assoc] at this
    unfold mergeK at this ⊢
    rw [List.foldl_cons, hput]
    exact this
def dkGet (ks : List Key) (ds : List D) (k : Key) : Option D := match ks, ds with
  | x :: ks, d :: ds => if x = k then some d else dkGet ks ds k
  | _, _ => none
theorem dkGet_ok {Γ : Gd} {S : Hp} {k : Key} {d : D} : ∀ {kvs : List (Key × V)} {ds : List D}, RpAll Γ S (kvs.map (·.2)) ds → dkGet (kvs.map (·.1)) ds k = some d → ∃ v, valV kvs k = some v ∧ Rp Γ S v d
  | [], _, _, h => by simp [dkGet] at h
  | kv :: kvs, _, .cons r rs, h => by
    rw [List.map_cons] at h
    unfold dkGet at h
    split at h
    · rename_i e
      cases h
      exact ⟨kv.2, valV_pos e, r⟩
    · rename_i e
      obtain ⟨v, e1, e2⟩ := dkGet_ok rs h
      exact ⟨v, by rw [valV_neg e]; exact e1, e2⟩
section
variable {X : Cx} {W : WX} {a b o i : Expr} {fs : En → P (List SV)} {fa fb : En → P SV} {p p2 q pos : Pos}
def itemKV (d k : SV) : P SV := fun m => match d, k with
  | .dat (.dk ks ds), .dat j => (match keyD j with
    | some k => (match dkGet ks ds k with | some x => .ok (.dat x) m | none => .stuck)
    | none => .stuck)
  | _, _ => .stuck
theorem je_dixK (hu : X.A.units + 1 < cLine) (ja : JE X W o fa) (jb : JE X W i fb) (hs : NoSl i := by exact fun _ _ => rfl) : JE X W (.Subscript o i pos) (d2 itemKV fa fb) := ⟨fun {G S H ρ m env σ Q} M E h => by
  refine we_of (pe_dget hu pe_we pe_we hs) (ja.run M E (wpr_monoQ (wpr_bnd h) fun d m1 hd => ?_))
  intro S1 H1 ρ1 dv e1 M1 rd
  refine jb.run M1 (E.mono e1) (wpr_mono (wpr_bnd hd) (fun k m2 hk => ?_) fun _ _ z => qx_ext e1 z)
  intro S2 H2 ρ2 kv e2 M2 rk
  unfold itemKV at hk
  split at hk
  · rename_i ks ds j
    split at hk
    · rename_i key hkey
      split at hk
      · rename_i x hx
        have ek := keyD_ok (show Rp (gd X) S2 kv j from rk) hkey
        subst ek
        have rd : Rp (gd X) S1 dv (.dk ks ds) := rd
        cases rd with
        | dk h1 hks rr =>
          rename_i a od kvs
          subst hks
          obtain ⟨v, g1, g2⟩ := dkGet_ok rr hx
          exact ⟨a, v, rfl, by rw [← g1]; exact .inl ⟨kvs, key, .inr ⟨od, M2.sub _ _ (e2.s _ _ h1)⟩, rfl, rfl⟩, hk S2 H2 ρ2 v (e1.trans e2) M2 (g2.mono e2.s)⟩
      · exact hk.elim
    · exact hk.elim
  · exact hk.elim⟩
end
end PL
namespace ZS
open PySem
def Ls (h : Heap) (a : Addr) (its : List Value) : Prop := ∃ n, h.get? a = some { cls := .type "list", data := .seq its.toArray n }
theorem Ls.keep {h h' : Heap} {a : Addr} {its : List Value} (x : Ls h a its) (k : ∀ o, h.get? a = some o → h'.get? a = some o) : Ls h' a its := let ⟨n, e⟩ := x; ⟨n, k _ e⟩
def rest (ys : Nat → List Value) : Nat → Nat → List Value
  | _, 0 => []
  | i, k + 1 => ys i ++ rest ys (i + 1) k
section
variable {prog : Program} {w : World} {A : Around} {R : Result → Shared → Prop} {I ax S : Addr}
theorem loop (hh : A.handled = none) (hne : ax ≠ I) (hSI : S ≠ I) (hSx : S ≠ ax) (items : Array Value) (as : Nat → Addr) (ys : Nat → List Value) (hit : ∀ j, j < items.size → items[j]? = some (.ref (as j)) ∧ as j ≠ I ∧ as j ≠ S) :
    ∀ (k i : Nat) (s : Shared) (c : Nat) (tot : Addr) (cur : List Value), i + k = items.size → s.heap.IsListIter I ax i → s.heap.IsList ax items → s.heap.get? S = some { cls := .type "list", dict := none, data := .seq #[.ref tot] c, slots := #[] } →
      tot ≠ I → tot ≠ S → Ls s.heap tot cur → (∀ j, i ≤ j → j < items.size → Ls s.heap (as j) (ys j)) → cur.length + (rest ys i k).length ≤ sizeLine →
      (∀ h' tk tot', (∀ b o, b ≠ I → b ≠ S → s.heap.get? b = some o → h'.get? b = some o) → Ls h' tot' (cur ++ rest ys i k) → ((k = 0 ∧ tot' = tot) ∨ s.heap.objs.size ≤ tot') → R (.ok (.ret (.ref tot'))) { s with heap := h', toks := tk }) →
      codeAny (model prog w) A (.builtin "sum.loop" ⟨[.ref I, .ref S, rawInt 2, rawInt 0], []⟩) R s := by
  intro k
  induction k with
  | zero =>
    intro i s c tot cur hk hI hax hS ht1 ht2 htot has hsz hR
    refine codeAny_builtin F.entry_sum_loop ?_
    rw [Around.under_plainId F.plain_sum_loop _]
    show wpAny _ A.in1 (seqItems? (.ref S) >>= _) _ _ s
    refine wpAny_bind (wpAny_seqItems hS rfl ?_)
    show wpAny _ A.in1 (tryCatch (pyNext (.ref I)) _ >>= _) _ _ s
    refine wpAny_bind (wpAny_tryCatch (wpAny_pyNext_list_end hh hI hax (Array.getElem?_eq_none (by omega)) fun h' he' => ?_))
    exact wpAny_pure (hR h' s.toks tot (fun b o hbI _ e => he' b o hbI e) (by rw [rest, List.append_nil]; exact htot.keep fun o e => he' tot o ht1 e) (.inl ⟨rfl, rfl⟩))
  | succ k ih =>
    intro i s c tot cur hk hI hax hS ht1 ht2 htot has hsz hR
    have hi : i < items.size := by omega
    obtain ⟨hx, hiI, hiS⟩ := hit i hi
    refine codeAny_builtin F.entry_sum_loop ?_
    rw [Around.under_plainId F.plain_sum_loop _]
    show wpAny _ A.in1 (seqItems? (.ref S) >>= _) _ _ s
    refine wpAny_bind (wpAny_seqItems hS rfl ?_)
    show wpAny _ A.in1 (tryCatch (pyNext (.ref I)) _ >>= _) _ _ s
    refine wpAny_bind (wpAny_tryCatch (wpAny_pyNext_list_item hI hax hx fun h1 hI1 hs1 => ?_))
    have hax1 := hax.extBut hs1.extBut hne
    have hS1 := hs1.extBut S _ hSI hS
    obtain ⟨n1, e1⟩ := htot.keep (h' := h1) fun o e => hs1.extBut tot o ht1 e
    obtain ⟨n2, e2⟩ := (has i (Nat.le_refl _) hi).keep (h' := h1) fun o e => hs1.extBut (as i) o hiI e
    have ls : cur.length + (ys i).length ≤ sizeLine := by
      rw [rest, List.length_append] at hsz
      omega
    show wpAny _ A.in1 ((holding [Value.ref (as i)] (binaryOp .Add (.ref tot) (.ref (as i)))).attempt >>= _) _ _ _
    refine wpAny_bind (wpAny_attempt (wpAny_holding (PySem.P.add_list (s := { s with heap := h1 }) e1 e2 ?_ (by rw [List.size_toArray, List.size_toArray]; exact ls))))
    have hsize : h1.objs.size = s.heap.objs.size := hs1.1
    have ea : cur.toArray ++ (ys i).toArray = (cur ++ ys i).toArray := by simp
    rw [ea]
    have kp : ∀ b o, h1.get? b = some o → (h1.push { cls := .type "list", data := .seq (cur ++ ys i).toArray }).get? b = some o := fun b o e => Heap.get?_push_of_some _ e
    have hS2 := kp _ _ hS1
    have hnew : (h1.push { cls := .type "list", data := .seq (cur ++ ys i).toArray }).get? h1.objs.size = some { cls := .type "list", data := .seq (cur ++ ys i).toArray } := Heap.get?_push_size _ rfl
    show wpAny _ A.in1 (updateSeq S (fun _ => #[.ref h1.objs.size]) >>= _) _ _ _
    refine wpAny_bind (wpAny_updateSeq hS2 rfl ?_)
    have hS3 := Heap.get?_update_self (Obj.mapSeq fun _ => #[Value.ref h1.objs.size]) hS2 rfl
    refine wpAny_bind (wpAny_letGo ?_)
    have nS : h1.objs.size ≠ S := Nat.ne_of_gt (Heap.lt_size hS1)
    have nI : h1.objs.size ≠ I := by obtain ⟨_, e, _⟩ := hI1; exact Nat.ne_of_gt (Heap.lt_size e)
    have up : ∀ b o, b ≠ S → h1.get? b = some o → (((h1.push { cls := .type "list", data := .seq (cur ++ ys i).toArray }).update S (Obj.mapSeq fun _ => #[Value.ref h1.objs.size])).update S (Obj.mapSeq fun _ => #[Value.ref h1.objs.size])).get? b = some o := fun b o hb e =>
      (Heap.get?_update_other _ _ (Ne.symm hb)).trans ((Heap.get?_update_other _ _ (Ne.symm hb)).trans (kp b o e))
    refine wpAny_bind (wpAny_updateSeq hS3 rfl (wpAny_pure ⟨plainId_quiet F.plain_sum_loop _, ih (i + 1) _ _ h1.objs.size (cur ++ ys i) (by omega) (hI1.at fun o e => up I o (Ne.symm hSI) e) (hax1.at fun o e => up ax o (Ne.symm hSx) e) (Heap.get?_update_self _ hS3 rfl) nI nS
      ⟨0, (Heap.get?_update_other _ _ (Ne.symm nS)).trans ((Heap.get?_update_other _ _ (Ne.symm nS)).trans hnew)⟩
      (fun j hj1 hj2 => (has j (by omega) hj2).keep fun o e => up _ o (hit j hj2).2.2 (hs1.extBut _ o (hit j hj2).2.1 e)) (by
        rw [rest, List.length_append] at hsz
        rw [List.length_append]
        omega) fun h' tk tot' hk' hl' ho' => ?_⟩))
    refine hR h' tk tot' (fun b o hbI hbS e => hk' b o hbI hbS (up b o hbS (hs1.extBut b o hbI e))) (by rw [rest, ← List.append_assoc]; exact hl') (.inr ?_)
    rcases ho' with ⟨_, rfl⟩ | ho'
    · rw [hsize]
      exact Nat.le_refl _
    · have : s.heap.objs.size ≤ (((h1.push { cls := .type "list", data := .seq (cur ++ ys i).toArray }).update S (Obj.mapSeq fun _ => #[Value.ref h1.objs.size])).update S (Obj.mapSeq fun _ => #[Value.ref h1.objs.size])).objs.size := by
        rw [Heap.size_update, Heap.size_update, Heap.size_push, hsize]
        exact Nat.le_succ _
      exact Nat.le_trans this ho'
end
end ZS
namespace PL
open PySem PySem.Spec PyProof.Rows L2
section
variable {X : Cx} {W : WX} {es : List Expr} {a b e : Expr} {pos : Pos} {fs : En → P (List SV)} {fa fb : En → P SV}
def exitM (k : Nat) (v : SV) (m : Mem) : R SV := match v with
  | .dat d => exitV k (.dat d) m
  | .ref i => exitO k (.ref i) m
theorem exitM_ok : ExitOk exitM := by
  intro Γ G S H ρ m k v vv Q E M r hk h
  cases v with
  | dat d => exact exitV_ok M r hk h
  | ref i => exact exitO_ok M r hk h
end
@[simp] theorem exitM_dat (k : Nat) (d : D) (m : Mem) : exitM k (.dat d) m = .ok (.dat d) (m.take k) := (rfl)
@[simp] theorem exitM_ref (k n : Nat) (m : Mem) : exitM k (.ref n) m = exitO k (.ref n) m := (rfl)
end PL
namespace PL
open PySem PySem.Spec PyProof.Rows L2
def objGo (o : Nat) : Nat → Mem → Option (Nat × Str × List (Str × SV)) → Option (Nat × Str × List (Str × SV))
  | _, [], acc => acc
  | p, .obj o' cls fs :: r, acc => objGo o (p + 1) r (if o' = o then some (p, cls, fs) else acc)
  | p, _ :: r, acc => objGo o (p + 1) r acc
def objAt (o : Nat) (m : Mem) : Option (Nat × Str × List (Str × SV)) := objGo o 0 m none
theorem objGo_ok {o : Nat} : ∀ {l : Mem} {p : Nat} {acc : Option (Nat × Str × List (Str × SV))} {q : Nat} {cls : Str} {fs : List (Str × SV)}, objGo o p l acc = some (q, cls, fs) → acc = some (q, cls, fs) ∨ (p ≤ q ∧ l[q - p]? = some (.obj o cls fs))
  | [], _, _, _, _, _, h => .inl h
  | c :: r, p, acc, q, cls, fs, h => by
    have key : ∀ {acc'}, objGo o (p + 1) r acc' = some (q, cls, fs) → acc' = some (q, cls, fs) ∨ (p ≤ q ∧ (c :: r)[q - p]? = some (.obj o cls fs)) := fun {acc'} h => by
      rcases objGo_ok h with z | ⟨z1, z2⟩
      · exact .inl z
      · refine .inr ⟨by omega, ?_⟩
        rw [show q - p = (q - (p + 1)) + 1 by omega]
        simpa using z2
    cases c with
    | obj o' cls' fs' =>
      rcases key (show objGo o (p + 1) r (if o' = o then some (p, cls', fs') else acc) = some (q, cls, fs) from h) with z | z
      · split at z
        · rename_i e
          subst e
          cases z
          exact .inr ⟨Nat.le_refl _, by simp⟩
        · exact .inl z
      · exact .inr z
    | _ => exact key h
theorem objAt_ok {o : Nat} {m : Mem} {p : Nat} {cls : Str} {fs : List (Str × SV)} (h : objAt o m = some (p, cls, fs)) : m[p]? = some (.obj o cls fs) := by
  rcases objGo_ok h with z | ⟨_, z⟩
  · cases z
  · simpa using z
theorem objGo_app {o : Nat} : ∀ {l l' : Mem} {p : Nat} {acc : Option (Nat × Str × List (Str × SV))}, objGo o p (l ++ l') acc = objGo o (p + l.length) l' (objGo o p l acc)
  | [], l', p, acc => by simp [objGo]
  | c :: r, l', p, acc => by
    cases c <;> simp only [List.cons_append, objGo, List.length_cons] <;> rw [objGo_app, show p + 1 + r.length = p + (r.length + 1) by omega]
theorem objAt_app {o : Nat} {m l : Mem} : objAt o (m ++ l) = objGo o m.length l (objAt o m) := by
  unfold objAt
  rw [objGo_app, Nat.zero_add]
def putFS (f : Str) (v : SV) : List (Str × SV) → List (Str × SV)
  | [] => [(f, v)]
  | (g, x) :: r => if g = f then (g, v) :: r else (g, x) :: putFS f v r
section
variable {Γ : Gd} {G S H : Hp} {ρ : List Addr} {m : Mem} {p : Addr}
theorem FlR.put {vs : List (Str × V)} {fs : List (Str × SV)} (h : FlR Γ S ρ vs fs) (f : Str) {v : V} {y : SV} (r : RSV Γ S ρ v y) : FlR Γ S ρ (putF f v vs) (putFS f y fs) := by
  unfold FlR at h ⊢
  induction h with
  | nil => exact .cons ⟨rfl, r⟩ .nil
  | @cons a b as bs q _ ih =>
    obtain ⟨g, x⟩ := a
    obtain ⟨g', x'⟩ := b
    obtain ⟨e, q⟩ := q
    have e : g = g' := e
    subst e
    show Paired _ (putF f v ((g, x) :: as)) (putFS f y ((g, x') :: bs))
    rw [show putF f v ((g, x) :: as) = (if g = f then (g, v) :: as else (g, x) :: putF f v as) from rfl, show putFS f y ((g, x') :: bs) = (if g = f then (g, y) :: bs else (g, x') :: putFS f y bs) from rfl]
    by_cases z : g = f
    · rw [if_pos z, if_pos z]
      exact .cons ⟨rfl, r⟩ (by assumption)
    · rw [if_neg z, if_neg z]
      exact .cons ⟨rfl, q⟩ ih
theorem FlR.lookup {vs : List (Str × V)} {fs : List (Str × SV)} (h : FlR Γ S ρ vs fs) (f : Str) {y : SV} (e : fs.lookup f = some y) : ∃ v, vs.lookup f = some v ∧ RSV Γ S ρ v y := by
  unfold FlR at h
  induction h with
  | nil => cases e
  | @cons a b as bs q _ ih =>
    obtain ⟨g, x⟩ := a
    obtain ⟨g', x'⟩ := b
    obtain ⟨e1, q⟩ := q
    have e1 : g = g' := e1
    subst e1
    rw [List.lookup_cons] at e ⊢
    cases hb : f == g with
    | true => rw [hb] at e; cases e; exact ⟨_, rfl, q⟩
    | false => rw [hb] at e; exact ih e
theorem FlR.lookup_none {vs : List (Str × V)} {fs : List (Str × SV)} (h : FlR Γ S ρ vs fs) (f : Str) (e : fs.lookup f = none) : vs.lookup f = none := by
  unfold FlR at h
  induction h with
  | nil => rfl
  | @cons a b as bs q _ ih =>
    obtain ⟨g, x⟩ := a
    obtain ⟨g', x'⟩ := b
    obtain ⟨e1, q⟩ := q
    have e1 : g = g' := e1
    subst e1
    rw [List.lookup_cons] at e ⊢
    cases hb : f == g with
    | true => rw [hb] at e; cases e
    | false => rw [hb] at e; exact ih e
theorem FlR.length {vs : List (Str × V)} {fs : List (Str × SV)} (h : FlR Γ S ρ vs fs) : vs.length = fs.length := Paired.length h
theorem MR.heapX (M : MR Γ G S H ρ m) {x : Addr} {u : HO} (hx : H x = none ∨ ∃ C dx vs, H x = some (.ins C dx vs)) (hs : S x = none) (hg : G x = none) (nc : NoCell S ρ m x) : MR Γ G S (upd H x u) ρ m := by
  have ne : ∀ {b : Addr} {vs : List V}, H b = some (.lst vs) → b ≠ x := fun {b vs} q z => by
    rw [z] at q
    rcases hx with h | ⟨C, dx, ws, h⟩ <;> rw [h] at q <;> cases q
  have neD : ∀ {b : Addr} {vs : List (Key × V)}, H b = some (.dK vs) → b ≠ x := fun {b vs} q z => by
    rw [z] at q
    rcases hx with h | ⟨C, dx, ws, h⟩ <;> rw [h] at q <;> cases q
  have tabs : TabR Γ.K G S (upd H x u) := ⟨M.tab.st, M.tab.gt, fun q hq => by
    obtain ⟨ps, g1, g2, g3⟩ := M.tab.tb q hq
    have neT : ∀ {b : Addr} {ps : Array Value}, H b = some (.tbl ps) → b ≠ x := fun {b vs} q z => by
      rw [z] at q
      rcases hx with h | ⟨C, dx, ws, h⟩ <;> rw [h] at q <;> cases q
    refine ⟨ps, by rw [upd_ne (neT g1)]; exact g1, g2, fun pos cv hc => ?_⟩
    obtain ⟨c, e1, e2⟩ := g3 pos cv hc
    refine ⟨c, e1, ?_⟩
    rw [upd_ne (fun z => ?_)]
    · exact e2
    · rw [z] at e2
      unfold LamX.CodeO at e2
      rcases hx with h | ⟨C, dx, ws, h⟩ <;> rw [h] at e2 <;> cases e2⟩
  refine ⟨fun b y q => ?_, fun b y q => ?_, M.dis, M.len, fun i xs q => ?_, M.inj, tabs, ⟨⟨fun i kvs q => ?_, M.dic.inj⟩, M.dic.sv.gen (Same.refl S) fun p o kvs b us _ _ k2 k3 k4 => ⟨by rw [upd_ne (neD k2)]; exact k2, k3, k4⟩⟩, M.mix.same (Same.refl S) fun i b q => ⟨(M.mix.own q).1, (M.mix.own q).2.1, upd_ne fun z => nc.2 i (by rw [← z]; exact q)⟩⟩
  · rw [upd_ne (ne_of_none q hs)]; exact M.sub b y q
  · rw [upd_ne (ne_of_none q hg)]; exact M.gsub b y q
  · obtain ⟨a, vs, h1, h2, h3⟩ := M.cell i xs q
    exact ⟨a, vs, h1, by rw [upd_ne (ne h2)]; exact h2, h3⟩
  · obtain ⟨a, vs, h1, h2, h3⟩ := M.dic.cell i kvs q
    exact ⟨a, vs, h1, by rw [upd_ne (neD h2)]; exact h2, h3⟩
theorem MR.addDead (M : MR Γ G S H ρ m) (a : Addr) : Ext S ρ S (ρ ++ [a]) ∧ MR Γ G S H (ρ ++ [a]) (m ++ [.dead]) := by
  have low : ∀ (j : Nat) (ys : List D), (m ++ [Cell.dead])[j]? = some (.lst ys) → m[j]? = some (.lst ys) := fun j ys q => lst_app (fun _ z => by cases z) q
  have hin : ∀ (j : Nat) (ys : List D), m[j]? = some (.lst ys) → j < ρ.length := fun j ys q => by rw [M.len]; exact (List.getElem?_eq_some_iff.mp q).1
  have ra : ∀ {j : Nat}, j < ρ.length → (ρ ++ [a])[j]? = ρ[j]? := fun {j} hj => List.getElem?_append_left hj
  refine ⟨⟨Same.refl S, fun i c q => r_app q⟩, ⟨M.sub, M.gsub, M.dis, by simp [M.len], fun j ys q => ?_, fun i j xs' ys a' q1 q2 q3 q4 => ?_, M.tab, M.dic.cells (fun i kvs q => dct_app (fun _ z => by cases z) q) (fun i c kvs _ q => r_app q), M.mix.push M.len (fun _ _ _ => rfl) rfl fun ⟨_, z⟩ => by cases z⟩⟩
  · obtain ⟨a', vs', g1, g2⟩ := M.cell j ys (low j ys q)
    exact ⟨a', vs', r_app g1, g2⟩
  · have l1 := low i xs' q1
    have l2 := low j ys q2
    rw [ra (hin i _ l1)] at q3
    rw [ra (hin j _ l2)] at q4
    exact M.inj i j xs' ys a' l1 l2 q3 q4
theorem MR.addO (M : MR Γ G S H ρ m) {a : Addr} {c : Cell} (hk : (∃ o cls fs, c = .obj o cls fs) ∨ c = .odx) (nc : NoCell S ρ m a)
    (ho : ∀ (o : Nat) (cls : Str) (fs : List (Str × SV)), c = .obj o cls fs → o + 1 < m.length ∧ (∀ (f : Str) (k : Nat), (f, SV.ref k) ∈ fs → k < m.length) ∧ ∃ (dx C : Addr) (vs : List (Str × V)), ρ[o]? = some a ∧ ρ[o + 1]? = some dx ∧ Γ.mg cls = some (.ref C) ∧ H a = some (.ins C dx vs) ∧ FlR Γ S ρ vs fs ∧ S a = none ∧ G a = none)
    (hx : c = .odx → 0 < m.length ∧ ∃ x : Addr, ρ[m.length - 1]? = some x ∧ H a = some (.own x) ∧ S a = none ∧ G a = none) :
    Ext S ρ S (ρ ++ [a]) ∧ MR Γ G S H (ρ ++ [a]) (m ++ [c]) := by
  have h1' : c.own1 = true := by rcases hk with ⟨o, cls, fs, rfl⟩ | rfl <;> rfl
  have nl : ∀ xs, c ≠ .lst xs := fun xs z => by subst z; cases h1'
  have nd : ∀ xs, c ≠ .dct xs := fun xs z => by subst z; cases h1'
  have np : ∀ d xs, c ≠ .pair d xs := fun d xs z => by subst z; cases h1'
  have nt : ∀ d xs, c ≠ .dtc d xs := fun d xs z => by subst z; cases h1'
  have ns : ∀ i j xs, c ≠ .sub i j xs := fun i j xs z => by subst z; rcases hk with ⟨o, cls, fs, e⟩ | e <;> cases e
  have nq : ∀ ks, c ≠ .dtl ks := fun ks z => by subst z; rcases hk with ⟨o, cls, fs, e⟩ | e <;> cases e
  have nn' : ∀ t i es, c ≠ .nst t i es := fun t i es z => by subst z; rcases hk with ⟨o, cls, fs, e⟩ | e <;> cases e
  have low : ∀ (j : Nat) (ys : List D), (m ++ [c])[j]? = some (.lst ys) → m[j]? = some (.lst ys) := fun j ys q => lst_app nl q
  have hin : ∀ (j : Nat) (ys : List D), m[j]? = some (.lst ys) → j < ρ.length := fun j ys q => by rw [M.len]; exact (List.getElem?_eq_some_iff.mp q).1
  have ra : ∀ {j : Nat}, j < ρ.length → (ρ ++ [a])[j]? = ρ[j]? := fun {j} hj => List.getElem?_append_left hj
  have last : ∀ {i : Nat} {c' : Cell}, ¬ i < m.length → (m ++ [c])[i]? = some c' → i = m.length ∧ c' = c := fun {i c'} hi h => by
    have := (List.getElem?_eq_some_iff.mp h).1
    simp at this
    have e : i = m.length := by omega
    subst e
    exact ⟨rfl, by simpa using h.symm⟩
  have old : ∀ (i : Nat) (b : Addr), MixA S (ρ ++ [a]) (m ++ [c]) i b → MixA S ρ m i b ∨ (i = m.length ∧ b = a) := fun i b q => by
    by_cases hi : i < m.length
    · left
      rcases q with ⟨d', xs', a', v', h1, h2, h3⟩ | ⟨kss, ds, h1, h2⟩ | ⟨c0, h1, h0, h2⟩
      · rw [List.getElem?_append_left hi] at h1
        rw [ra (by rw [M.len]; exact hi)] at h2
        exact .inl ⟨d', xs', a', v', h1, h2, h3⟩
      · rw [List.getElem?_append_left hi] at h1
        rw [ra (by rw [M.len]; exact hi)] at h2
        exact .inr (.inl ⟨kss, ds, h1, h2⟩)
      · rw [List.getElem?_append_left hi] at h1
        rw [ra (by rw [M.len]; exact hi)] at h2
        exact .inr (.inr ⟨c0, h1, h0, h2⟩)
    · right
      rcases q with ⟨d', xs', a', v', h1, h2, h3⟩ | ⟨kss, ds, h1, h2⟩ | ⟨c0, h1, h0, h2⟩
      · exact absurd (last hi h1).2.symm (np _ _)
      · exact absurd (last hi h1).2.symm (nt _ _)
      · obtain ⟨e, _⟩ := last hi h1
        subst e
        rw [← M.len] at h2 ⊢
        exact ⟨rfl, by simpa using h2.symm⟩
  refine ⟨⟨Same.refl S, fun i c q => r_app q⟩, ⟨M.sub, M.gsub, M.dis, by simp [M.len], fun j ys q => ?_, fun i j xs' ys a' q1 q2 q3 q4 => ?_, M.tab, M.dic.cells (fun i kvs q => dct_app nd q) (fun i c kvs _ q => r_app q) (fun p o kvs q => dsv_app (fun o2 kvs2 z => by subst z; rcases hk with ⟨o, cls, fs, e⟩ | e <;> cases e) q) (hz := fun p es q => sq_app (fun es2 z => by subst z; rcases hk with ⟨o, cls, fs, e⟩ | e <;> cases e) q), ⟨fun i d' xs' q => ?_, fun i kss ds q => ?_, fun n' i' j' xs' q => ?_, fun i kss q => ?_, fun nn tt ii es' q => ?_, fun nn oo cls fs q => ?_, fun nn q => ?_, fun i j b q1 q2 => ?_, fun k j b ys q1 q2 => ?_⟩⟩⟩
  · obtain ⟨a', vs', g1, g2⟩ := M.cell j ys (low j ys q)
    exact ⟨a', vs', r_app g1, g2⟩
  · have l1 := low i xs' q1
    have l2 := low j ys q2
    rw [ra (hin i _ l1)] at q3
    rw [ra (hin j _ l2)] at q4
    exact M.inj i j xs' ys a' l1 l2 q3 q4
  · obtain ⟨a', b', v', vs', g1, g2⟩ := M.mix.pair i d' xs' (cell_app (np _ _) q)
    exact ⟨a', b', v', vs', r_app g1, g2⟩
  · obtain ⟨a', es, vs', g1, g2⟩ := M.mix.dtc i kss ds (cell_app (nt _ _) q)
    exact ⟨a', es, vs', r_app g1, g2⟩
  · obtain ⟨g0, b', vs', g1, g2⟩ := M.mix.sub n' i' j' xs' (cell_app (ns _ _ _) q)
    exact ⟨g0, b', vs', r_app g1, g2⟩
  · obtain ⟨a', es, vs', g1, g2, g3, g4, g5, g6, g7, g8⟩ := M.mix.dtl i kss (cell_app (nq _) q)
    refine ⟨a', es, vs', r_app g1, g2, g3, g4, g5, g6, fun n' j' xs' b' w1 w2 => ?_, g8⟩
    have w1' := cell_app (ns _ _ _) w1
    rw [ra (by rw [M.len]; exact (List.getElem?_eq_some_iff.mp w1').1)] at w2
    exact g7 n' j' xs' b' w1' w2
  · have q' := cell_app (nn' _ _ _) q
    obtain ⟨a', vs', g1, g2, g3, g4, g5, g6⟩ := M.mix.nst nn tt ii es' q'
    refine ⟨a', vs', r_app g1, g2, g3, fun n' j' xs' b' w1 w2 => ?_, g5, fun kss z => g6 kss (cell_app (nq _) z)⟩
    have w1' := cell_app (ns _ _ _) w1
    rw [ra (by rw [M.len]; exact (List.getElem?_eq_some_iff.mp w1').1)] at w2
    exact g4 n' j' xs' b' w1' w2
  · by_cases hi : nn < m.length
    · rw [List.getElem?_append_left hi] at q
      obtain ⟨h1, h2, x, dx, C, vs', g1, g2, g3, g4, g5, g6, g7⟩ := M.mix.obj nn oo cls fs q
      exact ⟨h1, h2, x, dx, C, vs', r_app g1, r_app g2, r_app g3, g4, g5, g6.mono' (Same.refl S) fun _ _ _ _ w => r_app w, g7⟩
    · obtain ⟨e, e2⟩ := last hi q
      subst e
      obtain ⟨z1, z2, dx, C, vs, z3, z4, z5, z6, z7, z8⟩ := ho oo cls fs e2.symm
      exact ⟨z1, z2, a, dx, C, vs, by rw [← M.len]; simp, r_app z3, r_app z4, z5, z6, z7.mono' (Same.refl S) fun _ _ _ _ w => r_app w, z8⟩
  · by_cases hi : nn < m.length
    · rw [List.getElem?_append_left hi] at q
      obtain ⟨h0, dx, x, g1, g2, g3⟩ := M.mix.odx nn q
      exact ⟨h0, dx, x, r_app g1, r_app g2, g3⟩
    · obtain ⟨e, e2⟩ := last hi q
      subst e
      obtain ⟨z0, x, z1, z2⟩ := hx e2.symm
      exact ⟨z0, a, x, by rw [← M.len]; simp, r_app z1, z2⟩
  · rcases old i b q1 with z1 | ⟨z1, w1⟩
    · rcases old j b q2 with z2 | ⟨z2, w2⟩
      · exact M.mix.inj i j b z1 z2
      · subst w2
        exact absurd z1 (nc.2 i)
    · rcases old j b q2 with z2 | ⟨z2, w2⟩
      · subst w1
        exact absurd z2 (nc.2 j)
      · rw [z1, z2]
  · have l := low j ys q2
    rw [ra (hin j _ l)]
    rcases old k b q1 with z1 | ⟨z1, w1⟩
    · exact M.mix.crs k j b ys z1 l
    · subst w1
      exact nc.1 j ys l
theorem MR.noneAt (M : MR Γ G S H ρ m) {x : Addr} (h : H x = none) : NoCell S ρ m x := by
  refine ⟨fun i xs q z => ?_, fun i q => M.mix.ne q h rfl⟩
  obtain ⟨a, vs, h1, h2, _⟩ := M.cell i xs q
  rw [z] at h1
  cases h1
  rw [h] at h2
  cases h2
theorem MR.allocI (M : MR Γ G S H ρ m) {x dx C : Addr} {cls : Str} (hC : Γ.mg cls = some (.ref C)) (hx : H x = none) (hd : H dx = none) (ne : dx ≠ x) :
    Ext S ρ S (ρ ++ [x] ++ [dx] ++ [x]) ∧ MR Γ G S (upd (upd H dx (.own x)) x (.ins C dx [])) (ρ ++ [x] ++ [dx] ++ [x]) (m ++ [.dead] ++ [.odx] ++ [.obj m.length cls []]) := by
  have sx : S x = none := M.sub.free hx
  have gx : G x = none := M.gsub.free hx
  have sd : S dx = none := M.sub.free hd
  have gd' : G dx = none := M.gsub.free hd
  have M1 := M.heapX (u := .own x) (.inl hd) sd gd' (M.noneAt hd)
  have hx1 : upd H dx (.own x) x = none := by rw [upd_ne (Ne.symm ne)]; exact hx
  have M2 := M1.heapX (u := .ins C dx []) (.inl hx1) sx gx (M1.noneAt hx1)
  have ncx : NoCell S ρ m x := M1.noneAt hx1
  have ncd : NoCell S ρ m dx := M.noneAt hd
  obtain ⟨e3, M3⟩ := M2.addDead x
  have hl : ∀ {b : Addr}, NoCell S ρ m b → NoCell S (ρ ++ [x]) (m ++ [.dead]) b := fun {b} nc => by
    refine ⟨fun i xs q z => ?_, fun i q => ?_⟩
    · have q' := lst_app (fun _ z => by cases z) q
      rw [List.getElem?_append_left (by rw [M.len]; exact (List.getElem?_eq_some_iff.mp q').1)] at z
      exact nc.1 i xs q' z
    · refine nc.2 i ?_
      rcases q with ⟨d', xs', a', v', h1, h2, h3⟩ | ⟨kss, ds, h1, h2⟩ | ⟨c0, h1, h0, h2⟩
      · have q' := cell_app (fun z => by cases z) h1
        rw [List.getElem?_append_left (by rw [M.len]; exact (List.getElem?_eq_some_iff.mp q').1)] at h2
        exact .inl ⟨d', xs', a', v', q', h2, h3⟩
      · have q' := cell_app (fun z => by cases z) h1
        rw [List.getElem?_append_left (by rw [M.len]; exact (List.getElem?_eq_some_iff.mp q').1)] at h2
        exact .inr (.inl ⟨kss, ds, q', h2⟩)
      · have q' := cell_app (fun z => by subst z; cases h0) h1
        rw [List.getElem?_append_left (by rw [M.len]; exact (List.getElem?_eq_some_iff.mp q').1)] at h2
        exact .inr (.inr ⟨c0, q', h0, h2⟩)
  have hdx : upd (upd H dx (.own x)) x (.ins C dx []) dx = some (.own x) := by rw [upd_ne ne, upd_same]
  obtain ⟨e4, M4⟩ := M3.addO (a := dx) (c := .odx) (.inr rfl) (hl ncd) (fun _ _ _ z => by cases z) fun _ => ⟨by simp, x, by simp [M.len], hdx, sd, gd'⟩
  have nc5 : NoCell S (ρ ++ [x] ++ [dx]) (m ++ [.dead] ++ [.odx]) x := by
    have nc := hl ncx
    refine ⟨fun i xs q z => ?_, fun i q => ?_⟩
    · have q' := lst_app (fun _ z => by cases z) q
      rw [List.getElem?_append_left (by rw [M3.len]; exact (List.getElem?_eq_some_iff.mp q').1)] at z
      exact nc.1 i xs q' z
    · rcases q with ⟨d', xs', a', v', h1, h2, h3⟩ | ⟨kss, ds, h1, h2⟩ | ⟨c0, h1, h0, h2⟩
      · have q' := cell_app (fun z => by cases z) h1
        rw [List.getElem?_append_left (by rw [M3.len]; exact (List.getElem?_eq_some_iff.mp q').1)] at h2
        exact nc.2 i (.inl ⟨d', xs', a', v', q', h2, h3⟩)
      · have q' := cell_app (fun z => by cases z) h1
        rw [List.getElem?_append_left (by rw [M3.len]; exact (List.getElem?_eq_some_iff.mp q').1)] at h2
        exact nc.2 i (.inr (.inl ⟨kss, ds, q', h2⟩))
      · by_cases hi : i < (m ++ [Cell.dead]).length
        · rw [List.getElem?_append_left hi] at h1
          rw [List.getElem?_append_left (by rw [M3.len]; exact hi)] at h2
          exact nc.2 i (.inr (.inr ⟨c0, h1, h0, h2⟩))
        · have := (List.getElem?_eq_some_iff.mp h1).1
          have e : i = (ρ ++ [x]).length := by
            rw [M3.len]
            rw [List.length_append] at this
            simp at this hi ⊢
            omega
          subst e
          have : dx = x := by simpa using h2
          exact ne this
  obtain ⟨e5, M5⟩ := M4.addO (a := x) (c := .obj m.length cls []) (.inl ⟨_, _, _, rfl⟩) nc5 (fun o cls' fs z => by
    cases z
    refine ⟨by simp, (fun f k z => by cases z), dx, C, [], ?_, ?_, hC, upd_same, .nil, sx, gx⟩
    · rw [List.append_assoc, ← M.len, List.getElem?_append_right (Nat.le_refl _)]
      simp
    · rw [List.append_assoc, ← M.len, List.getElem?_append_right (by omega)]
      simp) fun z => by cases z
  exact ⟨(e3.trans e4).trans e5, M5⟩
theorem MR.putO (M : MR Γ G S H ρ m) {p o : Nat} {cls : Str} {fs : List (Str × SV)} {f : Str} {v : V} {y : SV} (hm : m[p]? = some (.obj o cls fs)) (ry : RSV Γ S ρ v y) :
    ∃ (x dx C : Addr) (vs : List (Str × V)), ρ[o]? = some x ∧ Γ.mg cls = some (.ref C) ∧ H x = some (.ins C dx vs) ∧ FlR Γ S ρ vs fs ∧ Ext S ρ S (ρ ++ [x]) ∧ MR Γ G S (upd H x (.ins C dx (putF f v vs))) (ρ ++ [x]) (m.set p .dead ++ [.obj o cls (putFS f y fs)]) := by
  obtain ⟨h1, h2, x, dx, C, vs, g1, g2, g3, g4, g5, g6, g7, g8⟩ := M.mix.obj p o cls fs hm
  have nc := M.noPair (.inr (.inr ⟨_, hm, rfl, g1⟩) : MixA S ρ m p x)
  have M1 := (M.kill p).heapX (u := .ins C dx (putF f v vs)) (.inr ⟨C, dx, vs, g5⟩) g7 g8 nc
  obtain ⟨e2, M2⟩ := M1.addO (a := x) (c := .obj o cls (putFS f y fs)) (.inl ⟨_, _, _, rfl⟩) nc (fun o' cls' fs' z => by
    cases z
    have hp := (List.getElem?_eq_some_iff.mp hm).1
    refine ⟨by rw [List.length_set]; omega, fun f' k z => ?_, dx, C, _, g2, g3, g4, upd_same, g6.put f ry, g7, g8⟩
    rw [List.length_set]
    have key : ∀ fs : List (Str × SV), (f', SV.ref k) ∈ putFS f y fs → (f', SV.ref k) ∈ fs ∨ y = .ref k := fun fs => by
      induction fs with
      | nil => intro z; simp [putFS] at z; exact .inr z.2.symm
      | cons b r ih =>
        intro z
        obtain ⟨g, w⟩ := b
        rw [show putFS f y ((g, w) :: r) = (if g = f then (g, y) :: r else (g, w) :: putFS f y r) from rfl] at z
        split at z
        · rcases List.mem_cons.mp z with e | e
          · cases e; exact .inr rfl
          · exact .inl (List.mem_cons_of_mem _ e)
        · rcases List.mem_cons.mp z with e | e
          · rw [e]; exact .inl List.mem_cons_self
          · rcases ih e with e | e
            · exact .inl (List.mem_cons_of_mem _ e)
            · exact .inr e
    rcases key fs z with e | e
    · exact Nat.lt_trans (h2 f' k e) hp
    · subst e
      obtain ⟨b, e1, _⟩ := ry
      rw [← M.len]
      exact (List.getElem?_eq_some_iff.mp e1).1) fun z => by cases z
  exact ⟨x, dx, C, vs, g2, g4, g5, g6, e2, M2⟩
end
end PL
namespace PL
open PySem PySem.Spec PyProof.Rows L2
structure Kls (K : PySem.W.Frag) (mg : Str → Option Value) (cls f : Str) : Prop where
  ex : ∃ C, mg cls = some (.ref C) ∧ Cls K C ∧ NoAttr K C f
def fldV (T : List Str) (f : Str) : SV → P SV := fun v m => match v with
  | .dat (.ins cls ks ds) => if cls ∈ T then (match (ks.zip ds).lookup f with | some d => .ok (.dat d) m | none => .stuck) else .stuck
  | .ref o => (match objAt o m with
    | some (_, cls, fs) => if cls ∈ T then (match fs.lookup f with | some v => .ok v m | none => .stuck) else .stuck
    | none => .stuck)
  | _ => .stuck
def dFld (T : List Str) (f : Str) (fe : En → P SV) : En → P SV := fun env => (fe env).bnd (fldV T f)
theorem zip_lookup {Γ : Gd} {S : Hp} {f : Str} {d : D} : ∀ {fs : List (Str × V)} {ds : List D}, RpAll Γ S (fs.map (·.2)) ds → ((fs.map (·.1)).zip ds).lookup f = some d → ∃ v, fs.lookup f = some v ∧ Rp Γ S v d
  | [], _, _, e => by simp at e
  | (g, x) :: r, [], h, e => by simp at e
  | (g, x) :: r, d' :: ds, h, e => by
    rw [List.map_cons] at h
    cases h with
    | cons h1 h2 =>
      rw [List.map_cons, List.zip_cons_cons, List.lookup_cons] at e
      rw [List.lookup_cons]
      show ∃ v, (match f == g with | true => some x | false => r.lookup f) = some v ∧ _
      cases hb : f == g with
      | true => rw [show (f == (g, x).1) = true from hb] at e; cases e; exact ⟨_, rfl, h1⟩
      | false => rw [show (f == (g, x).1) = false from hb] at e; exact zip_lookup h2 e
section
variable {X : Cx} {W : WX} {e o value : Expr} {es : List Expr} {pos pos' p apos : Pos} {fe fo fv : En → P SV} {fs : En → P (List SV)}
theorem pairs_mono {Γ : Gd} {S S' : Hp} {ρ ρ' : List Addr} (e : Ext S ρ S' ρ') {vs : List V} {xs : List SV} (h : Paired (RSV Γ S ρ) vs xs) : Paired (RSV Γ S' ρ') vs xs := by
  induction h with
  | nil => exact .nil
  | cons r _ ih => exact .cons (r.mono e) ih
theorem je_fld {T : List Str} {f : Str} (hT : ∀ cls ∈ T, Kls X.K X.mg cls f) (ja : JE X W e fe) (hb : attributeBase e f X.env (eval e X.env) = eval e X.env := by rfl) : JE X W (.Attribute e f pos) (dFld T f fe) := ⟨fun {G S H ρ m env σ Q} M E h => by
  refine we_of (pe_fld pe_we hb) (ja.run M E (wpr_mono (wpr_bnd h) (fun v m1 hv => ?_) fun _ _ z => z))
  intro S1 H1 ρ1 vv e1 M1 rv
  unfold fldV at hv
  split at hv
  · rename_i cls ks ds
    split at hv
    · rename_i hc
      obtain ⟨C, hm, hC, hn⟩ := (hT cls hc).ex
      split at hv
      · rename_i d hd
        cases rv with
        | ins h1 h2 h3 h4 h5 =>
          rename_i a dx C' vs
          have h3 : X.mg cls = some (.ref C') := h3
          rw [hm] at h3
          cases h3
          subst h4
          obtain ⟨v, q1, q2⟩ := zip_lookup h5 hd
          exact ⟨a, C, dx, vs, v, rfl, M1.sub _ _ h1, hC, hn, q1, hv _ _ _ _ e1 M1 q2⟩
      · exact hv.elim
    · exact hv.elim
  · rename_i n
    split at hv
    · rename_i q cls fs ho
      split at hv
      · rename_i hc
        obtain ⟨C, hm, hC, hn⟩ := (hT cls hc).ex
        split at hv
        · rename_i w hw
          obtain ⟨_, _, x, dx, C', vs, _, g2, _, g4, g5, g6, _⟩ := M1.mix.obj _ _ _ _ (objAt_ok ho)
          have g4 : X.mg cls = some (.ref C') := g4
          rw [hm] at g4
          cases g4
          obtain ⟨a, ha, rfl⟩ := rv
          rw [g2] at ha
          cases ha
          obtain ⟨v, q1, q2⟩ := g6.lookup f hw
          exact ⟨x, C, dx, vs, v, rfl, g5, hC, hn, q1, hv _ _ _ _ e1 M1 q2⟩
        · exact hv.elim
      · exact hv.elim
    · exact hv.elim
  · exact hv.elim⟩
def setFV (T : List Str) (f : Str) (env : En) (v w : SV) : P Out := fun m => match w with
  | .ref o => (match objAt o m with
    | some (p, cls, fs) => if cls ∈ T ∧ fs.length < 1000 then .ok (.nx env) (m.set p .dead ++ [.obj o cls (putFS f v fs)]) else .stuck
    | none => .stuck)
  | _ => .stuck
def dSetF (T : List Str) (f : Str) (fo fv : En → P SV) : DS := fun env => (fv env).bnd fun v => (fo env).bnd fun w => setFV T f env v w
theorem js_setF {T : List Str} {f : Str} (hT : ∀ cls ∈ T, Kls X.K X.mg cls f) (jo : JE X W o fo) (jv : JE X W value fv) (hs : swapsWith value (some (.Attribute o f pos')) pos.line X.env = pure false := by rfl) : JS X W (.Assign [.Attribute o f pos'] value pos) (dSetF T f fo fv) := ⟨fun {G S H ρ m env σ D} M E h => by
  refine ws_of (ps_fld pe_we pe_we hs) (jv.run M E (wpr_mono (wpr_bnd h) (fun v m1 hv => ?_) fun _ _ z => qx_of z))
  intro S1 H1 ρ1 vv e1 M1 rv
  refine jo.run M1 (E.mono e1) (wpr_mono (wpr_bnd hv) (fun w m2 hw => ?_) fun _ _ z => qx_ext e1 (qx_of z))
  intro S2 H2 ρ2 wv e2 M2 rw'
  unfold setFV at hw
  split at hw
  · rename_i n
    split at hw
    · rename_i q cls fs ho
      split at hw
      · rename_i hc
        obtain ⟨C, hm, hC, hn⟩ := (hT cls hc.1).ex
        obtain ⟨x, dx, C', vs, g1, g2, g3, g4, e3, M3⟩ := M2.putO (f := f) (objAt_ok ho) (rv.mono e2)
        have g2 : X.mg cls = some (.ref C') := g2
        rw [hm] at g2
        cases g2
        obtain ⟨a, ha, rfl⟩ := rw'
        rw [g1] at ha
        cases ha
        have e := (e1.trans e2).trans e3
        exact ⟨x, C, dx, vs, rfl, g3, hC, hn, by rw [g4.length]; exact hc.2, hw _ _ _ _ e M3 (E.mono e)⟩
      · exact hw.elim
    · exact hw.elim
  · exact hw.elim⟩
theorem ext_len {Γ : Gd} {G S H S' H' : Hp} {ρ ρ' : List Addr} {m m' : Mem} (M : MR Γ G S H ρ m) (M' : MR Γ G S' H' ρ' m') (e : Ext S ρ S' ρ') : m.length ≤ m'.length := by
  rw [← M.len, ← M'.len]
  by_cases h0 : ρ.length ≤ ρ'.length
  · exact h0
  · have hlt : ρ'.length < ρ.length := by omega
    have q := e.r ρ'.length ρ[ρ'.length] (List.getElem?_eq_getElem hlt)
    rw [List.getElem?_eq_none (Nat.le_refl _)] at q
    cases q
def fnRunK (n : Nat) (fb : DS) : List SV → P SV := fun xs m => match fb (enter n xs) m with
  | .ok (.nx _) m' => .ok (.dat .non) m'
  | .ok (.rt v) m' => .ok v m'
  | .ok _ _ => .stuck
  | .exc x m' => .exc x m'
  | .stuck => .stuck
theorem fokK_of {P : Program} {w : World} {K : PySem.W.Frag} {mg : Str → Option Value} {base : Heap} {k : Nat} {x qual : Str} {N ps : List Str} {st : Stmt} {f : Addr} {fd : FuncData} {fb : DS} {dvs : List V} {kws : List (Str × V)}
    (F : FunD K x qual (defArgs st) (defBody st) (defScope st) dvs kws f fd) (S : FnScope N ps (defScope st))
    (j : ∀ (cdv : Value) (A : Around) (outer : List Env) (s : Shared) (H : Hp) (E : XK), fd.code = cdv → RoomG k (A.deeper (envOfC qual (defScope st) s.heap.objs.size f cdv)) →
      JB (cxOf (L2.CX P w) P w K mg base N qual (defScope st) f cdv A outer s H E) (fun cls d _ H => E cls d H) (defBody st) fb) :
    FnG P w K mg base (k + 1) f fd ps (spF ⟨K, mg, w⟩ ps.length (fnRunK N.length fb)) := by
  refine fng_of F S (fun vs H Q E h => h.1) fun cdv A outer s H vs Q E hcd hr h => ?_
  obtain ⟨hl, G, S0, ρ, m, xs, M, r, h⟩ := h
  refine ⟨_, pss_wss, (j cdv A outer s H E hcd hr).run (env := enter N.length xs) (σ := L2.start N vs) M (er_enter r) ?_⟩
  unfold fnRunK at h
  cases e : fb (enter N.length xs) m with
  | stuck => rw [e] at h; exact h.elim
  | exc y m' =>
    rw [e] at h
    exact fun S' H' ρ' σ' cls d e' M' x' => h S' H' ρ' cls d e' M' x'
  | ok o m' =>
    rw [e] at h
    cases o with
    | nx env' => exact fun S' H' ρ' σ' e' M' E' => h S' H' ρ' .non e' M' .non
    | rt v => exact fun S' H' ρ' vv e' M' rv => h S' H' ρ' vv e' M' rv
    | bk _ => exact h.elim
    | ct _ => exact h.elim
theorem fokQ_of {P : Program} {w : World} {K : PySem.W.Frag} {mg : Str → Option Value} {base : Heap} {k : Nat} {x qual : Str} {N ps : List Str} {st : Stmt} {f : Addr} {fd : FuncData} {ex : Nat → SV → Mem → R SV} {fb : DS} {dvs : List V} {kws : List (Str × V)}
    (F : FunD K x qual (defArgs st) (defBody st) (defScope st) dvs kws f fd) (S : FnScope N ps (defScope st)) (hex : ExitOk ex)
    (j : ∀ (cdv : Value) (A : Around) (outer : List Env) (s : Shared) (H : Hp) (E : XK), fd.code = cdv → RoomG k (A.deeper (envOfC qual (defScope st) s.heap.objs.size f cdv)) →
      JB (cxOf (L2.CX P w) P w K mg base N qual (defScope st) f cdv A outer s H E) (fun cls d _ H => E cls d H) (defBody st) fb) :
    FnG P w K mg base (k + 1) f fd ps (spF ⟨K, mg, w⟩ ps.length (fnRun N.length ex fb)) := by
  refine fng_of F S (fun vs H Q E h => h.1) fun cdv A outer s H vs Q E hcd hr h => ?_
  obtain ⟨hl, G, S0, ρ, m, xs, M, r, h⟩ := h
  refine ⟨_, pss_wss, (j cdv A outer s H E hcd hr).run (env := enter N.length xs) (σ := L2.start N vs) M (er_enter r) ?_⟩
  have kept : ∀ {S' : Hp} {ρ' : List Addr}, Ext S0 ρ S' ρ' → Ext S0 ρ S' (ρ'.take m.length) := fun {S' ρ'} e => ⟨e.s, fun i a q => take_get (by rw [← M.len]; exact (List.getElem?_eq_some_iff.mp q).1) (e.r i a q)⟩
  unfold fnRun at h
  cases e : fb (enter N.length xs) m with
  | stuck => rw [e] at h; exact h.elim
  | exc y m' =>
    rw [e] at h
    exact fun S' H' ρ' σ' cls d e' M' x' => h S' H' (ρ'.take m.length) cls d (kept e') (M'.take _) x'
  | ok o m' =>
    rw [e] at h
    cases o with
    | nx env' => exact fun S' H' ρ' σ' e' M' E' => h S' H' (ρ'.take m.length) .non (kept e') (M'.take _) .non
    | rt v =>
      intro S' H' ρ' vv e' M' rv
      obtain ⟨S2, ρ2, w2, m2, q, s2, r2, M2, rv2⟩ := hex M' rv (ext_len M M' e') h
      exact q S2 H' ρ2 vv ⟨e'.s.trans s2, fun i a z => r2 i a (by rw [← M.len]; exact (List.getElem?_eq_some_iff.mp z).1) (e'.r i a z)⟩ M2 rv2
    | bk _ => exact h.elim
    | ct _ => exact h.elim
structure MCal (P : Program) (w : World) (K : PySem.W.Frag) (mg : Str → Option Value) (base : Heap) (k : Nat) (cls m : Str) (ps : List Str) (F : List SV → PL.P SV) : Prop where
  ex : ∃ C f fd, mg cls = some (.ref C) ∧ Cls K C ∧ Meth K C m f ∧ Binds K fd ps [] ∧ FnG P w K mg base k f fd ps (spF ⟨K, mg, w⟩ ps.length F)
structure ICal (P : Program) (w : World) (K : PySem.W.Frag) (mg : Str → Option Value) (base : Heap) (k : Nat) (cls : Str) (ps : List Str) (F : List SV → PL.P SV) : Prop where
  ex : ∃ C f fd, mg cls = some (.ref C) ∧ Mk K C f ∧ Binds K fd ps [] ∧ FnG P w K mg base k f fd ps (spF ⟨K, mg, w⟩ ps.length F)
def clsV (v : SV) (m : Mem) : Option (Str × List Str) := match v with
  | .dat (.ins cls ks _) => some (cls, ks)
  | .ref o => (match objAt o m with | some (_, cls, fs) => some (cls, fs.map (·.1)) | none => none)
  | _ => none
def dMeth (cls mt : Str) (n : Nat) (F : List SV → P SV) (fo : En → P SV) (fs : En → P (List SV)) : En → P SV := fun env => (fo env).bnd fun v m => match clsV v m with
  | some (c, ks) => if c = cls ∧ mt ∉ ks then ((fs env).bnd fun xs => chk n F (v :: xs)) m else .stuck
  | none => .stuck
theorem lookup_nil {α : Type} {f : Str} {ks : List (Str × α)} (h : f ∉ ks.map (·.1)) : ks.lookup f = none := by
  induction ks with
  | nil => rfl
  | cons b r ih =>
    rw [List.map_cons, List.mem_cons, not_or] at h
    rw [List.lookup_cons]
    have : (f == b.1) = false := beq_eq_false_iff_ne.mpr h.1
    rw [this]
    exact ih h.2
theorem cls_ins {mt : Str} {cls : Str} {ks : List Str} {C : Addr} {G S H : Hp} {ρ : List Addr} {m : Mem} {v : SV} {vv : V} (M : MR (gd X) G S H ρ m) (rv : RSV (gd X) S ρ vv v) (h : clsV v m = some (cls, ks)) (hm : X.mg cls = some (.ref C)) (hk : mt ∉ ks) :
    ∃ a dx vs, vv = .ref a ∧ H a = some (.ins C dx vs) ∧ vs.lookup mt = none := by
  unfold clsV at h
  split at h
  · cases h
    cases rv with
    | ins h1 h2 h3 h4 h5 =>
      rename_i a dx C' vs
      have h3 : X.mg cls = some (.ref C') := h3
      rw [hm] at h3
      cases h3
      subst h4
      exact ⟨a, dx, vs, rfl, M.sub _ _ h1, lookup_nil hk⟩
  · rename_i n
    split at h
    · rename_i q cls' fs ho
      cases h
      obtain ⟨_, _, x, dx, C', vs, _, g2, _, g4, g5, g6, _⟩ := M.mix.obj _ _ _ _ (objAt_ok ho)
      have g4 : X.mg cls = some (.ref C') := g4
      rw [hm] at g4
      cases g4
      obtain ⟨a, ha, rfl⟩ := rv
      rw [g2] at ha
      cases ha
      exact ⟨x, dx, vs, rfl, g5, g6.lookup_none mt (lookup_nil hk)⟩
    · cases h
  · cases h
theorem je_meth {pl : Sem Bool} {k n : Nat} {cls mt : Str} {ps : List Str} {F : List SV → PL.P SV} (C : MCal X.prog X.w X.K X.mg X.base k cls mt ps F) (hr : RoomG k X.A) (tk : Takes X W) (jo : JE X W o fo) (js : JA X W (e :: es) fs)
    (hst : starEach (e :: es) X.env = (false, eval e X.env) :: starEach es X.env := by rfl) (hpl : (backTo pos (starEach es X.env)).any (·.1) = false := by rfl) (hn : ps.length = n := by rfl)
    (ht : eval (.Call (.Attribute o mt apos) (e :: es) [] pos) X.env = (do
      let ov ← eval o X.env
      standAt apos.atName
      let (f, first) ← holding [ov] (getMethod ov mt pl)
      callWith pos f first (backTo pos (starEach (e :: es) X.env)) (backToKw pos (keywordEach [] X.env))) := by rfl) :
    JE X W (.Call (.Attribute o mt apos) (e :: es) [] pos) (dMeth cls mt n F fo fs) := by
  subst hn
  obtain ⟨Ca, f, fd, hm, hC, hM, hb, hF⟩ := C.ex
  refine ⟨fun {G S H ρ m env σ Q} M E h pins s I => ?_⟩
  refine PySem.W.methodCall_KW (pl := pl) (thn (jo.run (Q := fun v H1 => ∃ a dx vs, v = .ref a ∧ H1 a = some (.ins Ca dx vs) ∧ vs.lookup mt = none ∧ WA X (e :: es) σ H1 fun xs H2 => spF ⟨X.K, X.mg, X.w⟩ ps.length F (v :: xs) H2 Q fun cls d H => W cls d σ H) M E (wpr_monoQ (wpr_bnd h) fun v m1 hv => ?_) pins s I) fun u s1 ⟨x, H1, I1, rx, a, dx, vs, ex, ea, l, q⟩ => ?_) ht
  · intro S1 H1 ρ1 vv e1 M1 rv
    split at hv
    · rename_i c ks hc
      split at hv
      · rename_i hk
        obtain ⟨hk1, hk2⟩ := hk
        subst hk1
        obtain ⟨a, dx, vs, rfl, z1, z2⟩ := cls_ins (cls := c) (C := Ca) M1 rv hc hm hk2
        refine ⟨a, dx, vs, rfl, z1, z2, js.run M1 (E.mono e1) (wpr_mono (wpr_bnd hv) (fun xs m2 hx => ?_) fun x m2 hx => qx_ext e1 hx)⟩
        intro S2 H2 ρ2 xv e2 M2 rx
        unfold chk at hx
        split at hx
        · rename_i hl
          have rx' : Paired (RSV (gd X) S2 ρ2) (V.ref a :: xv) (v :: xs) := .cons (rv.mono e2) rx
          exact ⟨by rw [Paired.length rx']; exact hl, G, S2, ρ2, m2, v :: xs, M2, rx', wpr_mono hx (fun v m2 hv => qv_ext (e1.trans e2) hv) fun x m2 hv => qx_ext (e1.trans e2) hv⟩
        · exact hx.elim
      · exact hv.elim
    · exact hv.elim
  · subst ex
    obtain rfl : u = Value.ref a := rx
    refine getmeth_ok I1 ea hC hM l ?_
    refine PySem.W.callWith_K (first := [.ref a]) (h₀ := X.base) I1.ok.mod.kin hM.kp (thn (q pos pins s1 I1) fun us s2 ⟨vs2, H2, I2, r, q2⟩ => ⟨I2.kIn, ?_⟩) hst hpl
    have hl : (Value.ref a :: us).length = ps.length := by rw [List.length_cons, ← r.length, ← hF.ln _ _ _ _ q2]; rfl
    have b := hb s2 (Value.ref a :: us) I2.kIn (by rw [List.append_nil]; exact hl)
    rw [List.append_nil] at b
    exact wpAny_call (codeAny_mono (hF.go X.A X.stack s2 H2 _ (.ref a :: us) (.ref a :: vs2) Q _ hr I2.env0 b (.cons rfl r) q2) fun rr s' hq => after_go tk I2 hq)
theorem je_meth0 {pl : Sem Bool} {k n : Nat} {cls mt : Str} {ps : List Str} {F : List SV → PL.P SV} (C : MCal X.prog X.w X.K X.mg X.base k cls mt ps F) (hr : RoomG k X.A) (tk : Takes X W) (jo : JE X W o fo) (hn : ps.length = n := by rfl)
    (ht : eval (.Call (.Attribute o mt apos) [] [] pos) X.env = (do
      let ov ← eval o X.env
      standAt apos.atName
      let (f, first) ← holding [ov] (getMethod ov mt pl)
      callWith pos f first (backTo pos (starEach [] X.env)) (backToKw pos (keywordEach [] X.env))) := by rfl) :
    JE X W (.Call (.Attribute o mt apos) [] [] pos) (dMeth cls mt n F fo fun _ => P.ret []) := by
  subst hn
  obtain ⟨Ca, f, fd, hm, hC, hM, hb, hF⟩ := C.ex
  refine ⟨fun {G S H ρ m env σ Q} M E h pins s I => ?_⟩
  refine PySem.W.methodCall_KW (pl := pl) (thn (jo.run (Q := fun v H1 => ∃ a dx vs, v = .ref a ∧ H1 a = some (.ins Ca dx vs) ∧ vs.lookup mt = none ∧ spF ⟨X.K, X.mg, X.w⟩ ps.length F [v] H1 Q fun cls d H => W cls d σ H) M E (wpr_monoQ (wpr_bnd h) fun v m1 hv => ?_) pins s I) fun u s1 ⟨x, H1, I1, rx, a, dx, vs, ex, ea, l, q⟩ => ?_) ht
  · intro S1 H1 ρ1 vv e1 M1 rv
    split at hv
    · rename_i c ks hc
      split at hv
      · rename_i hk
        obtain ⟨hk1, hk2⟩ := hk
        subst hk1
        obtain ⟨a, dx, vs, rfl, z1, z2⟩ := cls_ins (cls := c) (C := Ca) M1 rv hc hm hk2
        refine ⟨a, dx, vs, rfl, z1, z2, ?_⟩
        have hv : wpr (chk ps.length F [v] m1) (QV X G S ρ Q) (QX X W G S ρ σ) := hv
        unfold chk at hv
        split at hv
        · rename_i hl
          have rx' : Paired (RSV (gd X) S1 ρ1) [V.ref a] [v] := .cons rv .nil
          exact ⟨by rw [Paired.length rx']; exact hl, G, S1, ρ1, m1, [v], M1, rx', wpr_mono hv (fun v m2 hv => qv_ext e1 hv) fun x m2 hv => qx_ext e1 hv⟩
        · exact hv.elim
      · exact hv.elim
    · exact hv.elim
  · subst ex
    obtain rfl : u = Value.ref a := rx
    refine getmeth_ok I1 ea hC hM l ?_
    refine PySem.W.callWith_K0 (first := [.ref a]) I1.kIn hM.kp ?_
    have hl : [Value.ref a].length = ps.length := by rw [← hF.ln _ _ _ _ q]; rfl
    have b := hb s1 [Value.ref a] I1.kIn (by rw [List.append_nil]; exact hl)
    rw [List.append_nil] at b
    exact wpAny_call (codeAny_mono (hF.go X.A X.stack s1 H1 _ [.ref a] [.ref a] Q _ hr I1.env0 b (.cons rfl .nil) q) fun rr s' hq => after_go tk I1 hq)
def mkO (cls : Str) (n : Nat) (F : List SV → P SV) (xs : List SV) : P SV := fun m => if xs.length + 1 = n then (match F (.ref m.length :: xs) (m ++ [.dead] ++ [.odx] ++ [.obj m.length cls []]) with
  | .ok (.dat .non) m2 => .ok (.ref m.length) m2
  | .ok _ _ => .stuck
  | .exc x m2 => .exc x m2
  | .stuck => .stuck) else .stuck
def dMake (cls : Str) (n : Nat) (F : List SV → P SV) (fs : En → P (List SV)) : En → P SV := fun env => (fs env).bnd (mkO cls n F)
theorem je_make {k n : Nat} {cls : Str} {ps : List Str} {F : List SV → PL.P SV} (C : ICal X.prog X.w X.K X.mg X.base k cls ps F) (hr : RoomG (k + 1) X.A) (tk : Takes X W) (hg : Gl X cls) (js : JA X W (e :: es) fs)
    (hdb : (cls == ("__debug__" : Str)) = false := by decide) (he : starEach (e :: es) X.env = (false, eval e X.env) :: starEach es X.env := by rfl) (hpl : (backTo pos (starEach es X.env)).any (·.1) = false := by rfl) (hn : ps.length = n := by rfl)
    (hgd : reprs = false := by rfl) :
    JE X W (.Call (.Name cls p) (e :: es) [] pos) (dMake cls n F fs) := by
  subst hn
  obtain ⟨C, f, fd, hm, hM, hb, hF⟩ := C.ex
  refine ⟨fun {G S H ρ m env σ Q} M E h pins s I => ?_⟩
  refine wpAny_Call_Name_kw (ld_glob I hg hm ?_ hdb)
  refine PySem.W.callWith_K (h₀ := X.base) I.ok.mod.kin hM.kp (thn (js.run (Q := fun vs H1 => ∀ x dx, H1 x = none → H1 dx = none → dx ≠ x →
    spF ⟨X.K, X.mg, X.w⟩ ps.length F (.ref x :: vs) (upd (upd H1 dx (.own x)) x (.ins C dx [])) (fun v H2 => v = .non ∧ Q (.ref x) H2) fun cls d H => W cls d σ H) M E (wpr_monoQ (wpr_bnd h) fun xs m1 hx => ?_) pos pins s I) fun us s1 ⟨vs, H1, I1, r, q⟩ => ⟨I1.kIn, ?_⟩) he hpl
  · intro S1 H1 ρ1 xv e1 M1 rx x dx hx0 hd0 ne
    unfold mkO at hx
    split at hx
    · rename_i hl
      obtain ⟨e2, M2⟩ := M1.allocI (cls := cls) (show (gd X).mg cls = some (.ref C) from hm) hx0 hd0 ne
      have hlen : ρ1.length = m1.length := M1.len
      have hat : (ρ1 ++ [x] ++ [dx] ++ [x])[m1.length]? = some x := by
        rw [← hlen, List.append_assoc, List.append_assoc, List.getElem?_append_right (Nat.le_refl _)]
        simp
      have rx' : Paired (RSV (gd X) S1 (ρ1 ++ [x] ++ [dx] ++ [x])) (V.ref x :: xv) (SV.ref m1.length :: xs) := .cons ⟨x, hat, rfl⟩ (pairs_mono e2 rx)
      refine ⟨by rw [Paired.length rx']; exact hl, G, S1, _, _, _, M2, rx', ?_⟩
      cases hF' : F (SV.ref m1.length :: xs) (m1 ++ [Cell.dead] ++ [Cell.odx] ++ [Cell.obj m1.length cls []]) with
      | stuck => rw [hF'] at hx; exact hx.elim
      | exc y m2 => rw [hF'] at hx; exact qx_ext (e1.trans e2) hx
      | ok v m2 =>
        rw [hF'] at hx
        cases v with
        | ref _ => exact hx.elim
        | dat d =>
          cases d <;> first
            | exact hx.elim
            | (intro S3 H3 ρ3 vv e3 M3 rv
               cases rv
               exact ⟨rfl, hx S3 H3 ρ3 (.ref x) ((e1.trans e2).trans e3) M3 ⟨x, e3.r _ _ hat, rfl⟩⟩)
    · exact hx.elim
  · have hq := q (s1.heap.objs.size + 1) s1.heap.objs.size (I1.hok.fresh (Nat.le_succ _)) (I1.hok.fresh (Nat.le_refl _)) (Nat.ne_of_lt (Nat.lt_succ_self _))
    have I2 := Inv.made (C := C) I1
    have r2 : Vals (V.ref (s1.heap.objs.size + 1) :: vs) (Value.ref (s1.heap.objs.size + 1) :: us) := .cons rfl r
    have hl : (Value.ref (s1.heap.objs.size + 1) :: us).length = ps.length := by rw [← r2.length]; exact hF.ln _ _ _ _ hq
    have b := hb { s1 with heap := (s1.heap.push PySem.W.emptyDict).push (PySem.W.instObj C s1.heap.objs.size) } (Value.ref (s1.heap.objs.size + 1) :: us) I2.kIn (by rw [List.append_nil]; exact hl)
    rw [List.append_nil] at b
    refine wpAny_call (make_map (f := f) I1.kIn hM.makes hM.init (beq_iff_eq.mp hM.fn) (codeAny_mono (hF.go _ X.stack _ _ ⟨Value.ref (s1.heap.objs.size + 1) :: us, []⟩ _ _ _ _ ⟨hr.rm.make C us [], fun z => by rw [hgd] at z; cases z⟩
      (I2.env0.make C us []) b r2 hq) fun rr s' hq' => ?_))
    cases rr with
    | error e => exact passAt tk σ pins _ _ e s' I2 hq'
    | ok fl =>
      cases fl with
      | ret u =>
        obtain ⟨v, H', I3, rv, ev, q3⟩ := I2.after hq'
        subst ev
        exact ⟨rv, ⟨V.ref (s1.heap.objs.size + 1), H', I3, rfl, q3⟩⟩
      | next => exact False.elim hq'
      | brk => exact False.elim hq'
      | cont => exact False.elim hq'
end
end PL
namespace PL
open PySem PySem.Spec PyProof.Rows L2
def uniq {α : Type} [DecidableEq α] (acc : List α) : List α → List α
  | [] => acc
  | x :: r => uniq (if x ∈ acc then acc else acc ++ [x]) r
section
variable {α : Type} [DecidableEq α]
theorem uniq_snoc (x : α) : ∀ (l acc : List α), uniq acc (l ++ [x]) = if x ∈ uniq acc l then uniq acc l else uniq acc l ++ [x]
  | [], acc => rfl
  | y :: r, acc => by rw [List.cons_append]; unfold uniq; exact uniq_snoc x r _
theorem mem_uniq (x : α) : ∀ (l acc : List α), x ∈ uniq acc l ↔ x ∈ acc ∨ x ∈ l
  | [], acc => by simp [uniq]
  | y :: r, acc => by
    unfold uniq
    rw [mem_uniq x r]
    by_cases h : y ∈ acc
    · rw [if_pos h, List.mem_cons]
      constructor
      · rintro (h1 | h1)
        · exact .inl h1
        · exact .inr (.inr h1)
      · rintro (h1 | rfl | h1)
        · exact .inl h1
        · exact .inl h
        · exact .inr h1
    · rw [if_neg h, List.mem_append, List.mem_singleton, List.mem_cons]
      constructor
      · rintro ((h1 | h1) | h1)
        · exact .inl h1
        · exact .inr (.inl h1)
        · exact .inr (.inr h1)
      · rintro (h1 | h1 | h1)
        · exact .inl (.inl h1)
        · exact .inl (.inr h1)
        · exact .inr h1
theorem uniq_nodup : ∀ (l acc : List α), acc.Nodup → (uniq acc l).Nodup
  | [], acc, h => h
  | y :: r, acc, h => by
    unfold uniq
    refine uniq_nodup r _ ?_
    by_cases h1 : y ∈ acc
    · rw [if_pos h1]; exact h
    · rw [if_neg h1, List.nodup_append]
      exact ⟨h, by simp, fun a ha b hb e => by rw [List.mem_singleton.mp hb] at e; exact h1 (e ▸ ha)⟩
theorem uniq_id : ∀ (l acc : List α), (acc ++ l).Nodup → uniq acc l = acc ++ l
  | [], acc, h => by simp [uniq]
  | y :: r, acc, h => by
    unfold uniq
    have h1 : y ∉ acc := fun z => by
      rw [List.nodup_append] at h
      exact h.2.2 y z y List.mem_cons_self rfl
    rw [if_neg h1, uniq_id r _ (by rw [List.append_assoc]; exact h), List.append_assoc]
    rfl
theorem uniq_le : ∀ (l acc : List α), (uniq acc l).length ≤ acc.length + l.length
  | [], acc => by simp [uniq]
  | y :: r, acc => by
    unfold uniq
    rw [List.length_cons]
    by_cases h : y ∈ acc
    · rw [if_pos h]
      have := uniq_le r acc
      omega
    · rw [if_neg h]
      have := uniq_le r (acc ++ [y])
      rw [List.length_append, List.length_singleton] at this
      omega
end
theorem take_next {α : Type} {l : List α} {i : Nat} {x : α} (h : l[i]? = some x) : l.take (i + 1) = l.take i ++ [x] := by
  rw [List.take_succ, h] <;> rfl
section
variable {prog : Program} {w : World} {A : Around} {R : Result → Shared → Prop} {I : Addr} {fp wr : List Addr} {G : Array GenState → Array GenState → Prop} {n : Nat} {P : Nat → Value → Prop} {St : Nat → Shared → Prop}
theorem loopStrN (W : WalksS prog w A.in1 I fp wr G n P St) (S : Addr) (hSf : S ∉ fp) (xs : List Str) (hsz : xs.length = n) (hn1 : n + 1 < scanBound)
    (hval : ∀ i v, P i v → ∃ t, v = .str (xs.getD i Str.empty) t) :
    ∀ (k i : Nat) (s : Shared), n - i = k → i ≤ n → St i s →
      s.heap.SetOf (PySem.strKind prog w) S (fun k' => decide (k' ∈ uniq [] (xs.take i))) (uniq [] (xs.take i)).length →
      (∀ s', Moved (S :: wr) G s s' → s'.heap.SetOf (PySem.strKind prog w) S (fun k' => decide (k' ∈ uniq [] (xs.take n))) (uniq [] (xs.take n)).length → R (.ok (.ret .none)) s') →
      codeAny (model prog w) A (.builtin "set.update.loop" ⟨[.ref S, .ref I], []⟩) R s := by
  have hSw : S ∉ wr := fun h => hSf (W.sub _ h)
  have hsub : ∀ b ∈ wr, b ∈ S :: wr := fun b hb => List.mem_cons_of_mem _ hb
  intro k
  induction k with
  | zero =>
    intro i s hk hi hst hS hR
    have hin : i = n := by omega
    subst hin
    refine codeAny_builtin PyProof.Rows.F.entry_set_update_loop ?_
    rw [Around.under_plainId PyProof.Rows.F.plain_set_update_loop _]
    show wpAny _ A.in1 (pyNext (.ref I) >>= _) _ _ s
    refine wpAny_bind (W.done s _ _ hst fun s' hm => ?_)
    show wpAny _ A.in1 (ret Value.none) _ _ s'
    exact wpAny_pure (hR s' (hm.mono hsub) (by
      obtain ⟨o, es, ep, t, ho, rest⟩ := hS
      exact ⟨o, es, ep, t, hm.heap S _ hSw ho, rest⟩))
  | succ k ih =>
    intro i s hk hi hst hS hR
    have hlt : i < n := by omega
    refine codeAny_builtin PyProof.Rows.F.entry_set_update_loop ?_
    rw [Around.under_plainId PyProof.Rows.F.plain_set_update_loop _]
    show wpAny _ A.in1 (pyNext (.ref I) >>= _) _ _ s
    refine wpAny_bind (W.item i s _ _ hlt hst fun v s' hP hst' hm => ?_)
    obtain ⟨t, rfl⟩ := hval i v hP
    have hS' : s'.heap.SetOf (PySem.strKind prog w) S (fun k' => decide (k' ∈ uniq [] (xs.take i))) (uniq [] (xs.take i)).length := by
      obtain ⟨o, es, ep, tb, ho, rest⟩ := hS
      exact ⟨o, es, ep, tb, hm.heap S _ hSw ho, rest⟩
    have hle := uniq_le (xs.take i) ([] : List Str)
    rw [List.length_take, List.length_nil] at hle
    have hx : xs[i]? = some (xs.getD i Str.empty) := by
      have hi2 : i < xs.length := by omega
      rw [List.getD_eq_getElem?_getD, List.getElem?_eq_getElem hi2]
      rfl
    show wpAny _ A.in1 (holding [Value.str (xs.getD i Str.empty) t] (setAdd S (.str (xs.getD i Str.empty) t)) >>= _) _ _ s'
    refine wpAny_bind (wpAny_holding ?_)
    unfold setAdd
    refine wpAny_holding ?_
    refine wpAny_bind ((PySem.strKind prog w).pyHash (k := xs.getD i Str.empty) (strKind_is _ _ _ _) ?_)
    refine wpAny_setAddHashed_of (knd := PySem.strKind prog w) (s := { s' with toks := s'.toks + 1 }) (strKind_is _ _ _ _) rfl hS' (by omega) fun h' hsb hS2 => ?_
    have hSi : h'.SetOf (PySem.strKind prog w) S (fun k' => decide (k' ∈ uniq [] (xs.take (i + 1)))) (uniq [] (xs.take (i + 1))).length := by
      rw [take_next hx, uniq_snoc]
      revert hS2
      generalize xs.getD i Str.empty = x
      intro hS2
      refine SetOf_congr hS2 (fun k' => ?_) ?_
      · by_cases h1 : x ∈ uniq [] (xs.take i)
        · by_cases e : k' = x
          · subst e; simp [h1]
          · simp [e, h1]
        · simp [h1, Bool.decide_or]
      · by_cases h1 : x ∈ uniq [] (xs.take i)
        · simp [h1]
        · simp [h1]
    refine wpAny_pure ⟨plainId_quiet PyProof.Rows.F.plain_set_update_loop _, ih (i + 1) _ (by omega) hlt (W.frame _ s' _ _ hst' (Nat.le_succ _) fun b hb o e => ?_) hSi fun s'' hm'' hS'' => ?_⟩
    · rw [hsb.2 b (fun h : b = S => hSf (by rw [← h]; exact hb))]; exact e
    · refine hR s'' (Moved.trans W.gtrans ((hm.mono hsub).then_heap (Nat.le_succ _) fun b o hb e => ?_) hm'') hS''
      rw [hsb.2 b (fun h : b = S => hb (by rw [h]; exact List.mem_cons_self))]; exact e
end
section
variable {prog : Program} {w : World} {A : Around} {E : Value → Shared → Prop} {s : Shared}
set_option maxHeartbeats 6400000 in
theorem call_set_strs {l : Addr} {items : Array Value} {xs : List Str} {Q : Value → Shared → Prop}
    (hh : A.handled = none) (hl : s.heap.IsList l items) (hi : PyProof.Rows.StrsAre items.toList xs) (hn1 : xs.length + 1 < scanBound)
    (h : ∀ (h' : Heap) (tk : Nat), h'.SetOf (PySem.strKind prog w) s.heap.objs.size (fun k' => decide (k' ∈ uniq [] xs)) (uniq [] xs).length →
      (∀ b o, b < s.heap.objs.size → s.heap.get? b = some o → h'.get? b = some o) → Q (.ref s.heap.objs.size) { s with heap := h', toks := tk }) :
    wpAny (model prog w) A (call (.type "set") [.ref l]) Q E s := by
  have hsz : xs.length = items.size := by rw [← StrsAre.len_eq hi, Array.length_toList]
  have htk : xs.take items.size = xs := List.take_of_length_le (by omega)
  obtain ⟨c, tl, hmro⟩ := PySem.F.called_set.mro
  have hmade := PySem.F.called_set.made
  have hsub := PySem.F.called_set.sub
  refine wpAny_call (codeAny_of_tree ?_)
  show wpAny _ _ (callAny (.type "set") _) _ _ _
  refine wpAny_pure ⟨Code.quiet_builtin _ (by decide +kernel), codeAny_builtin PySem.F.entry_type_call ?_⟩
  rw [Around.under_plain (weight_type_call_type "set" [.ref l] []) rfl]
  have h1 := PySem.F.called_set.notType
  have h2 := PySem.F.called_set.canCreate
  have hct := PySem.F.typeCall_set_1 (.ref l)
  repeat (any_goals (first | assumption | wp_step))
  refine codeAny_mono (code_set_new_1 (.ref l) (E := E) (Q₁ := fun obj s₁ => ∃ led : Bool, obj = .ref s.heap.objs.size ∧ s₁ = { s with heap := s.heap.push { cls := .type "set", dict := none, data := .set #[] 0 (.fresh 0 0 led) } }) fun led => ⟨led, rfl, rfl⟩) fun r s₁ hr => ?_
  cases r with
  | error e => exact hr
  | ok fl =>
    cases fl with
    | ret obj =>
      obtain ⟨led, rfl, rfl⟩ := hr
      have hS : (s.heap.push { cls := .type "set", dict := none, data := .set #[] 0 (.fresh 0 0 led) }).get? s.heap.objs.size = some { cls := .type "set", dict := none, data := .set #[] 0 (.fresh 0 0 led) } := Heap.get?_push_size _ rfl
      have hT : Shared.TypeIs { s with heap := s.heap.push { cls := .type "set", dict := none, data := .set #[] 0 (.fresh 0 0 led) } } (.ref s.heap.objs.size) "set" := ⟨_, hS, rfl⟩
      have hli := PySem.F.called_set.init.lookup
      have hbi := PySem.F.called_set.init.bind (.ref s.heap.objs.size)
      repeat (any_goals (first | assumption | wp_step))
      refine codeAny_mono (codeAny_call_builtin (R := wants (fun r s₂ => r = .none ∧ ∃ h' tk, s₂ = { s with heap := h', toks := tk } ∧
          h'.SetOf (PySem.strKind prog w) s.heap.objs.size (fun k' => decide (k' ∈ uniq [] (xs.take items.size))) (uniq [] (xs.take items.size)).length ∧
          (∀ b o, b < s.heap.objs.size → s.heap.get? b = some o → h'.get? b = some o)) E) PySem.F.called_set.init.plain PySem.F.entry_set_init (check_set_init_1 hT ?_)) fun r₂ s₂ hr₂ => ?_
      · obtain ⟨ol, hol, hcl, nl, hdl⟩ := hl
        obtain ⟨ocls, odict, odata, oslots⟩ := ol
        simp only at hcl hdl
        subst hcl; subst hdl
        have hol' : (s.heap.push { cls := .type "set", dict := none, data := .set #[] 0 (.fresh 0 0 led) }).get? l = some { cls := .type "list", dict := odict, data := .seq items nl, slots := oslots } := Heap.get?_push_of_some _ hol
        have hsls := PySem.F.sub_list_set
        have hslf := PySem.F.sub_list_frozenset
        have hne : (Value.type "list" == Value.type "dict") = false := by decide
        have hl1 : (s.heap.push { cls := .type "set", dict := none, data := .set #[] 0 (.fresh 0 0 led) }).IsList l items := ⟨_, hol', rfl, nl, rfl⟩
        unfold Builtin.«set.__init__» noKeywords Builtin.Frozenset.updateFrom
        generalize hPI : pyIter = PI
        wp_walk
        subst hPI
        refine wpAny_pyIter_list hl1 ?_
        refine wpAny_bind (wpAny_runValue ?_)
        have hlS : l < s.heap.objs.size := Heap.lt_size hol
        have hh3 : A.in1.in1.in1.handled = none := by simp [hh]
        have hneI : l ≠ (s.heap.push { cls := .type "set", dict := none, data := .set #[] 0 (.fresh 0 0 led) }).objs.size := by
          rw [Heap.size_push]; exact Nat.ne_of_lt (Nat.lt_succ_of_lt hlS)
        have hSf : s.heap.objs.size ∉ [(s.heap.push { cls := .type "set", dict := none, data := .set #[] 0 (.fresh 0 0 led) }).objs.size, l] := by
          rw [Heap.size_push]; simp only [List.mem_cons, List.mem_singleton, List.not_mem_nil, or_false, not_or]
          exact ⟨Nat.ne_of_lt (Nat.lt_succ_self _), Nat.ne_of_gt hlS⟩
        have hval : ∀ (i : Nat) (v : Value), items[i]? = some v → ∃ t, v = .str (xs.getD i Str.empty) t := fun i v hv => SS.strs_at hi i v (by rw [Array.getElem?_toList]; exact hv)
        refine loopStrN ((Walks.list hh3 _ l hneI items).toS) s.heap.objs.size
          hSf xs hsz (by rw [← hsz]; exact hn1) hval (items.size - 0) 0 _ (by omega) (Nat.zero_le _)
          ⟨⟨_, Heap.get?_push_size _ rfl, rfl, rfl⟩, (hl1.push _)⟩ ?hS0 ?hR
        case hS0 =>
          have hget : ((s.heap.push { cls := .type "set", dict := none, data := .set #[] 0 (.fresh 0 0 led) }).push { cls := .type "list_iterator", data := .fields #[.ref l, .int 0 0] }).get? s.heap.objs.size
              = some { cls := .type "set", dict := none, data := .set #[] 0 (.fresh 0 0 led) } := Heap.get?_push_of_some _ hS
          exact PyProof.Rows.SetOf_congr ((PyProof.Rows.setObjOf_fresh (knd := PySem.strKind prog w) led).setOf hget (by unfold scanBound; omega)) (fun k' => by simp [uniq]) rfl
        case hR =>
          intro s' hm hS'
          obtain ⟨h', g', d', tk', os'⟩ := s'
          have eg : g' = s.gens := hm.gens
          have ed : d' = s.drawn := hm.drawn
          have eo : os' = s.os := hm.os
          subst eg; subst ed; subst eo
          show wpAny _ _ _ _ _ _
          refine wpAny_pure ?_
          show wpAny _ _ (ret Value.none) _ _ _
          refine wpAny_pure ⟨rfl, h', tk', rfl, hS', fun b o hb e => ?_⟩
          have hb1 : b ≠ s.heap.objs.size := Nat.ne_of_lt hb
          have hb2 : b ≠ (s.heap.push { cls := .type "set", dict := none, data := .set #[] 0 (.fresh 0 0 led) }).objs.size := by
            rw [Heap.size_push]; exact Nat.ne_of_lt (Nat.lt_succ_of_lt hb)
          exact hm.heap b o (by simp only [List.mem_cons, List.mem_singleton, List.not_mem_nil, or_false, not_or]; exact ⟨hb1, hb2⟩) (Heap.get?_push_of_some _ (Heap.get?_push_of_some _ e))
      · cases r₂ with
        | error e => exact hr₂
        | ok fl₂ =>
          cases fl₂ with
          | ret r =>
            obtain ⟨rfl, h', tk, rfl, hS', hk'⟩ := hr₂
            repeat (any_goals (first | assumption | wp_step))
            rw [htk] at hS'
            exact h _ _ hS' hk'
          | _ => exact hr₂.elim
    | _ => exact hr.elim
end
end PL
namespace PL
open PySem PySem.Spec PyProof.Rows L2
def asSs : List D → Option (List Str)
  | [] => some []
  | .str x :: r => (match asSs r with | some xs => some (x :: xs) | none => none)
  | _ :: _ => none
def asTs : List D → Option (List (List Int))
  | [] => some []
  | .tup xs :: r => (match asIs xs with | some k => (match asTs r with | some ks => some (k :: ks) | none => none) | none => none)
  | _ :: _ => none
theorem rpAll_ss {Γ : Gd} {S : Hp} : ∀ {vs : List V} {ds : List D} {xs : List Str}, RpAll Γ S vs ds → asSs ds = some xs → vs = xs.map V.str
  | _, _, bs, .nil, h => by cases h; rfl
  | _, _, bs, .cons h0 r, h => by
    cases h0 <;> first | (simp [asSs] at h; done) | skip
    unfold asSs at h
    split at h
    · rename_i bs' e
      cases h
      rw [rpAll_ss r e]
      rfl
    · cases h
theorem rpAll_ts {Γ : Gd} {S : Hp} : ∀ {vs : List V} {ds : List D} {ks : List (List Int)}, RpAll Γ S vs ds → asTs ds = some ks → ∃ ps : List (Addr × List Int), vs = ps.map (fun p => V.ref p.1) ∧ ps.map (·.2) = ks ∧ ∀ p ∈ ps, SqT Γ.K S p.1 (p.2.map V.int)
  | _, _, ks, .nil, h => by cases h; exact ⟨[], rfl, rfl, fun p hp => by cases hp⟩
  | _, _, ks, .cons h0 r, h => by
    cases h0 <;> first | (simp [asTs] at h; done) | skip
    rename_i a vs0 ds0 hq hr
    unfold asTs at h
    split at h
    · rename_i k e1
      split at h
      · rename_i ks' e
        cases h
        obtain ⟨ps, z1, z2, z3⟩ := rpAll_ts r e
        refine ⟨(a, k) :: ps, by rw [z1]; rfl, by rw [← z2]; rfl, fun p hp => ?_⟩
        rcases List.mem_cons.mp hp with rfl | hp
        · have := rpAll_is hr e1
          rw [← this]
          exact hq
        · exact z3 p hp
      · cases h
    · cases h
def lenSetX (v : SV) : P SV := fun m => match rdL v m with
  | some ds => (match asSs ds with
    | some xs => if xs.length ≤ 1000 then .ok (.dat (.int (uniq [] xs).length)) m else .stuck
    | none => (match asTs ds with
      | some ks => if ks.length < 64 then .ok (.dat (.int (uniq [] ks).length)) m else .stuck
      | none => .stuck))
  | none => .stuck
theorem strs_of_vals : ∀ {xs : List Str} {us : List Value}, Vals (xs.map V.str) us → PyProof.Rows.StrsAre us xs
  | [], _, .nil => .nil
  | x :: xs, _, .cons r t => by
    obtain ⟨u, rfl⟩ := r
    exact .cons x u (strs_of_vals t)
theorem uniq_len {α : Type} [DecidableEq α] {xs L : List α} (h1 : L.Nodup) (h2 : ∀ y, y ∈ L ↔ y ∈ xs) : L.length = (uniq [] xs).length :=
  ((List.perm_ext_iff_of_nodup h1 (uniq_nodup xs [] List.nodup_nil)).mpr fun y => by rw [h2, mem_uniq]; simp).length_eq
section
variable {X : Cx} {W : WX} {a : Expr} {fa : En → P SV} {p p2 q pos : Pos}
theorem je_lenSetX (hg : Gl X "len") (hm : X.mg "len" = none) (hg2 : Gl X "set") (hm2 : X.mg "set" = none) (hc : X.calm = true) (hu : X.A.units + 64 < cLine) (ja : JE X W a fa)
    (na : starEach [a] X.env = (false, eval a X.env) :: starEach [] X.env := by rfl) : JE X W (.Call (.Name "len" p) [.Call (.Name "set" p2) [a] [] q] [] pos) (d1 lenSetX fa) := ⟨fun {G S H ρ m env σ Q} M E h pins s I => by
  refine Call_ (ld_blt I hg hm boot_len ?_)
  refine callWith_builtin1 (args_cons ?_ rfl) rfl rfl
  refine Call_ (ld_blt I hg2 hm2 boot_set ?_)
  refine callWith_type1 (args_cons (thn (ja.run (Q := fun x H1 => (∃ (l : Addr) (xs : List Str), x = .ref l ∧ SqL X.K H1 l (xs.map V.str) ∧ xs.length ≤ 1000 ∧ Q (.int ((uniq [] xs).length : Nat)) H1) ∨
      ∃ (l : Addr) (ps : List (Addr × List Int)), x = .ref l ∧ SqL X.K H1 l (ps.map fun p => V.ref p.1) ∧ (∀ p ∈ ps, SqT X.K H1 p.1 (p.2.map V.int)) ∧ ps.length < 64 ∧ Q (.int ((uniq [] (ps.map (·.2))).length : Nat)) H1) M E (wpr_monoQ (wpr_bnd h) fun x m1 hx => ?_) pins s I) fun v s1 ⟨x, H1, I1, r1, q1⟩ => args_nil ?_) na) na rfl
  · intro S1 H1 ρ1 xv e1 M1 rx
    unfold lenSetX at hx
    split at hx
    · rename_i ds hd
      obtain ⟨l, vs, rfl, h1, r1⟩ := rdL_ok M1 rx hd
      split at hx
      · rename_i xs hn
        split at hx
        · rename_i hl
          have e := rpAll_ss r1 hn
          subst e
          exact .inl ⟨l, xs, rfl, .inl (.inl h1), hl, hx S1 H1 ρ1 _ e1 M1 (.int _)⟩
        · exact hx.elim
      · split at hx
        · rename_i ks hk
          split at hx
          · rename_i hl
            obtain ⟨ps, z1, z2, z3⟩ := rpAll_ts r1 hk
            subst z1
            refine .inr ⟨l, ps, rfl, .inl (.inl h1), fun p hp => Same.seqT M1.sub (z3 p hp), ?_, by rw [z2]; exact hx S1 H1 ρ1 _ e1 M1 (.int _)⟩
            rw [← z2, List.length_map] at hl
            exact hl
          · exact hx.elim
        · exact hx.elim
    · exact hx.elim
  · rcases q1 with ⟨l, xs, rfl, hq, hl, q1⟩ | ⟨l, ps, rfl, hq, hk, hl, q1⟩
    · obtain rfl : v = Value.ref l := r1
      obtain ⟨its, r, pl, hz⟩ := I1.list hq
      refine call_set_strs (xs := xs) (I1.ok.hd hc) pl.isList (by simpa using strs_of_vals r) (by unfold scanBound; omega) fun h' tk R kp => args_nil ?_
      obtain ⟨o, es, ep, t, ho, hex, hd, _, _, _, hf, hn⟩ := R
      have I2 : Inv X pins σ H1 { s1 with heap := h', toks := tk } := I1.kept fun b o e => kp b o (Heap.lt_size e) e
      have hb := uniq_le xs []
      rw [List.length_nil] at hb
      exact call_len_set ho hex hd hf (by rw [hn] <;> omega) ⟨.int ((uniq [] xs).length : Nat), H1, I2.tok _, ⟨_, by rw [hn]⟩, q1⟩
    · obtain rfl : v = Value.ref l := r1
      obtain ⟨its, r, pl, hz⟩ := I1.list hq
      refine call_set_tups (P := X.prog) (w := X.w) ps (I1.ok.hd hc) pl.isList (by simpa using refs_of_vals r) (fun p hp => I1.isT (hk p hp)) hl (by omega) fun h' tk L es ep t R g kp => args_nil ?_
      obtain ⟨o, ho, hex, hd⟩ := R.ob
      have I2 : Inv X pins σ H1 { s1 with heap := h', toks := tk } := I1.kept kp
      have hn := R.size (s := { s1 with heap := h', toks := tk })
      have hL : L.length = (uniq [] (ps.map (·.2))).length := by
        rw [← List.length_map (f := (·.2)) (as := L)]
        refine uniq_len R.nd fun y => ?_
        constructor
        · intro hy
          obtain ⟨z, h1, rfl⟩ := List.mem_map.mp hy
          have := g.sub z h1
          rw [List.take_length] at this
          exact List.mem_map.mpr ⟨z, this, rfl⟩
        · intro hy
          obtain ⟨z, h1, rfl⟩ := List.mem_map.mp hy
          exact g.all z (by rw [List.take_length]; exact h1)
      have hfw := R.few
      exact call_len_set ho hex hd (R.fits (s := { s1 with heap := h', toks := tk })) (by rw [hn] <;> omega) ⟨.int ((uniq [] (ps.map (·.2))).length : Nat), H1, I2.tok _, ⟨_, by rw [hn, hL]⟩, q1⟩⟩
theorem je_gstr {x z : Str} {pos : Pos} (hg : Gl X x) (hm : ∃ t, X.mg x = some (.str z t)) (hd : (x == ("__debug__" : Str)) = false := by decide) : JE X W (.Name x pos) (dC (.str z)) := by
  obtain ⟨t, hm⟩ := hm
  exact je_c (pe_glob (v := .str z) hg hm ⟨t, rfl⟩ hd) (fun _ _ _ h => h) fun _ => .str z
def inStrV (x y : SV) : P SV := fun m => match x, y with
  | .dat (.str i), .dat (.str j) => .ok (.dat (.bl (!(Builtin.Str.occurrences j i 0 j.length 1).isEmpty))) m
  | _, _ => .stuck
theorem jo_inStr : JO X W (compareOp .In) inStrV := ⟨fun {G S H ρ m σ x y xv yv Q} M rx ry q => by
  unfold inStrV at q
  split at q
  · rename_i i j
    cases rx
    cases ry
    exact wo_of op_in_str ⟨i, j, rfl, rfl, q S H ρ _ (Ext.refl _ _) M (.bl _)⟩
  · exact q.elim⟩
def chD (x : Str) : List D := x.cps.toList.map fun c => .str ⟨#[c]⟩
theorem itS_str {Γ : Gd} {S0 : Hp} (x : Str) : ItS Γ S0 (Its x) (chD x) := fun i {G S H ρ m} s M => by
  have hl : (chD x).length = x.cps.size := by unfold chD; rw [List.length_map, Array.length_toList]
  refine ⟨fun hi => ?_, fun d hd => ?_⟩
  · show x.cps.size ≤ i
    omega
  · have hlt := (List.getElem?_eq_some_iff.mp hd).1
    refine ⟨by show i < x.cps.size; omega, fun v H' y => ?_⟩
    obtain ⟨rfl, c, hc, rfl⟩ := y
    unfold chD at hd
    rw [List.getElem?_map, Array.getElem?_toList, hc] at hd
    cases hd
    exact ⟨S, Ext.refl _ _, M, .str _⟩
def itStrV (v : SV) : P (List D) := fun m => match v with
  | .dat (.str x) => .ok (chD x) m
  | _ => .stuck
def dItStr (f : En → P SV) : En → P (List D) := fun env => (f env).bnd itStrV
theorem ji_str {tg : Expr} (ja : JE X W a fa) : JI X W tg a (dItStr fa) := ⟨fun {G S H ρ m env σ Rr} M E h => by
  refine wi_of (pi_str pe_we) (ja.run M E (wpr_monoQ (wpr_bnd h) fun x m1 hx => ?_))
  intro S1 H1 ρ1 xv e1 M1 rx
  unfold itStrV at hx
  split at hx
  · rename_i x
    cases rx
    exact ⟨x, rfl, hx S1 H1 ρ1 _ e1 M1 (itS_str x)⟩
  · exact hx.elim⟩
end
end PL
namespace PL
open PySem PySem.Spec PyProof.Rows L2
section
variable (X : Cx) (W : WX)
def QG (G S : Hp) (ρ : List Addr) (Q : St → Hp → Prop) : En → Mem → Prop := fun env' m' => ∀ S' H' ρ' σ', Ext S ρ S' ρ' → MR (gd X) G S' H' ρ' m' → ER (gd X) S' ρ' env' σ' → Q σ' H'
structure JP (tg : Expr) (g : SV → En → P En) : Prop where
  run : ∀ {G S H : Hp} {ρ : List Addr} {m : Mem} {env : En} {σ : St} {v : SV} {vv : V} {Q : St → Hp → Prop}, MR (gd X) G S H ρ m → ER (gd X) S ρ env σ → RSV (gd X) S ρ vv v → wpr (g v env m) (QG X G S ρ Q) (QXs X W G S ρ) → WG X tg vv σ H Q
structure JPs (es : List Expr) (g : List SV → En → P En) : Prop where
  run : ∀ {G S H : Hp} {ρ : List Addr} {m : Mem} {env : En} {σ : St} {vs : List V} {xs : List SV} {Q : St → Hp → Prop}, MR (gd X) G S H ρ m → ER (gd X) S ρ env σ → Paired (RSV (gd X) S ρ) vs xs → wpr (g xs env m) (QG X G S ρ Q) (QXs X W G S ρ) →
    ∀ (pins : List (Addr × Obj)) (s : Shared) (us : List Value), Inv X pins σ H s → Vals vs us → wpAny (model X.prog X.w) X.A (assignInOrder ((assignEach es X.env).map (·.2)) us) (fun _ s' => ∃ σ' H', Inv X pins σ' H' s' ∧ Q σ' H') X.xe s
end
def subP (env : En) (v d k : SV) : P En := fun m => match putV env v d k m with
  | .ok (.nx env') m' => .ok env' m'
  | .ok _ _ => .stuck
  | .exc x m' => .exc x m'
  | .stuck => .stuck
def pSub (fd fk : En → P SV) : SV → En → P En := fun v env => (fd env).bnd fun d => (fk env).bnd fun k => subP env v d k
def psN : List SV → En → P En := fun xs env => match xs with
  | [] => P.ret env
  | _ => P.stk
def psC (g : SV → En → P En) (gs : List SV → En → P En) : List SV → En → P En := fun xs env => match xs with
  | x :: r => (g x env).bnd fun env' => gs r env'
  | [] => P.stk
section
variable {X : Cx} {W : WX} {o i e value : Expr} {es tgs : List Expr} {pos pt pt2 : Pos} {fo fi fe : En → P SV} {fs : En → P (List SV)} {g : SV → En → P En} {gs : List SV → En → P En}
theorem jp_sub (hu : X.A.units + 1 < cLine) (jo : JE X W o fo) (ji : JE X W i fi)
    (ha : ∀ v, assign (.Subscript o i pos) X.env v = (do
      let ov ← holding [v] (eval o X.env)
      let iv ← holding [v, ov] (eval i X.env)
      standAt pos
      holding [v, ov, iv] (setItem ov iv v)
      release [v, ov, iv] []) := by intro _; rfl) : JP X W (.Subscript o i pos) (pSub fo fi) := ⟨fun {G S H ρ m env σ v vv Q} M E rv h => by
  refine wg_of (pg_sub pe_we pe_we (set_dict hu) ha) (jo.run M E (wpr_mono (wpr_bnd h) (fun d m1 hd => ?_) fun _ _ z => qx_of z))
  intro S1 H1 ρ1 dv e1 M1 rd
  refine ji.run M1 (E.mono e1) (wpr_mono (wpr_bnd hd) (fun k m2 hk => ?_) fun _ _ z => qx_ext e1 (qx_of z))
  intro S2 H2 ρ2 kv e2 M2 rk
  unfold subP putV at hk
  cases d with
  | dat _ => exact hk.elim
  | ref n =>
    cases k with
    | ref _ => exact hk.elim
    | dat j =>
      cases v with
      | ref _ => exact hk.elim
      | dat x =>
        simp only at hk
        cases hc : m2[n]? with
        | none => rw [hc] at hk; exact hk.elim
        | some c =>
          rw [hc] at hk
          cases hkd : keyD j with
          | none =>
            rw [hkd] at hk
            cases c <;> exact hk.elim
          | some kk =>
            rw [hkd] at hk
            cases c with
            | dct kvs =>
              unfold putC at hk
              simp only at hk
              split at hk
              · rename_i hl
                split at hl
                · rename_i hlen
                  cases hl
                  obtain ⟨p, hp, rfl⟩ := rd.mono e2
                  obtain ⟨a, vs, h1, h2, h3, h4, h5⟩ := M2.dic.cell n kvs hc
                  rw [hp] at h1
                  cases h1
                  have ek := keyD_ok rk hkd
                  subst ek
                  have rv2 := rv.mono (e1.trans e2)
                  exact ⟨p, _, rfl, DPut.k h2 (by rw [h3.length, sizeLine_eq]; exact hlen), hk _ _ ρ2 σ (e1.trans e2) (M2.writeD hc hp (h3.put kk rv2)) (E.mono (e1.trans e2))⟩
                · cases hl
              · exact hk.elim
              · rename_i hl
                split at hl <;> cases hl
              · exact hk.elim
            | _ => exact hk.elim⟩
theorem jps_nil : JPs X W [] psN := ⟨fun {G S H ρ m env σ vs xs Q} M E r h pins s us I rv => by
  cases r with
  | nil =>
    cases rv
    exact assignInOrder_nil ⟨σ, H, I, h S H ρ σ (Ext.refl _ _) M E⟩
  | cons _ _ => exact h.elim⟩
theorem jps_cons (j1 : JP X W e g) (j2 : JPs X W es gs) (hs : (assignEach (e :: es) X.env).map (·.2) = assign e X.env :: (assignEach es X.env).map (·.2) := by rfl) : JPs X W (e :: es) (psC g gs) := ⟨fun {G S H ρ m env σ vs xs Q} M E r h pins s us I rv => by
  cases r with
  | nil => exact h.elim
  | @cons v x vs' xs' r1 r2 =>
    cases rv with
    | cons q1 q2 =>
      rw [hs]
      refine assignInOrder_cons (thn (j1.run (Q := fun σ1 H1 => ∃ S1 ρ1 m1 env1, Ext S ρ S1 ρ1 ∧ MR (gd X) G S1 H1 ρ1 m1 ∧ ER (gd X) S1 ρ1 env1 σ1 ∧ wpr (gs xs' env1 m1) (QG X G S ρ Q) (QXs X W G S ρ)) M E r1 (wpr_mono (wpr_bnd h) (fun env1 m1 h1 => ?_) fun _ _ z => z) pins s _ I q1) fun _ s1 ⟨σ1, H1, I1, S1, ρ1, m1, env1, e1, M1, E1, h1⟩ => ?_)
      · exact fun S1 H1 ρ1 σ1 e1 M1 E1 => ⟨S1, ρ1, m1, env1, e1, M1, E1, h1⟩
      · exact j2.run M1 E1 (pairs_mono e1 r2) (wpr_mono h1 (fun env2 m2 h2 => fun S' H' ρ' σ' e' M' E' => h2 S' H' ρ' σ' (e1.trans e') M' E') fun _ _ z => qxs_ext e1 z) pins s1 _ I1 q2⟩
def toNx (r : R En) : R Out := match r with
  | .ok env m => .ok (.nx env) m
  | .exc x m => .exc x m
  | .stuck => .stuck
def dParP (n : Nat) (gs : List SV → En → P En) (fs : En → P (List SV)) : DS := fun env => (fs env).bnd fun vs m => if vs.length = n ∧ vs.length ≤ 1000 then toNx (gs vs env m) else .stuck
theorem js_parP {n kt k2 : Nat} (hc : X.calm = true) (ja : JA X W es fs) (jn : JPs X W tgs gs) (hn : (assignEach tgs X.env).length = n := by rfl) (hst : (assignEach tgs X.env).findIdx? (·.1) = none := by rfl)
    (hs : swapsWithSole [.Tuple tgs kt pt] (.Tuple es k2 pt2) pos.line X.env = pure false := by rfl) (hw : swappedStores [.Tuple tgs kt pt] (.Tuple es k2 pt2) X.env = pure none := by rfl)
    (h1 : (assignEach [.Tuple tgs kt pt] X.env).map (·.2) = [assign (.Tuple tgs kt pt) X.env] := by rfl) : JS X W (.Assign [.Tuple tgs kt pt] (.Tuple es k2 pt2) pos) (dParP n gs fs) := ⟨fun {G S H ρ m env σ D} M E h => by
  refine ws_of (ps_asg (pe_tup pa_wa) (pg_tup (n := n) (t := fun vs σ H Q => ∀ (pins : List (Addr × Obj)) (s : Shared) (us : List Value), Inv X pins σ H s → Vals vs us → wpAny (model X.prog X.w) X.A (assignInOrder ((assignEach tgs X.env).map (·.2)) us) (fun _ s' => ∃ σ' H', Inv X pins σ' H' s' ∧ Q σ' H') X.xe s) hc ⟨fun pins s σ H vs us Q I rv q => q pins s us I rv⟩ hn hst) hs hw h1)
    (ja.run M E (wpr_mono (wpr_bnd h) (fun xs m1 hx => ?_) fun _ _ z => qx_of z))
  intro S1 H1 ρ1 xv e1 M1 rx
  split at hx
  · rename_i hl
    have hlen := Paired.length rx
    refine ⟨by rw [hlen, sizeLine_eq]; omega, fun p hp => ?_⟩
    obtain ⟨s1, M2⟩ := M1.grow hp (.tup xv)
    have e2 : Ext S1 ρ1 (upd S1 p (.tup xv)) ρ1 := ⟨s1, fun _ _ z => z⟩
    refine ⟨p, xv, rfl, .inl (.inl upd_same), by rw [hlen]; exact hl.1, jn.run M2 (E.mono (e1.trans e2)) (pairs_mono e2 rx) ?_⟩
    unfold toNx at hx
    cases hg : gs xs env m1 with
    | stuck => rw [hg] at hx; exact hx.elim
    | exc y m2 => rw [hg] at hx; exact qxs_ext (e1.trans e2) hx
    | ok env2 m2 =>
      rw [hg] at hx
      exact fun S' H' ρ' σ' e' M' E' => hx S' H' ρ' σ' ((e1.trans e2).trans e') M' E'
  · exact hx.elim⟩
end
end PL
namespace PL
open PySem PySem.Spec PyProof.Rows L2
section
variable {Γ : Gd} {G S H : Hp} {ρ : List Addr} {m : Mem} {p : Addr}
theorem MR.freezeK (M : MR Γ G S H ρ m) {n : Nat} {kvs : List (Key × D)} {a : Addr} {vs : List (Key × V)} (hm : m[n]? = some (.dct kvs)) (ha : ρ[n]? = some a) (hH : H a = some (.dK vs)) (od : Obj) :
    Ext S ρ (upd S a (.frz od (.dK vs))) ρ ∧ MR Γ G (upd S a (.frz od (.dK vs))) (upd H a (.frz od (.dK vs))) ρ (m.set n .dead) := by
  obtain ⟨a', vs', h1, h2, h3, h4, h5⟩ := M.dic.cell n kvs hm
  rw [ha] at h1
  cases h1
  have s1 : Same S (upd S a (.frz od (.dK vs))) := fun b x q => by rw [upd_ne (ne_of_none q h4)]; exact q
  have hn := (List.getElem?_eq_some_iff.mp hm).1
  have at_ : ∀ (j : Nat) (zs : List (Key × D)), (m.set n Cell.dead)[j]? = some (.dct zs) → j ≠ n ∧ m[j]? = some (.dct zs) := fun j zs q => by
    by_cases e : n = j
    · subst e
      rw [List.getElem?_set_self hn] at q
      cases q
    · rw [List.getElem?_set_ne e] at q
      exact ⟨Ne.symm e, q⟩
  have tabs : TabR Γ.K G (upd S a (.frz od (.dK vs))) (upd H a (.frz od (.dK vs))) := by
    refine (?_ : TabR Γ.K G S (upd H a (.frz od (.dK vs)))).s (fun _ z => by cases z)
    exact ⟨M.tab.st, M.tab.gt, fun q hq => by
      obtain ⟨ps, g1, g2, g3⟩ := M.tab.tb q hq
      refine ⟨ps, by rw [upd_ne (fun z => by rw [z, hH] at g1; cases g1)]; exact g1, g2, fun pos cv hc => ?_⟩
      obtain ⟨c, e1, e2⟩ := g3 pos cv hc
      exact ⟨c, e1, by rw [upd_ne (fun z => by rw [z, hH] at e2; unfold LamX.CodeO at e2; cases e2)]; exact e2⟩⟩
  refine ⟨⟨s1, fun _ _ q => q⟩, ⟨fun b x q => ?_, fun b x q => ?_, fun b x q => ?_, by rw [List.length_set]; exact M.len, fun j zs q => ?_, fun i j xs ys b q1 q2 q3 q4 => ?_, tabs, ⟨⟨fun j zs q => ?_, fun j k zs ws b q1 q2 q3 q4 => M.dic.inj j k zs ws b (at_ j zs q1).2 (at_ k ws q2).2 q3 q4⟩, (M.dic.sv.gen s1 fun p o ks b us q1 q2 g1 g2 g3 => (let ne : b ≠ a := fun z => M.dic.sv.dct n p o kvs ks a hm q1 ha (by rw [← z]; exact q2); ⟨by rw [upd_ne ne]; exact g1, by rw [upd_ne ne]; exact g2, g3⟩)).mem (fun j zs q => ⟨zs, (at_ j zs q).2⟩) fun p o ks q => dsv_set (fun _ _ z => by cases z) q⟩,
    M.mix.step s1 (fun j b q => ?_) (fun j c q1 q2 => mix_set rfl q1 q2) (fun _ _ _ _ _ _ _ q => q) fun k b j zs q1 q2 q3 => M.mix.crs k j b zs q1 (lst_set (fun _ z => by cases z) q2) q3⟩⟩
  · by_cases e : b = a
    · subst e; rw [upd_same] at q ⊢; exact q
    · rw [upd_ne e] at q ⊢; exact M.sub b x q
  · rw [upd_ne (ne_of_none q h5)]; exact M.gsub b x q
  · rw [upd_ne (ne_of_none q h5)]; exact M.dis b x q
  · obtain ⟨b, us, g1, g2, g3, g4, g5⟩ := M.cell j zs (lst_set (fun _ z => by cases z) q)
    have ne : b ≠ a := fun z => by rw [z, hH] at g2; cases g2
    exact ⟨b, us, g1, by rw [upd_ne ne]; exact g2, g3.mono s1, by rw [upd_ne ne]; exact g4, g5⟩
  · exact M.inj i j xs ys b (lst_set (fun _ z => by cases z) q1) (lst_set (fun _ z => by cases z) q2) q3 q4
  · obtain ⟨ne, q⟩ := at_ j zs q
    obtain ⟨b, us, g1, g2, g3, g4, g5⟩ := M.dic.cell j zs q
    have neb : b ≠ a := fun z => ne (M.dic.inj j n zs kvs a q hm (by rw [← z]; exact g1) ha)
    exact ⟨b, us, g1, by rw [upd_ne neb]; exact g2, g3.mono s1, by rw [upd_ne neb]; exact g4, g5⟩
  · obtain ⟨k1, k2, o, k3, _, k4⟩ := M.mix.own q
    have ne : b ≠ a := fun z => by rw [z, hH] at k3; exact k4 vs (Option.some.inj k3).symm
    exact ⟨by rw [upd_ne ne]; exact k1, k2, upd_ne ne⟩
theorem KvR.split {vs : List (Key × V)} {kvs : List (Key × D)} (h : KvR Γ S vs kvs) : vs.map (·.1) = kvs.map (·.1) ∧ RpAll Γ S (vs.map (·.2)) (kvs.map (·.2)) := by
  induction h with
  | nil => exact ⟨rfl, .nil⟩
  | cons r _ ih => exact ⟨by rw [List.map_cons, List.map_cons, ih.1], .cons r ih.2⟩
end
section
variable {X : Cx} {W : WX} {o i e f value : Expr} {es : List Expr} {pos pos' apos cpos : Pos} {fa fb fc fe fv : En → P SV}
def getC2 (k : Option Key) (x : D) (c : Option Cell) : P SV := fun m => match c, k with
  | some (.dct kvs), some k => .ok (.dat ((dGetI kvs k).getD x)) m
  | _, _ => .stuck
def getV2 (n : Nat) (k x : SV) : P SV := fun m => match k, x with
  | .dat i, .dat y => getC2 (keyD i) y m[n]? m
  | _, _ => .stuck
def getA2 (fk fx : En → P SV) (env : En) (d : SV) : P SV := fun m => match d with
  | .ref n => if isDc m[n]? = true then ((fk env).bnd fun k => (fx env).bnd fun x => getV2 n k x) m else .stuck
  | _ => .stuck
def dGetD2 (fd fk fx : En → P SV) : En → P SV := fun env => (fd env).bnd fun d => getA2 fk fx env d
theorem isDc_at {c : Option Cell} (h : isDc c = true) : ∃ kvs, c = some (.dct kvs) := by
  unfold isDc at h
  split at h
  · rename_i kvs
    exact ⟨kvs, rfl⟩
  · cases h
theorem je_dget2 (hu : X.A.units + 1 < cLine) (jo : JE X W o fa) (je : JE X W e fb) (jf : JE X W f fc) (m1 : M2 X o "get" apos e f cpos := by exact ⟨rfl, rfl, rfl, rfl⟩) : JE X W (.Call (.Attribute o "get" apos) [e, f] [] cpos) (dGetD2 fa fb fc) := ⟨fun {G S H ρ m env σ Q} M E h => by
  refine we_of (pe_dget2 hu pe_we pe_we pe_we m1) (jo.run M E (wpr_monoQ (wpr_bnd h) fun d mm hd => ?_))
  intro S1 H1 ρ1 dv e1 M1 rd
  unfold getA2 at hd
  split at hd
  · rename_i n
    split at hd
    · rename_i hc
      obtain ⟨a, ha, rfl⟩ := rd
      obtain ⟨kvs0, hq0⟩ := isDc_at hc
      obtain ⟨a', vs, g1, g2, _⟩ := M1.dic.cell n kvs0 hq0
      rw [ha] at g1
      cases g1
      refine ⟨a, rfl, .inl ⟨vs, .inl g2⟩, je.run M1 (E.mono e1) (wpr_mono (wpr_bnd hd) (fun k m2 hk => ?_) fun _ _ z => qx_ext e1 z)⟩
      intro S2 H2 ρ2 kv e2 M2 rk
      refine jf.run M2 ((E.mono e1).mono e2) (wpr_mono (wpr_bnd hk) (fun x m3 hx => ?_) fun _ _ z => qx_ext (e1.trans e2) z)
      intro S3 H3 ρ3 xv e3 M3 rx
      unfold getV2 at hx
      split at hx
      · rename_i j y
        unfold getC2 at hx
        split at hx
        · rename_i kvs key hq hkey
          have ek := keyD_ok (rk.mono e3) hkey
          subst ek
          obtain ⟨a2, vs2, f1, f2, f3, _⟩ := M3.dic.cell n kvs hq
          rw [e3.r _ _ (e2.r _ _ ha)] at f1
          cases f1
          refine ⟨_, DGet.k f2, ?_⟩
          rcases f3.get key with ⟨v, d, l1, l2, l3⟩ | ⟨l1, l2⟩
          · rw [l1]
            rw [l2] at hx
            exact hx S3 H3 ρ3 v ((e1.trans e2).trans e3) M3 l3
          · rw [l1]
            rw [l2] at hx
            exact hx S3 H3 ρ3 xv ((e1.trans e2).trans e3) M3 rx
        · exact hx.elim
      · exact hx.elim
    · exact hd.elim
  · exact hd.elim⟩
def fzK : SV → P SV := fun v m => match v with
  | .ref n => (match m[n]? with
    | some (.dct kvs) => .ok (.dat (.dk (kvs.map (·.1)) (kvs.map (·.2)))) (m.set n .dead)
    | _ => .stuck)
  | _ => .stuck
def dFzK (fe : En → P SV) : En → P SV := fun env => (fe env).bnd fzK
theorem je_fzK (ja : JE X W e fe) : JE X W e (dFzK fe) := ⟨fun {G S H ρ m env σ Q} M E h pins s I => by
  refine thn (ja.run (Q := fun x H1 => ∃ a vs, x = .ref a ∧ H1 a = some (.dK vs) ∧ ∀ od, Q (.ref a) (upd H1 a (.frz od (.dK vs)))) M E (wpr_monoQ (wpr_bnd h) fun x m1 hx => ?_) pins s I) fun v s1 ⟨x, H1, I1, r1, a, vs, ex, ha, q⟩ => ?_
  · intro S1 H1 ρ1 xv e1 M1 rx
    unfold fzK at hx
    split at hx
    · rename_i n
      split at hx
      · rename_i kvs hk
        obtain ⟨a, ha, rfl⟩ := rx
        obtain ⟨a', vs, g1, g2, g3, _⟩ := M1.dic.cell n kvs hk
        rw [ha] at g1
        cases g1
        refine ⟨a, vs, rfl, g2, fun od => ?_⟩
        obtain ⟨e2, M2⟩ := M1.freezeK hk ha g2 od
        obtain ⟨z1, z2⟩ := (g3.mono e2.s).split
        exact hx _ _ ρ1 (.ref a) (e1.trans e2) M2 (.dk upd_same z1 z2)
      · exact hx.elim
    · exact hx.elim
  · subst ex
    obtain ⟨od, I2⟩ := I1.lock ha (by exact True.intro)
    exact ⟨.ref a, _, I2, r1, q od⟩⟩
def itemsKV (v : SV) : P (List PL.D) := fun m => match v with
  | .dat (.dk ks ds) => .ok ((ks.zip ds).map fun p => .tup [(match p.1 with | .inl i => .int i | .inr x => .str x), p.2]) m
  | _ => .stuck
def dItKV (fe : En → P SV) : En → P (List PL.D) := fun env => (fe env).bnd itemsKV
theorem rp_kV {Γ : Gd} {S : Hp} (k : Key) : Rp Γ S (kV k) (match k with | .inl i => .int i | .inr x => .str x) := by
  cases k with
  | inl i => exact .int i
  | inr x => exact .str x
theorem itS_items {Γ : Gd} {S0 : Hp} {a : Addr} {od : Obj} {vs : List (Key × V)} {ks : List Key} {ds : List PL.D} (h : S0 a = some (.frz od (.dK vs))) (hk : vs.map (·.1) = ks) (r : RpAll Γ S0 (vs.map (·.2)) ds) :
    ItS Γ S0 (Iti a od vs) ((ks.zip ds).map fun p => .tup [(match p.1 with | .inl i => .int i | .inr x => .str x), p.2]) := fun i {G S H ρ m} s M => by
  have hl1 : ks.length = vs.length := by rw [← hk, List.length_map]
  have hl2 : ds.length = vs.length := by rw [← r.length, List.length_map]
  have hH : H a = some (.frz od (.dK vs)) := M.sub _ _ (s _ _ h)
  refine ⟨fun hi => ⟨hH, ?_⟩, fun d hd => ?_⟩
  · rw [List.length_map, List.length_zip, hl1, hl2] at hi
    omega
  · have hlt := (List.getElem?_eq_some_iff.mp hd).1
    rw [List.length_map, List.length_zip, hl1, hl2] at hlt
    refine ⟨⟨hH, by omega⟩, fun x H' y => ?_⟩
    obtain ⟨T, k, v, h1, rfl, h2, rfl⟩ := y
    rw [List.getElem?_map] at hd
    have hz : (ks.zip ds)[i]? = some (k, ds.getD i .non) := by
      rw [List.getElem?_zip_eq_some]
      have hi2 : i < ds.length := by omega
      refine ⟨?_, by rw [List.getD_eq_getElem?_getD, List.getElem?_eq_getElem hi2]; rfl⟩
      rw [← hk, List.getElem?_map, h1]
      rfl
    rw [hz] at hd
    cases hd
    obtain ⟨s1, M2⟩ := M.grow h2 (.tup [kV k, v])
    have hv : (vs.map (·.2))[i]? = some v := by rw [List.getElem?_map, h1]; rfl
    obtain ⟨d', hd', rd⟩ := r.get' hv
    have ed : ds.getD i .non = d' := by rw [List.getD_eq_getElem?_getD, hd']; rfl
    refine ⟨_, ⟨s1, fun _ _ z => z⟩, M2, .tup (.inl (.inl upd_same)) (.cons (rp_kV k) (.cons ?_ .nil))⟩
    rw [ed]
    exact rd.mono (s.trans s1)
theorem ji_items {elts : List Expr} {kk : Nat} {tpos : Pos} (ja : JE X W e fe) (hbase : attributeBase e "items" X.env (eval e X.env) = eval e X.env := by rfl) (hline : (apos.endLine == cpos.line) = true := by rfl) :
    JI X W (.Tuple elts kk tpos) (.Call (.Attribute e "items" apos) [] [] cpos) (dItKV fe) := ⟨fun {G S H ρ m env σ Rr} M E h => by
  refine wi_of (pi_items pe_we hbase hline) (ja.run M E (wpr_monoQ (wpr_bnd h) fun x m1 hx => ?_))
  intro S1 H1 ρ1 xv e1 M1 rx
  unfold itemsKV at hx
  split at hx
  · rename_i ks ds
    cases rx with
    | dk h1 h2 h3 =>
      rename_i a od vs
      exact ⟨a, od, vs, rfl, M1.sub _ _ h1, hx S1 H1 ρ1 _ e1 M1 (itS_items h1 h2 h3)⟩
  · exact hx.elim⟩
def mergeI (kvs more : List (Key × PL.D)) : List (Key × PL.D) := more.foldl (fun acc kv => dPutI acc kv.1 kv.2) kvs
theorem KvR.merge {Γ : Gd} {S : Hp} {vs : List (Key × V)} {kvs : List (Key × PL.D)} (h : KvR Γ S vs kvs) : ∀ {vs0 : List (Key × V)} {kvs0 : List (Key × PL.D)}, KvR Γ S vs0 kvs0 → KvR Γ S (mergeK vs0 vs) (mergeI kvs0 kvs) := by
  induction h with
  | nil => exact fun q => q
  | @cons k v d vs kvs r _ ih => exact fun q => ih (q.put k r)
def QKp (X : Cx) (G S : Hp) (ρ : List Addr) (Q : List (V × V) → Hp → Prop) : List (Key × PL.D) → Mem → Prop := fun kvs m' => ∀ S' H' ρ' vs, Ext S ρ S' ρ' → MR (gd X) G S' H' ρ' m' → KvR (gd X) S' vs kvs → Q (vs.map fun kv => (kV kv.1, kv.2)) H'
structure JKp (X : Cx) (W : WX) (pos : Pos) (keys : List (Option Expr)) (values : List Expr) (g : En → P (List (Key × PL.D))) : Prop where
  ex : ∃ trs, PPs X pos keys values trs ∧ ∀ {G S H : Hp} {ρ : List Addr} {m : Mem} {env : En} {σ : St} {Q : List (V × V) → Hp → Prop}, MR (gd X) G S H ρ m → ER (gd X) S ρ env σ → wpr (g env m) (QKp X G S ρ Q) (QX X W G S ρ σ) → tPairs trs σ H Q
def kpN : En → P (List (Key × PL.D)) := fun _ => P.ret []
def consKp (k v : SV) (r : List (Key × PL.D)) : P (List (Key × PL.D)) := fun m => match k, v with
  | .dat i, .dat x => (match keyD i with | some kk => .ok ((kk, x) :: r) m | none => .stuck)
  | _, _ => .stuck
def kpC (fk fv : En → P SV) (g : En → P (List (Key × PL.D))) : En → P (List (Key × PL.D)) := fun env => (fk env).bnd fun k => (fv env).bnd fun v => (g env).bnd fun r => consKp k v r
theorem jkp_nil : JKp X W pos [] [] kpN := ⟨[], pps_nil, fun {G S H ρ m env σ Q} M E h => h S H ρ [] (Ext.refl _ _) M .nil⟩
theorem jkp_cons {k v : Expr} {ks : List (Option Expr)} {vs : List Expr} {fk : En → P SV} {g : En → P (List (Key × PL.D))} (jk : JE X W k fk) (jv : JE X W v fv) (j : JKp X W pos ks vs g) : JKp X W pos (some k :: ks) (v :: vs) (kpC fk fv g) := by
  obtain ⟨trs, h1, h2⟩ := j.ex
  refine ⟨_, pps_cons pe_we pe_we h1, fun {G S H ρ m env σ Q} M E h => ?_⟩
  refine jk.run M E (wpr_monoQ (wpr_bnd h) fun k m1 hk => ?_)
  intro S1 H1 ρ1 kv e1 M1 rk
  refine jv.run M1 (E.mono e1) (wpr_mono (wpr_bnd hk) (fun v m2 hv => ?_) fun _ _ z => qx_ext e1 z)
  intro S2 H2 ρ2 vv e2 M2 rv
  refine h2 M2 ((E.mono e1).mono e2) (wpr_mono (wpr_bnd hv) (fun r m3 hr => ?_) fun _ _ z => qx_ext (e1.trans e2) z)
  intro S3 H3 ρ3 ws e3 M3 rw'
  unfold consKp at hr
  split at hr
  · rename_i i x
    split at hr
    · rename_i kk hkk
      have ek := keyD_ok ((rk.mono e2).mono e3) hkk
      subst ek
      exact hr S3 H3 ρ3 ((kk, vv) :: ws) ((e1.trans e2).trans e3) M3 (.cons (rv.mono e3) rw')
    · exact hr.elim
  · exact hr.elim
def dDisp (g : En → P (List (Key × PL.D))) : En → P SV := fun env m => match g env (m ++ [.dct []]) with
  | .ok kvs m1 => (match m1[m.length]? with
    | some (.dct []) => if kvs.length ≤ 15 then .ok (.ref m.length) (m1.set m.length (.dct (mergeI [] kvs))) else .stuck
    | _ => .stuck)
  | .exc x m1 => .exc x m1
  | .stuck => .stuck
theorem je_disp {keys : List (Option Expr)} {values : List Expr} {g : En → P (List (Key × PL.D))} (j : JKp X W pos keys values g) (hall : keys.all (·.isSome) = true := by rfl) (hl : keys.length = values.length := by rfl) (h0 : keys ≠ [] := by simp)
    (h15 : keys.length ≤ 15 := by decide) : JE X W (.Dict keys values pos) (dDisp g) := by
  obtain ⟨trs, j1, j2⟩ := j.ex
  refine ⟨fun {G S H ρ m env σ Q} M E h => ?_⟩
  refine we_of (pe_disp j1 hall hl h0 h15) fun p hp => ?_
  obtain ⟨e1, M1⟩ := M.allocD hp
  refine j2 M1 (E.mono e1) ?_
  unfold dDisp at h
  cases hg : g env (m ++ [Cell.dct []]) with
  | stuck => rw [hg] at h; exact h.elim
  | exc y m1 => rw [hg] at h; exact qx_ext e1 h
  | ok kvs m1 =>
    rw [hg] at h
    simp only at h
    intro S2 H2 ρ2 vs e2 M2 rk
    split at h
    · rename_i hc
      split at h
      · rename_i hlen
        have hat : (ρ ++ [p])[m.length]? = some p := by rw [← M.len]; simp
        have hat2 := e2.r _ _ hat
        obtain ⟨a', vs', g1, g2, g3, _⟩ := M2.dic.cell _ _ hc
        rw [hat2] at g1
        cases g1
        cases g3
        refine ⟨g2, vs, rfl, by rw [rk.length]; exact hlen, ?_⟩
        have M3 := M2.writeD hc hat2 (rk.merge .nil)
        exact h S2 _ ρ2 (.ref p) (e1.trans e2) M3 ⟨p, hat2, rfl⟩
      · exact h.elim
    · exact h.elim
end
end PL
namespace PL
open PySem PySem.Spec PyProof.Rows L2
section
variable {X : Cx} {pins : List (Addr × Obj)} {σ : St} {H : Hp} {s : Shared} {a b : Addr} {A : Around} {E : Value → Shared → Prop}
theorem d_update {kvs more : List (Key × V)} {Q : Value → Shared → Prop} (I : Inv X pins σ H s) (e : H a = some (.dK kvs)) (e2 : H b = some (.dK more)) (hne : a ≠ b) (hsz : kvs.length + more.length ≤ sizeLine)
    (h : ∀ s', Inv X pins σ (upd H a (.dK (mergeK kvs more))) s' → Q .none s') : wpAny (model X.prog X.w) A (call (.builtin "dict.update") [.ref a, .ref b]) Q E s := by
  obtain ⟨z, hd, vs, rel, dd⟩ := dk_of I.hok e
  obtain ⟨z2, hd2, ws, rel2, dd2⟩ := dk_of I.hok e2
  refine call_meetsIn PySem.F.slot_dict_update dd.typeIs PySem.F.entry_dict_update (PySem.F.args_dict_update_2 _ _) (meets_dict_update (mixKind X.prog X.w) a b hne hd2) ⟨vs, ws, dd, dd2, by rw [← rel.length, ← rel2.length]; exact hsz, fun h' d1 d2 sb => h _ ?_⟩
  have hz : (mergeK kvs more).length ≤ sizeLine := Nat.le_trans (length_mergeK more kvs) hsz
  have he : ∃ q, h'.get? a = some q := let ⟨q, _, _, hq, _⟩ := d1; ⟨q, hq⟩
  exact d_write I (by rw [e]; exact True.intro) sb he (dk_new hz hd (rel2.merge rel) d1)
end
section
variable {X : Cx} {o e : Expr} {apos cpos : Pos} {td ty : TE}
def tDUpd (td ty : TE) : TE := fun σ H Q => td σ H fun x H1 => ∃ a, x = .ref a ∧ IsD H1 a ∧ ty σ H1 fun y H2 => ∃ b kvs more, y = .ref b ∧ H2 a = some (.dK kvs) ∧ H2 b = some (.dK more) ∧ a ≠ b ∧ kvs.length + more.length ≤ sizeLine ∧ Q .non (upd H2 a (.dK (mergeK kvs more)))
theorem pe_dupd (ho : PE X o td) (he : PE X e ty) (m : M1 X o "update" apos e cpos) : PE X (.Call (.Attribute o "update" apos) [e] [] cpos) (tDUpd td ty) := by
  refine ⟨fun pins s σ H Q I h => ?_⟩
  refine wpAny_Call_method m.base m.few m.line PySem.F.plainAttrs_dict PySem.F.slot_dict_update PySem.F.type_dict_update (thn (ho.run pins s σ H _ I h) fun u s1 ⟨x, H1, I1, rx, a, ex, d, q1⟩ => ?_)
  subst ex
  obtain rfl : u = Value.ref a := rx
  obtain ⟨t1, t2, _⟩ := isD_at I1 d
  refine ⟨t1, t2, ?_⟩
  rw [m.trees]
  refine Calls.callWith_builtin rfl (Calls.evalArgs_plain (Calls.spliced_cons (thn (he.run pins s1 σ H1 _ I1 q1) fun iv s2 ⟨y, H2, I2, ry, b, kvs, more, ey, ea, eb, hne, hsz, q2⟩ => Calls.spliced_nil ?_)))
  subst ey
  obtain rfl : iv = Value.ref b := ry
  exact d_update I2 ea eb hne hsz fun s3 I3 => ⟨.non, _, I3, rfl, q2⟩
end
section
variable {X : Cx} {W : WX} {o e : Expr} {apos cpos pos : Pos} {fa fb : En → P SV}
def updC (n : Nat) (v : SV) : P SV := fun m => match v with
  | .ref j => (match m[n]?, m[j]? with
    | some (.dct kvs), some (.dct more) => if n ≠ j ∧ kvs.length + more.length ≤ 16777216 then .ok (.dat .non) (m.set n (.dct (mergeI kvs more))) else .stuck
    | _, _ => .stuck)
  | _ => .stuck
def updA (fe : En → P SV) (env : En) (d : SV) : P SV := fun m => match d with
  | .ref n => if isDc m[n]? = true then ((fe env).bnd (updC n)) m else .stuck
  | _ => .stuck
def dUpd (fd fe : En → P SV) : En → P SV := fun env => (fd env).bnd (updA fe env)
theorem je_dupd (jo : JE X W o fa) (je : JE X W e fb) (m1 : M1 X o "update" apos e cpos := by exact ⟨rfl, rfl, rfl, rfl⟩) : JE X W (.Call (.Attribute o "update" apos) [e] [] cpos) (dUpd fa fb) := ⟨fun {G S H ρ m env σ Q} M E h => by
  refine we_of (pe_dupd pe_we pe_we m1) (jo.run M E (wpr_monoQ (wpr_bnd h) fun d mm hd => ?_))
  intro S1 H1 ρ1 dv e1 M1 rd
  unfold updA at hd
  split at hd
  · rename_i n
    split at hd
    · rename_i hc
      obtain ⟨a, ha, rfl⟩ := rd
      obtain ⟨kvs0, hq0⟩ := isDc_at hc
      obtain ⟨a', vs, g1, g2, _⟩ := M1.dic.cell n kvs0 hq0
      rw [ha] at g1
      cases g1
      refine ⟨a, rfl, .inl ⟨vs, .inl g2⟩, je.run M1 (E.mono e1) (wpr_mono (wpr_bnd hd) (fun k m2 hk => ?_) fun _ _ z => qx_ext e1 z)⟩
      intro S2 H2 ρ2 kv e2 M2 rk
      unfold updC at hk
      split at hk
      · rename_i j
        split at hk
        · rename_i kvs more h1 h2
          split at hk
          · rename_i hcond
            obtain ⟨b, hb, rfl⟩ := rk
            obtain ⟨a2, vs2, f1, f2, f3, _⟩ := M2.dic.cell n kvs h1
            obtain ⟨b2, ws2, k1, k2, k3, _⟩ := M2.dic.cell j more h2
            have ha2 := e2.r _ _ ha
            rw [ha2] at f1
            cases f1
            rw [hb] at k1
            cases k1
            refine ⟨b, vs2, ws2, rfl, f2, k2, fun z => ?_, by rw [f3.length, k3.length, sizeLine_eq]; exact hcond.2, ?_⟩
            · subst z
              exact hcond.1 (M2.dic.inj n j kvs more a h1 h2 ha2 hb)
            · exact hk S2 _ ρ2 .non (e1.trans e2) (M2.writeD h1 ha2 (k3.merge f3)) .non
          · exact hk.elim
        · exact hk.elim
      · exact hk.elim
    · exact hd.elim
  · exact hd.elim⟩
end
def putDc (k : Nat) (y z : SV) : P Unit := fun m => match y, z with
  | .dat i, .dat x => (match keyD i, m[k]? with
    | some kk, some (.dct kvs) => if kvs.length < 16777216 then .ok () (m.set k (.dct (dPutI kvs kk x))) else .stuck
    | _, _ => .stuck)
  | _, _ => .stuck
def loopDc (k : Nat) (g : D → En → Option En) (t : En → P Bool) (fk fv : En → P SV) (env : En) : List D → P Unit
  | [] => P.ret ()
  | d :: r => fun m => match g d env with
    | none => .stuck
    | some env1 => ((t env1).bnd fun b => match b with
      | true => (fk env1).bnd fun y => (fv env1).bnd fun z => (putDc k y z).bnd fun _ => loopDc k g t fk fv env r
      | false => loopDc k g t fk fv env r) m
def dDc (vs : List Nat) (fi : En → P (List D)) (g : D → En → Option En) (t : En → P Bool) (fk fv : En → P SV) : En → P SV :=
  fun env => (fi env).bnd fun items m => match loopDc m.length g t fk fv (wipeE env vs) items (m ++ [.dct []]) with
    | .ok _ m1 => .ok (.ref m.length) m1
    | _ => .stuck
section
variable {X : Cx} {W : WX} {pos : Pos} {tg iter kx vx : Expr} {ifs : List Expr} {scope : Scope} {own : List (Str × Nat)}
theorem dc_ok {fi : En → P (List D)} {ts : List Nat} {g : D → En → Option En} {tt : TT} {t : En → P Bool} {fk fv : En → P SV} (ji : JI X W tg iter fi)
    (jg : ∀ (s : Shared) (H : Hp) (C : Addr) (cl : List (Str × Addr)) (fp : List Addr), JG (Bk X scope s H C cl fp) tg ts g) (hts : ∀ t ∈ ts, t ∈ own.map (·.2)) (jt : TestOk X scope ifs tt t)
    (jk : ∀ (s : Shared) (H : Hp) (C : Addr) (cl : List (Str × Addr)) (fp : List Addr), JE (Bk X scope s H C cl fp) W0 kx fk)
    (je : ∀ (s : Shared) (H : Hp) (C : Addr) (cl : List (Str × Addr)) (fp : List Addr), JE (Bk X scope s H C cl fp) W0 vx fv)
    {G S H : Hp} {ρ : List Addr} {m : Mem} {env : En} {σ : St} {Q : VK} (M : MR (gd X) G S H ρ m) (E : ER (gd X) S ρ env σ)
    (h : wpr (dDc (own.map (·.2)) fi g t fk fv env m) (QV X G S ρ Q) (QX X W G S ρ σ)) :
    tDc (WI X tg iter) (gAll X scope tg) tt (eAll X scope kx) (eAll X scope vx) (own.map (·.2)) σ H Q := by
  refine ji.run M E (wpr_mono (wpr_bnd h) (fun items m1 hi => ?_) fun _ _ z => z)
  intro S1 H1 ρ1 J e1 M1 its D hD
  generalize hvs : own.map (·.2) = vs at *
  have hi : wpr (loopDc m1.length g t fk fv (wipeE env vs) items (m1 ++ [.dct []])) (fun _ m' => QV X G S ρ Q (.ref m1.length) m') (fun _ _ => False) := by
    cases hl : loopDc m1.length g t fk fv (wipeE env vs) items (m1 ++ [.dct []]) with
    | ok u m2 => simp only [hl] at hi; exact hi
    | exc y m2 => simp only [hl] at hi; exact hi.elim
    | stuck => simp only [hl] at hi; exact hi.elim
  obtain ⟨e2, M2⟩ := M1.allocD hD
  have hat : (ρ1 ++ [D])[m1.length]? = some D := by rw [← M1.len]; simp
  have E1 := (E.mono (e1.trans e2)).wipe vs
  refine ⟨fun i k H' => ∃ S' ρ' m', Ext S1 (ρ1 ++ [D]) S' ρ' ∧ MR (gd X) G S' H' ρ' m' ∧ i + k = items.length ∧
      wpr (loopDc m1.length g t fk fv (wipeE env vs) (items.drop i) m') (fun _ m' => QV X G S ρ Q (.ref m1.length) m') (fun _ _ => False), ⟨items.length, ?_⟩, ?_⟩
  · exact ⟨S1, ρ1 ++ [D], _, Ext.refl _ _, M2, Nat.zero_add _, by rw [List.drop_zero]; exact hi⟩
  · rintro i k H' ⟨S', ρ', m', x1, x2, x4, x5⟩
    have e3 : Ext S ρ S' ρ' := (e1.trans e2).trans x1
    have hat' := x1.r _ _ hat
    obtain ⟨t1, t2⟩ := its i x1.s x2
    cases hd : items[i]? with
    | none =>
      have hge : items.length ≤ i := List.getElem?_eq_none_iff.mp hd
      rw [List.drop_of_length_le hge] at x5
      exact .inl ⟨t1 (by omega), x5 S' H' ρ' (.ref D) e3 x2 ⟨D, hat', rfl⟩⟩
    | some d =>
      obtain ⟨go, yl⟩ := t2 d hd
      obtain ⟨hlt, hdd⟩ := List.getElem?_eq_some_iff.mp hd
      rw [List.drop_eq_getElem_cons hlt, hdd] at x5
      refine .inr ⟨go, fun H2 => ∃ S2 ρ2 m2, Ext S1 (ρ1 ++ [D]) S2 ρ2 ∧ MR (gd X) G S2 H2 ρ2 m2 ∧
        wpr (loopDc m1.length g t fk fv (wipeE env vs) (items.drop (i + 1)) m2) (fun _ m' => QV X G S ρ Q (.ref m1.length) m') (fun _ _ => False), fun H2 hN => ?_, fun x H2 hy => ?_⟩
      · obtain ⟨S2, ρ2, m2, y1, y2, y4⟩ := hN
        exact ⟨k - 1, by omega, S2, ρ2, m2, y1, y2, by omega, y4⟩
      · obtain ⟨S2, e4, M3, rx⟩ := yl x H2 hy
        unfold loopDc at x5
        split at x5
        · exact x5.elim
        · rename_i env1 hg
          have E2 : ER (gd X) S2 ρ' (wipeE env vs) (wipe σ vs) := (E1.mono x1).mono e4
          intro s0 H0 C cl fp
          refine (jg s0 H0 C cl fp).run M3 E2 rx hg fun σ3 E3 sm => ⟨?_, ?_⟩
          · have z := sm.wipe (vs := vs) hts
            rw [z]
            apply List.ext_getElem?
            intro j
            by_cases hj : j ∈ vs
            · by_cases hl : j < σ.length
              · rw [wipe_in hj (by rw [wipe_length]; exact hl), wipe_in hj hl]
              · rw [List.getElem?_eq_none (by rw [wipe_length, wipe_length]; omega), List.getElem?_eq_none (by rw [wipe_length]; omega)]
            · rw [wipe_out hj]
          · refine jt.run M3 E3 (wpr_mono (wpr_bnd x5) (fun b m3 hb => ?_) fun _ _ z => z)
            intro S3 H3 ρ3 e5 M4
            cases b with
            | false =>
              rw [if_neg Bool.false_ne_true]
              exact ⟨S3, ρ3, m3, (x1.trans e4).trans e5, M4, hb⟩
            | true =>
              rw [if_pos rfl]
              intro s1 H01 C1 cl1 fp1
              refine (jk s1 H01 C1 cl1 fp1).run M4 (E3.mono e5) (wpr_mono (wpr_bnd hb) (fun y m4 hy4 => ?_) fun _ _ z => z.elim)
              intro S4 H4 ρ4 yv e6 M5 ry
              intro s2 H02 C2 cl2 fp2
              refine (je s2 H02 C2 cl2 fp2).run M5 ((E3.mono e5).mono e6) (wpr_mono (wpr_bnd hy4) (fun z m5 hz5 => ?_) fun _ _ z => z.elim)
              intro S5 H5 ρ5 zv e7 M6 rz
              have hz5 := wpr_bnd hz5
              unfold putDc at hz5
              split at hz5
              · rename_i ik xk
                split at hz5
                · rename_i kk kvs hkk hcell
                  split at hz5
                  · rename_i hl
                    have eA := ((((x1.trans e4).trans e5).trans e6).trans e7)
                    have hat5 := eA.r _ _ hat
                    obtain ⟨a', vs', g1, g2, g3, _⟩ := M6.dic.cell _ _ hcell
                    rw [hat5] at g1
                    cases g1
                    have ek := keyD_ok (ry.mono e7) hkk
                    subst ek
                    exact ⟨vs', kk, rfl, g2, by rw [g3.length, sizeLine_eq]; exact hl, S5, ρ5, _, eA, M6.writeD hcell hat5 (g3.put kk rz), hz5⟩
                  · exact hz5.elim
                · exact hz5.elim
              · exact hz5.elim
theorem je_dc {vs : List Nat} {fi : En → P (List D)} {ts : List Nat} {g : D → En → Option En} {tt : TT} {t : En → P Bool} {fk fv : En → P SV} (own : List (Str × Nat)) (hc : X.calm = true) (hN : X.N.Nodup) (ji : JI X W tg iter fi) (ok : BlkOk X.N X.env.scope scope own)
    (jg : ∀ (s : Shared) (H : Hp) (C : Addr) (cl : List (Str × Addr)) (fp : List Addr), JG (Bk X scope s H C cl fp) tg ts g) (hts : ∀ t ∈ ts, t ∈ vs) (jt : TestOk X scope ifs tt t)
    (jk : ∀ (s : Shared) (H : Hp) (C : Addr) (cl : List (Str × Addr)) (fp : List Addr), JE (Bk X scope s H C cl fp) W0 kx fk)
    (je : ∀ (s : Shared) (H : Hp) (C : Addr) (cl : List (Str × Addr)) (fp : List Addr), JE (Bk X scope s H C cl fp) W0 vx fv)
    (hs : ∀ x, foldedSetIterable iter X.env x = pure x := by intro _; rfl) (hvs : own.map (·.2) = vs := by rfl) : JE X W (.DictComp kx vx [⟨tg, iter, ifs, 0⟩] scope pos) (dDc vs fi g t fk fv) := by
  subst hvs
  exact ⟨fun {G S H ρ m env σ Q} M E h => by
    refine we_of (pe_dc hc hN pi_wi ok (fun s H C cl fp => ⟨fun pins s' σ H v u Q I r h => h s _ C cl fp pins s' u I r⟩) (fun s H C cl fp => jt.pts s H C cl fp) (fun s H C cl fp => ⟨fun pins s' σ H Q I h => h _ _ _ _ _ pins s' I⟩) (fun s H C cl fp => ⟨fun pins s' σ H Q I h => h _ _ _ _ _ pins s' I⟩) hs) (dc_ok ji jg hts jt jk je M E h)⟩
end
end PL
namespace PL
open PySem PySem.Spec PyProof.Rows L2
section
variable {X : Cx} {W : WX}
def notInKC (k : Option Key) (c : Option Cell) : P SV := fun m => match c, k with
  | some (.dct kvs), some k => .ok (.dat (.bl (!(dGetI kvs k).isSome))) m
  | _, _ => .stuck
def notInKV (x y : SV) : P SV := fun m => match x, y with
  | .dat d, .ref n => notInKC (keyD d) m[n]? m
  | _, _ => .stuck
theorem jo_notInK (hu : X.A.units + 1 < cLine) : JO X W (compareOp .NotIn) notInKV := ⟨fun {G S H ρ m σ x y xv yv Q} M rx ry q pins s v u I r1 r2 => by
  unfold notInKV at q
  split at q
  · rename_i d n
    unfold notInKC at q
    split at q
    · rename_i kvs k hc hk
      obtain ⟨a, ha, rfl⟩ := ry
      have ek := keyD_ok (show Rp (gd X) S xv d from rx) hk
      subst ek
      obtain ⟨a', vs, g1, g2, g3, _⟩ := M.dic.cell n kvs hc
      rw [ha] at g1
      cases g1
      obtain rfl : u = Value.ref a := r2
      refine d_notIn hu I (DGet.k g2) r1 fun s' I' => ⟨.bl _, H, I', rfl, ?_⟩
      have e : (valV vs k).isSome = (dGetI kvs k).isSome := by
        rcases g3.get k with ⟨v, d, l1, l2, _⟩ | ⟨l1, l2⟩ <;> rw [l1, l2] <;> rfl
      rw [e]
      exact q S H ρ _ (Ext.refl _ _) M (.bl _)
    · exact q.elim
  · exact q.elim⟩
end
end PL
namespace PL
open PySem PySem.Spec PyProof.Rows L2
def asKD : List D → Option (List (Key × D))
  | [] => some []
  | .tup [k, x] :: r => (match keyD k, asKD r with | some k, some l => some ((k, x) :: l) | _, _ => none)
  | _ => none
theorem asKD_pairs {Γ : Gd} {S : Hp} : ∀ {ds : List D} {vs : List V} {ks : List (Key × D)}, RpAll Γ S vs ds → asKD ds = some ks →
    ∃ (ps : List Addr) (kvs : List (Key × V)), vs = ps.map V.ref ∧ Paired (fun p (kv : Key × V) => SqT Γ.K S p [kV kv.1, kv.2]) ps kvs ∧ kvs.map (·.1) = ks.map (·.1) ∧ RpAll Γ S (kvs.map (·.2)) (ks.map (·.2))
  | [], _, _, .nil, h => by
    cases h
    exact ⟨[], [], rfl, .nil, rfl, .nil⟩
  | d :: ds, _, ks, .cons (v := v) (vs := vs) r rs, h => by
    unfold asKD at h
    split at h
    · rename_i e; cases e
    · rename_i k x r' e
      obtain ⟨e1, e2⟩ := List.cons.inj e
      subst e1 e2
      split at h
      · rename_i k' l hk hl
        cases h
        obtain ⟨ps, kvs, e3, e4, e5, e6⟩ := asKD_pairs rs hl
        cases r with
        | tup h1 r1 =>
          rename_i a us
          cases r1 with
          | cons q1 r2 =>
            cases r2 with
            | cons q2 r3 =>
              cases r3
              have ek := keyD_ok q1 hk
              subst ek
              exact ⟨a :: ps, (k', _) :: kvs, by rw [e3]; rfl, .cons h1 e4, by simp [e5], .cons q2 e6⟩
      · cases h
    · cases h
def dictKD (xs : List SV) : P SV := fun m => match xs with
  | [.dat (.lst ds)] => (match asKD ds with | some ks => if (ks.map (·.1)).Nodup then .ok (.dat (.dk (ks.map (·.1)) (ks.map (·.2)))) m else .stuck | none => .stuck)
  | _ => .stuck
section
variable {X : Cx} {W : WX}
theorem jc_dictD (hc : X.calm = true) : JC X W (.type "dict") dictKD := ⟨fun {G S H ρ m σ xs xvs Q} M rx q pins s us I r => by
  unfold dictKD at q
  split at q
  · rename_i ds
    split at q
    · rename_i ks hk
      split at q
      · rename_i hnd
        cases rx with
        | cons r1 r2 =>
          cases r2
          have r1 : Rp (gd X) S _ (.lst ds) := r1
          cases r1 with
          | lst h1 rr =>
            rename_i a vs
            obtain ⟨ps, kvs, e1, e2, e3, e4⟩ := asKD_pairs rr hk
            subst e1
            have pr : Paired (fun p (kv : Key × V) => SqT X.K H p [kV kv.1, kv.2]) ps kvs := paired_imp (fun _ _ hq => Same.seqT M.sub hq) e2
            have em : mergeK [] kvs = kvs := by
              have := merge_nodup kvs [] (by rw [List.nil_append, e3]; exact hnd)
              rw [this, List.nil_append]
            refine wpAny_mono (wc_of (call_dictP hc) (Q := fun x H' => ∃ p, x = V.ref p ∧ H p = none ∧ H' = upd H p (.dK (mergeK [] kvs))) ⟨a, ps, kvs, rfl, .inl (.inl (M.sub a _ h1)), pr, fun p hp => ⟨p, rfl, hp, rfl⟩⟩ pins s us I r) (fun u s' he => ?_) (fun e s' h => h)
            obtain ⟨x, H', I', rv, p, ex, hp, eH⟩ := he
            subst ex eH
            rw [em] at I'
            obtain ⟨od, I2⟩ := I'.lock upd_same trivial
            rw [upd_upd] at I2
            obtain ⟨s1, M1⟩ := M.grow hp (.frz od (.dK kvs))
            exact ⟨.ref p, _, I2, rv, q _ _ ρ (.ref p) ⟨s1, fun _ _ z => z⟩ M1 (.dk upd_same e3 (e4.mono s1))⟩
      · exact q.elim
    · exact q.elim
  · exact q.elim⟩
end
@[simp] theorem dictKD_ap {ds : List D} {ks : List (Key × D)} (h : asKD ds = some ks) (hn : (ks.map (·.1)).Nodup) (m : Mem) : dictKD [.dat (.lst ds)] m = .ok (.dat (.dk (ks.map (·.1)) (ks.map (·.2)))) m := by
  simp only [dictKD, h]
  rw [if_pos hn]
end PL
namespace PL
namespace ST
open PySem PySem.Spec PyProof.Rows L2
section
variable {P : Program} {w : World} {K : Type} [DecidableEq K] {kd : KeyKind P w K} {A : Around} {E : Value → Shared → Prop} {s : Shared}
def hk (kd : KeyKind P w K) (k : List K) : Int := tupleKeyHash kd k
def ent (kd : KeyKind P w K) (e : List K × Addr) : Int × Value := (hk kd e.1, Value.ref e.2)
structure Tab (kd : KeyKind P w K) (h : Heap) (a : Addr) (L : List (List K × Addr)) (es : Array (Int × Value)) (ep : Nat) (t : SetTable) : Prop where
  obj : ∃ o, h.get? a = some o ∧ o.ExactSet ∧ o.data = .set es ep t
  row : es.toList = L.map (ent kd)
  tab : TabOk t (L.map fun e => hk kd e.1)
  dif : (L.map (·.1)).Nodup
  tup : ∀ e ∈ L, IsTupleKey kd h e.1 e.2
  sp : 5 * L.length < 3 * t.mask
  sm : L.length ≤ 40
variable {a : Addr} {L : List (List K × Addr)} {es : Array (Int × Value)} {ep : Nat} {t : SetTable}
theorem Tab.size (R : Tab kd s.heap a L es ep t) : es.size = L.length := by
  simpa using congrArg List.length R.row
theorem Tab.fits (R : Tab kd s.heap a L es ep t) : t.fits es.size = true := by
  have z := R.tab.sz
  rw [List.length_map] at z
  have z2 := R.size
  have z3 := R.sp
  simp only [SetTable.fits, SetTable.fill, R.tab.dm, Bool.and_eq_true, beq_iff_eq, decide_eq_true_eq]
  exact ⟨by omega, by show t.place.size + 0 ≤ t.mask; omega⟩
theorem Tab.at_ (R : Tab kd s.heap a L es ep t) {i : Nat} {e : List K × Addr} (h : L[i]? = some e) : es[i]? = some (ent kd e) := by
  rw [← Array.getElem?_toList, R.row, List.getElem?_map, h]
  rfl
end
end ST
end PL
namespace PL
namespace ST
open PySem PySem.Spec PyProof.Rows L2
section
variable {P : Program} {w : World} {K : Type} [DecidableEq K] {kd : KeyKind P w K}
structure Has (ks : List (List K × Addr)) (i : Nat) (L : List (List K × Addr)) : Prop where
  sub : ∀ e ∈ L, e ∈ ks
  mem : ∀ y, y ∈ L.map (·.1) ↔ y ∈ (ks.take i).map (·.1)
  len : L.length ≤ i
theorem Has.step {ks L L' : List (List K × Addr)} {i : Nat} {e : List K × Addr} (g : Has ks i L) (h : ks[i]? = some e) (c1 : e.1 ∈ L.map (·.1) → L' = L) (c2 : e.1 ∉ L.map (·.1) → L'.Perm (e :: L)) : Has ks (i + 1) L' := by
  by_cases hm : e.1 ∈ L.map (·.1)
  · rw [c1 hm]
    refine ⟨g.sub, fun y => ?_, Nat.le_succ_of_le g.len⟩
    rw [g.mem, PL.take_next h, List.map_append, List.mem_append]
    constructor
    · exact .inl
    · rintro (z | z)
      · exact z
      · rw [show y = e.1 by simpa using z]
        exact (g.mem _).mp hm
  · have pm := c2 hm
    refine ⟨fun y hy => ?_, fun y => ?_, by rw [pm.length_eq, List.length_cons]; exact Nat.succ_le_succ g.len⟩
    · rcases List.mem_cons.mp (pm.mem_iff.mp hy) with z | z
      · rw [z]; exact List.mem_of_getElem? h
      · exact g.sub y z
    · rw [(pm.map (·.1)).mem_iff, List.map_cons, List.mem_cons, g.mem, PL.take_next h, List.map_append, List.mem_append]
      constructor
      · rintro (z | z)
        · exact .inr (by simp [z])
        · exact .inl z
      · rintro (z | z)
        · exact .inr z
        · exact .inl (by simpa using z)
end
end ST
open PySem PySem.Spec PyProof.Rows L2
end PL
namespace PL
open PySem PySem.Spec PyProof.Rows L2
section
variable {X : Cx} {pins : List (Addr × Obj)} {σ : St} {H : Hp} {s : Shared}
theorem ns_one {h : Heap} {L : Addr} {m m' : Str → Option Value} (x : h.Ns L m) (y : h.Ns L m') : m = m' := by
  first | exact SlX.ns_only x y | exact L2.SlX.ns_only x y | exact PySem.SlX.ns_only x y
theorem keptF {h' : Heap} {t' : Nat} (I : Inv X pins σ H s) (k : ∀ b o, b ≠ X.env.locals → s.heap.get? b = some o → h'.get? b = some o) (hn : ∀ m, s.heap.Ns X.env.locals m → h'.Ns X.env.locals m) : Inv X pins σ H { s with heap := h', toks := t' } := by
  refine I.step (g' := s.gens) (d' := s.drawn) (ch := []) (fun _ z => nomatch z) (fun b o n _ _ e _ => k b o n e) (fun b o n _ _ e _ => ⟨o.slots, k b o n e⟩) (fun b o _ _ n => n) (fun b o _ e => ?_) (fun b xs e => e) (fun b o u e => e) (fun b ps e => ⟨#[], by rw [e, Array.append_empty]⟩) hn (fun a o e => ?_) I.bare
  · by_cases z : b = X.env.locals
    · obtain ⟨m, n, _⟩ := I.loc
      obtain ⟨o', _, _, ho, _⟩ := hn m n
      exact ⟨o', by rw [z]; exact ho⟩
    · exact ⟨o, k b o z e⟩
  · refine (I.hok a o e).stay (fun b u hb q => k b u (fun z => ?_) q) (fun _ q => q) fun _ _ q => q
    rw [z] at hb
    rcases hb with rfl | hb
    · rw [I.free] at e
      cases e
    · rw [I.free] at hb
      cases hb
theorem keptA {h' : Heap} {m : Str → Option Value} (I : Inv X pins σ H s) (F : Fr X.base X.env.locals h' m) (N : News X.base X.env.locals h' (allNews X.base s.heap X.env.locals)) : ∀ b o, b ≠ X.env.locals → s.heap.get? b = some o → h'.get? b = some o := fun b o n e => by
  cases q : X.base.get? b with
  | some u =>
    have := I.bk b u q
    rw [e] at this
    cases this
    exact F.keep b _ q
  | none => exact (N (b, o) (mem_allNews n q e)).1
theorem list_ne (I : Inv X pins σ H s) {l : Addr} {its : Array Value} (h : s.heap.IsList l its) : l ≠ X.env.locals := fun z => by
  obtain ⟨o, ho, _, n, hd⟩ := h
  obtain ⟨m, ⟨o', es, ep, ho', hd', _⟩, _⟩ := I.loc
  rw [z, ho'] at ho
  cases ho
  rw [hd'] at hd
  cases hd
theorem keptN {h' : Heap} {t' : Nat} {m : Str → Option Value} (I : Inv X pins σ H s) (F0 : Fr X.base X.env.locals s.heap m) (F : Fr X.base X.env.locals h' m) (N : News X.base X.env.locals h' (allNews X.base s.heap X.env.locals)) : Inv X pins σ H { s with heap := h', toks := t' } := by
  refine keptF I (keptA I F N) fun m' hm => ?_
  rw [ns_one hm F0.ns]
  exact F.ns
end
def isLs : D → Bool
  | .lst _ => true
  | _ => false
def lsLen : D → Nat
  | .lst xs => xs.length
  | _ => 0
def shortL (ds : List D) : Option D := ds.find? fun d => ds.all fun e => decide (lsLen d ≤ lsLen e)
theorem shortL_at {ds : List D} {i : Nat} {d : D} (h : ds[i]? = some d) (le : ∀ j e, ds[j]? = some e → lsLen d ≤ lsLen e ∧ (j < i → lsLen d < lsLen e)) : shortL ds = some d := by
  have hp : (ds.all fun e => decide (lsLen d ≤ lsLen e)) = true := by
    rw [List.all_eq_true]
    intro e he
    obtain ⟨j, hj⟩ := List.mem_iff_getElem?.mp he
    exact decide_eq_true (le j e hj).1
  have hi := (List.getElem?_eq_some_iff.mp h).1
  unfold shortL
  rw [List.find?_eq_some_iff_getElem]
  refine ⟨hp, i, hi, (List.getElem?_eq_some_iff.mp h).2, fun j hj => ?_⟩
  have hji : j < ds.length := by omega
  have h1 := (le j ds[j] (List.getElem?_eq_getElem hji)).2 hj
  simp only [Bool.not_eq_true', List.all_eq_false]
  exact ⟨d, List.mem_of_getElem? h, by simpa using h1⟩
def minLenV (v : SV) : P SV := fun m => match rdL v m with
  | some ds => if ds.all isLs = true then (match shortL ds with | some d => .ok (.dat d) m | none => .stuck) else .stuck
  | none => .stuck
section
variable {X : Cx} {W : WX} {a : Expr} {fa : En → P SV} {p p2 kp pos : Pos}
theorem je_minLen (hg : Gl X "min") (hm : X.mg "min" = none) (hg2 : Gl X "len") (hm2 : X.mg "len" = none) (hc : X.calm = true) (ja : JE X W a fa)
    (na : starEach [a] X.env = (false, eval a X.env) :: starEach [] X.env := by rfl) (he : backTo pos (starEach [a] X.env) = (false, eval a X.env) :: backTo pos (starEach [] X.env) := by rfl) (hpl : (backTo pos (starEach [a] X.env)).any (·.1) = false := by rfl) : JE X W (.Call (.Name "min" p) [a] [⟨some "key", .Name "len" p2, kp⟩] pos) (d1 minLenV fa) := ⟨fun {G S H ρ m env σ Q} M E h pins s I => by
  refine wpAny_Call_Name_kw (ld_blt I hg hm boot_min ?_)
  refine PyProof.Rows.callWith_kw (args_cons (thn (ja.run (Q := fun x H1 => ∃ (l : Addr) (vs : List V) (ds : List D) (S1 : Hp), x = .ref l ∧ SqL X.K H1 l vs ∧ RpAll (gd X) S1 vs ds ∧ Same S1 H1 ∧ ds.all isLs = true ∧ ∃ d0, shortL ds = some d0 ∧ ∀ v, Rp (gd X) S1 v d0 → Q v H1) M E (wpr_monoQ (wpr_bnd h) fun x m1 hx => ?_) pins s I) fun v s1 ⟨x, H1, I1, r1, q1⟩ => args_nil ?_) na) he hpl (by rfl) (by rfl)
  · intro S1 H1 ρ1 xv e1 M1 rx
    unfold minLenV at hx
    split at hx
    · rename_i ds hd
      obtain ⟨l, vs, rfl, h1, r1⟩ := rdL_ok M1 rx hd
      split at hx
      · rename_i ha
        split at hx
        · rename_i d hmd
          exact ⟨l, vs, ds, S1, rfl, .inl (.inl h1), r1, M1.sub, ha, d, hmd, fun v rv => hx S1 H1 ρ1 v e1 M1 rv⟩
        · exact hx.elim
      · exact hx.elim
    · exact hx.elim
  · refine kws_cons (ld_blt I1 hg2 hm2 boot_len (kws_nil ?_))
    obtain ⟨l, vs, ds, S1, rfl, hq, hr, sub, hall, d0, hd0, q1⟩ := q1
    obtain rfl : v = Value.ref l := r1
    obtain ⟨its, rv, pl, hz⟩ := I1.list hq
    obtain ⟨m0, F0⟩ := I1.fr
    have ll := hr.length
    have lv := rv.length
    let kf : Nat → Int := fun i => ((((ds[i]?).map lsLen).getD 0 : Nat) : Int)
    have nes : 0 < its.length := by
      rw [← lv, ll]
      cases ds with
      | nil => cases hd0
      | cons _ _ => simp
    have item : ∀ (i : Nat) (u : Value), its[i]? = some u → ∃ (c : Addr) (ws : List V) (xs : List D) (w : V), vs[i]? = some w ∧ u = .ref c ∧ w = .ref c ∧ ds[i]? = some (.lst xs) ∧ S1 c = some (.lst ws) ∧ ws.length = xs.length := fun i u hu => by
      obtain ⟨w, hw, rw_⟩ := paired_back rv hu
      obtain ⟨d, hd1, rd⟩ := hr.get' hw
      have := List.all_eq_true.mp hall d (List.mem_of_getElem? hd1)
      cases rd with
      | lst h1 h2 => exact ⟨_, _, _, _, hw, rw_, rfl, hd1, h1, h2.length⟩
      | _ => cases this
    refine kmb_min (h₀ := X.base) (L := X.env.locals) (m := m0) (news := allNews X.base s1.heap X.env.locals) (vs := its) (kid := "len") kf (I1.ok.hd hc) F0 news_all (fun h F N => ?_) nes (fun i u hu h tk own F N => ?_) fun i u h' tk' hu hbest F N => ?_
    · obtain ⟨o, ho, h1, n, h2⟩ := pl.isList
      exact ⟨o, keptA I1 F N l o (list_ne I1 pl.isList) ho, h1, n, h2⟩
    · have I2 : Inv X pins σ H1 { s1 with heap := h, toks := tk } := keptN I1 F0 F fun p hp => N p (List.mem_append_left _ hp)
      obtain ⟨c, ws, xs, w, hw, rfl, rfl, hd1, h1, h2⟩ := item i u hu
      obtain ⟨its3, rv3, pl3, hz3⟩ := I2.list (.inl (.inl (sub c _ h1)))
      have hl3 := rv3.length
      have ek : kf i = ((its3.toArray.size : Nat) : Int) := by
        show ((((ds[i]?).map lsLen).getD 0 : Nat) : Int) = _
        rw [hd1]
        show ((xs.length : Nat) : Int) = _
        rw [List.size_toArray, ← hl3, h2]
      rw [ek]
      refine Calls.call_len_list pl3.isList (by rw [List.size_toArray]; rw [sizeLine_eq] at hz3; omega) ?_
      exact ⟨h, _, _, rfl, rfl, F, N⟩
    · have I2 : Inv X pins σ H1 { s1 with heap := h', toks := tk' } := keptN I1 F0 F N
      obtain ⟨c, ws, xs, w, hw, rfl, rfl, hd1, h1, h2⟩ := item i u hu
      have hs : shortL ds = some (.lst xs) := shortL_at hd1 fun j e hj => by
        have hjl : j < its.length := by
          have := (List.getElem?_eq_some_iff.mp hj).1
          omega
        obtain ⟨b1, b2⟩ := hbest j hjl
        have e1 : kf i = ((lsLen (.lst xs) : Nat) : Int) := by
          show ((((ds[i]?).map lsLen).getD 0 : Nat) : Int) = _
          rw [hd1]
          rfl
        have e2 : kf j = ((lsLen e : Nat) : Int) := by
          show ((((ds[j]?).map lsLen).getD 0 : Nat) : Int) = _
          rw [hj]
          rfl
        rw [e1, e2] at b1 b2
        exact ⟨by omega, fun z => by have := b2 z; omega⟩
      rw [hs] at hd0
      cases hd0
      obtain ⟨d, hd2, rd⟩ := hr.get' hw
      rw [hd1] at hd2
      cases hd2
      exact ⟨.ref c, H1, I2, rfl, q1 _ rd⟩⟩
end
@[simp] theorem minLenV_lst {ds : List D} (h : ds.all isLs = true) {d : D} (hd : shortL ds = some d) (m : Mem) : minLenV (.dat (.lst ds)) m = .ok (.dat d) m := by
  simp [minLenV, rdL, h, hd]
end PL
namespace PL
namespace SW
open PySem PySem.Spec PyProof.Rows L2
structure Msk (m : Nat) : Prop where
  odd : m % 2 = 1
  rd : ∀ i j, i ≤ m → j ≤ m → ∃ k, k ≤ m ∧ lcgI m i k = j
section
variable {m : Nat}
theorem Msk.run (M : Msk m) (x : Int) {j : Nat} (hj : j ≤ m) : ∃ n, n ≤ m + 12 ∧ runI m (SetTable.bits x) n = j := by
  obtain ⟨k, k1, k2⟩ := M.rd _ j (runI_le m (SetTable.bits x) 12) hj
  exact ⟨12 + k, by omega, (runI_tail (bits_lt x) k).trans k2⟩
theorem Msk.slot (M : Msk m) (x : Int) {j : Nat} (hj : j ≤ m) : ∃ k, k < 10 * SetTable.turns m ∧ way m x k = j := by
  obtain ⟨n, n1, n2⟩ := M.run x hj
  obtain ⟨k, k1, k2⟩ := run_nth m (SetTable.bits x) n
  have tn : n < SetTable.turns m := by
    unfold SetTable.turns
    omega
  exact ⟨k, by omega, (congrArg SetTable.Probe.j k2).trans n2⟩
theorem way_in (x : Int) (k : Nat) : way m x k ≤ m := by
  have a : SetTable.bits x % (m + 1) ≤ m := Nat.le_of_lt_succ (Nat.mod_lt _ (by omega))
  have b := (runEnd_bd a).1
  have c := nth_in (m := m) k (runAt m (SetTable.bits x % (m + 1)) (SetTable.bits x)) (by unfold runAt; dsimp only; omega)
  exact Nat.le_trans (Nat.le_add_right _ _) c
end
structure Tw (t : SetTable) (hs : List Int) : Prop where
  up : Ris t.place.toList
  nd : t.dummies = #[]
  many : t.place.toList.length = hs.length
  msk : Msk t.mask
  low : ∀ j ∈ t.place.toList, j ≤ t.mask
  way : ∀ (i : Nat) (x : Int) (j : Nat), hs[i]? = some x → t.place.toList[i]? = some j → ∃ k, way t.mask x k = j ∧ ∀ c < k, L2.way t.mask x c ∈ t.place.toList
section
variable {t : SetTable} {hs : List Int}
theorem Tw.first (T : Tw t hs) (few : hs.length ≤ t.mask) (x : Int) : ∃ N, N < 10 * SetTable.turns t.mask ∧ L2.way t.mask x N ∉ t.place.toList ∧ ∀ c < N, L2.way t.mask x c ∈ t.place.toList := by
  obtain ⟨j, j1, j2⟩ := st_missing t.place.toList (t.mask + 1) (by rw [T.many]; omega)
  obtain ⟨k, k1, rfl⟩ := T.msk.slot x (Nat.le_of_lt_succ j1)
  obtain ⟨N, n1, n2, n3⟩ := st_least (p := fun c => L2.way t.mask x c ∉ t.place.toList) k j2
  exact ⟨N, by omega, n2, fun c hc => Classical.not_not.mp (n3 c hc)⟩
theorem Tw.put (T : Tw t hs) {x : Int} {N : Nat} (free : L2.way t.mask x N ∉ t.place.toList) (hb : ∀ c < N, L2.way t.mask x c ∈ t.place.toList) :
    ∃ p, SetTable.below t.place (L2.way t.mask x N) = p ∧ (t.put (L2.way t.mask x N)).2 = p ∧ p ≤ hs.length ∧ Tw (t.put (L2.way t.mask x N)).1 (hs.take p ++ x :: hs.drop p) ∧
    (t.put (L2.way t.mask x N)).1.mask = t.mask ∧ (t.put (L2.way t.mask x N)).1.fill = hs.length + 1 ∧ (t.put (L2.way t.mask x N)).1.led = t.led := by
  have lo : L2.way t.mask x N ≤ t.mask := way_in x N
  have pl := put_place t (L2.way t.mask x N)
  have dm := put_dm T.nd (L2.way t.mask x N)
  have ri := below_cut T.up (L2.way t.mask x N)
  have new : t.place[SetTable.below t.place (L2.way t.mask x N)]? ≠ some (L2.way t.mask x N) := fun z => free (List.mem_of_getElem? (by rw [Array.getElem?_toList]; exact z))
  have up : Ris (t.put (L2.way t.mask x N)).1.place.toList := ris_insert T.up new
  refine ⟨_, rfl, rfl, ?_⟩
  generalize SetTable.below t.place (L2.way t.mask x N) = p at pl ri ⊢
  have hp : p ≤ t.place.toList.length := ri.1
  have hq : p ≤ hs.length := by rw [← T.many]; exact hp
  have sz : (t.put (L2.way t.mask x N)).1.place.toList.length = hs.length + 1 := by rw [pl, len_ins _ hp, T.many]
  have incl : ∀ {c : Nat}, c ∈ t.place.toList → c ∈ (t.put (L2.way t.mask x N)).1.place.toList := fun {c} hc => by
    rw [pl]
    exact mem_ins.mpr (Or.inr hc)
  refine ⟨hq, ⟨?_, dm, by rw [sz, len_ins _ hq], T.msk, fun c hc => ?_, fun i y j h1 h2 => ?_⟩, rfl, ?_, rfl⟩
  · exact up
  · rw [pl] at hc
    exact (mem_ins.mp hc).elim (fun z => z ▸ lo) (T.low c)
  · rw [tins_get hs hq] at h1
    rw [pl, tins_get _ hp] at h2
    show ∃ k, L2.way t.mask y k = j ∧ ∀ c < k, L2.way t.mask y c ∈ _
    rcases Nat.lt_trichotomy i p with z | z | z
    · rw [if_pos z] at h1 h2
      obtain ⟨k, k1, k2⟩ := T.way i y j h1 h2
      exact ⟨k, k1, fun c hc => incl (k2 c hc)⟩
    · rw [if_neg (by omega), if_pos z] at h1 h2
      cases h1
      cases h2
      exact ⟨N, rfl, fun c hc => incl (hb c hc)⟩
    · rw [if_neg (by omega), if_neg (by omega)] at h1 h2
      obtain ⟨k, k1, k2⟩ := T.way (i - 1) y j h1 h2
      exact ⟨k, k1, fun c hc => incl (k2 c hc)⟩
  · have e : (t.put (L2.way t.mask x N)).1.fill = (t.put (L2.way t.mask x N)).1.place.toList.length + (t.put (L2.way t.mask x N)).1.dummies.size := rfl
    rw [e, sz, dm]
    rfl
end
end SW
end PL
namespace PL
namespace SW
open PySem PySem.Spec PyProof.Rows L2
open ST (hk ent Has)
theorem Tw.sz {t : SetTable} {hs : List Int} (T : Tw t hs) : t.place.size = hs.length := by
  rw [← Array.length_toList]; exact T.many
theorem Tw.plain {t : SetTable} {hs : List Int} (T : Tw t hs) (b : Bool) : Tw { t with plain := b } hs := ⟨T.up, T.nd, T.many, T.msk, T.low, T.way⟩
section
variable {P : Program} {w : World} {K : Type} [DecidableEq K] {kd : KeyKind P w K} {A : Around} {E : Value → Shared → Prop} {s : Shared}
structure Tab (kd : KeyKind P w K) (h : Heap) (a : Addr) (L : List (List K × Addr)) (es : Array (Int × Value)) (ep : Nat) (t : SetTable) : Prop where
  obj : ∃ o, h.get? a = some o ∧ o.ExactSet ∧ o.data = .set es ep t
  row : es.toList = L.map (ent kd)
  tab : Tw t (L.map fun e => hk kd e.1)
  dif : (L.map (·.1)).Nodup
  tup : ∀ e ∈ L, IsTupleKey kd h e.1 e.2
  sp : 5 * L.length < 3 * t.mask
  sm : L.length ≤ 1200
  msz : t.mask = 7 ∨ t.mask = 31 ∨ t.mask = 127 ∨ t.mask = 511 ∨ t.mask = 2047
  ld : w.params.followText "set-order" = true ∨ t.led = true
variable {a : Addr} {L : List (List K × Addr)} {es : Array (Int × Value)} {ep : Nat} {t : SetTable}
theorem Tab.size (R : Tab kd s.heap a L es ep t) : es.size = L.length := by
  simpa using congrArg List.length R.row
theorem Tab.fits (R : Tab kd s.heap a L es ep t) : t.fits es.size = true := by
  have z := R.tab.sz
  rw [List.length_map] at z
  have z2 := R.size
  have z3 := R.sp
  simp only [SetTable.fits, SetTable.fill, R.tab.nd, Bool.and_eq_true, beq_iff_eq, decide_eq_true_eq]
  exact ⟨by omega, by show t.place.size + 0 ≤ t.mask; omega⟩
theorem Tab.at_ (R : Tab kd s.heap a L es ep t) {i : Nat} {e : List K × Addr} (h : L[i]? = some e) : es[i]? = some (ent kd e) := by
  rw [← Array.getElem?_toList, R.row, List.getElem?_map, h]
  rfl
end
end SW
end PL
namespace PL
open PySem PySem.Spec PyProof.Rows L2
structure LamM (N : List Str) (sc scope : Scope) (M : List Str) (b : Str) (vs : List Str) : Prop where
  kind : scope.kind = .function
  co : scope.isCoroutine = false
  gen : scope.isGenerator = false
  nocell : ∀ y ∈ scope.names, y.2 ≠ .cell
  own : ∀ y ∈ scope.names, y.2 = .local → y.1 ∈ b :: vs
  par : scope.names.lookup b = some .local
  free : ∀ y ∈ scope.names, y.2 = .free → sc.names.lookup y.1 = some .cell ∨ sc.names.lookup y.1 = some .free
  new : ∀ y ∈ b :: vs, y ∉ M
  len : M.length = N.length
  same : ∀ (i : Nat) y, M[i]? = some y → (y, NameKind.free) ∈ scope.names → N[i]? = some y
theorem LamM.has {X : Cx} {N M : List Str} {scope : Scope} {b : Str} {vs : List Str} (L : LamM N X.env.scope scope M b vs) (ok : X.Ok) : ∀ y ∈ scope.names, y.2 = .free → ∃ c, X.env.cells.lookup y.1 = some c := fun y hy e => by
  rcases L.free y hy e with k | k
  · exact ok.has _ (.inl k)
  · exact ok.has _ (.inr k)
structure KV (X : Cx) (pins : List (Addr × Obj)) (σ : St) (G S0 : Hp) (ρ0 : List Addr) (f : Addr) (of : Obj) (S H : Hp) (ρ : List Addr) (m : Mem) (s : Shared) : Prop where
  i : Inv X pins σ H s
  e : Ext S0 ρ0 S ρ
  r : MR (gd X) G S H ρ m
  fh : s.heap.get? f = some of
  fn : H f = none
def TurnK (X : Cx) (pins : List (Addr × Obj)) (σ : St) (G S0 : Hp) (ρ0 : List Addr) (φ : D → P SV) (f : Addr) (of : Obj) : Prop :=
  ∀ (d kd : D) (w : V) (u : Value) (S H : Hp) (ρ : List Addr) (m1 m2 : Mem) (s : Shared) (pl : List (Addr × Obj)) (R : Value → Shared → Prop) (E : Value → Shared → Prop), Rp (gd X) S w d → RelV w u → φ d m1 = .ok (.dat kd) m2 → KV X (pins ++ pl) σ G S0 ρ0 f of S H ρ m1 s →
    (∀ ku s' S' H' ρ' kv, KV X (pins ++ pl) σ G S0 ρ0 f of S' H' ρ' m2 s' → Same S S' → RelV kv ku → Rp (gd X) S' kv kd → R ku s') → wpAny (model X.prog X.w) X.A.in1 (call (.ref f) [u]) R E s
def FpS (X : Cx) (pins : List (Addr × Obj)) (b : Addr) : Prop := b ≠ X.env.locals ∧ b ∉ X.fs ∧ (b ∈ X.ex ∨ X.s_0.heap.objs.size ≤ b) ∧ (∀ x c, X.env.cells.lookup x = some c → c ≠ b) ∧ ∀ p ∈ X.pn ++ pins, p.1 ≠ b
section
variable {X : Cx} {pins : List (Addr × Obj)} {σ : St} {G S0 : Hp} {ρ0 : List Addr} {f : Addr} {of : Obj}
theorem KV.fr {S H : Hp} {ρ : List Addr} {m : Mem} {s : Shared} {b : Addr} (K : KV X pins σ G S0 ρ0 f of S H ρ m s) (hs : FpS X pins b) (hn : H b = none) : FpOk X pins H b := ⟨hn, hs.1, hs.2.1, hs.2.2.1, hs.2.2.2.1, hs.2.2.2.2⟩
theorem KV.ask {φ : D → P SV} {it ac : Addr} {S H : Hp} {ρ : List Addr} {m1 m2 : Mem} {s : Shared} {d kd : D} {w : V} {u : Value} {R : Value → Shared → Prop} {E : Value → Shared → Prop} {oi oa : Obj}
    (T : TurnK X pins σ G S0 ρ0 φ f of) (K : KV X pins σ G S0 ρ0 f of S H ρ m1 s) (hi : FpS X pins it) (ha : FpS X pins ac) (ni : H it = none) (na : H ac = none) (gi : s.heap.get? it = some oi) (ga : s.heap.get? ac = some oa) (di : ∀ v, oi.data ≠ .cell v) (da : ∀ v, oa.data ≠ .cell v)
    (rd : Rp (gd X) S w d) (rv : RelV w u) (hφ : φ d m1 = .ok (.dat kd) m2)
    (hR : ∀ ku s' S' H' ρ' kv, KV X pins σ G S0 ρ0 f of S' H' ρ' m2 s' → Same S S' → H' it = none → H' ac = none → s'.heap.get? it = some oi → s'.heap.get? ac = some oa → RelV kv ku → Rp (gd X) S' kv kd → R ku s') :
    wpAny (model X.prog X.w) X.A.in1 (call (.ref f) [u]) R E s := by
  have I1 : Inv X (pins ++ [(it, oi), (ac, oa)]) σ H s := K.i.pins_of fun p hp => by
    rcases List.mem_append.mp hp with z | z
    · exact K.i.pin p (List.mem_append_right _ z)
    · rcases List.mem_cons.mp z with rfl | z
      · exact ⟨gi, ni, hi.1, hi.2.1, di⟩
      · rw [List.mem_singleton.mp z]
        exact ⟨ga, na, ha.1, ha.2.1, da⟩
  refine T d kd w u S H ρ m1 m2 s [(it, oi), (ac, oa)] R E rd rv hφ ⟨I1, K.e, K.r, K.fh, K.fn⟩ fun ku s' S' H' ρ' kv K' ss r1 r2 => ?_
  have p1 := K'.i.pin (it, oi) (by simp)
  have p2 := K'.i.pin (ac, oa) (by simp)
  exact hR ku s' S' H' ρ' kv ⟨K'.i.unpinned, K'.e, K'.r, K'.fh, K'.fn⟩ ss p1.2.1 p2.2.1 p1.1 p2.1 r1 r2
end
end PL
namespace PL
open PySem PySem.Spec PyProof.Rows L2
def dGetS (kvs : List (Key × SV)) (k : Key) : Option SV := (kvs.find? fun kv => decide (kv.1 = k)).map (·.2)
def dPutS (kvs : List (Key × SV)) (k : Key) (v : SV) : List (Key × SV) :=
  if (kvs.any fun kv => decide (kv.1 = k)) = true then kvs.map (fun kv => if kv.1 = k then (kv.1, v) else kv) else kvs ++ [(k, v)]
section
variable {Γ : Gd} {S : Hp} {ρ : List Addr} {vs : List (Key × V)} {kvs : List (Key × SV)}
theorem KsR.length (h : KsR Γ S ρ vs kvs) : vs.length = kvs.length := Paired.length h
theorem KsR.get (h : KsR Γ S ρ vs kvs) (k : Key) : (∃ v x, valV vs k = some v ∧ dGetS kvs k = some x ∧ RSV Γ S ρ v x) ∨ (valV vs k = none ∧ dGetS kvs k = none) := by
  unfold KsR at h
  induction h with
  | nil => exact .inr ⟨rfl, rfl⟩
  | @cons a b as bs r _ ih =>
    obtain ⟨i, v⟩ := a
    obtain ⟨i', x⟩ := b
    obtain ⟨r1, r2⟩ := r
    have r1 : i = i' := r1
    subst r1
    by_cases e : i = k
    · subst e
      exact .inl ⟨v, x, by simp [valV, List.find?_cons], by simp [dGetS, List.find?_cons], r2⟩
    · have e1 : valV ((i, v) :: as) k = valV as k := valV_neg e
      have e2 : dGetS ((i, x) :: bs) k = dGetS bs k := by simp [dGetS, List.find?_cons, e]
      rw [e1, e2]
      exact ih
theorem KsR.any (h : KsR Γ S ρ vs kvs) (k : Key) : (vs.any fun kv => decide (kv.1 = k)) = kvs.any fun kv => decide (kv.1 = k) := by
  unfold KsR at h
  induction h with
  | nil => rfl
  | cons r _ ih => rw [List.any_cons, List.any_cons, ih, r.1]
theorem KsR.put (h : KsR Γ S ρ vs kvs) (k : Key) {v : V} {x : SV} (r : RSV Γ S ρ v x) : KsR Γ S ρ (putK vs k v) (dPutS kvs k x) := by
  unfold putK dPutS
  rw [h.any k]
  by_cases q : (kvs.any fun kv => decide (kv.1 = k)) = true
  · rw [if_pos q, if_pos q]
    clear q
    unfold KsR at h ⊢
    induction h with
    | nil => exact .nil
    | @cons a b as bs s _ ih =>
      obtain ⟨i, w⟩ := a
      obtain ⟨i', y⟩ := b
      obtain ⟨s1, s2⟩ := s
      have s1 : i = i' := s1
      subst s1
      rw [List.map_cons, List.map_cons]
      refine .cons ?_ ih
      by_cases e : i = k
      · rw [if_pos e, if_pos e]
        exact ⟨rfl, r⟩
      · rw [if_neg e, if_neg e]
        exact ⟨rfl, s2⟩
  · rw [if_neg q, if_neg q]
    clear q
    unfold KsR at h ⊢
    induction h with
    | nil => exact .cons ⟨rfl, r⟩ .nil
    | cons s _ ih => exact .cons s ih
theorem KvR.sv {kvd : List (Key × D)} (h : KvR Γ S vs kvd) : KsR Γ S ρ vs (kvd.map fun kv => (kv.1, SV.dat kv.2)) := by
  unfold KsR
  induction h with
  | nil => exact .nil
  | cons r _ ih => exact .cons ⟨rfl, r⟩ ih
end
section
variable {Γ : Gd} {G S H : Hp} {ρ : List Addr} {m : Mem} {p : Addr}
theorem TabR.dK (t : TabR Γ.K G S H) {a : Addr} {vs ws : List (Key × V)} (hH : H a = some (.dK vs)) : TabR Γ.K G S (upd H a (.dK ws)) := ⟨t.st, t.gt, fun q hq => by
  obtain ⟨ps, g1, g2, g3⟩ := t.tb q hq
  refine ⟨ps, by rw [upd_ne (fun z => by rw [z, hH] at g1; cases g1)]; exact g1, g2, fun pos cv hc => ?_⟩
  obtain ⟨c, e1, e2⟩ := g3 pos cv hc
  exact ⟨c, e1, by rw [upd_ne (fun z => by rw [z, hH] at e2; unfold LamX.CodeO at e2; cases e2)]; exact e2⟩⟩
end
end PL
namespace PL
open PySem PySem.Spec PyProof.Rows L2
section
variable {X : Cx} {W : WX} {o i e f value : Expr} {es : List Expr} {pos pos' apos cpos : Pos} {fa fb fc fe fv : En → P SV}
theorem KsR.kv {Γ : Gd} {S S' : Hp} {ρ : List Addr} {vs : List (Key × V)} {kvs : List (Key × SV)} (h : KsR Γ S ρ vs kvs) : ∀ {ds : List D}, RpAll Γ S' (vs.map (·.2)) ds → KvR Γ S' vs ((kvs.map (·.1)).zip ds) := by
  unfold KsR at h
  induction h with
  | nil => intro ds r; cases r; exact .nil
  | @cons a b as bs r _ ih =>
    intro ds q
    cases q with
    | cons q1 q2 =>
      obtain ⟨k, v⟩ := a
      obtain ⟨k', x⟩ := b
      have e : k = k' := r.1
      subst e
      exact .cons q1 (ih q2)
end
end PL
namespace GP
abbrev Ln := List (Nat × Int)
inductive Rc (ls : List Ln) (s : Nat) : Nat → Int → Prop where
  | refl : Rc ls s s 0
  | step {u v : Nat} {b p q : Int} {l : Ln} : Rc ls s u b → l ∈ ls → (u, p) ∈ l → (v, q) ∈ l → Rc ls s v (b + p - q)
def Holds (ls : List Ln) (g : Nat → Nat × Int) : Prop := ∀ l ∈ ls, ∀ p ∈ l, ∀ q ∈ l, (g p.1).1 = (g q.1).1 ∧ (g p.1).2 + p.2 = (g q.1).2 + q.2
def Closed (ls : List Ln) (g : Nat → Nat × Int) : Prop := ∀ l ∈ ls, ∀ p ∈ l, ∀ q ∈ l, (g p.1).1 = (g q.1).1
structure Sp (n : Nat) (ls : List Ln) (g : Nat → Nat × Int) : Prop where
  le : ∀ v, v < n → (g v).1 ≤ v
  rc : ∀ v, v < n → Rc ls (g v).1 v (g v).2
  cl : Closed ls g
  fst : ∀ v, v < n → g (g v).1 = ((g v).1, 0)
variable {n : Nat} {ls : List Ln} {g h : Nat → Nat × Int} {s v : Nat} {b : Int}
theorem Rc.grp (c : Closed ls g) (r : Rc ls s v b) : (g s).1 = (g v).1 := by
  induction r with
  | refl => rfl
  | step _ hl hp hq ih => exact ih.trans (c _ hl _ hp _ hq)
theorem Rc.base (c : Holds ls g) (r : Rc ls s v b) : (g v).2 = (g s).2 + b := by
  induction r with
  | refl => omega
  | step _ hl hp hq ih =>
    have := (c _ hl _ hp _ hq).2
    simp only at this
    omega
theorem Sp.first_le (a : Sp n ls g) (c : Sp n ls h) (hv : v < n) : (g v).1 ≤ (h v).1 := by
  have h1 := (c.rc v hv).grp a.cl
  rw [← h1]
  exact a.le _ (Nat.lt_of_le_of_lt (c.le v hv) hv)
theorem Sp.first (a : Sp n ls g) (c : Sp n ls h) (hv : v < n) : (g v).1 = (h v).1 := Nat.le_antisymm (a.first_le c hv) (c.first_le a hv)
theorem Sp.same (a : Sp n ls g) (c : Sp n ls h) (k : Holds ls g) (hv : v < n) : h v = g v := by
  have h1 := a.first c hv
  have h2 := (c.rc v hv).base k
  rw [← h1, a.fst v hv] at h2
  refine Prod.ext h1.symm ?_
  simp only at h2
  omega
theorem Sp.holds (a : Sp n ls g) (c : Sp n ls h) (hm : ∀ l ∈ ls, ∀ p ∈ l, p.1 < n) (k : Holds ls g) : Holds ls h := fun l hl p hp q hq => by
  rw [a.same c k (hm l hl p hp), a.same c k (hm l hl q hq)]
  exact k l hl p hp q hq
theorem Sp.holds_iff (a : Sp n ls g) (c : Sp n ls h) (hm : ∀ l ∈ ls, ∀ p ∈ l, p.1 < n) : Holds ls g ↔ Holds ls h := ⟨a.holds c hm, c.holds a hm⟩
abbrev Tb := List (Nat × Nat × Int)
def look (t : Tb) (v : Nat) : Option (Nat × Int) := (t.find? fun e => e.1 == v).map (·.2)
def keys (t : Tb) : List Nat := t.map (·.1)
theorem look_none {t : Tb} {v : Nat} : look t v = none ↔ v ∉ keys t := by
  unfold look keys
  rw [Option.map_eq_none_iff, List.find?_eq_none]
  constructor
  · intro h hv
    obtain ⟨e, he, rfl⟩ := List.mem_map.mp hv
    exact h e he (by simp)
  · intro h e he hc
    exact h (List.mem_map.mpr ⟨e, he, by simpa using hc⟩)
theorem look_mem {t : Tb} {v : Nat} {x : Nat × Int} (h : look t v = some x) : (v, x) ∈ t := by
  unfold look at h
  obtain ⟨e, h1, h2⟩ := Option.map_eq_some_iff.mp h
  have h3 := List.find?_some h1
  have h4 := List.mem_of_find?_eq_some h1
  have h5 : e.1 = v := by simpa using h3
  obtain ⟨e1, e2⟩ := e
  simp only at h5 h2
  subst h5 h2
  exact h4
theorem look_of {t : Tb} (nd : (keys t).Nodup) {v : Nat} {x : Nat × Int} (h : (v, x) ∈ t) : look t v = some x := by
  cases hl : look t v with
  | none => exact absurd (List.mem_map.mpr ⟨_, h, rfl⟩) (look_none.mp hl)
  | some y =>
    have hm := look_mem hl
    clear hl
    induction t with
    | nil => cases h
    | cons e r ih =>
      unfold keys at nd
      rw [List.map_cons, List.nodup_cons] at nd
      rcases List.mem_cons.mp h with h | h
      · rcases List.mem_cons.mp hm with hm | hm
        · rw [← h] at hm
          cases hm
          rfl
        · exact absurd (List.mem_map.mpr ⟨_, hm, by rw [← h]⟩) nd.1
      · rcases List.mem_cons.mp hm with hm | hm
        · exact absurd (List.mem_map.mpr ⟨_, h, by rw [← hm]⟩) nd.1
        · exact ih nd.2 h hm
theorem look_app {t u : Tb} {v : Nat} (h : v ∈ keys t) : look (t ++ u) v = look t v := by
  unfold look
  rw [List.find?_append]
  cases hf : t.find? fun e => e.1 == v with
  | none =>
    obtain ⟨e, he, rfl⟩ := List.mem_map.mp h
    exact absurd (List.find?_eq_none.mp hf e he) (by simp)
  | some e => rfl
theorem look_app_none {t u : Tb} {v : Nat} (h : v ∉ keys t) : look (t ++ u) v = look u v := by
  unfold look
  rw [List.find?_append]
  cases hf : t.find? fun e => e.1 == v with
  | none => rfl
  | some e =>
    have h3 := List.find?_some hf
    exact absurd (List.mem_map.mpr ⟨e, List.mem_of_find?_eq_some hf, by simpa using h3⟩) h
structure Gr (n : Nat) (ls : List Ln) (t : Tb) : Prop where
  nd : (keys t).Nodup
  lt : ∀ v ∈ keys t, v < n
  rc : ∀ e ∈ t, Rc ls e.2.1 e.1 e.2.2
  fst : ∀ e ∈ t, (e.2.1, e.2.1, 0) ∈ t
  cl : ∀ l ∈ ls, ∀ p ∈ l, ∀ q ∈ l, ∀ e ∈ t, e.1 = p.1 → ∃ e' ∈ t, e'.1 = q.1 ∧ e'.2.1 = e.2.1
  le : ∀ e ∈ t, e.2.1 ≤ e.1
theorem gr_nil (n : Nat) (ls : List Ln) : Gr n ls [] := ⟨List.nodup_nil, fun v hv => (by cases hv), fun e he => (by cases he), fun e he => (by cases he), fun l _ p _ q _ e he => (by cases he), fun e he => (by cases he)⟩
theorem Gr.far {t : Tb} (G : Gr n ls t) (hs : s ∉ keys t) (r : Rc ls s v b) : v ∉ keys t := by
  induction r with
  | refl => exact hs
  | step _ hl hp hq ih =>
    intro hv
    obtain ⟨e, he, h1⟩ := List.mem_map.mp hv
    obtain ⟨e', h2, h3, _⟩ := G.cl _ hl _ hq _ hp e he h1
    exact ih (List.mem_map.mpr ⟨e', h2, h3⟩)
theorem Gr.add {t : Tb} (G : Gr n ls t) (hs : s ∉ keys t) (low : ∀ u, u < s → u ∈ keys t) {B : List (Nat × Int)} (nd : (B.map (·.1)).Nodup) (lt : ∀ v ∈ B.map (·.1), v < n) (s0 : (s, 0) ∈ B) (rc : ∀ e ∈ B, Rc ls s e.1 e.2)
    (wh : ∀ l ∈ ls, ∀ e ∈ l, e.1 ∈ B.map (·.1) → ∀ q ∈ l, q.1 ∈ B.map (·.1)) : Gr n ls (t ++ B.map fun e => (e.1, s, e.2)) := by
  have kb : keys (B.map fun e => (e.1, s, e.2)) = B.map (·.1) := by simp [keys]
  have ka : keys (t ++ B.map fun e => (e.1, s, e.2)) = keys t ++ B.map (·.1) := by
    rw [← kb]
    simp [keys]
  have far : ∀ v ∈ B.map (·.1), v ∉ keys t := fun v hv => by
    obtain ⟨e, he, rfl⟩ := List.mem_map.mp hv
    exact G.far hs (rc e he)
  have new : ∀ e ∈ (B.map fun e => (e.1, s, e.2)), e.2.1 = s ∧ (e.1, e.2.2) ∈ B := fun e he => by
    obtain ⟨x, hx, rfl⟩ := List.mem_map.mp he
    exact ⟨rfl, hx⟩
  refine ⟨?_, fun v hv => ?_, fun e he => ?_, fun e he => ?_, fun l hl p hp q hq e he h1 => ?_, fun e he => ?_⟩
  · rw [ka, List.nodup_append]
    exact ⟨G.nd, nd, fun x hx y hy z => far y hy (by rw [← z]; exact hx)⟩
  · rw [ka] at hv
    rcases List.mem_append.mp hv with z | z
    · exact G.lt v z
    · exact lt v z
  · rcases List.mem_append.mp he with z | z
    · exact G.rc e z
    · obtain ⟨h1, h2⟩ := new e z
      rw [h1]
      exact rc _ h2
  · rcases List.mem_append.mp he with z | z
    · exact List.mem_append_left _ (G.fst e z)
    · rw [(new e z).1]
      exact List.mem_append_right _ (List.mem_map.mpr ⟨(s, 0), s0, rfl⟩)
  · rcases List.mem_append.mp he with z | z
    · obtain ⟨e', h2, h3⟩ := G.cl l hl p hp q hq e z h1
      exact ⟨e', List.mem_append_left _ h2, h3⟩
    · obtain ⟨h2, h3⟩ := new e z
      have h4 : q.1 ∈ B.map (·.1) := wh l hl p hp (by rw [← h1]; exact List.mem_map.mpr ⟨_, h3, rfl⟩) q hq
      obtain ⟨x, hx, h5⟩ := List.mem_map.mp h4
      exact ⟨(x.1, s, x.2), List.mem_append_right _ (List.mem_map.mpr ⟨x, hx, rfl⟩), h5, h2.symm⟩
  · rcases List.mem_append.mp he with z | z
    · exact G.le e z
    · obtain ⟨h1, h2⟩ := new e z
      rw [h1]
      rcases Nat.lt_or_ge e.1 s with y | y
      · exact absurd (low e.1 y) (far e.1 (List.mem_map.mpr ⟨_, h2, rfl⟩))
      · exact y
theorem keys_add {t : Tb} {B : List (Nat × Int)} {s v : Nat} : v ∈ keys (t ++ B.map fun e => (e.1, s, e.2)) ↔ v ∈ keys t ∨ v ∈ B.map (·.1) := by
  simp [keys]
def gof (t : Tb) (v : Nat) : Nat × Int := (look t v).getD (v, 0)
theorem Gr.sp {t : Tb} (G : Gr n ls t) (full : ∀ v, v < n → v ∈ keys t) (hm : ∀ l ∈ ls, ∀ p ∈ l, p.1 < n) : Sp n ls (gof t) := by
  have at_ : ∀ v, v < n → (v, gof t v) ∈ t := fun v hv => by
    unfold gof
    cases hl : look t v with
    | none => exact absurd (full v hv) (look_none.mp hl)
    | some x => exact look_mem hl
  have un : ∀ v x, (v, x) ∈ t → gof t v = x := fun v x h => by
    unfold gof
    rw [look_of G.nd h]
    rfl
  refine ⟨fun v hv => G.le _ (at_ v hv), fun v hv => G.rc _ (at_ v hv), fun l hl p hp q hq => ?_, fun v hv => un _ _ (G.fst _ (at_ v hv))⟩
  obtain ⟨e', h1, h2, h3⟩ := G.cl l hl p hp q hq _ (at_ p.1 (hm l hl p hp)) rfl
  obtain ⟨a, b, c⟩ := e'
  simp only at h2 h3
  subst h2
  rw [un q.1 (b, c) h1]
  exact h3.symm
end GP
namespace GP
inductive W (ls : List Ln) (s : Nat) : Nat → Nat → Int → Prop where
  | nil : W ls s 0 s 0
  | step {u v n : Nat} {b p q : Int} {l : Ln} : W ls s n u b → l ∈ ls → (u, p) ∈ l → (v, q) ∈ l → W ls s (n + 1) v (b + p - q)
def Ring (ls : List Ln) (m : Nat) : Prop := ∃ s b, W ls s m s b ∧ b ≠ 0
section
variable {ls ls' : List Ln} {s u v n m : Nat} {b c : Int}
theorem W.mono (sub : ∀ l ∈ ls, ∃ l' ∈ ls', ∀ e ∈ l, e ∈ l') (w : W ls s n v b) : W ls' s n v b := by
  induction w with
  | nil => exact .nil
  | step _ hl hp hq ih =>
    obtain ⟨l', h1, h2⟩ := sub _ hl
    exact .step ih h1 (h2 _ hp) (h2 _ hq)
theorem Ring.mono (sub : ∀ l ∈ ls, ∃ l' ∈ ls', ∀ e ∈ l, e ∈ l') (h : Ring ls m) : Ring ls' m := by
  obtain ⟨s, b, w, hb⟩ := h
  exact ⟨s, b, w.mono sub, hb⟩
theorem W.trans (w : W ls s n u b) (x : W ls u m v c) : W ls s (n + m) v (b + c) := by
  induction x with
  | nil => rw [Int.add_zero]; exact w
  | step _ hl hp hq ih =>
    have := W.step ih hl hp hq
    rw [show b + (_ + _ - _) = _ from (by omega : ∀ x y z : Int, b + (x + y - z) = b + x + y - z) _ _ _]
    exact this
theorem W.cast {b' : Int} {n' : Nat} (w : W ls s n v b) (h : n = n') (e : b = b') : W ls s n' v b' := by subst h e; exact w
theorem W.rev (w : W ls s n v b) : W ls v n s (-b) := by
  induction w with
  | nil => exact W.nil.cast rfl (by omega)
  | step _ hl hp hq ih =>
    exact ((W.step W.nil hl hq hp).trans ih).cast (by omega) (by omega)
structure Bf (ls : List Ln) (s : Nat) (dom : Nat → Prop) (base : Nat → Int) (dep : Nat → Nat) : Prop where
  d0 : dom s
  b0 : base s = 0
  wk : ∀ v, dom v → W ls s (dep v) v (base v)
  p0 : dep s = 0
  cl : ∀ l ∈ ls, ∀ p ∈ l, ∀ q ∈ l, dom p.1 → dom q.1 ∧ dep q.1 ≤ dep p.1 + 1
variable {dom : Nat → Prop} {base : Nat → Int} {dep : Nat → Nat}
theorem Bf.le (h : Bf ls s dom base dep) (w : W ls s n v b) : dom v ∧ dep v ≤ n := by
  induction w with
  | nil => exact ⟨h.d0, by rw [h.p0]; omega⟩
  | step _ hl hp hq ih =>
    obtain ⟨h1, h2⟩ := h.cl _ hl _ hp _ hq ih.1
    simp only at h2
    exact ⟨h1, by omega⟩
theorem Bf.ring (h : Bf ls s dom base dep) {l : Ln} (hl : l ∈ ls) {p q : Nat × Int} (hp : p ∈ l) (hq : q ∈ l) (hd : dom p.1) (ne : base p.1 + p.2 ≠ base q.1 + q.2) : Ring ls (dep p.1 + 1 + dep q.1) := by
  obtain ⟨hdq, _⟩ := h.cl l hl p hp q hq hd
  have w := (W.step (h.wk p.1 hd) hl hp hq).trans (h.wk q.1 hdq).rev
  exact ⟨s, _, w, by omega⟩
theorem Bf.go (h : Bf ls s dom base dep) (w : W ls s n v b) (ne : base v ≠ b) : ∃ l ∈ ls, ∃ p ∈ l, ∃ q ∈ l, ∃ i k c, i + 1 + k = n ∧ dom p.1 ∧ base p.1 + p.2 ≠ base q.1 + q.2 ∧ dep p.1 ≤ i ∧ W ls q.1 k v c := by
  induction w with
  | nil => exact absurd h.b0 ne
  | @step u v n b p q l w hl hp hq ih =>
    by_cases hu : base u = b
    · refine ⟨l, hl, (u, p), hp, (v, q), hq, n, 0, 0, by omega, (h.le w).1, ?_, (h.le w).2, .nil⟩
      simp only
      omega
    · obtain ⟨l', h1, p', h2, q', h3, i, k, c, h4, h5, h6, h7, h8⟩ := ih hu
      exact ⟨l', h1, p', h2, q', h3, i, k + 1, _, by omega, h5, h6, h7, .step h8 hl hp hq⟩
theorem Bf.mis (h : Bf ls s dom base dep) (w : W ls s n s b) (hb : b ≠ 0) : ∃ l ∈ ls, ∃ p ∈ l, ∃ q ∈ l, dom p.1 ∧ base p.1 + p.2 ≠ base q.1 + q.2 ∧ dep p.1 + 1 + dep q.1 ≤ n := by
  obtain ⟨l, h1, p, h2, q, h3, i, k, c, h4, h5, h6, h7, h8⟩ := h.go w (by rw [h.b0]; exact fun z => hb z.symm)
  have := (h.le h8.rev).2
  exact ⟨l, h1, p, h2, q, h3, h5, h6, by omega⟩
theorem Ring.start (hm : ∀ l ∈ ls, ∀ p ∈ l, p.1 < n) (w : W ls s m v b) (h : m ≠ 0) : s < n := by
  induction w with
  | nil => exact absurd rfl h
  | @step u v k b p q l w hl hp hq ih =>
    by_cases hk : k = 0
    · subst hk
      cases w
      exact hm l hl _ hp
    · exact ih hk
theorem Ring.pos (w : W ls s m v b) (h : b ≠ 0) : m ≠ 0 := by
  cases w with
  | nil => exact absurd rfl h
  | step => omega
theorem Sp.ring {g : Nat → Nat × Int} (a : Sp n ls g) (hm : ∀ l ∈ ls, ∀ p ∈ l, p.1 < n) (h : ¬ Holds ls g) : ∃ m, Ring ls m := by
  have rw_ : ∀ {s v : Nat} {b : Int}, Rc ls s v b → ∃ k, W ls s k v b := fun r => by
    induction r with
    | refl => exact ⟨0, .nil⟩
    | step _ hl hp hq ih =>
      obtain ⟨k, w⟩ := ih
      exact ⟨k + 1, .step w hl hp hq⟩
  unfold Holds at h
  simp only [Classical.not_forall] at h
  obtain ⟨l, hl, p, hp, q, hq, ne⟩ := h
  have e := a.cl l hl p hp q hq
  obtain ⟨k1, w1⟩ := rw_ (a.rc p.1 (hm l hl p hp))
  obtain ⟨k2, w2⟩ := rw_ (a.rc q.1 (hm l hl q hq))
  rw [e] at w1
  have w := (W.step w1 hl hp hq).trans w2.rev
  exact ⟨_, _, _, w, fun z => ne ⟨e, by omega⟩⟩
end
end GP
namespace GP
def LnOk (g : Nat → Nat × Int) (l : Ln) : Prop := ∀ p ∈ l, ∀ q ∈ l, (g p.1).1 = (g q.1).1 ∧ (g p.1).2 + p.2 = (g q.1).2 + q.2
section
variable {ls ls' : List Ln} {s u v n m : Nat} {a b c : Int} {g h : Nat → Nat × Int}
theorem Holds.sub (sub : ∀ l ∈ ls, ∃ l' ∈ ls', ∀ e ∈ l, e ∈ l') (k : Holds ls' h) : Holds ls h := fun l hl p hp q hq => by
  obtain ⟨l', h1, h2⟩ := sub l hl
  exact k l' h1 p (h2 p hp) q (h2 q hq)
theorem Holds.take (k : Holds ls h) (i : Nat) : Holds (ls.take i) h := fun l hl => k l (List.mem_of_mem_take hl)
theorem Sp.holds_of (x : Sp n ls g) (hm : ∀ l ∈ ls, ∀ p ∈ l, p.1 < n) (k : Holds ls h) : Holds ls g := fun l hl p hp q hq => by
  have e := x.cl l hl p hp q hq
  have h1 := (x.rc p.1 (hm l hl p hp)).base k
  have h2 := (x.rc q.1 (hm l hl q hq)).base k
  rw [e] at h1
  have h3 := (k l hl p hp q hq).2
  exact ⟨e, by omega⟩
theorem Rc.mono (sub : ∀ l ∈ ls, ∃ l' ∈ ls', ∀ e ∈ l, e ∈ l') (r : Rc ls s v b) : Rc ls' s v b := by
  induction r with
  | refl => exact .refl
  | step _ hl hp hq ih =>
    obtain ⟨l', h1, h2⟩ := sub _ hl
    exact .step ih h1 (h2 _ hp) (h2 _ hq)
theorem Rc.cast (r : Rc ls s v b) (e : b = c) : Rc ls s v c := by subst e; exact r
theorem Rc.trans (r : Rc ls s u a) (x : Rc ls u v b) : Rc ls s v (a + b) := by
  induction x with
  | refl => exact r.cast (by omega)
  | step _ hl hp hq ih => exact (Rc.step ih hl hp hq).cast (by omega)
theorem Rc.hop {l : Ln} (hl : l ∈ ls) {p q : Nat × Int} (hp : p ∈ l) (hq : q ∈ l) : Rc ls p.1 q.1 (p.2 - q.2) := (Rc.step .refl hl hp hq).cast (by omega)
theorem Rc.rev (r : Rc ls s v b) : Rc ls v s (-b) := by
  induction r with
  | refl => exact Rc.refl.cast (by omega)
  | step _ hl hp hq ih => exact ((Rc.hop hl hq hp).trans ih).cast (by simp only; omega)
theorem Sp.sub (x : Sp n ls g) (s1 : ∀ l ∈ ls, ∃ l' ∈ ls', ∀ e ∈ l, e ∈ l') (s2 : ∀ l ∈ ls', ∃ l' ∈ ls, ∀ e ∈ l, e ∈ l') : Sp n ls' g := ⟨x.le, fun v hv => (x.rc v hv).mono s1, fun l hl p hp q hq => by
  obtain ⟨l', h1, h2⟩ := s2 l hl
  exact x.cl l' h1 p (h2 p hp) q (h2 q hq), x.fst⟩
end
structure Ids (n : Nat) (ls : List Ln) (bs : List Bool) : Prop where
  len : bs.length = ls.length
  at_ : ∀ i b, bs[i]? = some b → ∃ g, Sp n (ls.take i) g ∧ (b = true ↔ LnOk g (ls.getD i []))
section
variable {ls : List Ln} {n : Nat} {k : Nat → Nat × Int}
theorem lnOk_congr {g h : Nat → Nat × Int} {l : Ln} (e : ∀ p ∈ l, g p.1 = h p.1) : LnOk g l ↔ LnOk h l := by
  unfold LnOk
  constructor <;> intro z p hp q hq
  · rw [← e p hp, ← e q hq]; exact z p hp q hq
  · rw [e p hp, e q hq]; exact z p hp q hq
theorem getD_mem {i : Nat} (h : i < ls.length) : ls.getD i [] ∈ ls := by
  rw [List.getD_eq_getElem?_getD, List.getElem?_eq_getElem h]
  exact List.getElem_mem h
theorem tk_lt (hm : ∀ l ∈ ls, ∀ p ∈ l, p.1 < n) (i : Nat) : ∀ l ∈ ls.take i, ∀ p ∈ l, p.1 < n := fun l hl => hm l (List.mem_of_mem_take hl)
theorem ok_same (hm : ∀ l ∈ ls, ∀ p ∈ l, p.1 < n) (K : Holds ls k) {g h : Nat → Nat × Int} (a : Sp n ls g) (c : Sp n ls h) {l : Ln} (hl : ∀ p ∈ l, p.1 < n) : LnOk g l ↔ LnOk h l :=
  lnOk_congr fun p hp => (a.same c (a.holds_of hm K) (hl p hp)).symm
theorem Ids.uniq (hm : ∀ l ∈ ls, ∀ p ∈ l, p.1 < n) (K : Holds ls k) {bs cs : List Bool} (x : Ids n ls bs) (y : Ids n ls cs) : bs = cs := by
  apply List.ext_getElem
  · rw [x.len, y.len]
  · intro i h1 h2
    have hi : i < ls.length := by rw [← x.len]; exact h1
    obtain ⟨g, g1, g2⟩ := x.at_ i bs[i] (List.getElem?_eq_getElem h1)
    obtain ⟨h, e1, e2⟩ := y.at_ i cs[i] (List.getElem?_eq_getElem h2)
    have := ok_same (tk_lt hm i) (K.take i) g1 e1 (hm _ (getD_mem hi))
    rw [Bool.eq_iff_iff, g2, e2, this]
def kept : List Ln → List Bool → List Ln
  | l :: ls, b :: bs => if b = true then kept ls bs else l :: kept ls bs
  | _, _ => []
end
end GP
namespace GP
variable {n : Nat} {ls ls' : List Ln} {g h k k' : Nat → Nat × Int} {s u v m : Nat} {b x y : Int}
def scl (b : Int) (ls : List Ln) : List Ln := ls.map fun l => l.map fun e => (e.1, b * e.2)
def scg (b : Int) (g : Nat → Nat × Int) (v : Nat) : Nat × Int := ((g v).1, b * (g v).2)
theorem scl_mem {l : Ln} {p : Nat × Int} (hl : l ∈ ls) (hp : p ∈ l) : (l.map fun e => (e.1, b * e.2)) ∈ scl b ls ∧ (p.1, b * p.2) ∈ l.map fun e => (e.1, b * e.2) :=
  ⟨List.mem_map.mpr ⟨l, hl, rfl⟩, List.mem_map.mpr ⟨p, hp, rfl⟩⟩
theorem Rc.scl (r : Rc ls s v x) : Rc (scl b ls) s v (b * x) := by
  induction r with
  | refl => exact Rc.refl.cast (by simp)
  | step _ hl hp hq ih =>
    refine (Rc.step ih (scl_mem hl hp).1 (scl_mem hl hp).2 (scl_mem hl hq).2).cast ?_
    rw [Int.mul_sub, Int.mul_add]
theorem holds_scl (hb : 0 < b) : Holds (scl b ls) (scg b g) ↔ Holds ls g := by
  constructor
  · intro h l hl p hp q hq
    have := h _ (scl_mem hl hp).1 _ (scl_mem hl hp).2 _ (scl_mem hl hq).2
    refine ⟨this.1, ?_⟩
    have h2 := this.2
    simp only [scg, ← Int.mul_add] at h2
    exact Int.eq_of_mul_eq_mul_left (by omega) h2
  · intro h l hl p hp q hq
    obtain ⟨l0, hl0, rfl⟩ := List.mem_map.mp hl
    obtain ⟨p, hp0, rfl⟩ := List.mem_map.mp hp
    obtain ⟨q, hq0, rfl⟩ := List.mem_map.mp hq
    have := h l0 hl0 p hp0 q hq0
    refine ⟨this.1, ?_⟩
    simp only [scg, ← Int.mul_add]
    rw [this.2]
theorem Sp.scl (a : Sp n ls g) : Sp n (scl b ls) (scg b g) := ⟨a.le, fun v hv => (a.rc v hv).scl, fun l hl p hp q hq => by
  obtain ⟨l0, hl0, rfl⟩ := List.mem_map.mp hl
  obtain ⟨p, hp0, rfl⟩ := List.mem_map.mp hp
  obtain ⟨q, hq0, rfl⟩ := List.mem_map.mp hq
  exact a.cl l0 hl0 p hp0 q hq0, fun v hv => by
  have := a.fst v hv
  unfold scg
  rw [this]
  simp⟩
theorem W.scl (w : W ls s m v x) : W (GP.scl b ls) s m v (b * x) := by
  induction w with
  | nil => exact W.nil.cast rfl (by simp)
  | step _ hl hp hq ih =>
    refine (W.step ih (scl_mem hl hp).1 (scl_mem hl hp).2 (scl_mem hl hq).2).cast rfl ?_
    rw [Int.mul_sub, Int.mul_add]
theorem W.unscl (w : W (GP.scl b ls) s m v y) : ∃ x, y = b * x ∧ W ls s m v x := by
  induction w with
  | nil => exact ⟨0, by simp, W.nil⟩
  | step _ hl hp hq ih =>
    obtain ⟨x, e, w⟩ := ih
    obtain ⟨l0, hl0, rfl⟩ := List.mem_map.mp hl
    obtain ⟨p, hp0, ep⟩ := List.mem_map.mp hp
    obtain ⟨q, hq0, eq⟩ := List.mem_map.mp hq
    cases ep
    cases eq
    exact ⟨x + p.2 - q.2, by rw [e, Int.mul_sub, Int.mul_add], W.step w hl0 hp0 hq0⟩
theorem ring_scl (hb : 0 < b) : Ring (scl b ls) m ↔ Ring ls m := by
  constructor
  · rintro ⟨s, y, w, hy⟩
    obtain ⟨x, rfl, w'⟩ := w.unscl
    exact ⟨s, x, w', fun z => hy (by rw [z]; simp)⟩
  · rintro ⟨s, x, w, hx⟩
    exact ⟨s, b * x, w.scl, fun z => by
      rcases Int.mul_eq_zero.mp z with h | h
      · omega
      · exact hx h⟩
theorem turn_holds {r : Nat → Nat} (s1 : ∀ l ∈ ls, ∃ l' ∈ ls', ∀ e ∈ l, (r e.1, e.2) ∈ l') (H : Holds ls' k') : Holds ls fun v => k' (r v) := fun l hl p hp q hq => by
  obtain ⟨l', hl', f⟩ := s1 l hl
  exact H l' hl' _ (f p hp) _ (f q hq)
theorem turn_rel {r : Nat → Nat} (s1 : ∀ l ∈ ls, ∃ l' ∈ ls', ∀ e ∈ l, (r e.1, e.2) ∈ l') (a : Sp n ls k) (H : Holds ls' k') (hu : u < n) (hv : v < n) (e : (k u).1 = (k v).1) :
    (k' (r u)).1 = (k' (r v)).1 ∧ (k' (r u)).2 - (k u).2 = (k' (r v)).2 - (k v).2 := by
  have H' := turn_holds s1 H
  have c : Closed ls fun v => k' (r v) := fun l hl p hp q hq => (H' l hl p hp q hq).1
  have u1 := (a.rc u hu).grp c
  have v1 := (a.rc v hv).grp c
  have u2 := (a.rc u hu).base H'
  have v2 := (a.rc v hv).base H'
  rw [e] at u1 u2
  exact ⟨u1.symm.trans v1, by omega⟩
end GP
namespace TR
def sz (f l s : Int) : Int := max 0 ((l - f + s).fdiv s)
end TR
namespace TR
open PL (sortI)
def els (f s : Int) (n : Nat) : List Int := (List.range n).map fun (i : Nat) => f + (i : Int) * s
def nr (f l s : Int) : List Int := if sz f l s = 0 then [0, -1, 1] else if sz f l s = 1 then [f, f, 1] else if 0 < s then [f, f + (sz f l s - 1) * s, s] else [f + (sz f l s - 1) * s, f, -s]
def tn (f l s : Int) : List Int := if sz f l s = 0 then [0, -1, 1] else if sz f l s = 1 then [f, f, 1] else [f + (sz f l s - 1) * s, f, -s]
def A (x : List Int) : Int := x.getD 0 0
def B (x : List Int) : Int := x.getD 1 0
def C (x : List Int) : Int := x.getD 2 0
def shown (xs : List Int) : List Int := match xs with
  | [] => [0, -1, 1]
  | [x] => [x, x, 1]
  | x :: y :: r => [x, (y :: r).getLast (by simp), y - x]
end TR
namespace TR
open PL (sortI)
theorem half_step {b r : Nat} (h0 : 0 < r) (h1 : r < b) : 2 * (b % r) < b := by
  by_cases h : 2 * r ≤ b
  · have := Nat.mod_lt b h0
    omega
  · have e : b % r = b - r := by
      rw [Nat.mod_eq_sub_mod (by omega), Nat.mod_eq_of_lt (by omega)]
    omega
def up (f l s : Int) : List Int := sortI (els f s (sz f l s).toNat)
theorem dvd_fmod {a b c : Int} (h : c ∣ b) (hb : 0 < b) : c ∣ (a - a.fmod b) := by
  rw [Int.fmod_eq_emod_of_nonneg _ (by omega)]
  have := Int.emod_add_mul_ediv a b
  exact Int.dvd_trans h ⟨a / b, by omega⟩
end TR
namespace AR
abbrev Bd := Int × Int
def ext (b : Bd) : Int := max 0 (b.2 - b.1 + 1)
theorem ext_nonneg (b : Bd) : 0 ≤ ext b := by unfold ext; omega
def prod : List Int → Int
  | [] => 1
  | x :: r => x * prod r
def exts (bs : List Bd) : List Int := bs.map ext
def place : List Bd → List Int → Int
  | b :: bs, x :: xs => (x - b.1) + ext b * place bs xs
  | _, _ => 0
def inB : List Bd → List Int → Prop
  | [], [] => True
  | b :: bs, x :: xs => b.1 ≤ x ∧ x ≤ b.2 ∧ inB bs xs
  | _, _ => False
theorem inB_len : ∀ {bs : List Bd} {xs : List Int}, inB bs xs → xs.length = bs.length
  | [], [], _ => rfl
  | [], _ :: _, h => h.elim
  | _ :: _, [], h => h.elim
  | b :: bs, x :: xs, h => congrArg Nat.succ (inB_len h.2.2)
theorem ext_in {b : Bd} {x : Int} (h1 : b.1 ≤ x) (h2 : x ≤ b.2) : x - b.1 < ext b := by unfold ext; omega
theorem place_lt : ∀ {bs : List Bd} {xs : List Int}, inB bs xs → 0 ≤ place bs xs ∧ place bs xs < prod (exts bs)
  | [], [], _ => by decide
  | [], _ :: _, h => h.elim
  | _ :: _, [], h => h.elim
  | b :: bs, x :: xs, h => by
    obtain ⟨h1, h2, h3⟩ := h
    obtain ⟨i1, i2⟩ := place_lt h3
    have e := ext_in h1 h2
    have e0 := ext_nonneg b
    have a : 0 ≤ ext b * place bs xs := Int.mul_nonneg e0 i1
    have c : ext b * (place bs xs + 1) ≤ ext b * prod (exts bs) := Int.mul_le_mul_of_nonneg_left (by omega) e0
    rw [Int.mul_add, Int.mul_one] at c
    show 0 ≤ (x - b.1) + ext b * place bs xs ∧ (x - b.1) + ext b * place bs xs < ext b * prod (exts bs)
    omega
def rng (lo : Int) (n : Nat) : List Int := (List.range n).map fun (i : Nat) => lo + (i : Int)
def all : List Bd → List (List Int)
  | [] => [[]]
  | b :: bs => (all bs).flatMap fun row => (rng b.1 (ext b).toNat).map fun one => one :: row
end AR
namespace SE
open AR (Bd ext exts prod place inB)
inductive Part where
  | num (x : Int) | tri (f l s : Int) | lst (xs : List Int)
def many : Part → Int
  | .num _ => 1
  | .tri f l s => TR.sz f l s
  | .lst xs => xs.length
def subs : Part → List Int
  | .num x => [x]
  | .tri f l s => TR.els f s (TR.sz f l s).toNat
  | .lst xs => xs
def at_ : Part → Int → Int
  | .num x, _ => x
  | .tri f _ s, i => f + i * s
  | .lst xs, i => xs.getD i.toNat 0
def els : List Part → List (List Int)
  | [] => [[]]
  | p :: ps => (els ps).flatMap fun row => (subs p).map fun x => x :: row
end SE
namespace SE
open AR (Bd ext exts prod place inB)
def once : Part → Prop
  | .lst xs => xs.Nodup
  | _ => True
end SE
namespace G
open PySem PySem.Spec PyProof.Rows L2 PL
def den__law_well : DS := (dRet (dA mkOwn (dCons (d2 mulV (dVar 0) (dA intV (dCons (d2 geV (dVar 0) (d2 powV (dC (.int 10)) (dC (.int 18)))) dNil))) (dCons (d2 modV (dA intV (dCons (dVar 0) dNil)) (dC (.int 2147483629))) (dCons (dC (.int 0)) dNil)))))
def F__law_well : List SV → PL.P SV := fnRun 1 exitO den__law_well
def den_is_row : DS := (dRet (dAndV (d1 (isiV ["list", "tuple"]) (dVar 0)) (dCh leV leV (dVar 1) (dA lenV (dCons (dVar 0) dNil)) (dVar 2))))
def F_is_row : List SV → PL.P SV := fnRun 3 exitV den_is_row
def den_is_whole : DS := (dRet (dAndV (d1 (isiV ["int"]) (dVar 0)) (dNotV (d1 (isiV ["bool"]) (dVar 0)))))
def F_is_whole : List SV → PL.P SV := fnRun 1 exitV den_is_whole
def den_is_between : DS := (dRet (dAndV (dA (chk 1 F_is_whole) (dCons (dVar 0) dNil)) (dCh leV leV (dVar 1) (dVar 0) (dVar 2))))
def F_is_between : List SV → PL.P SV := fnRun 3 exitV den_is_between
def ce1_is_name : En → PL.P SV := (d2 inStrV (dVar 1) (dC (.str "abcdefghijklmnopqrstuvwxyz")))
def den_is_name : DS := (dRet (dAndV (d1 (isiV ["str"]) (dVar 0)) (dAndV (dCh leV leV (dC (.int 1)) (dA lenV (dCons (dVar 0) dNil)) (dC (.int 8))) (dA allV (dCons (dLc [1] (dItStr (dVar 0)) (gN 1) dYes ce1_is_name) dNil)))))
def F_is_name : List SV → PL.P SV := fnRun 2 exitV den_is_name
def ce1_is_bounds : En → PL.P SV := (dA (chk 3 F_is_between) (dCons (dVar 4) (dCons (d1 negV (dC (.int 1000000000000000000000000000000))) (dCons (dC (.int 1000000000000000000000000000000)) dNil))))
def lp2_is_bounds : DS := (dIfS (dOrT (dNotT (dTr (d1 (isiV ["tuple"]) (dVar 1)))) (dOrT (dB (d2 neV (dA lenV (dCons (dVar 1) dNil)) (dC (.int 2)))) (dNotT (dTr (dA allV (dCons (dLc [4] (dIt (dVar 1)) (gN 4) dYes ce1_is_bounds) dNil)))))) (dRet (dC (.bl false))) dNx)
def ce3_is_bounds : En → PL.P SV := (d2 leV (dVar 2) (dVar 3))
def den_is_bounds : DS := (dSeq (dIfS (dOrT (dNotT (dTr (d1 (isiV ["tuple"]) (dVar 0)))) (dB (d2 gtV (dA lenV (dCons (dVar 0) dNil)) (dC (.int 7))))) (dRet (dC (.bl false))) dNx) (dSeq (dFor (dIt (dVar 0)) (gN 1) lp2_is_bounds) (dRet (dA allV (dCons (dLc [2, 3] (dIt (dVar 0)) (gT 2 (gsC (gN 2) (gsC (gN 3) gsN))) dYes ce3_is_bounds) dNil)))))
def F_is_bounds : List SV → PL.P SV := fnRun 5 exitV den_is_bounds
def den_is_variable : DS := (dSeq (dIfS (dOrT (dNotT (dTr (d1 (isiV ["tuple"]) (dVar 0)))) (dB (d2 neV (dA lenV (dCons (dVar 0) dNil)) (dC (.int 3))))) (dRet (dC (.bl false))) dNx) (dRet (dAndV (dA (chk 1 F_is_name) (dCons (d2 ixV (dVar 0) (dC (.int 0))) dNil)) (dAndV (dA (chk 3 F_is_between) (dCons (d2 ixV (dVar 0) (dC (.int 1))) (dCons (dC (.int 1)) (dCons (dC (.int 16)) dNil)))) (dA (chk 1 F_is_bounds) (dCons (d2 ixV (dVar 0) (dC (.int 2))) dNil))))))
def F_is_variable : List SV → PL.P SV := fnRun 1 exitV den_is_variable
def ce1_check_variables : En → PL.P SV := (dA (chk 1 F_is_variable) (dCons (dVar 1) dNil))
def ce2_check_variables : En → PL.P SV := (d2 ixV (dVar 1) (dC (.int 0)))
def den_check_variables : DS := (dSeq (dIfS (dOrT (dNotT (dTr (dA (chk 3 F_is_row) (dCons (dVar 0) (dCons (dC (.int 1)) (dCons (dC (.int 40)) dNil)))))) (dNotT (dTr (dA allV (dCons (dLc [1] (dIt (dVar 0)) (gN 1) dYes ce1_check_variables) dNil))))) dNever dNx) (dIfS (dB (d2 neV (d1 lenSetX (dLc [1] (dIt (dVar 0)) (gN 1) dYes ce2_check_variables)) (dA lenV (dCons (dVar 0) dNil)))) dNever dNx))
def F_check_variables : List SV → PL.P SV := fnRun 2 exitV den_check_variables
def lp1_place_in : DS := (dSeq (dSet 2 (d2 addV (dVar 2) (d2 mulV (dVar 3) (d2 subV (dVar 6) (dVar 4))))) (dSet 3 (d2 mulV (dVar 3) (d2 addV (d2 subV (dVar 5) (dVar 4)) (dC (.int 1))))))
def den_place_in : DS := (dSeq (dParT [2, 3] (dCons (dC (.int 0)) (dCons (dC (.int 1)) dNil))) (dSeq (dFor (dAI zip2V (dCons (dVar 0) (dCons (dVar 1) dNil))) (gT 2 (gsC (gT 2 (gsC (gN 4) (gsC (gN 5) gsN))) (gsC (gN 6) gsN))) lp1_place_in) (dRet (dVar 2))))
def F_place_in : List SV → PL.P SV := fnRun 7 exitV den_place_in
def ce1_is_member : En → PL.P SV := (dA (chk 3 F_is_between) (dCons (dVar 4) (dCons (dVar 5) (dCons (dVar 6) dNil))))
def den_is_member : DS := (dSeq (dIfS (dOrT (dNotT (dTr (d1 (isiV ["tuple"]) (dVar 0)))) (dOrT (dB (d2 neV (dA lenV (dCons (dVar 0) dNil)) (dC (.int 2)))) (dOrT (dNotT (dTr (d1 (isiV ["str"]) (d2 ixV (dVar 0) (dC (.int 0)))))) (dB (d2 notInKV (d2 ixV (dVar 0) (dC (.int 0))) (dVar 1)))))) (dRet (dC (.bl false))) dNx) (dSeq (dPar 2 3 (dCons (d2 ixV (d2 itemV (dVar 1) (d2 ixV (dVar 0) (dC (.int 0)))) (dC (.int 2))) (dCons (d2 ixV (dVar 0) (dC (.int 1))) dNil))) (dSeq (dIfS (dOrT (dNotT (dTr (d1 (isiV ["tuple"]) (dVar 3)))) (dB (d2 notInSV (dA lenV (dCons (dVar 3) dNil)) (dA mkTup (dCons (dC (.int 0)) (dCons (dA lenV (dCons (dVar 2) dNil)) dNil)))))) (dRet (dC (.bl false))) dNx) (dRet (dA allV (dCons (dLc [4, 5, 6] (dAI zip2V (dCons (dVar 2) (dCons (dVar 3) dNil))) (gT 2 (gsC (gT 2 (gsC (gN 5) (gsC (gN 6) gsN))) (gsC (gN 4) gsN))) dYes ce1_is_member) dNil))))))
def F_is_member : List SV → PL.P SV := fnRun 7 exitV den_is_member
def lp1_lines_of : DS := (dParP 2 (psC (pSub (dVar 2) (d2 ixV (dVar 5) (dC (.int 0)))) (psC (pSub (dVar 3) (d2 ixV (dVar 5) (dC (.int 0)))) psN)) (dCons (dVar 5) (dCons (dVar 4) dNil)))
def ce2_lines_of : En → PL.P SV := (dA (chk 3 F_is_row) (dCons (dVar 7) (dCons (dC (.int 2)) (dCons (dC (.int 10)) dNil))))
def ce3_lines_of : En → PL.P SV := (dA (chk 2 F_is_member) (dCons (dVar 10) (dCons (dVar 2) dNil)))
def ce4_lines_of : En → PL.P SV := (dA mkTup (dCons (d2 itemV (dVar 3) (dVar 8)) (dCons (d2 mulV (d2 ixV (d2 itemV (dVar 2) (dVar 8)) (dC (.int 1))) (dA (chk 2 F_place_in) (dCons (d2 ixV (d2 itemV (dVar 2) (dVar 8)) (dC (.int 2))) (dCons (dVar 9) dNil)))) dNil)))
def lp5_lines_of : DS := (dSeq (dIfS (dNotT (dTr (dA allV (dCons (dLc [10] (dIt (dVar 7)) (gN 10) dYes ce3_lines_of) dNil)))) dNever dNx) (dApp (dVar 6) (dLc [8, 9] (dIt (dVar 7)) (gT 2 (gsC (gN 8) (gsC (gN 9) gsN))) dYes ce4_lines_of)))
def den_lines_of : DS := (dSeq (dParT [2, 3] (dCons dNewD (dCons dNewD dNil))) (dSeq (dFor (dAI enumV (dCons (dVar 0) dNil)) (gT 2 (gsC (gN 4) (gsC (gN 5) gsN))) lp1_lines_of) (dSeq (dIfS (dOrT (dNotT (dTr (dA (chk 3 F_is_row) (dCons (dVar 1) (dCons (dC (.int 0)) (dCons (dC (.int 40)) dNil)))))) (dNotT (dTr (dA allV (dCons (dLc [7] (dIt (dVar 1)) (gN 7) dYes ce2_lines_of) dNil))))) dNever dNx) (dSeq (dSet 6 (dA mkOwn dNil)) (dSeq (dFor (dIt (dVar 1)) (gN 7) lp5_lines_of) (dRet (dVar 6)))))))
def F_lines_of : List SV → PL.P SV := fnRun 11 exitV den_lines_of
def lp1_Reach_go_on : DS := (dIfS (dB (d2 notInKV (dVar 6) (dFld ["Reach"] "bases" (dVar 0)))) (dSeq (dPutD (dFld ["Reach"] "bases" (dVar 0)) (dVar 6) (d2 subV (d2 addV (d2 itemV (dFld ["Reach"] "bases" (dVar 0)) (dVar 3)) (dVar 4)) (dVar 7))) (dSeq (dPutD (dFld ["Reach"] "steps" (dVar 0)) (dVar 6) (d2 addV (d2 itemV (dFld ["Reach"] "steps" (dVar 0)) (dVar 3)) (dA mkLst (dCons (dA mkTup (dCons (dVar 1) (dCons (dVar 2) (dCons (dVar 5) dNil)))) dNil)))) (dApp (dFld ["Reach"] "order" (dVar 0)) (dVar 6)))) dNx)
def den_Reach_go_on : DS := (dSeq (dAsg (d2 ixV (d2 ixV (dFld ["Reach"] "lines" (dVar 0)) (dVar 1)) (dVar 2)) (gT 2 (gsC (gN 3) (gsC (gN 4) gsN)))) (dFor (dAI enumV (dCons (d2 ixV (dFld ["Reach"] "lines" (dVar 0)) (dVar 1)) dNil)) (gT 2 (gsC (gN 5) (gsC (gT 2 (gsC (gN 6) (gsC (gN 7) gsN))) gsN))) lp1_Reach_go_on))
def F_Reach_go_on : List SV → PL.P SV := fnRun 8 exitV den_Reach_go_on
def lp1_Reach___init__ : DS := (dIfS (dB (d2 eqV (dVar 7) (d2 ixV (dFld ["Reach"] "order" (dVar 0)) (dVar 3)))) (dDrop (dMeth "Reach" "go_on" 3 F_Reach_go_on (dVar 0) (dCons (dVar 4) (dCons (dVar 6) dNil)))) dNx)
def lp2_Reach___init__ : DS := (dFor (dAI enumV (dCons (dVar 5) dNil)) (gT 2 (gsC (gN 6) (gsC (gT 2 (gsC (gN 7) (gsC (gN 8) gsN))) gsN))) lp1_Reach___init__)
def lp3_Reach___init__ : DS := (dSeq (dFor (dAI enumV (dCons (dVar 2) dNil)) (gT 2 (gsC (gN 4) (gsC (gN 5) gsN))) lp2_Reach___init__) (dSet 3 (d2 addV (dVar 3) (dC (.int 1)))))
def ts4_Reach___init__ : En → PL.P Bool := (dB (d2 ltV (dVar 3) (dA lenV (dCons (dFld ["Reach"] "order" (dVar 0)) dNil))))
def den_Reach___init__ : DS := (dSeq (dSetF ["Reach"] "lines" (dVar 0) (dVar 2)) (dSeq (dSetF ["Reach"] "bases" (dVar 0) (dDisp (kpC (dVar 1) (dC (.int 0)) kpN))) (dSeq (dSetF ["Reach"] "steps" (dVar 0) (dDisp (kpC (dVar 1) (dA mkLst dNil) kpN))) (dSeq (dSetF ["Reach"] "order" (dVar 0) (dA mkOwn (dCons (dVar 1) dNil))) (dSeq (dSet 3 (dC (.int 0))) (dWhile 1000 ts4_Reach___init__ lp3_Reach___init__))))))
def F_Reach___init__ : List SV → PL.P SV := fnRunK 9 den_Reach___init__
def ce1_groups_of : En → PL.P SV := (dVar 5)
def ce2_groups_of : En → PL.P SV := (dA mkTup (dCons (dVar 3) (dCons (dVar 6) dNil)))
def lp3_groups_of : DS := (dIfS (dB (d2 notInKV (dVar 3) (dVar 2))) (dSeq (dSet 4 (dMake "Reach" 3 F_Reach___init__ (dCons (dVar 3) (dCons (dVar 1) dNil)))) (dDrop (dUpd (dVar 2) (dDc [5, 6] (dItKV (dFzK (dFld ["Reach"] "bases" (dVar 4)))) (gT 2 (gsC (gN 5) (gsC (gN 6) gsN))) dYes ce1_groups_of ce2_groups_of)))) dNx)
def ce4_groups_of : En → PL.P SV := (d2 itemV (dVar 2) (dVar 5))
def den_groups_of : DS := (dSeq (dSet 2 dNewD) (dSeq (dFor (dAI rng1V (dCons (dVar 0) dNil)) (gN 3) lp3_groups_of) (dRet (dLc [5] (dAI rng1V (dCons (dVar 0) dNil)) (gN 5) dYes ce4_groups_of))))
def F_groups_of : List SV → PL.P SV := fnRun 7 exitV den_groups_of
def ce1_do_hold : En → PL.P SV := (dA mkTup (dCons (d2 ixV (d2 ixV (dVar 0) (dVar 4)) (dC (.int 0))) (dCons (d2 addV (d2 ixV (d2 ixV (dVar 0) (dVar 4)) (dC (.int 1))) (dVar 5)) dNil)))
def lp2_do_hold : DS := (dSeq (dSet 3 (dLc [4, 5] (dIt (dVar 2)) (gT 2 (gsC (gN 4) (gsC (gN 5) gsN))) dYes ce1_do_hold)) (dIfS (dB (d2 gtV (d1 lenSetX (dVar 3)) (dC (.int 1)))) (dRet (dC (.bl false))) dNx))
def den_do_hold : DS := (dSeq (dFor (dIt (dVar 1)) (gN 2) lp2_do_hold) (dRet (dC (.bl true))))
def F_do_hold : List SV → PL.P SV := fnRun 6 exitV den_do_hold
def lp1_risen : DS := (dPutD (dVar 1) (dVar 2) (dA min2V (dCons (dVar 3) (dCons (dGetD2 (dVar 1) (dVar 2) (dVar 3)) dNil))))
def ce2_risen : En → PL.P SV := (dA mkTup (dCons (dVar 2) (dCons (d2 subV (dVar 3) (d2 itemV (dVar 1) (dVar 2))) dNil)))
def den_risen : DS := (dSeq (dSet 1 dNewD) (dSeq (dFor (dIt (dVar 0)) (gT 2 (gsC (gN 2) (gsC (gN 3) gsN))) lp1_risen) (dRet (dLc [2, 3] (dIt (dVar 0)) (gT 2 (gsC (gN 2) (gsC (gN 3) gsN))) dYes ce2_risen))))
def F_risen : List SV → PL.P SV := fnRun 4 exitV den_risen
def ce1_offsets : En → PL.P SV := (dA mkTup (dCons (d2 ixV (dVar 4) (dC (.int 0))) (dCons (d2 ixV (d2 ixV (dVar 0) (dVar 5)) (dC (.int 0))) (dCons (dVar 6) dNil))))
def den_offsets : DS := (dSeq (dDrop (dA (chk 1 F_check_variables) (dCons (dVar 0) dNil))) (dSeq (dSet 2 (dA (chk 2 F_lines_of) (dCons (dVar 0) (dCons (dVar 1) dNil)))) (dSeq (dSet 3 (dA (chk 2 F_groups_of) (dCons (dA lenV (dCons (dVar 0) dNil)) (dCons (dVar 2) dNil)))) (dSeq (dIfS (dNotT (dTr (dA (chk 2 F_do_hold) (dCons (dVar 3) (dCons (dVar 2) dNil))))) (dRet (dC .non)) dNx) (dRet (dLcO [4, 5, 6] (dAI zip2V (dCons (dVar 0) (dCons (dA (chk 1 F_risen) (dCons (dVar 3) dNil)) dNil))) (gT 2 (gsC (gN 4) (gsC (gT 2 (gsC (gN 5) (gsC (gN 6) gsN))) gsN))) dYes ce1_offsets))))))
def F_offsets : List SV → PL.P SV := fnRun 7 exitM den_offsets
def ce1_Reach_wrong : En → PL.P SV := (dA mkTup (dCons (d2 ixV (dVar 12) (dC (.int 0))) (dCons (d2 ixV (dVar 12) (dC (.int 2))) (dCons (d2 ixV (dVar 12) (dC (.int 1))) dNil))))
def lp2_Reach_wrong : DS := (dIfS (dAndT (dB (d2 inKV (dVar 5) (dFld ["Reach"] "bases" (dVar 0)))) (dAndT (dB (d2 ltV (dVar 4) (dVar 7))) (dB (d2 neV (d2 addV (d2 itemV (dFld ["Reach"] "bases" (dVar 0)) (dVar 5)) (dVar 6)) (d2 addV (d2 itemV (dFld ["Reach"] "bases" (dVar 0)) (dVar 8)) (dVar 9)))))) (dSeq (dSet 10 (dLc [12] (dIt (d1 (revA false) (d2 itemV (dFld ["Reach"] "steps" (dVar 0)) (dVar 8)))) (gN 12) dYes ce1_Reach_wrong)) (dSeq (dSet 11 (d2 addV (d2 addV (d2 itemV (dFld ["Reach"] "steps" (dVar 0)) (dVar 5)) (dA mkLst (dCons (dA mkTup (dCons (dVar 2) (dCons (dVar 4) (dCons (dVar 7) dNil)))) dNil))) (dVar 10))) (dSet 1 (dIf (dOrT (dB (d2 isNV (dVar 1) (dC .non))) (dB (d2 ltV (dA lenV (dCons (dVar 11) dNil)) (dA lenV (dCons (dVar 1) dNil))))) (dVar 11) (dVar 1))))) dNx)
def lp3_Reach_wrong : DS := (dFor (dAI enumV (dCons (dVar 3) dNil)) (gT 2 (gsC (gN 7) (gsC (gT 2 (gsC (gN 8) (gsC (gN 9) gsN))) gsN))) lp2_Reach_wrong)
def lp4_Reach_wrong : DS := (dFor (dAI enumV (dCons (dVar 3) dNil)) (gT 2 (gsC (gN 4) (gsC (gT 2 (gsC (gN 5) (gsC (gN 6) gsN))) gsN))) lp3_Reach_wrong)
def den_Reach_wrong : DS := (dSeq (dSet 1 (dC .non)) (dSeq (dFor (dAI enumV (dCons (dFld ["Reach"] "lines" (dVar 0)) dNil)) (gT 2 (gsC (gN 2) (gsC (gN 3) gsN))) lp4_Reach_wrong) (dRet (dVar 1))))
def F_Reach_wrong : List SV → PL.P SV := fnRun 13 exitV den_Reach_wrong
def ce1_ring_of : En → PL.P SV := (dMeth "Reach" "wrong" 1 F_Reach_wrong (dMake "Reach" 3 F_Reach___init__ (dCons (dVar 3) (dCons (dVar 1) dNil))) fun _ => P.ret [])
def ce2_ring_of : En → PL.P SV := (dVar 4)
def ct3_ring_of : En → PL.P Bool := (dB (d2 notNV (dVar 4) (dC .non)))
def den_ring_of : DS := (dSeq (dIfS (dTr (dA (chk 2 F_do_hold) (dCons (dA (chk 2 F_groups_of) (dCons (dVar 0) (dCons (dVar 1) dNil))) (dCons (dVar 1) dNil)))) (dRet (dC .non)) dNx) (dSeq (dSet 2 (dLc [3] (dAI rng1V (dCons (dVar 0) dNil)) (gN 3) dYes ce1_ring_of)) (dRet (dA tupleV (dCons (d1 minLenV (dLc [4] (dIt (dVar 2)) (gN 4) ct3_ring_of ce2_ring_of)) dNil)))))
def F_ring_of : List SV → PL.P SV := fnRun 5 exitV den_ring_of
def den_ring : DS := (dSeq (dDrop (dA (chk 1 F_check_variables) (dCons (dVar 0) dNil))) (dRet (dA (chk 2 F_ring_of) (dCons (dA lenV (dCons (dVar 0) dNil)) (dCons (dA (chk 2 F_lines_of) (dCons (dVar 0) (dCons (dVar 1) dNil))) dNil)))))
def F_ring : List SV → PL.P SV := fnRun 2 exitV den_ring
def den__law_draw : DS := (dSeq (dIfS (dB (d2 gtV (d2 ixV (dVar 0) (dC (.int 0))) (dC (.int 0)))) (dSeq (dSet 2 (d2 modV (dA intV (dCons (d2 ixV (dVar 0) (dC (.int 0))) dNil)) (dVar 1))) (dSeq (dSetIx (dVar 0) (dC (.int 0)) (d2 fdivV (d2 ixV (dVar 0) (dC (.int 0))) (dVar 1))) (dRet (dVar 2)))) dNx) (dSeq (dSetIx (dVar 0) (dC (.int 2)) (d2 addV (d2 ixV (dVar 0) (dC (.int 2))) (dC (.int 1)))) (dSeq (dSet 3 (d2 modV (dA intV (dCons (d2 mulV (d2 addV (d2 addV (d2 ixV (dVar 0) (dC (.int 1))) (d2 mulV (dC (.int 70001)) (d2 ixV (dVar 0) (dC (.int 2))))) (dC (.int 37))) (dC (.int 69621))) dNil)) (dC (.int 2147483647)))) (dSeq (dSet 3 (d2 modV (dA intV (dCons (d2 mulV (dVar 3) (d2 addV (d2 fdivV (dVar 3) (dC (.int 1021))) (dC (.int 48271)))) dNil)) (dC (.int 2147483587)))) (dRet (d2 modV (dA intV (dCons (d2 fdivV (d2 modV (dA intV (dCons (d2 mulV (dVar 3) (d2 addV (d2 fdivV (dVar 3) (dC (.int 2011))) (dC (.int 40692)))) dNil)) (dC (.int 2147483563))) (dC (.int 11))) dNil)) (dVar 1)))))))
def F__law_draw : List SV → PL.P SV := fnRun 4 exitV den__law_draw
def den__law_pick : DS := (dRet (d2 ixV (dVar 1) (dA (chk 2 F__law_draw) (dCons (dVar 0) (dCons (dA lenV (dCons (dVar 1) dNil)) dNil)))))
def F__law_pick : List SV → PL.P SV := fnRun 2 exitV den__law_pick
def lp1__law_bounds : DS := (dSeq (dSet 4 (d2 subV (dA (chk 2 F__law_draw) (dCons (dVar 0) (dCons (dC (.int 7)) dNil))) (dC (.int 3)))) (dApp (dVar 2) (dA mkTup (dCons (dVar 4) (dCons (d2 addV (dVar 4) (dA (chk 2 F__law_draw) (dCons (dVar 0) (dCons (dVar 1) dNil)))) dNil)))))
def den__law_bounds : DS := (dSeq (dSet 2 (dA mkOwn dNil)) (dSeq (dFor (dAI rng1V (dCons (dA (chk 2 F__law_pick) (dCons (dVar 0) (dCons (dA mkLst (dCons (dC (.int 0)) (dCons (dC (.int 1)) (dCons (dC (.int 1)) (dCons (dC (.int 1)) (dCons (dC (.int 2)) (dCons (dC (.int 3)) dNil))))))) dNil))) dNil)) (gN 3) lp1__law_bounds) (dRet (dA tupleV (dCons (dVar 2) dNil)))))
def F__law_bounds : List SV → PL.P SV := fnRun 5 exitV den__law_bounds
def ce1__law_parts : En → PL.P SV := (dA mkTup (dCons (dVar 4) (dCons (dA (chk 2 F__law_pick) (dCons (dVar 0) (dCons (dA mkLst (dCons (dC (.int 1)) (dCons (dC (.int 1)) (dCons (dC (.int 2)) (dCons (dC (.int 2)) (dCons (dC (.int 3)) (dCons (dC (.int 5)) dNil))))))) dNil))) (dCons (dA (chk 2 F__law_bounds) (dCons (dVar 0) (dCons (dVar 2) dNil))) dNil))))
def den__law_parts : DS := (dSeq (dSet 3 (dSl false (dA mkLst (dCons (dC (.str "a")) (dCons (dC (.str "bb")) (dCons (dC (.str "c")) (dCons (dC (.str "dot")) (dCons (dC (.str "e")) (dCons (dC (.str "f")) (dCons (dC (.str "gamma")) (dCons (dC (.str "z")) dNil))))))))) dNoPt (dPt (dVar 1)))) (dRet (dLc [4] (dIt (dVar 3)) (gN 4) dYes ce1__law_parts)))
def F__law_parts : List SV → PL.P SV := fnRun 5 exitV den__law_parts
def lp1__law_wide : DS := (dSet 1 (d2 mulV (dVar 1) (d2 addV (d2 subV (dVar 3) (dVar 2)) (dC (.int 1)))))
def den__law_wide : DS := (dSeq (dSet 1 (dC (.int 1))) (dSeq (dFor (dIt (dVar 0)) (gT 2 (gsC (gN 2) (gsC (gN 3) gsN))) lp1__law_wide) (dRet (dVar 1))))
def F__law_wide : List SV → PL.P SV := fnRun 4 exitV den__law_wide
def lp1__law_at : DS := (dSeq (dApp (dVar 2) (d2 addV (dVar 3) (d2 modV (dA intV (dCons (dVar 1) dNil)) (d2 addV (d2 subV (dVar 4) (dVar 3)) (dC (.int 1)))))) (dSet 1 (d2 fdivV (dA intV (dCons (dVar 1) dNil)) (d2 addV (d2 subV (dVar 4) (dVar 3)) (dC (.int 1))))))
def den__law_at : DS := (dSeq (dSet 2 (dA mkOwn dNil)) (dSeq (dFor (dIt (dVar 0)) (gT 2 (gsC (gN 3) (gsC (gN 4) gsN))) lp1__law_at) (dRet (dA tupleV (dCons (dVar 2) dNil)))))
def F__law_at : List SV → PL.P SV := fnRun 5 exitV den__law_at
def den__law_member : DS := (dSeq (dIfS (dAndT (dB (d2 eqV (dVar 2) (dC (.int 0)))) (dB (d2 eqV (dA (chk 2 F__law_draw) (dCons (dVar 0) (dCons (dC (.int 2)) dNil))) (dC (.int 0))))) (dRet (dA mkTup (dCons (d2 ixV (dVar 1) (dC (.int 0))) (dCons (dA mkTup dNil) dNil)))) dNx) (dRet (dA mkTup (dCons (d2 ixV (dVar 1) (dC (.int 0))) (dCons (dA (chk 2 F__law_at) (dCons (d2 ixV (dVar 1) (dC (.int 2))) (dCons (dVar 2) dNil))) dNil)))))
def F__law_member : List SV → PL.P SV := fnRun 3 exitV den__law_member
def lp1__law_row : DS := (dSeq (dSet 9 (d2 subV (dVar 5) (d2 ixV (dVar 2) (dVar 7)))) (dSeq (dSet 10 (dAndV (d2 geV (dVar 9) (dC (.int 0))) (dAndV (d2 eqV (d2 modV (dA intV (dCons (dVar 9) dNil)) (d2 ixV (dVar 8) (dC (.int 1)))) (dC (.int 0))) (d2 ltV (d2 fdivV (dVar 9) (d2 ixV (dVar 8) (dC (.int 1)))) (dA (chk 1 F__law_wide) (dCons (d2 ixV (dVar 8) (dC (.int 2))) dNil)))))) (dIfS (dAndT (dB (d2 neV (dVar 7) (dVar 3))) (dAndT (dTr (dVar 10)) (dB (d2 eqV (dA (chk 2 F__law_draw) (dCons (dVar 0) (dCons (dC (.int 2)) dNil))) (dC (.int 0)))))) (dApp (dVar 6) (dA (chk 3 F__law_member) (dCons (dVar 0) (dCons (dVar 8) (dCons (d2 fdivV (dVar 9) (d2 ixV (dVar 8) (dC (.int 1)))) dNil))))) dNx)))
def den__law_row : DS := (dSeq (dSet 3 (dA (chk 2 F__law_draw) (dCons (dVar 0) (dCons (dA lenV (dCons (dVar 1) dNil)) dNil)))) (dSeq (dSet 4 (dA (chk 2 F__law_draw) (dCons (dVar 0) (dCons (dA (chk 1 F__law_wide) (dCons (d2 ixV (d2 ixV (dVar 1) (dVar 3)) (dC (.int 2))) dNil)) dNil)))) (dSeq (dSet 5 (d2 addV (d2 ixV (dVar 2) (dVar 3)) (d2 mulV (d2 ixV (d2 ixV (dVar 1) (dVar 3)) (dC (.int 1))) (dVar 4)))) (dSeq (dSet 6 (dA mkOwn (dCons (dA (chk 3 F__law_member) (dCons (dVar 0) (dCons (d2 ixV (dVar 1) (dVar 3)) (dCons (dVar 4) dNil)))) dNil))) (dSeq (dFor (dAI enumV (dCons (dVar 1) dNil)) (gT 2 (gsC (gN 7) (gsC (gN 8) gsN))) lp1__law_row) (dSeq (dIfS (dOrT (dB (d2 ltV (dA lenV (dCons (dVar 6) dNil)) (dC (.int 2)))) (dB (d2 eqV (dA (chk 2 F__law_draw) (dCons (dVar 0) (dCons (dC (.int 9)) dNil))) (dC (.int 0))))) (dSeq (dSet 8 (dA (chk 2 F__law_pick) (dCons (dVar 0) (dCons (dVar 1) dNil)))) (dApp (dVar 6) (dA (chk 3 F__law_member) (dCons (dVar 0) (dCons (dVar 8) (dCons (dA (chk 2 F__law_draw) (dCons (dVar 0) (dCons (dA (chk 1 F__law_wide) (dCons (d2 ixV (dVar 8) (dC (.int 2))) dNil)) dNil))) dNil)))))) dNx) (dRet (dA tupleV (dCons (dSl false (dVar 6) dNoPt (dPt (dC (.int 10)))) dNil)))))))))
def F__law_row : List SV → PL.P SV := fnRun 11 exitV den__law_row
def ce1__law_rows : En → PL.P SV := (dA (chk 2 F__law_draw) (dCons (dVar 0) (dCons (dC (.int 9)) dNil)))
def ce2__law_rows : En → PL.P SV := (dA (chk 3 F__law_row) (dCons (dVar 0) (dCons (dVar 1) (dCons (dVar 3) dNil))))
def den__law_rows : DS := (dSeq (dSet 3 (dLc [4] (dIt (dVar 1)) (gN 4) dYes ce1__law_rows)) (dRet (dLc [5] (dAI rng1V (dCons (dA (chk 2 F__law_draw) (dCons (dVar 0) (dCons (d2 addV (dVar 2) (dC (.int 1))) dNil))) dNil)) (gN 5) dYes ce2__law_rows)))
def F__law_rows : List SV → PL.P SV := fnRun 6 exitV den__law_rows
def ce1__law_renamed : En → PL.P SV := (dA mkTup (dCons (d2 ixV (dVar 15) (dC (.int 0))) (dCons (d2 addV (dC (.str "q")) (d2 ixV (dVar 15) (dC (.int 0)))) dNil)))
def ce2__law_renamed : En → PL.P SV := (dA mkTup (dCons (d2 addV (dVar 13) (dVar 12)) (dCons (d2 addV (dVar 14) (dVar 12)) dNil)))
def lp3__law_renamed : DS := (dSeq (dSet 9 (dLc [12, 13, 14] (dAI zip2V (dCons (dVar 8) (dCons (dVar 2) dNil))) (gT 2 (gsC (gT 2 (gsC (gN 13) (gsC (gN 14) gsN))) (gsC (gN 12) gsN))) dYes ce2__law_renamed)) (dApp (dVar 5) (dA mkTup (dCons (d2 itemKV (dVar 4) (dVar 6)) (dCons (d2 mulV (dVar 3) (dVar 7)) (dCons (dA tupleV (dCons (dVar 9) dNil)) dNil))))))
def ce4__law_renamed : En → PL.P SV := (d2 addV (dVar 17) (dVar 12))
def ce5__law_renamed : En → PL.P SV := (dA mkTup (dCons (d2 itemKV (dVar 4) (dVar 6)) (dCons (dA tupleV (dCons (dLc [17, 12] (dAI zip2V (dCons (dVar 16) (dCons (dVar 2) dNil))) (gT 2 (gsC (gN 17) (gsC (gN 12) gsN))) dYes ce4__law_renamed) dNil)) dNil)))
def lp6__law_renamed : DS := (dApp (dVar 10) (dLc [6, 16] (dIt (dVar 11)) (gT 2 (gsC (gN 6) (gsC (gN 16) gsN))) dYes ce5__law_renamed))
def den__law_renamed : DS := (dSeq (dParT [4, 5] (dCons (dA dictKD (dCons (dLc [15] (dIt (dVar 0)) (gN 15) dYes ce1__law_renamed) dNil)) (dCons (dA mkOwn dNil) dNil))) (dSeq (dFor (dIt (dVar 0)) (gT 3 (gsC (gN 6) (gsC (gN 7) (gsC (gN 8) gsN)))) lp3__law_renamed) (dSeq (dSet 10 (dA mkOwn dNil)) (dSeq (dFor (dIt (dVar 1)) (gN 11) lp6__law_renamed) (dSeq (dFrz 10) (dSeq (dFrz 5) (dRet (dA mkTup (dCons (dVar 5) (dCons (dVar 10) dNil))))))))))
def F__law_renamed : List SV → PL.P SV := fnRun 18 exitV den__law_renamed
def lp1_many_elements : DS := (dSet 1 (d2 mulV (dVar 1) (d2 addV (d2 subV (dVar 3) (dVar 2)) (dC (.int 1)))))
def den_many_elements : DS := (dSeq (dSet 1 (dC (.int 1))) (dSeq (dFor (dIt (dVar 0)) (gT 2 (gsC (gN 2) (gsC (gN 3) gsN))) lp1_many_elements) (dRet (dVar 1))))
def F_many_elements : List SV → PL.P SV := fnRun 4 exitV den_many_elements
def den_units_of : DS := (dRet (d2 mulV (d2 ixV (dVar 0) (dC (.int 1))) (dA (chk 1 F_many_elements) (dCons (d2 ixV (dVar 0) (dC (.int 2))) dNil))))
def F_units_of : List SV → PL.P SV := fnRun 1 exitV den_units_of
def ce1_sight_of : En → PL.P SV := (d2 ixV (dVar 13) (dC (.int 0)))
def ce2_sight_of : En → PL.P SV := (dA mkTup (dCons (d2 ixV (d2 ixV (dVar 5) (dVar 14)) (dC (.int 1))) (dCons (d2 ixV (d2 ixV (dVar 0) (dVar 14)) (dC (.int 1))) (dCons (d2 addV (d2 ixV (d2 ixV (dVar 5) (dVar 14)) (dC (.int 1))) (dA (chk 1 F_units_of) (dCons (d2 ixV (dVar 0) (dVar 14)) dNil))) dNil))))
def den_sight_of : DS := (dSeq (dDrop (dA (chk 1 F_check_variables) (dCons (dVar 0) dNil))) (dSeq (dSet 4 (dA (chk 2 F_lines_of) (dCons (dVar 0) (dCons (dVar 1) dNil)))) (dSeq (dSet 5 (dA (chk 2 F_groups_of) (dCons (dA lenV (dCons (dVar 0) dNil)) (dCons (dVar 4) dNil)))) (dSeq (dIfS (dNotT (dTr (dA (chk 2 F_do_hold) (dCons (dVar 5) (dCons (dVar 4) dNil))))) dNever dNx) (dSeq (dSet 6 (dLc [13] (dIt (dVar 0)) (gN 13) dYes ce1_sight_of)) (dSeq (dIfS (dOrT (dNotT (dTr (d1 (isiV ["str"]) (dVar 2)))) (dB (d2 notInSV (dVar 2) (dVar 6)))) dNever dNx) (dSeq (dIfS (dOrT (dNotT (dTr (d1 (isiV ["str"]) (dVar 3)))) (dB (d2 notInSV (dVar 3) (dVar 6)))) dNever dNx) (dSeq (dPar 7 8 (dCons (dIndex (dVar 6) (dVar 2)) (dCons (dIndex (dVar 6) (dVar 3)) dNil))) (dSeq (dSet 9 (dLc [14] (dIt (dA mkTup (dCons (dVar 7) (dCons (dVar 8) dNil)))) (gN 14) dYes ce2_sight_of)) (dSeq (dPar 10 11 (dCons (dA max2V (dCons (d2 ixV (d2 ixV (dVar 9) (dC (.int 0))) (dC (.int 0))) (dCons (d2 ixV (d2 ixV (dVar 9) (dC (.int 1))) (dC (.int 0))) dNil))) (dCons (dA min2V (dCons (d2 ixV (d2 ixV (dVar 9) (dC (.int 0))) (dC (.int 2))) (dCons (d2 ixV (d2 ixV (dVar 9) (dC (.int 1))) (dC (.int 2))) dNil))) dNil))) (dSeq (dSet 12 (dOrV (d2 neV (d2 ixV (d2 ixV (dVar 5) (dVar 7)) (dC (.int 0))) (d2 ixV (d2 ixV (dVar 5) (dVar 8)) (dC (.int 0)))) (d2 geV (dVar 10) (dVar 11)))) (dRet (dA mkTup (dCons (d2 ixV (dVar 9) (dC (.int 0))) (dCons (d2 ixV (dVar 9) (dC (.int 1))) (dCons (dIf (dTr (dVar 12)) (dC .non) (dA mkTup (dCons (dVar 10) (dCons (dVar 11) dNil)))) dNil))))))))))))))))
def F_sight_of : List SV → PL.P SV := fnRun 15 exitV den_sight_of
def den_shared : DS := (dSeq (dAsg (dA (chk 4 F_sight_of) (dCons (dVar 0) (dCons (dVar 1) (dCons (dVar 2) (dCons (dVar 3) dNil))))) (gT 3 (gsC (gN 4) (gsC (gN 5) (gsC (gN 6) gsN))))) (dRet (dIf (dB (d2 isNV (dVar 6) (dC .non))) (dC .non) (dA mkTup (dCons (d2 subV (d2 ixV (dVar 6) (dC (.int 0))) (d2 ixV (dVar 4) (dC (.int 0)))) (dCons (d2 subV (d2 ixV (dVar 6) (dC (.int 1))) (d2 ixV (dVar 6) (dC (.int 0)))) dNil))))))
def F_shared : List SV → PL.P SV := fnRun 7 exitV den_shared
def den_stretch : DS := (dRet (dA mkTup (dCons (d2 fdivV (d2 subV (dVar 2) (dVar 0)) (dVar 1)) (dCons (d2 fdivV (d2 subV (d2 subV (dVar 3) (dC (.int 1))) (dVar 0)) (dVar 1)) dNil))))
def F_stretch : List SV → PL.P SV := fnRun 4 exitV den_stretch
def den_touched : DS := (dSeq (dAsg (dA (chk 4 F_sight_of) (dCons (dVar 0) (dCons (dVar 1) (dCons (dVar 2) (dCons (dVar 4) dNil))))) (gT 3 (gsC (gN 5) (gsC (gN 6) (gsC (gN 7) gsN))))) (dSeq (dIfS (dNotT (dTr (dA (chk 3 F_is_between) (dCons (dVar 3) (dCons (dC (.int 0)) (dCons (d2 subV (d2 fdivV (d2 subV (d2 ixV (dVar 5) (dC (.int 2))) (d2 ixV (dVar 5) (dC (.int 0)))) (d2 ixV (dVar 5) (dC (.int 1)))) (dC (.int 1))) dNil)))))) dNever dNx) (dSeq (dSet 8 (d2 addV (d2 ixV (dVar 5) (dC (.int 0))) (d2 mulV (dVar 3) (d2 ixV (dVar 5) (dC (.int 1)))))) (dSeq (dIfS (dOrT (dB (d2 isNV (dVar 7) (dC .non))) (dOrT (dB (d2 geV (dVar 8) (d2 ixV (dVar 7) (dC (.int 1))))) (dB (d2 leV (d2 addV (dVar 8) (d2 ixV (dVar 5) (dC (.int 1)))) (d2 ixV (dVar 7) (dC (.int 0))))))) (dRet (dC .non)) dNx) (dRet (dA (chk 4 F_stretch) (dCons (d2 ixV (dVar 6) (dC (.int 0))) (dCons (d2 ixV (dVar 6) (dC (.int 1))) (dCons (dA max2V (dCons (dVar 8) (dCons (d2 ixV (dVar 7) (dC (.int 0))) dNil))) (dCons (dA min2V (dCons (d2 addV (dVar 8) (d2 ixV (dVar 5) (dC (.int 1)))) (dCons (d2 ixV (dVar 7) (dC (.int 1))) dNil))) dNil))))))))))
def F_touched : List SV → PL.P SV := fnRun 9 exitV den_touched
def den_cuts : DS := (dRet (d2 subV (d2 fdivV (d2 subV (d2 subV (dVar 3) (dC (.int 1))) (dVar 0)) (dVar 1)) (d2 fdivV (d2 subV (dVar 2) (dVar 0)) (dVar 1))))
def F_cuts : List SV → PL.P SV := fnRun 4 exitV den_cuts
def lp1_gcd : DS := (dPar 0 1 (dCons (dVar 1) (dCons (d2 modV (dVar 0) (dVar 1)) dNil)))
def ts2_gcd : En → PL.P Bool := (dB (d2 neV (dVar 1) (dC (.int 0))))
def den_gcd : DS := (dSeq (dWhile 1000 ts2_gcd lp1_gcd) (dRet (dA absV' (dCons (dVar 0) dNil))))
def F_gcd : List SV → PL.P SV := fnRun 2 exitV den_gcd
def den_lcm : DS := (dRet (d2 fdivV (dA absV' (dCons (d2 mulV (dVar 0) (dVar 1)) dNil)) (dA (chk 2 F_gcd) (dCons (dVar 0) (dCons (dVar 1) dNil)))))
def F_lcm : List SV → PL.P SV := fnRun 2 exitV den_lcm
def lp1_inverse : DS := (dSeq (dSet 6 (d2 fdivV (dVar 2) (dVar 3))) (dSeq (dPar 2 3 (dCons (dVar 3) (dCons (d2 subV (dVar 2) (d2 mulV (dVar 6) (dVar 3))) dNil))) (dPar 4 5 (dCons (dVar 5) (dCons (d2 subV (dVar 4) (d2 mulV (dVar 6) (dVar 5))) dNil)))))
def ts2_inverse : En → PL.P Bool := (dB (d2 neV (dVar 3) (dC (.int 0))))
def den_inverse : DS := (dSeq (dParT [2, 3, 4, 5] (dCons (d2 modV (dVar 0) (dVar 1)) (dCons (dVar 1) (dCons (dC (.int 1)) (dCons (dC (.int 0)) dNil))))) (dSeq (dWhile 1000 ts2_inverse lp1_inverse) (dRet (d2 modV (dVar 4) (dVar 1)))))
def F_inverse : List SV → PL.P SV := fnRun 7 exitV den_inverse
def den_meeting : DS := (dSeq (dSet 4 (dA (chk 2 F_gcd) (dCons (dVar 1) (dCons (dVar 3) dNil)))) (dSeq (dIfS (dB (d2 neV (d2 modV (d2 subV (dVar 2) (dVar 0)) (dVar 4)) (dC (.int 0)))) (dRet (dC .non)) dNx) (dSeq (dSet 5 (dA (chk 2 F_lcm) (dCons (dVar 1) (dCons (dVar 3) dNil)))) (dSeq (dSet 6 (d2 fdivV (dVar 3) (dVar 4))) (dSeq (dSet 7 (dIf (dB (d2 gtV (dVar 6) (dC (.int 1)))) (d2 modV (d2 mulV (d2 fdivV (d2 subV (dVar 2) (dVar 0)) (dVar 4)) (dA (chk 2 F_inverse) (dCons (d2 fdivV (dVar 1) (dVar 4)) (dCons (dVar 6) dNil)))) (dVar 6)) (dC (.int 0)))) (dRet (dA mkTup (dCons (d2 modV (d2 addV (dVar 0) (d2 mulV (dVar 7) (dVar 1))) (dVar 5)) (dCons (dVar 5) dNil)))))))))
def F_meeting : List SV → PL.P SV := fnRun 8 exitV den_meeting
def den_common_cuts : DS := (dSeq (dSet 4 (dA (chk 4 F_meeting) (dCons (d2 modV (d2 ixV (dVar 0) (dC (.int 0))) (d2 ixV (dVar 0) (dC (.int 1)))) (dCons (d2 ixV (dVar 0) (dC (.int 1))) (dCons (d2 modV (d2 ixV (dVar 1) (dC (.int 0))) (d2 ixV (dVar 1) (dC (.int 1)))) (dCons (d2 ixV (dVar 1) (dC (.int 1))) dNil)))))) (dRet (dIf (dB (d2 isNV (dVar 4) (dC .non))) (dC (.int 0)) (dA (chk 4 F_cuts) (dCons (d2 ixV (dVar 4) (dC (.int 0))) (dCons (d2 ixV (dVar 4) (dC (.int 1))) (dCons (dVar 2) (dCons (dVar 3) dNil))))))))
def F_common_cuts : List SV → PL.P SV := fnRun 5 exitV den_common_cuts
def den_pairs_number : DS := (dSeq (dAsg (dA (chk 4 F_sight_of) (dCons (dVar 0) (dCons (dVar 1) (dCons (dVar 2) (dCons (dVar 3) dNil))))) (gT 3 (gsC (gN 4) (gsC (gN 5) (gsC (gN 6) gsN))))) (dSeq (dIfS (dB (d2 isNV (dVar 6) (dC .non))) (dRet (dC (.int 0))) dNx) (dSeq (dAsg (dVar 6) (gT 2 (gsC (gN 7) (gsC (gN 8) gsN)))) (dSeq (dSet 9 (d2 addV (dA (chk 4 F_cuts) (dCons (d2 ixV (dVar 4) (dC (.int 0))) (dCons (d2 ixV (dVar 4) (dC (.int 1))) (dCons (dVar 7) (dCons (dVar 8) dNil))))) (dA (chk 4 F_cuts) (dCons (d2 ixV (dVar 5) (dC (.int 0))) (dCons (d2 ixV (dVar 5) (dC (.int 1))) (dCons (dVar 7) (dCons (dVar 8) dNil))))))) (dRet (d2 subV (d2 addV (dC (.int 1)) (dVar 9)) (dA (chk 4 F_common_cuts) (dCons (dVar 4) (dCons (dVar 5) (dCons (dVar 7) (dCons (dVar 8) dNil)))))))))))
def F_pairs_number : List SV → PL.P SV := fnRun 10 exitV den_pairs_number
def den_twins_number : DS := (dSeq (dAsg (dA (chk 4 F_sight_of) (dCons (dVar 0) (dCons (dVar 1) (dCons (dVar 2) (dCons (dVar 3) dNil))))) (gT 3 (gsC (gN 4) (gsC (gN 5) (gsC (gN 6) gsN))))) (dSeq (dIfS (dOrT (dB (d2 isNV (dVar 6) (dC .non))) (dOrT (dB (d2 neV (d2 ixV (dVar 4) (dC (.int 1))) (d2 ixV (dVar 5) (dC (.int 1))))) (dB (d2 neV (d2 modV (d2 subV (d2 ixV (dVar 4) (dC (.int 0))) (d2 ixV (dVar 5) (dC (.int 0)))) (d2 ixV (dVar 4) (dC (.int 1)))) (dC (.int 0)))))) (dRet (dC (.int 0))) dNx) (dRet (d2 fdivV (d2 subV (d2 ixV (dVar 6) (dC (.int 1))) (d2 ixV (dVar 6) (dC (.int 0)))) (d2 ixV (dVar 4) (dC (.int 1)))))))
def F_twins_number : List SV → PL.P SV := fnRun 7 exitV den_twins_number
def ce1__law_told : En → PL.P SV := (dVar 8)
def ct2__law_told : En → PL.P Bool := (dB (d2 eqV (d2 ixV (dVar 8) (dC (.int 0))) (dVar 2)))
def ce3__law_told : En → PL.P SV := (dA (chk 5 F_touched) (dCons (dVar 0) (dCons (dVar 1) (dCons (dVar 2) (dCons (dVar 7) (dCons (dVar 3) dNil))))))
def den__law_told : DS := (dSeq (dSet 4 (dA (chk 1 F__law_wide) (dCons (d2 ixV (d2 ixV (dLc [8] (dIt (dVar 0)) (gN 8) ct2__law_told ce1__law_told) (dC (.int 0))) (dC (.int 2))) dNil))) (dSeq (dSet 5 (dLc [7] (dAI rng1V (dCons (dVar 4) dNil)) (gN 7) dYes ce3__law_told)) (dSeq (dSet 6 (dA mkLst (dCons (dA (chk 4 F_pairs_number) (dCons (dVar 0) (dCons (dVar 1) (dCons (dVar 2) (dCons (dVar 3) dNil))))) (dCons (dA (chk 4 F_twins_number) (dCons (dVar 0) (dCons (dVar 1) (dCons (dVar 2) (dCons (dVar 3) dNil))))) dNil)))) (dRet (dA mkTup (dCons (dA (chk 4 F_shared) (dCons (dVar 0) (dCons (dVar 1) (dCons (dVar 2) (dCons (dVar 3) dNil))))) (dCons (d2 addV (dVar 5) (dVar 6)) dNil)))))))
def F__law_told : List SV → PL.P SV := fnRun 9 exitV den__law_told
def den__law_times : DS := (dRet (dIf (dB (d2 isNV (dVar 0) (dC .non))) (dC .non) (dA mkTup (dCons (d2 mulV (dVar 1) (d2 ixV (dVar 0) (dC (.int 0)))) (dCons (d2 mulV (dVar 1) (d2 ixV (dVar 0) (dC (.int 1)))) dNil)))))
def F__law_times : List SV → PL.P SV := fnRun 2 exitV den__law_times
def ce1__law_right : En → PL.P SV := (dA mkTup (dCons (d2 addV (dC (.str "q")) (dVar 15)) (dCons (d2 addV (dC (.str "q")) (dVar 16)) (dCons (d2 mulV (dVar 2) (dVar 17)) dNil))))
def lp2__law_right : DS := (dSeq (dPar 11 12 (dCons (d2 ixV (dA (chk 2 F__law_pick) (dCons (dVar 0) (dCons (dVar 1) dNil))) (dC (.int 0))) (dCons (d2 ixV (dA (chk 2 F__law_pick) (dCons (dVar 0) (dCons (dVar 1) dNil))) (dC (.int 0))) dNil))) (dSeq (dAsg (dA (chk 4 F__law_told) (dCons (dVar 1) (dCons (dVar 3) (dCons (dVar 11) (dCons (dVar 12) dNil))))) (gT 2 (gsC (gN 13) (gsC (gN 14) gsN)))) (dSeq (dIfS (dB (d2 neV (dA (chk 4 F__law_told) (dCons (dVar 5) (dCons (dVar 6) (dCons (d2 addV (dC (.str "q")) (dVar 11)) (dCons (d2 addV (dC (.str "q")) (dVar 12)) dNil))))) (dA mkTup (dCons (dA (chk 2 F__law_times) (dCons (dVar 13) (dCons (dVar 2) dNil))) (dCons (dVar 14) dNil))))) (dRet (dC (.bl false))) dNx) (dIfS (dB (d2 neV (dA (chk 4 F__law_told) (dCons (d1 (revA false) (dVar 1)) (dCons (d1 (revA false) (dVar 3)) (dCons (dVar 11) (dCons (dVar 12) dNil))))) (dA mkTup (dCons (dVar 13) (dCons (dVar 14) dNil))))) (dRet (dC (.bl false))) dNx))))
def den__law_right : DS := (dSeq (dParT [1, 2] (dCons (dA (chk 3 F__law_parts) (dCons (dVar 0) (dCons (d2 addV (dC (.int 2)) (dA (chk 2 F__law_draw) (dCons (dVar 0) (dCons (dC (.int 5)) dNil)))) (dCons (dC (.int 3)) dNil)))) (dCons (d2 addV (dC (.int 1)) (dA (chk 2 F__law_draw) (dCons (dVar 0) (dCons (dC (.int 3)) dNil)))) dNil))) (dSeq (dPar 3 4 (dCons (dA (chk 3 F__law_rows) (dCons (dVar 0) (dCons (dVar 1) (dCons (dC (.int 6)) dNil)))) (dCons (dA mkLst (dCons (d2 subV (dA (chk 2 F__law_draw) (dCons (dVar 0) (dCons (dC (.int 99)) dNil))) (dC (.int 50))) (dCons (d2 powV (dC (.int 10)) (dC (.int 20))) (dCons (dA (chk 2 F__law_draw) (dCons (dVar 0) (dCons (dC (.int 9)) dNil))) dNil)))) dNil))) (dSeq (dAsg (dA (chk 4 F__law_renamed) (dCons (dVar 1) (dCons (dVar 3) (dCons (dVar 4) (dCons (dVar 2) dNil))))) (gT 2 (gsC (gN 5) (gsC (gN 6) gsN)))) (dSeq (dPar 7 8 (dCons (dA (chk 2 F_ring) (dCons (dVar 1) (dCons (dVar 3) dNil))) (dCons (dA (chk 2 F_ring) (dCons (dVar 5) (dCons (dVar 6) dNil))) dNil))) (dSeq (dIfS (dOrT (dB (d2 notNV (dVar 7) (dC .non))) (dB (d2 notNV (dVar 8) (dC .non)))) (dRet (dAndV (d2 notNV (dVar 7) (dC .non)) (dAndV (d2 notNV (dVar 8) (dC .non)) (d2 eqV (dA lenV (dCons (dVar 7) dNil)) (dA lenV (dCons (dVar 8) dNil)))))) dNx) (dSeq (dSet 9 (dLc [15, 16, 17] (dIt (dFz (dA (chk 2 F_offsets) (dCons (dVar 1) (dCons (dVar 3) dNil))))) (gT 3 (gsC (gN 15) (gsC (gN 16) (gsC (gN 17) gsN)))) dYes ce1__law_right)) (dSeq (dIfS (dB (d2 neV (dFz (dA (chk 2 F_offsets) (dCons (dVar 5) (dCons (dVar 6) dNil)))) (dVar 9))) (dRet (dC (.bl false))) dNx) (dSeq (dFor (dAI rng1V (dCons (dC (.int 4)) dNil)) (gN 10) lp2__law_right) (dRet (dC (.bl true)))))))))))
def F__law_right : List SV → PL.P SV := fnRun 18 exitV den__law_right
def lp1_law : DS := (dIfS (dNotT (dTr (dA (chk 1 F__law_right) (dCons (dVar 2) dNil)))) (dRet (dC (.bl false))) dNx)
def lp2_law : DS := (dSeq (dSet 2 (dA (chk 1 F__law_well) (dCons (dVar 1) dNil))) (dFor (dAI rng1V (dCons (dC (.int 5)) dNil)) (gN 3) lp1_law))
def den_law : DS := (dSeq (dFor (dIt (d2 addV (dSl false (dVar 0) dNoPt (dPt (dC (.int 4)))) (dA mkLst (dCons (dC (.int 0)) dNil)))) (gN 1) lp2_law) (dRet (dC (.bl true))))
def F_law : List SV → PL.P SV := fnRun 4 exitV den_law
end G
namespace G
open PySem PySem.Spec PyProof.Rows L2 PL
def Wl (k : Nat) (m : Mem) : Prop := ∃ a b c : Int, m[k]? = some (.lst [.int a, .int b, .int c])
theorem fmod_nonneg {a b : Int} (h : 0 < b) : 0 ≤ a.fmod b ∧ a.fmod b < b := by
  rw [Int.fmod_eq_emod_of_nonneg a (by omega)]
  exact ⟨Int.emod_nonneg a (by omega), Int.emod_lt_of_pos a h⟩
theorem mulOk_r (i : Int) {j : Int} (h : j.natAbs < 18446744073709551616) : mulOk i j = true := by
  unfold mulOk
  simp [h]
theorem mulOk_l {i : Int} (j : Int) (h : i.natAbs < 18446744073709551616) : mulOk i j = true := by
  unfold mulOk
  simp [h]
theorem wl_lt {k : Nat} {m : Mem} (h : Wl k m) : k < m.length := by
  obtain ⟨a, b, c, e⟩ := h
  exact (List.getElem?_eq_some_iff.mp e).1
theorem atI_ofNat {α : Type} {xs : List α} {i : Int} (h0 : 0 ≤ i) (h1 : i < xs.length) : atI xs i = xs[i.toNat]? := by
  unfold atI ixN
  rw [if_pos h0, if_pos h1]
  rfl
theorem small_big {n : Nat} (h : n ≤ 1000000000000000000000000000000000000000000000000000000000000000000000) : n < big := big_of (Nat.lt_of_le_of_lt h (by decide +kernel))
theorem mulOk_big {i j : Int} (h0 : i.natAbs < big) (h1 : j.natAbs < big) : mulOk i j = true := by simp [mulOk, h0, h1]
def isW (c : Cell) : Prop := ∃ a b d : Int, c = .lst [.int a, .int b, .int d]
theorem wlS {k : Nat} {m : Mem} {c : Cell} (hk : k < m.length) (hc : isW c) : Wl k (m.set k c) := by
  obtain ⟨a, b, d, rfl⟩ := hc
  exact ⟨a, b, d, by simp [hk]⟩
theorem wlA {k : Nat} {m : Mem} (h : Wl k m) (l : Mem) : Wl k (m ++ l) := by
  have hk := wl_lt h
  obtain ⟨a, b, c, e⟩ := h
  exact ⟨a, b, c, by rw [List.getElem?_append_left hk]; exact e⟩
theorem wl_self {k : Nat} {m : Mem} (h : Wl k m) : ∃ c, isW c ∧ m.set k c = m := by
  have hk := wl_lt h
  obtain ⟨a, b, c, e⟩ := h
  refine ⟨_, ⟨a, b, c, rfl⟩, ?_⟩
  have e2 : m[k] = .lst [.int a, .int b, .int c] := by
    rw [List.getElem?_eq_getElem hk] at e
    exact Option.some.inj e
  rw [← e2]
  exact List.set_getElem_self hk
theorem draw_wp {k : Nat} {m : Mem} (h : Wl k m) {n : Int} {Q : SV → Mem → Prop} (hn : 0 < n) (hb : n.natAbs < big) (H : ∀ d c, isW c → 0 ≤ d → d < n → Q (.dat (.int d)) (m.set k c)) : Ok (F__law_draw [.ref k, .dat (.int n)] m) Q := by
  have hk := wl_lt h
  obtain ⟨a, b, c, e⟩ := h
  by_cases ha : 0 < a
  · have h0 : n ≠ 0 := by omega
    have e1 : F__law_draw [.ref k, .dat (.int n)] m = .ok (.dat (.int (a.fmod n))) (m.set k (.lst [.int (a.fdiv n), .int b, .int c])) := by
      simp [F__law_draw, fnRun_ap, den__law_draw, enter, setC, ixV, atI, ixN, rdSq, rdL, e, ha, h0, hb]
    obtain ⟨q1, q2⟩ := fmod_nonneg (a := a) hn
    exact ⟨_, _, e1, H _ _ ⟨_, _, _, rfl⟩ q1 q2⟩
  · have h0 : n ≠ 0 := by omega
    have e1 : ∀ x : Int, mulOk 70001 x = true := fun x => mulOk_l x (by decide)
    have e2 : ∀ x : Int, mulOk x 69621 = true := fun x => mulOk_r x (by decide)
    have e3 : ∀ x y : Int, mulOk (x.fmod 2147483647) y = true := fun x y => mulOk_l y (by have := fmod_nonneg (a := x) (b := 2147483647) (by decide); omega)
    have e4 : ∀ x y : Int, mulOk (x.fmod 2147483587) y = true := fun x y => mulOk_l y (by have := fmod_nonneg (a := x) (b := 2147483587) (by decide); omega)
    have b1 : (1021 : Nat) < big := small_big (by decide)
    have b2 : (2011 : Nat) < big := small_big (by decide)
    have b4 : (11 : Nat) < big := small_big (by decide)
    have e5 : ∀ c' : Cell, (m.set k c')[k]? = some c' := fun c' => by simp [hk]
    obtain ⟨r, e6⟩ : ∃ r : Int, F__law_draw [.ref k, .dat (.int n)] m = .ok (.dat (.int (r.fmod n))) (m.set k (.lst [.int a, .int b, .int (c + 1)])) := by
      simp [F__law_draw, fnRun_ap, den__law_draw, enter, setC, ixV, atI, ixN, rdSq, rdL, e, e5, ha, h0, hb, e1, e2, e3, e4, b1, b2, b4]
      exact ⟨_, rfl⟩
    obtain ⟨q1, q2⟩ := fmod_nonneg (a := r) hn
    exact ⟨_, _, e6, H _ _ ⟨_, _, _, rfl⟩ q1 q2⟩
theorem pick_wp {k : Nat} {m : Mem} (h : Wl k m) {xs : List D} {Q : SV → Mem → Prop} (hx : 0 < xs.length) (hl : xs.length ≤ 1000) (H : ∀ d c, isW c → d ∈ xs → Q (.dat d) (m.set k c)) : Ok (F__law_pick [.ref k, .dat (.lst xs)] m) Q := by
  simp only [F__law_pick, fnRun_ap, den__law_pick, enter, ok_fin, dRet_ap, d2_ap, k2_ap, ok_bnd]
  simp [lenV, rdSq, rdL]
  refine draw_wp h (by omega) (small_big (by omega)) fun d c hc q1 q2 => ?_
  have hi : d.toNat < xs.length := by omega
  simp [ixV, rdSq, rdL, atI_ofNat q1 q2, List.getElem?_eq_getElem hi]
  exact H _ c hc (List.getElem_mem _)
def JW (k : Nat) (m mm : Mem) : Prop := ∃ c l, isW c ∧ mm = m.set k c ++ l
theorem JW.take {k : Nat} {m mm : Mem} (h : JW k m mm) : ∃ c, isW c ∧ mm.take m.length = m.set k c := by
  obtain ⟨c, l, hc, rfl⟩ := h
  exact ⟨c, hc, by rw [List.take_append_of_le_length (by simp), List.take_of_length_le (by simp)]⟩
theorem JW.set {k : Nat} {m mm : Mem} (h : JW k m mm) (hk : k < m.length) {c : Cell} (hc : isW c) : JW k m (mm.set k c) := by
  obtain ⟨c0, l, _, rfl⟩ := h
  exact ⟨c, l, hc, by rw [List.set_append_left _ _ (by simpa using hk), List.set_set]⟩
theorem JW.len {k : Nat} {m mm : Mem} {c : Cell} : (mm.set k c).length = mm.length := by simp
open AR (Bd exts inB place)
def FAR : Int := 1000000000000000000000000000000
def pr (b : Bd) : D := .tup [.int b.1, .int b.2]
def bD (bs : List Bd) : D := .tup (bs.map pr)
structure VB (bs : List Bd) : Prop where
  le : bs.length ≤ 7
  in1 : ∀ b ∈ bs, -FAR ≤ b.1 ∧ b.1 ≤ b.2 ∧ b.2 ≤ FAR
def XF : Nat := 2000000000000000000000000000001
theorem xf_big {k : Nat} {a : Int} (hk : k ≤ 9) (h : a.natAbs ≤ XF ^ k) : a.natAbs < big := by
  have h1 : XF ^ k ≤ XF ^ 9 := Nat.pow_le_pow_right (by decide) hk
  have h2 : XF ^ 9 < big := big_of (by decide +kernel)
  omega
theorem ext_sm {bs : List Bd} (h : VB bs) : ∀ b ∈ bs, 0 < AR.ext b ∧ AR.ext b = b.2 - b.1 + 1 ∧ (AR.ext b).natAbs ≤ XF := fun b hb => by
  have := h.in1 b hb
  unfold AR.ext XF
  unfold FAR at this
  omega
theorem prod_sm : ∀ {bs : List Bd} (_ : ∀ b ∈ bs, 0 < AR.ext b ∧ AR.ext b = b.2 - b.1 + 1 ∧ (AR.ext b).natAbs ≤ XF), 0 < AR.prod (exts bs) ∧ (AR.prod (exts bs)).natAbs ≤ XF ^ bs.length
  | [], _ => by simp [exts, AR.prod]
  | b :: r, h => by
    obtain ⟨h1, h2, h3⟩ := h b List.mem_cons_self
    obtain ⟨i1, i2⟩ := prod_sm (bs := r) fun y hy => h y (List.mem_cons_of_mem _ hy)
    refine ⟨Int.mul_pos h1 i1, ?_⟩
    show (AR.ext b * AR.prod (exts r)).natAbs ≤ XF ^ (r.length + 1)
    rw [Int.natAbs_mul, Nat.pow_succ, Nat.mul_comm]
    exact Nat.mul_le_mul i2 h3
theorem many_loop (a0 : Option SV) (m : Mem) : ∀ (bs : List Bd) (k : Nat) (a : Int) (x y : Option SV), a.natAbs ≤ XF ^ k → k + bs.length ≤ 7 → (∀ b ∈ bs, 0 < AR.ext b ∧ AR.ext b = b.2 - b.1 + 1 ∧ (AR.ext b).natAbs ≤ XF) →
    ∃ x' y', loopF (gT 2 (gsC (gN 2) (gsC (gN 3) gsN))) lp1_many_elements (bs.map pr) [a0, some (.dat (.int a)), x, y] m = .ok (.nx [a0, some (.dat (.int (a * AR.prod (exts bs)))), x', y']) m
  | [], k, a, x, y, h1, h2, h3 => ⟨x, y, by simp [loopF_nil, AR.prod, exts]⟩
  | b :: r, k, a, x, y, h1, h2, h3 => by
    obtain ⟨e1, e2, e3⟩ := h3 b List.mem_cons_self
    rw [List.length_cons] at h2
    have ab : a.natAbs < big := xf_big (k := k) (by omega) h1
    have xb : (AR.ext b).natAbs < big := xf_big (k := 1) (by omega) (by rw [Nat.pow_one]; exact e3)
    have mo : mulOk a (b.2 - b.1 + 1) = true := by rw [← e2]; simp [mulOk, ab, xb]
    obtain ⟨x', y', q⟩ := many_loop a0 m r (k + 1) (a * AR.ext b) (some (.dat (.int b.1))) (some (.dat (.int b.2))) (by rw [Int.natAbs_mul, Nat.pow_succ]; exact Nat.mul_le_mul h1 e3) (by omega) fun z hz => h3 z (List.mem_cons_of_mem _ hz)
    refine ⟨x', y', ?_⟩
    rw [List.map_cons]
    refine (loopF_nx (env2 := [a0, some (.dat (.int (a * AR.ext b))), some (.dat (.int b.1)), some (.dat (.int b.2))]) (m2 := m) rfl ?_).trans ?_
    · simp [lp1_many_elements, mo, e2]
    · rw [q]
      show _ = R.ok (Out.nx [a0, some (.dat (.int (a * (AR.ext b * AR.prod (exts r))))), x', y']) m
      rw [Int.mul_assoc]
theorem many_ok {bs : List Bd} (h : VB bs) (m : Mem) : F_many_elements [.dat (bD bs)] m = .ok (.dat (.int (AR.prod (exts bs)))) m := by
  obtain ⟨x', y', q⟩ := many_loop (some (.dat (bD bs))) m bs 0 1 none none (by simp) (by have := h.le; omega) (ext_sm h)
  rw [Int.one_mul] at q
  simp [F_many_elements, fnRun_ap, den_many_elements, enter, itemsV, bD] at q ⊢
  simp [q]
theorem place_sm : ∀ {bs : List Bd} {us : List Int}, inB bs us → (∀ b ∈ bs, 0 < AR.ext b ∧ AR.ext b = b.2 - b.1 + 1 ∧ (AR.ext b).natAbs ≤ XF) → 0 ≤ place bs us ∧ (place bs us).natAbs ≤ XF ^ bs.length := fun {bs us} hi h => by
  obtain ⟨h1, h2⟩ := AR.place_lt hi
  obtain ⟨_, h3⟩ := prod_sm h
  exact ⟨h1, by omega⟩
theorem pl_loop (a0 a1 : Option SV) (m : Mem) : ∀ (bs : List Bd) (us : List Int) (k : Nat) (f w : Int) (x y z : Option SV), w.natAbs ≤ XF ^ k → k + bs.length ≤ 7 → inB bs us → (∀ b ∈ bs, 0 < AR.ext b ∧ AR.ext b = b.2 - b.1 + 1 ∧ (AR.ext b).natAbs ≤ XF) →
    ∃ w' x' y' z', loopF (gT 2 (gsC (gT 2 (gsC (gN 4) (gsC (gN 5) gsN))) (gsC (gN 6) gsN))) lp1_place_in (zipD2 (bs.map pr) (us.map D.int)) [a0, a1, some (.dat (.int f)), some (.dat (.int w)), x, y, z] m = .ok (.nx [a0, a1, some (.dat (.int (f + w * place bs us))), w', x', y', z']) m
  | [], [], k, f, w, x, y, z, h1, h2, h3, h4 => ⟨some (.dat (.int w)), x, y, z, by simp [loopF_nil, AR.place, zipD2]⟩
  | [], _ :: _, k, f, w, x, y, z, h1, h2, h3, h4 => h3.elim
  | _ :: _, [], k, f, w, x, y, z, h1, h2, h3, h4 => h3.elim
  | b :: r, u :: us, k, f, w, x, y, z, h1, h2, h3, h4 => by
    obtain ⟨e1, e2, e3⟩ := h4 b List.mem_cons_self
    obtain ⟨i1, i2, i3⟩ := h3
    rw [List.length_cons] at h2
    have ab : w.natAbs < big := xf_big (k := k) (by omega) h1
    have xb : (AR.ext b).natAbs < big := xf_big (k := 1) (by omega) (by rw [Nat.pow_one]; exact e3)
    have ub : (u - b.1).natAbs < big := xf_big (k := 1) (by omega) (by rw [Nat.pow_one]; omega)
    have mo : mulOk w (b.2 - b.1 + 1) = true := by rw [← e2]; simp [mulOk, ab, xb]
    have mo2 : mulOk w (u - b.1) = true := by simp [mulOk, ab, ub]
    obtain ⟨w', x', y', z', q⟩ := pl_loop a0 a1 m r us (k + 1) (f + w * (u - b.1)) (w * AR.ext b) (some (.dat (.int b.1))) (some (.dat (.int b.2))) (some (.dat (.int u))) (by rw [Int.natAbs_mul, Nat.pow_succ]; exact Nat.mul_le_mul h1 e3) (by omega) i3 fun z hz => h4 z (List.mem_cons_of_mem _ hz)
    refine ⟨w', x', y', z', ?_⟩
    show loopF _ _ (.tup [pr b, .int u] :: zipD2 (r.map pr) (us.map D.int)) _ m = _
    refine (loopF_nx (env2 := [a0, a1, some (.dat (.int (f + w * (u - b.1)))), some (.dat (.int (w * AR.ext b))), some (.dat (.int b.1)), some (.dat (.int b.2)), some (.dat (.int u))]) (m2 := m) rfl ?_).trans ?_
    · simp [lp1_place_in, mo, mo2, e2]
    · rw [q]
      have : f + w * (u - b.1) + w * AR.ext b * place r us = f + w * (u - b.1 + AR.ext b * place r us) := by rw [Int.mul_add, Int.mul_assoc]; omega
      rw [this]
      rfl
theorem place_in_ok {bs : List Bd} {us : List Int} (h : VB bs) (hi : inB bs us) (m : Mem) : F_place_in [.dat (bD bs), .dat (.tup (us.map D.int))] m = .ok (.dat (.int (place bs us))) m := by
  obtain ⟨w', x', y', z', q⟩ := pl_loop (some (.dat (.tup (bs.map pr)))) (some (.dat (.tup (us.map D.int)))) m bs us 0 0 1 none none none (by simp) (by have := h.le; omega) hi (ext_sm h)
  rw [Int.one_mul, Int.zero_add] at q
  simp [F_place_in, fnRun_ap, den_place_in, enter, bD, setAll, zip2V, q]
theorem is_whole_ok (i : Int) (m : Mem) : F_is_whole [.dat (.int i)] m = .ok (.dat (.bl true)) m := by
  simp [F_is_whole, fnRun_ap, den_is_whole, enter, isiV, tyName, tyIs]
theorem is_between_ok {i a b : Int} (h1 : a ≤ i) (h2 : i ≤ b) (m : Mem) : F_is_between [.dat (.int i), .dat (.int a), .dat (.int b)] m = .ok (.dat (.bl true)) m := by
  simp [F_is_between, fnRun_ap, den_is_between, enter, is_whole_ok, h1, h2]
def ri1 : DS := (dSetF ["Reach"] "lines" (dVar 0) (dVar 2))
def ri2 : DS := (dSetF ["Reach"] "bases" (dVar 0) (dDisp (kpC (dVar 1) (dC (.int 0)) kpN)))
def ri3 : DS := (dSetF ["Reach"] "steps" (dVar 0) (dDisp (kpC (dVar 1) (dA mkLst dNil) kpN)))
def ri4 : DS := (dSetF ["Reach"] "order" (dVar 0) (dA mkOwn (dCons (dVar 1) dNil)))
def ri5 : DS := (dSet 3 (dC (.int 0)))
def ri6 : DS := (dWhile 1000 ts4_Reach___init__ lp3_Reach___init__)
theorem ri_split : den_Reach___init__ = dSeq ri1 (dSeq ri2 (dSeq ri3 (dSeq ri4 (dSeq ri5 (ri6))))) := rfl
def RF (M : Mem) (L : D) : List (Str × SV) := [("lines", .dat L), ("bases", .ref (M.length + 4)), ("steps", .ref (M.length + 6)), ("order", .ref (M.length + 8))]
def RM (M : Mem) (L : D) (bs ss : List (Key × D)) (os : List D) : Mem :=
  M ++ [.dead, .odx, .dead, .dead, .dct bs, .dead, .dct ss, .dead, .lst os, .obj M.length "Reach" (RF M L)]
section
variable (M : Mem) (L : D) (bs ss : List (Key × D)) (os : List D)
theorem rm_len : (RM M L bs ss os).length = M.length + 10 := by simp [RM]
theorem rm_obj : objAt M.length (RM M L bs ss os) = some (M.length + 9, ("Reach" : Str), RF M L) := by
  unfold RM
  rw [objAt_app]
  simp [objGo]
theorem rm_4 : (RM M L bs ss os)[M.length + 4]? = some (.dct bs) := by simp [RM]
theorem rm_6 : (RM M L bs ss os)[M.length + 6]? = some (.dct ss) := by simp [RM]
theorem rm_8 : (RM M L bs ss os)[M.length + 8]? = some (.lst os) := by simp [RM]
theorem rm_s4 (x : List (Key × D)) : (RM M L bs ss os).set (M.length + 4) (.dct x) = RM M L x ss os := by simp [RM]
theorem rm_s6 (x : List (Key × D)) : (RM M L bs ss os).set (M.length + 6) (.dct x) = RM M L bs x os := by simp [RM]
theorem rm_s8 (x : List D) : (RM M L bs ss os).set (M.length + 8) (.lst x) = RM M L bs ss x := by simp [RM]
theorem rm_lines : fldV ["Reach"] "lines" (.ref M.length) (RM M L bs ss os) = .ok (.dat L) (RM M L bs ss os) := by
  have : ("Reach" : Str) ∈ [("Reach" : Str)] := by simp
  simp only [fldV, rm_obj, this, if_true]
  rfl
theorem rm_bases : fldV ["Reach"] "bases" (.ref M.length) (RM M L bs ss os) = .ok (.ref (M.length + 4)) (RM M L bs ss os) := by
  have : ("Reach" : Str) ∈ [("Reach" : Str)] := by simp
  simp only [fldV, rm_obj, this, if_true]
  rfl
theorem rm_steps : fldV ["Reach"] "steps" (.ref M.length) (RM M L bs ss os) = .ok (.ref (M.length + 6)) (RM M L bs ss os) := by
  have : ("Reach" : Str) ∈ [("Reach" : Str)] := by simp
  simp only [fldV, rm_obj, this, if_true]
  rfl
theorem rm_order : fldV ["Reach"] "order" (.ref M.length) (RM M L bs ss os) = .ok (.ref (M.length + 8)) (RM M L bs ss os) := by
  have : ("Reach" : Str) ∈ [("Reach" : Str)] := by simp
  simp only [fldV, rm_obj, this, if_true]
  rfl
end
def R0 (M : Mem) : Mem := M ++ [.dead] ++ [.odx] ++ [.obj M.length "Reach" []]
def R1 (M : Mem) (L : D) : Mem := M ++ [.dead, .odx, .dead, .obj M.length "Reach" [("lines", .dat L)]]
theorem ri1_ok (M : Mem) (L : D) (x : Option SV) : ri1 [some (.ref M.length), x, some (.dat L), none, none, none, none, none, none] (R0 M) = .ok (.nx [some (.ref M.length), x, some (.dat L), none, none, none, none, none, none]) (R1 M L) := by
  have e : objAt M.length (R0 M) = some (M.length + 2, ("Reach" : Str), ([] : List (Str × SV))) := by
    unfold R0
    rw [List.append_assoc, List.append_assoc, objAt_app]
    simp [objGo]
  simp [ri1, dSetF, setFV, e, putFS]
  simp [R0, R1]
def R2 (M : Mem) (L : D) (bs : List (Key × D)) : Mem := M ++ [.dead, .odx, .dead, .dead, .dct bs, .obj M.length "Reach" [("lines", .dat L), ("bases", .ref (M.length + 4))]]
def R3 (M : Mem) (L : D) (bs ss : List (Key × D)) : Mem := M ++ [.dead, .odx, .dead, .dead, .dct bs, .dead, .dct ss, .obj M.length "Reach" [("lines", .dat L), ("bases", .ref (M.length + 4)), ("steps", .ref (M.length + 6))]]
theorem ri2_ok (M : Mem) (L : D) (k : Int) (y : Option SV) : ri2 [some (.ref M.length), some (.dat (.int k)), y, none, none, none, none, none, none] (R1 M L) = .ok (.nx [some (.ref M.length), some (.dat (.int k)), y, none, none, none, none, none, none]) (R2 M L [(Sum.inl k, .int 0)]) := by
  have e : dDisp (kpC (dVar 1) (dC (.int 0)) kpN) [some (.ref M.length), some (.dat (.int k)), y, none, none, none, none, none, none] (R1 M L) = .ok (.ref (M.length + 4)) (R1 M L ++ [.dct [(Sum.inl k, .int 0)]]) := by
    simp [dDisp, kpC, kpN, consKp, keyD, mergeI, dPutI, R1, P.ret]
  have o : objAt M.length (R1 M L ++ [.dct [(Sum.inl k, .int 0)]]) = some (M.length + 3, ("Reach" : Str), ([(("lines" : Str), SV.dat L)] : List (Str × SV))) := by
    unfold R1
    rw [List.append_assoc, objAt_app]
    simp [objGo]
  have n : ¬ (("lines" : Str) = "bases") := by decide +kernel
  simp only [ri2, dSetF]
  simp [e, setFV, o, putFS, n]
  simp [R1, R2]
theorem ri3_ok (M : Mem) (L : D) (bs : List (Key × D)) (k : Int) (y : Option SV) : ri3 [some (.ref M.length), some (.dat (.int k)), y, none, none, none, none, none, none] (R2 M L bs) = .ok (.nx [some (.ref M.length), some (.dat (.int k)), y, none, none, none, none, none, none]) (R3 M L bs [(Sum.inl k, .lst [])]) := by
  have e : dDisp (kpC (dVar 1) (dA mkLst dNil) kpN) [some (.ref M.length), some (.dat (.int k)), y, none, none, none, none, none, none] (R2 M L bs) = .ok (.ref (M.length + 6)) (R2 M L bs ++ [.dct [(Sum.inl k, .lst [])]]) := by
    simp [dDisp, kpC, kpN, consKp, keyD, mergeI, dPutI, R2, P.ret, mkLst, allDat]
  have o : objAt M.length (R2 M L bs ++ [.dct [(Sum.inl k, .lst [])]]) = some (M.length + 5, ("Reach" : Str), ([(("lines" : Str), SV.dat L), (("bases" : Str), SV.ref (M.length + 4))] : List (Str × SV))) := by
    unfold R2
    rw [List.append_assoc, objAt_app]
    simp [objGo]
  have n : ¬ (("lines" : Str) = "steps") := by decide +kernel
  have n2 : ¬ (("bases" : Str) = "steps") := by decide +kernel
  simp only [ri3, dSetF]
  simp [e, setFV, o, putFS, n, n2]
  simp [R2, R3]
theorem ri4_ok (M : Mem) (L : D) (bs ss : List (Key × D)) (k : Int) (y : Option SV) : ri4 [some (.ref M.length), some (.dat (.int k)), y, none, none, none, none, none, none] (R3 M L bs ss) = .ok (.nx [some (.ref M.length), some (.dat (.int k)), y, none, none, none, none, none, none]) (RM M L bs ss [.int k]) := by
  have o : objAt M.length (R3 M L bs ss ++ [.lst [.int k]]) = some (M.length + 7, ("Reach" : Str), ([(("lines" : Str), SV.dat L), (("bases" : Str), SV.ref (M.length + 4)), (("steps" : Str), SV.ref (M.length + 6))] : List (Str × SV))) := by
    unfold R3
    rw [List.append_assoc, objAt_app]
    simp [objGo]
  have l : (R3 M L bs ss).length = M.length + 8 := by simp [R3]
  have n : ¬ (("lines" : Str) = "order") := by decide +kernel
  have n2 : ¬ (("bases" : Str) = "order") := by decide +kernel
  have n3 : ¬ (("steps" : Str) = "order") := by decide +kernel
  simp only [ri4, dSetF]
  simp [mkOwn, allDat, setFV, o, putFS, n, n2, n3, l]
  simp [R3, RM, RF]
abbrev Bs := List (Nat × Int)
def itD (e : Nat × Int) : D := .tup [.int e.1, .int e.2]
def lineD (l : GP.Ln) : D := .lst (l.map itD)
def linesD (ls : List GP.Ln) : D := .lst (ls.map lineD)
def bsD (B : Bs) : List (Key × D) := B.map fun e => (Sum.inl (e.1 : Int), D.int e.2)
def osD (B : Bs) : List D := B.map fun e => D.int e.1
def ksB (B : Bs) : List Nat := B.map (·.1)
def bAt (B : Bs) (v : Nat) : Option Int := (B.find? fun e => e.1 == v).map (·.2)
theorem getI_cons (k k' : Key) (d : D) (r : List (Key × D)) : dGetI ((k', d) :: r) k = if k' = k then some d else dGetI r k := by
  unfold dGetI
  rw [List.find?_cons]
  by_cases h : k' = k
  · simp [h]
  · simp [h]
theorem bs_get : ∀ (B : Bs) (v : Nat), dGetI (bsD B) (Sum.inl (v : Int)) = (bAt B v).map D.int
  | [], v => rfl
  | e :: r, v => by
    have ih := bs_get r v
    show dGetI ((Sum.inl (e.1 : Int), D.int e.2) :: bsD r) _ = _
    rw [getI_cons, ih]
    unfold bAt
    rw [List.find?_cons]
    by_cases h : e.1 = v
    · subst h; simp
    · have h1 : ¬ ((Sum.inl (e.1 : Int) : Key) = Sum.inl (v : Int)) := fun z => h (by have := Sum.inl.inj z; omega)
      have h2 : (e.1 == v) = false := by simpa using h
      rw [if_neg h1]
      simp [h2]
theorem bAt_none {B : Bs} {v : Nat} : bAt B v = none ↔ v ∉ ksB B := by
  unfold bAt ksB
  rw [Option.map_eq_none_iff, List.find?_eq_none]
  constructor
  · intro h hv
    obtain ⟨e, he, rfl⟩ := List.mem_map.mp hv
    exact h e he (by simp)
  · intro h e he hc
    exact h (List.mem_map.mpr ⟨e, he, by simpa using hc⟩)
theorem bAt_mem {B : Bs} {v : Nat} {b : Int} (h : bAt B v = some b) : (v, b) ∈ B := by
  unfold bAt at h
  obtain ⟨e, h1, h2⟩ := Option.map_eq_some_iff.mp h
  have h3 := List.find?_some h1
  have h4 := List.mem_of_find?_eq_some h1
  obtain ⟨e1, e2⟩ := e
  have h5 : e1 = v := by simpa using h3
  simp only at h2
  subst h5 h2
  exact h4
theorem putI_new {kvs : List (Key × D)} {k : Key} (h : k ∉ kvs.map (·.1)) (x : D) : dPutI kvs k x = kvs ++ [(k, x)] := by
  unfold dPutI
  rw [if_neg]
  intro hc
  obtain ⟨e, he, h2⟩ := List.any_eq_true.mp hc
  exact h (List.mem_map.mpr ⟨e, he, by simpa using h2⟩)
theorem getI_some {kvs : List (Key × D)} {k : Key} (h : k ∈ kvs.map (·.1)) : ∃ x, dGetI kvs k = some x ∧ (k, x) ∈ kvs := by
  induction kvs with
  | nil => cases h
  | cons e r ih =>
    obtain ⟨k', d⟩ := e
    rw [getI_cons]
    by_cases hk : k' = k
    · subst hk
      exact ⟨d, by simp, List.mem_cons_self⟩
    · rw [if_neg hk]
      rcases List.mem_cons.mp h with h | h
      · exact absurd h.symm hk
      · obtain ⟨x, h1, h2⟩ := ih h
        exact ⟨x, h1, List.mem_cons_of_mem _ h2⟩
theorem getI_none {kvs : List (Key × D)} {k : Key} (h : k ∉ kvs.map (·.1)) : dGetI kvs k = none := by
  induction kvs with
  | nil => rfl
  | cons e r ih =>
    obtain ⟨k', d⟩ := e
    rw [getI_cons]
    rw [List.map_cons, List.mem_cons] at h
    rw [if_neg fun z => h (.inl z.symm)]
    exact ih fun z => h (.inr z)
theorem nodup_lt : ∀ (n : Nat) {xs : List Nat}, xs.Nodup → (∀ x ∈ xs, x < n) → xs.length ≤ n
  | 0, xs, _, h => by
    cases xs with
    | nil => exact Nat.le_refl _
    | cons x r => exact absurd (h x List.mem_cons_self) (Nat.not_lt_zero _)
  | n + 1, xs, hd, h => by
    have ih := nodup_lt n (xs := xs.erase n) (hd.erase n) fun x hx => by
      have h1 := h x (List.mem_of_mem_erase hx)
      have h2 : x ≠ n := fun z => by subst z; exact (List.Nodup.not_mem_erase hd) hx
      omega
    have := List.length_erase_le (a := n) (l := xs)
    have h3 : xs.length ≤ (xs.erase n).length + 1 := by
      rw [List.length_erase]
      split <;> omega
    omega
structure BI (ls : List GP.Ln) (n s : Nat) (B : Bs) (ss : List (Key × D)) : Prop where
  nd : (ksB B).Nodup
  lt : ∀ v ∈ ksB B, v < n
  s0 : (s, 0) ∈ B
  rc : ∀ e ∈ B, GP.Rc ls s e.1 e.2
  sk : ss.map (·.1) = B.map fun e => (Sum.inl (e.1 : Int) : Key)
  sv : ∀ e ∈ ss, ∃ xs, e.2 = .lst xs ∧ xs.length < B.length
theorem BI.len {ls : List GP.Ln} {n s : Nat} {B : Bs} {ss : List (Key × D)} (h : BI ls n s B ss) : B.length ≤ n := by
  have := nodup_lt n h.nd h.lt
  simpa [ksB] using this
theorem BI.ssl {ls : List GP.Ln} {n s : Nat} {B : Bs} {ss : List (Key × D)} (h : BI ls n s B ss) : ss.length = B.length := by
  have := congrArg List.length h.sk
  simpa using this
theorem in_keys {B : Bs} {v : Nat} : (Sum.inl (v : Int) : Key) ∈ (B.map fun e => (Sum.inl (e.1 : Int) : Key)) ↔ v ∈ ksB B := by
  unfold ksB
  rw [List.mem_map, List.mem_map]
  constructor
  · rintro ⟨e, he, h⟩
    exact ⟨e, he, by have := Sum.inl.inj h; omega⟩
  · rintro ⟨e, he, rfl⟩
    exact ⟨e, he, rfl⟩
theorem BI.add {ls : List GP.Ln} {n s : Nat} {B : Bs} {ss : List (Key × D)} (h : BI ls n s B ss) {l : GP.Ln} (hl : l ∈ ls) {one v : Nat} {p q b : Int} (hp : (one, p) ∈ l) (hq : (v, q) ∈ l) (hb : (one, b) ∈ B) (hv : v ∉ ksB B) (hn : v < n) {xs : List D} (hx : xs.length < B.length) (y : D) :
    BI ls n s (B ++ [(v, b + p - q)]) (ss ++ [(Sum.inl (v : Int), .lst (xs ++ [y]))]) := by
  refine ⟨?_, fun w hw => ?_, List.mem_append_left _ h.s0, fun e he => ?_, by simp [h.sk], fun e he => ?_⟩
  · unfold ksB at hv ⊢
    rw [List.map_append, List.nodup_append]
    refine ⟨h.nd, by simp, fun x hx y hy => ?_⟩
    have : y = v := by simpa using hy
    subst this
    exact fun z => hv (by rw [← z]; exact hx)
  · have : w ∈ ksB B ∨ w = v := by simpa [ksB] using hw
    rcases this with h1 | h1
    · exact h.lt w h1
    · rw [h1]; exact hn
  · rcases List.mem_append.mp he with he | he
    · exact h.rc e he
    · rw [List.mem_singleton.mp he]
      exact .step (h.rc _ hb) hl hp hq
  · rcases List.mem_append.mp he with he | he
    · obtain ⟨xs', h1, h2⟩ := h.sv e he
      exact ⟨xs', h1, by simp; omega⟩
    · rw [List.mem_singleton.mp he]
      exact ⟨_, rfl, by simp; omega⟩
theorem ix_at {xs : List D} {k : Nat} {d : D} (h : xs[k]? = some d) (m : Mem) : ixV (.dat (.lst xs)) (.dat (.int (k : Int))) m = .ok (.dat d) m := by
  have hk := (List.getElem?_eq_some_iff.mp h).1
  simp [ixV, rdSq, rdL, atI, ixN, hk]
  exact (List.getElem?_eq_some_iff.mp h).2
theorem ix_ref {m : Mem} {n : Nat} {xs : List D} (hm : m[n]? = some (.lst xs)) {k : Nat} {d : D} (h : xs[k]? = some d) : ixV (.ref n) (.dat (.int (k : Int))) m = .ok (.dat d) m := by
  have hk := (List.getElem?_eq_some_iff.mp h).1
  simp [ixV, rdSq, rdL, hm, atI, ixN, hk]
  exact (List.getElem?_eq_some_iff.mp h).2
def enumF (xs : List D) (k : Nat) : List D := (xs.zipIdx k).map fun p => D.tup [.int (p.2 : Int), p.1]
theorem enumF_cons (x : D) (xs : List D) (k : Nat) : enumF (x :: xs) k = .tup [.int (k : Int), x] :: enumF xs (k + 1) := rfl
theorem enum_ok (xs : List D) (m : Mem) : enumV [.dat (.lst xs)] m = .ok (enumF xs 0) m := by simp [enumV, seqD, enumD, enumF]
theorem go_in {M : Mem} {L : D} {bs ss : List (Key × D)} {os : List D} {e1 e2 e3 e4 e5 e7 : Option SV} {v : Int} {d : D} (h : dGetI bs (Sum.inl v) = some d) :
    lp1_Reach_go_on [some (.ref M.length), e1, e2, e3, e4, e5, some (.dat (.int v)), e7] (RM M L bs ss os) = .ok (.nx [some (.ref M.length), e1, e2, e3, e4, e5, some (.dat (.int v)), e7]) (RM M L bs ss os) := by
  simp [lp1_Reach_go_on, dFld, rm_bases, notInKV, notInKC, rm_4, keyD, h]
theorem go_new {M : Mem} {L : D} {bs ss : List (Key × D)} {os xs : List D} {n a one p to v w b : Int} (h : dGetI bs (Sum.inl v) = none) (h1 : dGetI bs (Sum.inl one) = some (.int b)) (h2 : dGetI ss (Sum.inl one) = some (.lst xs)) (l1 : bs.length < 16777216) (l2 : ss.length < 16777216) (l3 : os.length < 16777216) (l4 : xs.length < 1000) :
    lp1_Reach_go_on [some (.ref M.length), some (.dat (.int n)), some (.dat (.int a)), some (.dat (.int one)), some (.dat (.int p)), some (.dat (.int to)), some (.dat (.int v)), some (.dat (.int w))] (RM M L bs ss os) = .ok (.nx [some (.ref M.length), some (.dat (.int n)), some (.dat (.int a)), some (.dat (.int one)), some (.dat (.int p)), some (.dat (.int to)), some (.dat (.int v)), some (.dat (.int w))]) (RM M L (dPutI bs (Sum.inl v) (.int (b + p - w))) (dPutI ss (Sum.inl v) (.lst (xs ++ [.tup [.int n, .int a, .int to]]))) (os ++ [.int v])) := by
  simp [lp1_Reach_go_on, dFld, rm_bases, rm_steps, rm_order, notInKV, notInKC, rm_4, rm_6, rm_8, keyD, h, h1, h2, itemV, itemC, dPutD, putV, putC, l1, l2, l3, rm_s4, rm_s6, rm_s8, mkLst, mkTup, allDat, addV, show xs.length ≤ 16777215 by omega, rdL]
theorem go_loop {M : Mem} {L : D} {ls : List GP.Ln} {n s : Nat} (hn : n ≤ 40) {l : GP.Ln} (hl : l ∈ ls) (hlt : ∀ e ∈ l, e.1 < n) {num a : Int} {one : Nat} {p : Int} (hp : (one, p) ∈ l) :
    ∀ (r : GP.Ln) (k : Nat) (B : Bs) (ss : List (Key × D)) (e5 e6 e7 : Option SV), (∀ e ∈ r, e ∈ l) → BI ls n s B ss → one ∈ ksB B →
      ∃ B' ss' e5' e6' e7', loopF (gT 2 (gsC (gN 5) (gsC (gT 2 (gsC (gN 6) (gsC (gN 7) gsN))) gsN))) lp1_Reach_go_on (enumF (r.map itD) k) [some (.ref M.length), some (.dat (.int num)), some (.dat (.int a)), some (.dat (.int (one : Int))), some (.dat (.int p)), e5, e6, e7] (RM M L (bsD B) ss (osD B))
        = .ok (.nx [some (.ref M.length), some (.dat (.int num)), some (.dat (.int a)), some (.dat (.int (one : Int))), some (.dat (.int p)), e5', e6', e7']) (RM M L (bsD B') ss' (osD B')) ∧ B <+: B' ∧ BI ls n s B' ss' ∧ ∀ q ∈ r, q.1 ∈ ksB B'
  | [], k, B, ss, e5, e6, e7, hr, h, ho => ⟨B, ss, e5, e6, e7, rfl, List.prefix_refl _, h, fun q hq => by cases hq⟩
  | (v, w) :: r, k, B, ss, e5, e6, e7, hr, h, ho => by
    have hin := hr _ List.mem_cons_self
    have hvn := hlt _ hin
    have hlen := h.len
    have hsl := h.ssl
    rw [List.map_cons, enumF_cons]
    by_cases hv : v ∈ ksB B
    · obtain ⟨b0, hb0⟩ : ∃ b, bAt B v = some b := by
        cases hb : bAt B v with
        | none => exact absurd hv (bAt_none.mp hb)
        | some b => exact ⟨b, rfl⟩
      have g := go_in (M := M) (L := L) (bs := bsD B) (ss := ss) (os := osD B) (e1 := some (.dat (.int num))) (e2 := some (.dat (.int a))) (e3 := some (.dat (.int (one : Int)))) (e4 := some (.dat (.int p))) (e5 := some (.dat (.int (k : Int)))) (e7 := some (.dat (.int w))) (v := (v : Int)) (d := .int b0) (by rw [bs_get, hb0]; rfl)
      obtain ⟨B', ss', a1, a2, a3, q1, q2, q3, q4⟩ := go_loop hn hl hlt hp r (k + 1) B ss (some (.dat (.int (k : Int)))) (some (.dat (.int (v : Int)))) (some (.dat (.int w))) (fun e he => hr e (List.mem_cons_of_mem _ he)) h ho
      refine ⟨B', ss', a1, a2, a3, (loopF_nx rfl g).trans q1, q2, q3, fun q hq => ?_⟩
      rcases List.mem_cons.mp hq with hq | hq
      · rw [hq]
        exact (List.map_subset _ q2.subset) hv
      · exact q4 q hq
    · obtain ⟨b, hb⟩ : ∃ b, bAt B one = some b := by
        cases hb : bAt B one with
        | none => exact absurd ho (bAt_none.mp hb)
        | some b => exact ⟨b, rfl⟩
      obtain ⟨x, hx1, hx2⟩ := getI_some (kvs := ss) (k := Sum.inl (one : Int)) (by rw [h.sk]; exact in_keys.mpr ho)
      obtain ⟨xs, hx3, hx4⟩ := h.sv _ hx2
      simp only at hx3
      subst hx3
      have g := go_new (M := M) (L := L) (bs := bsD B) (ss := ss) (os := osD B) (xs := xs) (n := num) (a := a) (one := (one : Int)) (p := p) (to := (k : Int)) (v := (v : Int)) (w := w) (b := b) (by rw [bs_get, bAt_none.mpr hv]; rfl) (by rw [bs_get, hb]; rfl) hx1 (by simp [bsD]; omega) (by omega) (by simp [osD]; omega) (by omega)
      have p1 : dPutI (bsD B) (Sum.inl (v : Int)) (.int (b + p - w)) = bsD (B ++ [(v, b + p - w)]) := by
        rw [putI_new (by
          have : (bsD B).map (·.1) = B.map fun e => (Sum.inl (e.1 : Int) : Key) := by simp [bsD]
          rw [this]
          exact fun z => hv (in_keys.mp z))]
        simp [bsD]
      have p2 : dPutI ss (Sum.inl (v : Int)) (.lst (xs ++ [.tup [.int num, .int a, .int (k : Int)]])) = ss ++ [(Sum.inl (v : Int), .lst (xs ++ [.tup [.int num, .int a, .int (k : Int)]]))] := putI_new (by
        rw [h.sk]
        exact fun z => hv (in_keys.mp z)) _
      have p3 : osD B ++ [.int (v : Int)] = osD (B ++ [(v, b + p - w)]) := by simp [osD]
      rw [p1, p2, p3] at g
      have h' := h.add hl hp hin (bAt_mem hb) hv hvn hx4 (.tup [.int num, .int a, .int (k : Int)])
      obtain ⟨B', ss', a1, a2, a3, q1, q2, q3, q4⟩ := go_loop hn hl hlt hp r (k + 1) _ _ (some (.dat (.int (k : Int)))) (some (.dat (.int (v : Int)))) (some (.dat (.int w))) (fun e he => hr e (List.mem_cons_of_mem _ he)) h' (by simp [ksB] at ho ⊢; exact .inl ho)
      refine ⟨B', ss', a1, a2, a3, (loopF_nx rfl g).trans q1, (List.prefix_append _ _).trans q2, q3, fun q hq => ?_⟩
      rcases List.mem_cons.mp hq with hq | hq
      · rw [hq]
        exact (List.map_subset _ q2.subset) (by simp)
      · exact q4 q hq
theorem rm_tkw (M : Mem) (L : D) (bs ss : List (Key × D)) (os : List D) : (RM M L bs ss os).take (M.length + 10) = RM M L bs ss os := List.take_of_length_le (by rw [rm_len]; omega)
theorem go_on_ok {M : Mem} {ls : List GP.Ln} {n s : Nat} (hn : n ≤ 40) {num a : Nat} {l : GP.Ln} (h1 : ls[num]? = some l) (hlt : ∀ e ∈ l, e.1 < n) {one : Nat} {p : Int} (h2 : l[a]? = some (one, p)) {B : Bs} {ss : List (Key × D)} (h : BI ls n s B ss) (ho : one ∈ ksB B) :
    ∃ B' ss', F_Reach_go_on [.ref M.length, .dat (.int (num : Int)), .dat (.int (a : Int))] (RM M (linesD ls) (bsD B) ss (osD B)) = .ok (.dat .non) (RM M (linesD ls) (bsD B') ss' (osD B')) ∧ B <+: B' ∧ BI ls n s B' ss' ∧ ∀ q ∈ l, q.1 ∈ ksB B' := by
  have i1 : ∀ m, ixV (.dat (linesD ls)) (.dat (.int (num : Int))) m = .ok (.dat (lineD l)) m := ix_at (by rw [List.getElem?_map, h1]; rfl)
  have i2 : ∀ m, ixV (.dat (lineD l)) (.dat (.int (a : Int))) m = .ok (.dat (itD (one, p))) m := ix_at (by rw [List.getElem?_map, h2]; rfl)
  have en : ∀ m, enumV [.dat (lineD l)] m = .ok (enumF (l.map itD) 0) m := enum_ok _
  obtain ⟨B', ss', a1, a2, a3, q1, q2, q3, q4⟩ := go_loop (M := M) (L := linesD ls) (num := (num : Int)) (a := (a : Int)) hn (List.mem_of_getElem? h1) hlt (List.mem_of_getElem? h2) l 0 B ss none none none (fun e he => he) h ho
  refine ⟨B', ss', ?_, q2, q3, q4⟩
  simp [F_Reach_go_on, fnRun_ap, den_Reach_go_on, enter, dFld, rm_lines, i1, i2, en]
  have g : gT 2 (gsC (gN 3) (gsC (gN 4) gsN)) (itD (one, p)) [some (.ref M.length), some (.dat (.int (num : Int))), some (.dat (.int (a : Int))), none, none, none, none, none] = some [some (.ref M.length), some (.dat (.int (num : Int))), some (.dat (.int (a : Int))), some (.dat (.int (one : Int))), some (.dat (.int p)), none, none, none] := rfl
  simp [g, i1, en, rm_lines, dFld]
  rw [q1]
  simp [rm_len, rm_tkw]
theorem it_no {M : Mem} {L : D} {bs ss : List (Key × D)} {os : List D} {e1 e2 e4 e5 e6 e8 : Option SV} {j v w : Int} (ho : ixV (.ref (M.length + 8)) (.dat (.int j)) (RM M L bs ss os) = .ok (.dat (.int w)) (RM M L bs ss os)) (h : v ≠ w) :
    lp1_Reach___init__ [some (.ref M.length), e1, e2, some (.dat (.int j)), e4, e5, e6, some (.dat (.int v)), e8] (RM M L bs ss os) = .ok (.nx [some (.ref M.length), e1, e2, some (.dat (.int j)), e4, e5, e6, some (.dat (.int v)), e8]) (RM M L bs ss os) := by
  simp [lp1_Reach___init__, dFld, rm_order, ho, h]
theorem clsR {M : Mem} {L : D} {bs ss : List (Key × D)} {os : List D} : clsV (.ref M.length) (RM M L bs ss os) = some (("Reach" : Str), [("lines" : Str), "bases", "steps", "order"]) := by
  simp [clsV, rm_obj, RF]
theorem it_yes {M : Mem} {L : D} {bs ss bs' ss' : List (Key × D)} {os os' : List D} {e1 e2 e5 e8 : Option SV} {j v n a : Int} (ho : ixV (.ref (M.length + 8)) (.dat (.int j)) (RM M L bs ss os) = .ok (.dat (.int v)) (RM M L bs ss os))
    (h : F_Reach_go_on [.ref M.length, .dat (.int n), .dat (.int a)] (RM M L bs ss os) = .ok (.dat .non) (RM M L bs' ss' os')) :
    lp1_Reach___init__ [some (.ref M.length), e1, e2, some (.dat (.int j)), some (.dat (.int n)), e5, some (.dat (.int a)), some (.dat (.int v)), e8] (RM M L bs ss os) = .ok (.nx [some (.ref M.length), e1, e2, some (.dat (.int j)), some (.dat (.int n)), e5, some (.dat (.int a)), some (.dat (.int v)), e8]) (RM M L bs' ss' os') := by
  have k : ¬ (("go_on" : Str) = "lines") := by decide +kernel
  have k2 : ¬ (("go_on" : Str) = "bases") := by decide +kernel
  have k3 : ¬ (("go_on" : Str) = "steps") := by decide +kernel
  have k4 : ¬ (("go_on" : Str) = "order") := by decide +kernel
  simp [lp1_Reach___init__, dFld, rm_order, ho, dMeth, clsR, h, k, k2, k3, k4]
theorem ts_ok {M : Mem} {L : D} {bs ss : List (Key × D)} {os : List D} {e1 e2 e4 e5 e6 e7 e8 : Option SV} {j : Int} : ts4_Reach___init__ [some (.ref M.length), e1, e2, some (.dat (.int j)), e4, e5, e6, e7, e8] (RM M L bs ss os) = .ok (decide (j < os.length)) (RM M L bs ss os) := by
  simp [ts4_Reach___init__, dFld, rm_order, lenV, rdSq, rdL, rm_8]
theorem ks_pre {B B' : Bs} (h : B <+: B') : ksB B <+: ksB B' := h.map _
theorem ks_at {B B' : Bs} (h : B <+: B') {j u : Nat} (hj : (ksB B)[j]? = some u) : (ksB B')[j]? = some u := by
  obtain ⟨t, ht⟩ := ks_pre h
  rw [← ht, List.getElem?_append_left (List.getElem?_eq_some_iff.mp hj).1]
  exact hj
theorem os_at {B : Bs} {j u : Nat} (hj : (ksB B)[j]? = some u) : (osD B)[j]? = some (.int (u : Int)) := by
  have e : osD B = (ksB B).map fun v : Nat => D.int (v : Int) := by simp [osD, ksB]
  rw [e, List.getElem?_map, hj]
  rfl
theorem ks_sub {B B' : Bs} (h : B <+: B') {v : Nat} (hv : v ∈ ksB B) : v ∈ ksB B' := (ks_pre h).subset hv
theorem in_loop {M : Mem} {ls : List GP.Ln} {n s : Nat} (hn : n ≤ 40) {num : Nat} {l : GP.Ln} (hl : ls[num]? = some l) (hlt : ∀ e ∈ l, e.1 < n) {u j : Nat} (e1 e2 : Option SV) :
    ∀ (r pre : GP.Ln) (B : Bs) (ss : List (Key × D)) (e6 e7 e8 : Option SV), l = pre ++ r → BI ls n s B ss → (ksB B)[j]? = some u →
      ∃ B' ss' e6' e7' e8', loopF (gT 2 (gsC (gN 6) (gsC (gT 2 (gsC (gN 7) (gsC (gN 8) gsN))) gsN))) lp1_Reach___init__ (enumF (r.map itD) pre.length) [some (.ref M.length), e1, e2, some (.dat (.int (j : Int))), some (.dat (.int (num : Int))), some (.dat (lineD l)), e6, e7, e8] (RM M (linesD ls) (bsD B) ss (osD B))
        = .ok (.nx [some (.ref M.length), e1, e2, some (.dat (.int (j : Int))), some (.dat (.int (num : Int))), some (.dat (lineD l)), e6', e7', e8']) (RM M (linesD ls) (bsD B') ss' (osD B')) ∧ B <+: B' ∧ BI ls n s B' ss' ∧ ∀ e ∈ r, e.1 = u → ∀ q ∈ l, q.1 ∈ ksB B'
  | [], pre, B, ss, e6, e7, e8, he, h, hj => ⟨B, ss, e6, e7, e8, rfl, List.prefix_refl _, h, fun e he => by cases he⟩
  | (v, p) :: r, pre, B, ss, e6, e7, e8, he, h, hj => by
    have ho := ix_ref (rm_8 M (linesD ls) (bsD B) ss (osD B)) (os_at hj)
    have hat : l[pre.length]? = some (v, p) := by rw [he]; simp
    have hpre : l = (pre ++ [(v, p)]) ++ r := by rw [he]; simp
    have hlen : (pre ++ [(v, p)]).length = pre.length + 1 := by simp
    rw [List.map_cons, enumF_cons]
    by_cases hv : v = u
    · subst hv
      obtain ⟨B1, ss1, g1, g2, g3, g4⟩ := go_on_ok (M := M) hn hl hlt hat h (List.mem_of_getElem? hj)
      have y := it_yes (e1 := e1) (e2 := e2) (e5 := some (.dat (lineD l))) (e8 := some (.dat (.int p))) ho g1
      obtain ⟨B', ss', a1, a2, a3, q1, q2, q3, q4⟩ := in_loop hn hl hlt e1 e2 r (pre ++ [(v, p)]) B1 ss1 (some (.dat (.int (pre.length : Int)))) (some (.dat (.int (v : Int)))) (some (.dat (.int p))) hpre g3 (ks_at g2 hj)
      rw [hlen] at q1
      refine ⟨B', ss', a1, a2, a3, (loopF_nx rfl y).trans q1, g2.trans q2, q3, fun e hm hu => ?_⟩
      exact fun q hq => ks_sub q2 (g4 q hq)
    · have y := it_no (M := M) (L := linesD ls) (bs := bsD B) (ss := ss) (os := osD B) (e1 := e1) (e2 := e2) (e4 := some (.dat (.int (num : Int)))) (e5 := some (.dat (lineD l))) (e6 := some (.dat (.int (pre.length : Int)))) (e8 := some (.dat (.int p))) (v := (v : Int)) ho (by omega)
      obtain ⟨B', ss', a1, a2, a3, q1, q2, q3, q4⟩ := in_loop hn hl hlt e1 e2 r (pre ++ [(v, p)]) B ss (some (.dat (.int (pre.length : Int)))) (some (.dat (.int (v : Int)))) (some (.dat (.int p))) hpre h hj
      rw [hlen] at q1
      refine ⟨B', ss', a1, a2, a3, (loopF_nx rfl y).trans q1, q2, q3, fun e hm hu => ?_⟩
      rcases List.mem_cons.mp hm with z | z
      · rw [z] at hu
        exact absurd hu hv
      · exact q4 e z hu
theorem ln_loop {M : Mem} {ls : List GP.Ln} {n s : Nat} (hn : n ≤ 40) (hlt : ∀ l ∈ ls, ∀ e ∈ l, e.1 < n) {u j : Nat} (e1 e2 : Option SV) :
    ∀ (rs pre : List GP.Ln) (B : Bs) (ss : List (Key × D)) (e4 e5 e6 e7 e8 : Option SV), ls = pre ++ rs → BI ls n s B ss → (ksB B)[j]? = some u →
      ∃ B' ss' e4' e5' e6' e7' e8', loopF (gT 2 (gsC (gN 4) (gsC (gN 5) gsN))) lp2_Reach___init__ (enumF (rs.map lineD) pre.length) [some (.ref M.length), e1, e2, some (.dat (.int (j : Int))), e4, e5, e6, e7, e8] (RM M (linesD ls) (bsD B) ss (osD B))
        = .ok (.nx [some (.ref M.length), e1, e2, some (.dat (.int (j : Int))), e4', e5', e6', e7', e8']) (RM M (linesD ls) (bsD B') ss' (osD B')) ∧ B <+: B' ∧ BI ls n s B' ss' ∧ ∀ l ∈ rs, ∀ e ∈ l, e.1 = u → ∀ q ∈ l, q.1 ∈ ksB B'
  | [], pre, B, ss, e4, e5, e6, e7, e8, he, h, hj => ⟨B, ss, e4, e5, e6, e7, e8, rfl, List.prefix_refl _, h, fun e he => by cases he⟩
  | l :: rs, pre, B, ss, e4, e5, e6, e7, e8, he, h, hj => by
    have hat : ls[pre.length]? = some l := by rw [he]; simp
    have hpre : ls = (pre ++ [l]) ++ rs := by rw [he]; simp
    have hlen : (pre ++ [l]).length = pre.length + 1 := by simp
    rw [List.map_cons, enumF_cons]
    obtain ⟨B1, ss1, b1, b2, b3, g1, g2, g3, g4⟩ := in_loop (M := M) hn hat (hlt l (List.mem_of_getElem? hat)) e1 e2 l [] B ss e6 e7 e8 rfl h hj
    have en : ∀ m, enumV [.dat (lineD l)] m = .ok (enumF (l.map itD) 0) m := enum_ok _
    have y : lp2_Reach___init__ [some (.ref M.length), e1, e2, some (.dat (.int (j : Int))), some (.dat (.int (pre.length : Int))), some (.dat (lineD l)), e6, e7, e8] (RM M (linesD ls) (bsD B) ss (osD B)) = .ok (.nx [some (.ref M.length), e1, e2, some (.dat (.int (j : Int))), some (.dat (.int (pre.length : Int))), some (.dat (lineD l)), b1, b2, b3]) (RM M (linesD ls) (bsD B1) ss1 (osD B1)) := by
      simp [lp2_Reach___init__, en]
      exact g1
    obtain ⟨B', ss', a4, a5, a6, a7, a8, q1, q2, q3, q4⟩ := ln_loop hn hlt e1 e2 rs (pre ++ [l]) B1 ss1 (some (.dat (.int (pre.length : Int)))) (some (.dat (lineD l))) b1 b2 b3 hpre g3 (ks_at g2 hj)
    rw [hlen] at q1
    refine ⟨B', ss', a4, a5, a6, a7, a8, (loopF_nx rfl y).trans q1, g2.trans q2, q3, fun l' hl' => ?_⟩
    rcases List.mem_cons.mp hl' with z | z
    · rw [z]
      exact fun e he hu q hq => ks_sub q2 (g4 e he hu q hq)
    · exact q4 l' z
def Whole (ls : List GP.Ln) (B : Bs) : Prop := ∀ l ∈ ls, ∀ e ∈ l, e.1 ∈ ksB B → ∀ q ∈ l, q.1 ∈ ksB B
theorem wh_loop {M : Mem} {ls : List GP.Ln} {n s : Nat} (hn : n ≤ 40) (hlt : ∀ l ∈ ls, ∀ e ∈ l, e.1 < n) (e1 : Option SV) :
    ∀ (fuel j : Nat) (B : Bs) (ss : List (Key × D)) (e4 e5 e6 e7 e8 : Option SV), BI ls n s B ss → j ≤ B.length → n < fuel + j →
      (∀ i u, i < j → (ksB B)[i]? = some u → ∀ l ∈ ls, ∀ e ∈ l, e.1 = u → ∀ q ∈ l, q.1 ∈ ksB B) →
      ∃ B' ss' env', loopW ts4_Reach___init__ lp3_Reach___init__ fuel [some (.ref M.length), e1, some (.dat (linesD ls)), some (.dat (.int (j : Int))), e4, e5, e6, e7, e8] (RM M (linesD ls) (bsD B) ss (osD B))
        = .ok (.nx env') (RM M (linesD ls) (bsD B') ss' (osD B')) ∧ BI ls n s B' ss' ∧ Whole ls B'
  | 0, j, B, ss, e4, e5, e6, e7, e8, h, h1, h2, h3 => by
    have := h.len
    omega
  | fuel + 1, j, B, ss, e4, e5, e6, e7, e8, h, h1, h2, h3 => by
    have t := ts_ok (M := M) (L := linesD ls) (bs := bsD B) (ss := ss) (os := osD B) (e1 := e1) (e2 := some (.dat (linesD ls))) (e4 := e4) (e5 := e5) (e6 := e6) (e7 := e7) (e8 := e8) (j := (j : Int))
    have ol : (osD B).length = B.length := by simp [osD]
    rw [ol] at t
    by_cases hj : j < B.length
    · obtain ⟨u, hu⟩ : ∃ u, (ksB B)[j]? = some u := ⟨_, List.getElem?_eq_getElem (by simpa [ksB] using hj)⟩
      rw [show decide ((j : Int) < (B.length : Int)) = true by simpa using hj] at t
      obtain ⟨B1, ss1, b4, b5, b6, b7, b8, g1, g2, g3, g4⟩ := ln_loop (M := M) hn hlt e1 (some (.dat (linesD ls))) ls [] B ss e4 e5 e6 e7 e8 rfl h hu
      have en : ∀ m, enumV [.dat (linesD ls)] m = .ok (enumF (ls.map lineD) 0) m := enum_ok _
      have y : lp3_Reach___init__ [some (.ref M.length), e1, some (.dat (linesD ls)), some (.dat (.int (j : Int))), e4, e5, e6, e7, e8] (RM M (linesD ls) (bsD B) ss (osD B)) = .ok (.nx [some (.ref M.length), e1, some (.dat (linesD ls)), some (.dat (.int ((j + 1 : Nat) : Int))), b4, b5, b6, b7, b8]) (RM M (linesD ls) (bsD B1) ss1 (osD B1)) := by
        simp [lp3_Reach___init__, en]
        rw [List.length_nil] at g1
        rw [g1]
        simp
      obtain ⟨B', ss', env', q1, q2, q3⟩ := wh_loop hn hlt e1 fuel (j + 1) B1 ss1 b4 b5 b6 b7 b8 g3 (by have := g2.length_le; omega) (by omega) fun i w hi hw => by
        rcases Nat.lt_or_ge i j with z | z
        · have hw0 : (ksB B)[i]? = some w := by
            obtain ⟨tl, ht⟩ := ks_pre g2
            rw [← ht, List.getElem?_append_left (by simp [ksB]; omega)] at hw
            exact hw
          exact fun l hl e he hu' q hq => ks_sub g2 (h3 i w z hw0 l hl e he hu' q hq)
        · have : i = j := by omega
          subst this
          rw [ks_at g2 hu] at hw
          cases hw
          exact g4
      refine ⟨B', ss', env', ?_, q2, q3⟩
      unfold loopW
      show R.bnd (ts4_Reach___init__ _ _) _ = _
      rw [t, bnd_ok]
      show R.bnd (lp3_Reach___init__ _ _) _ = _
      rw [y, bnd_ok]
      exact q1
    · have ej : j = B.length := by omega
      rw [show decide ((j : Int) < (B.length : Int)) = false by simp; omega] at t
      refine ⟨B, ss, [some (.ref M.length), e1, some (.dat (linesD ls)), some (.dat (.int (j : Int))), e4, e5, e6, e7, e8], ?_, h, fun l hl e he hk q hq => ?_⟩
      · unfold loopW
        show R.bnd (ts4_Reach___init__ _ _) _ = _
        rw [t, bnd_ok]
        rfl
      · obtain ⟨i, hi, hie⟩ := List.getElem_of_mem hk
        exact h3 i e.1 (by simp [ksB] at hi; omega) (by rw [List.getElem?_eq_getElem hi, hie]) l hl e he rfl q hq
theorem reach_ok (M : Mem) {ls : List GP.Ln} {n s : Nat} (hn : n ≤ 40) (hlt : ∀ l ∈ ls, ∀ e ∈ l, e.1 < n) (hs : s < n) :
    ∃ B ss, F_Reach___init__ [.ref M.length, .dat (.int (s : Int)), .dat (linesD ls)] (R0 M) = .ok (.dat .non) (RM M (linesD ls) (bsD B) ss (osD B)) ∧ BI ls n s B ss ∧ Whole ls B := by
  have b0 : BI ls n s [(s, 0)] [(Sum.inl (s : Int), .lst [])] := ⟨by simp [ksB], fun v hv => by simp [ksB] at hv; omega, List.mem_cons_self, fun e he => by rw [List.mem_singleton.mp he]; exact .refl, by simp, fun e he => by rw [List.mem_singleton.mp he]; exact ⟨[], rfl, by simp⟩⟩
  obtain ⟨B, ss, env', q1, q2, q3⟩ := wh_loop (M := M) hn hlt (some (.dat (.int (s : Int)))) 1000 0 [(s, 0)] [(Sum.inl (s : Int), .lst [])] none none none none none b0 (Nat.zero_le _) (by omega) fun i u hi => by omega
  refine ⟨B, ss, ?_, q2, q3⟩
  simp only [F_Reach___init__, fnRunK, ri_split, enter, List.map, List.length_cons, List.length_nil, List.replicate, List.cons_append, List.nil_append]
  rw [dSeq_ap]
  have r5 : ∀ m, ri5 [some (.ref M.length), some (.dat (.int (s : Int))), some (.dat (linesD ls)), none, none, none, none, none, none] m = .ok (.nx [some (.ref M.length), some (.dat (.int (s : Int))), some (.dat (linesD ls)), some (.dat (.int 0)), none, none, none, none, none]) m := fun m => by simp [ri5]
  have e1 : bsD [(s, 0)] = [(Sum.inl (s : Int), D.int 0)] := rfl
  have e2 : osD [(s, 0)] = [D.int (s : Int)] := rfl
  rw [e1, e2] at q1
  have q1 : loopW ts4_Reach___init__ lp3_Reach___init__ 1000 [some (.ref M.length), some (.dat (.int (s : Int))), some (.dat (linesD ls)), some (.dat (.int 0)), none, none, none, none, none] (RM M (linesD ls) [(Sum.inl (s : Int), D.int 0)] [(Sum.inl (s : Int), .lst [])] [.int (s : Int)]) = .ok (.nx env') (RM M (linesD ls) (bsD B) ss (osD B)) := q1
  simp [ri1_ok, ri2_ok, ri3_ok, ri4_ok, r5, ri6, dSeq_ap, q1]
open GP (Tb Gr gof)
def fdD (t : Tb) : List (Key × D) := t.map fun e => (Sum.inl (e.1 : Int), .tup [.int (e.2.1 : Int), .int e.2.2])
theorem fd_keys (t : Tb) : (fdD t).map (·.1) = (GP.keys t).map fun v : Nat => (Sum.inl (v : Int) : Key) := by simp [fdD, GP.keys]
theorem inl_mem {xs : List Nat} {v : Nat} : (Sum.inl (v : Int) : Key) ∈ (xs.map fun v : Nat => (Sum.inl (v : Int) : Key)) ↔ v ∈ xs := by
  rw [List.mem_map]
  constructor
  · rintro ⟨w, hw, h⟩
    have : (w : Int) = v := Sum.inl.inj h
    rw [show v = w by omega]
    exact hw
  · exact fun h => ⟨v, h, rfl⟩
theorem fd_none {t : Tb} {v : Nat} (h : v ∉ GP.keys t) : dGetI (fdD t) (Sum.inl (v : Int)) = none := getI_none (by rw [fd_keys]; exact fun z => h (inl_mem.mp z))
theorem fd_some {t : Tb} {v : Nat} (h : v ∈ GP.keys t) : dGetI (fdD t) (Sum.inl (v : Int)) = some (.tup [.int ((gof t v).1 : Int), .int (gof t v).2]) := by
  induction t with
  | nil => cases h
  | cons e r ih =>
    show dGetI ((Sum.inl (e.1 : Int), _) :: fdD r) _ = _
    rw [getI_cons]
    by_cases hv : e.1 = v
    · subst hv
      simp [gof, GP.look]
    · have h1 : ¬ ((Sum.inl (e.1 : Int) : Key) = Sum.inl (v : Int)) := fun z => hv (by have := Sum.inl.inj z; omega)
      rw [if_neg h1, ih (by
        rcases List.mem_cons.mp h with z | z
        · exact absurd z.symm hv
        · exact z)]
      have h2 : (e.1 == v) = false := by simpa using hv
      simp [gof, GP.look, List.find?_cons, h2]
theorem merge_new : ∀ {more kvs : List (Key × D)}, (more.map (·.1)).Nodup → (∀ k ∈ more.map (·.1), k ∉ kvs.map (·.1)) → mergeI kvs more = kvs ++ more
  | [], kvs, _, _ => by simp [mergeI]
  | (k, x) :: r, kvs, hn, hd => by
    rw [List.map_cons, List.nodup_cons] at hn
    show mergeI (dPutI kvs k x) r = _
    rw [putI_new (hd k List.mem_cons_self), merge_new hn.2 fun k' hk' => by
      rw [List.map_append, List.mem_append]
      rintro (z | z)
      · exact hd k' (List.mem_cons_of_mem _ hk') z
      · rw [show k' = k by simpa using z] at hk'
        exact hn.1 hk']
    simp
def rowsD (s : Nat) (B : Bs) : List (Key × D) := B.map fun e => (Sum.inl (e.1 : Int), .tup [.int (s : Int), .int e.2])
theorem dc_loop {s : Nat} {e0 e1 e2 e4 : Option SV} {Y : Mem} : ∀ (r pre : Bs), ((pre ++ r).map (·.1)).Nodup → (pre ++ r).length < 1000 →
    loopDc Y.length (gT 2 (gsC (gN 5) (gsC (gN 6) gsN))) dYes ce1_groups_of ce2_groups_of [e0, e1, e2, some (.dat (.int (s : Int))), e4, none, none] (r.map itD) (Y ++ [.dct (rowsD s pre)]) = .ok () (Y ++ [.dct (rowsD s (pre ++ r))])
  | [], pre, _, _ => by rw [List.append_nil]; rfl
  | (v, b) :: r, pre, hn, hl => by
    have ih := dc_loop (s := s) (e0 := e0) (e1 := e1) (e2 := e2) (e4 := e4) (Y := Y) r (pre ++ [(v, b)]) (by rw [List.append_assoc]; exact hn) (by rw [List.append_assoc]; exact hl)
    rw [List.append_assoc] at ih
    have hv : v ∉ pre.map (·.1) := fun z => by
      rw [List.map_append, List.nodup_append] at hn
      exact hn.2.2 v z v (by simp) rfl
    have hp : dPutI (rowsD s pre) (Sum.inl (v : Int)) (.tup [.int (s : Int), .int b]) = rowsD s (pre ++ [(v, b)]) := by
      rw [putI_new (by
        have : (rowsD s pre).map (·.1) = (pre.map (·.1)).map fun v : Nat => (Sum.inl (v : Int) : Key) := by simp [rowsD]
        rw [this]
        exact fun z => hv (inl_mem.mp z))]
      simp [rowsD]
    have hlp : (rowsD s pre).length < 16777216 := by
      rw [List.length_append] at hl
      simp [rowsD]
      omega
    have hcell : (Y ++ [Cell.dct (rowsD s pre)])[Y.length]? = some (.dct (rowsD s pre)) := by simp
    have hset : ∀ z, (Y ++ [Cell.dct (rowsD s pre)]).set Y.length (.dct z) = Y ++ [.dct z] := fun z => by simp
    rw [List.map_cons]
    unfold loopDc
    have g : gT 2 (gsC (gN 5) (gsC (gN 6) gsN)) (itD (v, b)) [e0, e1, e2, some (.dat (.int (s : Int))), e4, none, none] = some [e0, e1, e2, some (.dat (.int (s : Int))), e4, some (.dat (.int (v : Int))), some (.dat (.int b))] := rfl
    rw [g]
    have k1 : ce1_groups_of [e0, e1, e2, some (.dat (.int (s : Int))), e4, some (.dat (.int (v : Int))), some (.dat (.int b))] (Y ++ [.dct (rowsD s pre)]) = .ok (.dat (.int (v : Int))) (Y ++ [.dct (rowsD s pre)]) := by simp [ce1_groups_of]
    have k2 : ce2_groups_of [e0, e1, e2, some (.dat (.int (s : Int))), e4, some (.dat (.int (v : Int))), some (.dat (.int b))] (Y ++ [.dct (rowsD s pre)]) = .ok (.dat (.tup [.int (s : Int), .int b])) (Y ++ [.dct (rowsD s pre)]) := by simp [ce2_groups_of, mkTup, allDat]
    show R.bnd (R.ok true (Y ++ [Cell.dct (rowsD s pre)])) _ = _
    rw [bnd_ok]
    show R.bnd (ce1_groups_of _ _) _ = _
    rw [k1, bnd_ok]
    show R.bnd (ce2_groups_of _ _) _ = _
    rw [k2, bnd_ok]
    show R.bnd (putDc Y.length _ _ _) _ = _
    have pd : putDc Y.length (.dat (.int (v : Int))) (.dat (.tup [.int (s : Int), .int b])) (Y ++ [Cell.dct (rowsD s pre)]) = .ok () (Y ++ [.dct (rowsD s (pre ++ [(v, b)]))]) := by
      simp [putDc, keyD, hcell, hlp, hset, hp]
    rw [pd, bnd_ok]
    exact ih
theorem items_bs (B : Bs) (m : Mem) : itemsKV (.dat (.dk ((bsD B).map (·.1)) ((bsD B).map (·.2)))) m = .ok (B.map itD) m := by
  have : ∀ B : Bs, ((((bsD B).map (·.1)).zip ((bsD B).map (·.2))).map fun p : Key × D => D.tup [(match p.1 with | .inl i => .int i | .inr x => .str x), p.2]) = B.map itD := fun B => by
    induction B with
    | nil => rfl
    | cons e r ih =>
      simp only [bsD, List.map_cons, List.zip_cons_cons] at ih ⊢
      rw [ih]
      rfl
  exact congrArg (fun l => R.ok l m) (this B)
theorem gt_turn {m X : Mem} {ls : List GP.Ln} {n s : Nat} {t : Tb} (hX : X[m.length]? = some (.dct (fdD t))) (hT : X.take m.length = m) (G : Gr n ls t) (low : ∀ u, u < s → u ∈ GP.keys t) (hs : s < n) (hn : n ≤ 40) (hlt : ∀ l ∈ ls, ∀ e ∈ l, e.1 < n) (e0 e4 : Option SV) :
    ∃ e4' X' t', lp3_groups_of [e0, some (.dat (linesD ls)), some (.ref m.length), some (.dat (.int (s : Int))), e4, none, none] X = .ok (.nx [e0, some (.dat (linesD ls)), some (.ref m.length), some (.dat (.int (s : Int))), e4', none, none]) X' ∧ X'[m.length]? = some (.dct (fdD t')) ∧ X'.take m.length = m ∧ Gr n ls t' ∧ ∀ u, u < s + 1 → u ∈ GP.keys t' := by
  have hml : m.length < X.length := (List.getElem?_eq_some_iff.mp hX).1
  by_cases hk : s ∈ GP.keys t
  · refine ⟨e4, X, t, ?_, hX, hT, G, fun u hu => ?_⟩
    · have := fd_some hk
      simp [lp3_groups_of, notInKV, notInKC, hX, keyD, this]
    · rcases Nat.lt_or_ge u s with z | z
      · exact low u z
      · rw [show u = s by omega]; exact hk
  · obtain ⟨B, ss, r1, bi, wh⟩ := reach_ok X hn hlt hs
    have mk : mkO "Reach" 3 F_Reach___init__ [.dat (.int (s : Int)), .dat (linesD ls)] X = .ok (.ref X.length) (RM X (linesD ls) (bsD B) ss (osD B)) := by
      unfold R0 at r1
      simp only [mkO]
      rw [if_pos (by rfl), r1]
    have hlen := bi.len
    have h1 : (RM X (linesD ls) (bsD B) ss (osD B))[m.length]? = some (.dct (fdD t)) := by
      unfold RM
      rw [List.getElem?_append_left hml, hX]
    have hy0 : ((RM X (linesD ls) (bsD B) ss (osD B)).set (X.length + 4) .dead)[m.length]? = some (.dct (fdD t)) := by
      rw [List.getElem?_set_ne (by omega)]
      exact h1
    have hyt : ((RM X (linesD ls) (bsD B) ss (osD B)).set (X.length + 4) .dead).take m.length = m := by
      rw [List.take_set_of_le (by omega)]
      unfold RM
      rw [List.take_append_of_le_length (by omega), hT]
    have hyl : ((RM X (linesD ls) (bsD B) ss (osD B)).set (X.length + 4) .dead).length = X.length + 10 := by rw [List.length_set, rm_len]
    have bz : dFzK (dFld ["Reach"] "bases" (dVar 4)) [e0, some (.dat (linesD ls)), some (.ref m.length), some (.dat (.int (s : Int))), some (.ref X.length), none, none] (RM X (linesD ls) (bsD B) ss (osD B)) = .ok (.dat (.dk ((bsD B).map (·.1)) ((bsD B).map (·.2)))) ((RM X (linesD ls) (bsD B) ss (osD B)).set (X.length + 4) .dead) := by
      simp [dFzK, dFld, rm_bases, fzK, rm_4]
    generalize ((RM X (linesD ls) (bsD B) ss (osD B)).set (X.length + 4) .dead) = Y at *
    have lp := dc_loop (s := s) (e0 := e0) (e1 := some (.dat (linesD ls))) (e2 := some (.ref m.length)) (e4 := some (.ref X.length)) (Y := Y) B [] bi.nd (by simp; omega)
    rw [List.nil_append] at lp
    have r0 : rowsD s [] = [] := rfl
    rw [r0] at lp
    have it := items_bs B
    have hadd := G.add hk low bi.nd bi.lt bi.s0 bi.rc wh
    have hfd : mergeI (fdD t) (rowsD s B) = fdD (t ++ B.map fun e => (e.1, s, e.2)) := by
      have kr : (rowsD s B).map (·.1) = (ksB B).map fun v : Nat => (Sum.inl (v : Int) : Key) := by simp [rowsD, ksB]
      rw [merge_new]
      · simp [fdD, rowsD]
      · rw [kr]
        exact bi.nd.map (f := fun v : Nat => (Sum.inl (v : Int) : Key)) fun a b ne z => ne (by have := Sum.inl.inj z; omega)
      · rw [kr, fd_keys]
        intro k hk1 hk2
        obtain ⟨v, hv, rfl⟩ := List.mem_map.mp hk1
        obtain ⟨e, he, rfl⟩ := List.mem_map.mp hv
        exact G.far hk (bi.rc e he) (inl_mem.mp hk2)
    refine ⟨some (.ref X.length), (Y ++ [Cell.dct (rowsD s B)]).set m.length (.dct (fdD (t ++ B.map fun e => (e.1, s, e.2)))), _, ?_, by rw [List.getElem?_set_self (by simp; omega)], by rw [List.take_set_of_le (by omega), List.take_append_of_le_length (by omega), hyt], hadd, fun u hu => GP.keys_add.mpr ?_⟩
    · have hq : (Y ++ [Cell.dct (rowsD s B)])[m.length]? = some (.dct (fdD t)) := by rw [List.getElem?_append_left (by omega), hy0]
      have hn' : ¬ m.length = Y.length := by omega
      have g0 := fd_none hk
      have tl : t.length ≤ n := by
        have := nodup_lt n G.nd G.lt
        simpa [GP.keys] using this
      have lf : (fdD t).length + (rowsD s B).length ≤ 16777216 := by simp [fdD, rowsD]; omega
      simp [lp3_groups_of, dMake, mk, notInKV, notInKC, hX, keyD, dUpd, updA, h1, isDc, dDc, dItKV, bz, g0, it, wipeE, lp, updC, hq, hn', hfd, lf]
    · rcases Nat.lt_or_ge u s with z | z
      · exact .inl (low u z)
      · rw [show u = s by omega]
        exact .inr (List.mem_map.mpr ⟨_, bi.s0, rfl⟩)
theorem gr_loop {m : Mem} {ls : List GP.Ln} {n : Nat} (hn : n ≤ 40) (hlt : ∀ l ∈ ls, ∀ e ∈ l, e.1 < n) (e0 : Option SV) :
    ∀ (k s : Nat) (X : Mem) (t : Tb) (e3 e4 : Option SV), s + k = n → X[m.length]? = some (.dct (fdD t)) → X.take m.length = m → Gr n ls t → (∀ u, u < s → u ∈ GP.keys t) →
      ∃ e3' e4' X' t', loopF (gN 3) lp3_groups_of (rngD (s : Int) k) [e0, some (.dat (linesD ls)), some (.ref m.length), e3, e4, none, none] X = .ok (.nx [e0, some (.dat (linesD ls)), some (.ref m.length), e3', e4', none, none]) X' ∧ X'[m.length]? = some (.dct (fdD t')) ∧ X'.take m.length = m ∧ Gr n ls t' ∧ ∀ u, u < n → u ∈ GP.keys t'
  | 0, s, X, t, e3, e4, hk, hX, hT, G, low => ⟨e3, e4, X, t, by simp [rngD, loopF_nil], hX, hT, G, fun u hu => low u (by omega)⟩
  | k + 1, s, X, t, e3, e4, hk, hX, hT, G, low => by
    obtain ⟨e4', X', t', q1, q2, q3, q4, q5⟩ := gt_turn hX hT G low (by omega) hn hlt e0 e4
    obtain ⟨e3'', e4'', X'', t'', p1, p2⟩ := gr_loop hn hlt e0 k (s + 1) X' t' (some (.dat (.int (s : Int)))) e4' (by omega) q2 q3 q4 q5
    refine ⟨e3'', e4'', X'', t'', ?_, p2⟩
    have er : rngD (s : Int) (k + 1) = .int (s : Int) :: rngD ((s + 1 : Nat) : Int) k := by
      simp [rngD, List.range_succ_eq_map, Function.comp_def]
      intro a _
      omega
    rw [er]
    exact (loopF_nx rfl q1).trans p1
def grD (n : Nat) (g : Nat → Nat × Int) : D := .lst ((List.range n).map fun v => .tup [.int ((g v).1 : Int), .int (g v).2])
theorem groups_ok {ls : List GP.Ln} {n : Nat} (hn : n ≤ 40) (hlt : ∀ l ∈ ls, ∀ e ∈ l, e.1 < n) (m : Mem) : ∃ g, GP.Sp n ls g ∧ F_groups_of [.dat (.int (n : Int)), .dat (linesD ls)] m = .ok (.dat (grD n g)) m := by
  obtain ⟨e3, e4, X, t, q1, q2, q3, q4, q5⟩ := gr_loop (m := m) hn hlt (some (.dat (.int (n : Int)))) n 0 (m ++ [.dct []]) [] none none (by omega) (by simp [fdD]) (by simp) (GP.gr_nil n ls) fun u hu => by omega
  refine ⟨gof t, q4.sp q5 hlt, ?_⟩
  have rg : ∀ m, rng1V [.dat (.int (n : Int))] m = .ok (rngD 0 n) m := fun m => by
    simp [rng1V]
    omega
  have lc : noX (loopC (gN 5) dYes ce4_groups_of [some (.dat (.int (n : Int))), some (.dat (linesD ls)), some (.ref m.length), e3, e4, none, none] (rngD 0 n) []) X = .ok ((rngD 0 n).map fun d => match d with | .int i => .tup [.int ((gof t i.toNat).1 : Int), .int (gof t i.toNat).2] | d => d) X := by
    refine loopC_all _ _ (fun d hd => ?_) (by simp [rngD]; omega)
    simp [rngD] at hd
    obtain ⟨v, hv, rfl⟩ := hd
    have := fd_some (q5 v hv)
    exact ⟨[some (.dat (.int (n : Int))), some (.dat (linesD ls)), some (.ref m.length), e3, e4, some (.dat (.int (v : Int))), none], rfl, by simp [ce4_groups_of, itemV, itemC, q2, keyD, this]⟩
  have em : ((rngD 0 n).map fun d => match d with | .int i => D.tup [.int ((gof t i.toNat).1 : Int), .int (gof t i.toNat).2] | d => d) = (List.range n).map fun v => .tup [.int ((gof t v).1 : Int), .int (gof t v).2] := by
    simp [rngD]
  rw [em] at lc
  have z : ((0 : Nat) : Int) = 0 := rfl
  rw [z] at q1
  simp [F_groups_of, fnRun_ap, den_groups_of, enter, dNewD, rg]
  rw [q1]
  simp [rg, wipeE, lc, q3, grD]
theorem pair_all {b : Bd} (h : -FAR ≤ b.1 ∧ b.1 ≤ b.2 ∧ b.2 ≤ FAR) (e0 e1 e2 e3 e4 : Option SV) (m : Mem) : noX (loopC (gN 4) dYes ce1_is_bounds [e0, e1, e2, e3, e4] [.int b.1, .int b.2] []) m = .ok [.bl true, .bl true] m := by
  unfold FAR at h
  rw [loopC_all (fun _ => .bl true)]
  · rfl
  · intro d hd
    simp only [List.mem_cons, List.not_mem_nil, or_false] at hd
    rcases hd with rfl | rfl
    · exact ⟨[e0, e1, e2, e3, some (.dat (.int b.1))], rfl, by simp [ce1_is_bounds, is_between_ok (i := b.1) (a := -1000000000000000000000000000000) (b := 1000000000000000000000000000000) (by omega) (by omega)]⟩
    · exact ⟨[e0, e1, e2, e3, some (.dat (.int b.2))], rfl, by simp [ce1_is_bounds, is_between_ok (i := b.2) (a := -1000000000000000000000000000000) (b := 1000000000000000000000000000000) (by omega) (by omega)]⟩
  · simp
theorem bnd_turn {b : Bd} (h : -FAR ≤ b.1 ∧ b.1 ≤ b.2 ∧ b.2 ≤ FAR) (e0 : Option SV) (m : Mem) : lp2_is_bounds [e0, some (.dat (pr b)), none, none, none] m = .ok (.nx [e0, some (.dat (pr b)), none, none, none]) m := by
  have q := pair_all h e0 (some (.dat (pr b))) none none none m
  simp [lp2_is_bounds, pr, isiV, tyName, tyIs, lenV, rdSq, rdL, itemsV, wipeE] at q ⊢
  simp [q, allV, rdL, asBs]
theorem bnds_loop (e0 : Option SV) (m : Mem) : ∀ (bs : List Bd) (x : Option SV), (∀ b ∈ bs, -FAR ≤ b.1 ∧ b.1 ≤ b.2 ∧ b.2 ≤ FAR) →
    ∃ x', loopF (gN 1) lp2_is_bounds (bs.map pr) [e0, x, none, none, none] m = .ok (.nx [e0, x', none, none, none]) m
  | [], x, _ => ⟨x, by simp [loopF_nil]⟩
  | b :: r, x, h => by
    obtain ⟨x', q⟩ := bnds_loop e0 m r (some (.dat (pr b))) fun y hy => h y (List.mem_cons_of_mem _ hy)
    exact ⟨x', (loopF_nx (env2 := [e0, some (.dat (pr b)), none, none, none]) (m2 := m) rfl (bnd_turn (h b List.mem_cons_self) e0 m)).trans q⟩
theorem is_bounds_ok {bs : List Bd} (h : VB bs) (m : Mem) : F_is_bounds [.dat (bD bs)] m = .ok (.dat (.bl true)) m := by
  obtain ⟨x', q⟩ := bnds_loop (some (.dat (.tup (bs.map pr)))) m bs none h.in1
  have hl := h.le
  have c : noX (loopC (gT 2 (gsC (gN 2) (gsC (gN 3) gsN))) dYes ce3_is_bounds [some (.dat (.tup (bs.map pr))), x', none, none, none] (bs.map pr) []) m = .ok ((bs.map pr).map fun _ => .bl true) m := by
    refine loopC_all (fun _ => .bl true) _ (fun d hd => ?_) (by simp; omega)
    obtain ⟨b, hb, rfl⟩ := List.mem_map.mp hd
    have := (h.in1 b hb).2.1
    exact ⟨[some (.dat (.tup (bs.map pr))), x', some (.dat (.int b.1)), some (.dat (.int b.2)), none], rfl, by simp [ce3_is_bounds, this]⟩
  have al : asBs ((bs.map pr).map fun _ => D.bl true) = some (List.replicate bs.length true) := by
    have : ∀ l : List Bd, asBs ((l.map pr).map fun _ => D.bl true) = some (List.replicate l.length true) := fun l => by
      induction l with
      | nil => rfl
      | cons y l ih => simp [asBs] at ih ⊢; simp [ih, List.replicate]
    exact this bs
  simp [F_is_bounds, fnRun_ap, den_is_bounds, enter, bD, isiV, tyName, tyIs, lenV, rdSq, rdL, itemsV, q, show ¬ (7 : Int) < bs.length by omega, wipeE]
  simp at c al
  simp [c, allV, rdL, al]
def vD (nm : Str) (s : Int) (bs : List Bd) : D := .tup [.str nm, .int s, bD bs]
theorem is_variable_ok {nm : Str} {s : Int} {bs : List Bd} (hn : ∀ m, F_is_name [.dat (.str nm)] m = .ok (.dat (.bl true)) m) (h1 : 1 ≤ s) (h2 : s ≤ 16) (h : VB bs) (m : Mem) : F_is_variable [.dat (vD nm s bs)] m = .ok (.dat (.bl true)) m := by
  have i := is_bounds_ok h
  simp [F_is_variable, fnRun_ap, den_is_variable, enter, vD, isiV, tyName, tyIs, lenV, rdSq, rdL, ixV, atI, ixN, hn, is_between_ok h1 h2, i]
theorem is_row_ok {xs : List D} {a b : Int} (h1 : a ≤ xs.length) (h2 : (xs.length : Int) ≤ b) (m : Mem) : F_is_row [.dat (.lst xs), .dat (.int a), .dat (.int b)] m = .ok (.dat (.bl true)) m := by
  simp [F_is_row, fnRun_ap, den_is_row, enter, isiV, tyName, tyIs, lenV, rdSq, rdL, h1, h2]
theorem is_row_okT {xs : List D} {a b : Int} (h1 : a ≤ xs.length) (h2 : (xs.length : Int) ≤ b) (m : Mem) : F_is_row [.dat (.tup xs), .dat (.int a), .dat (.int b)] m = .ok (.dat (.bl true)) m := by
  simp [F_is_row, fnRun_ap, den_is_row, enter, isiV, tyName, tyIs, lenV, rdSq, rdL, h1, h2]
theorem zip_in : ∀ {bs : List Bd} {us : List Int}, inB bs us → ∀ d ∈ zipD2 (bs.map pr) (us.map D.int), ∃ (b : Bd) (u : Int), d = .tup [pr b, .int u] ∧ b.1 ≤ u ∧ u ≤ b.2
  | [], [], _, d, hd => by simp [zipD2] at hd
  | [], _ :: _, h, _, _ => h.elim
  | _ :: _, [], h, _, _ => h.elim
  | b :: r, u :: us, h, d, hd => by
    have e : zipD2 ((b :: r).map pr) ((u :: us).map D.int) = .tup [pr b, .int u] :: zipD2 (r.map pr) (us.map D.int) := rfl
    rw [e] at hd
    rcases List.mem_cons.mp hd with rfl | hd
    · exact ⟨b, u, rfl, h.1, h.2.1⟩
    · exact zip_in h.2.2 d hd
def spD (us : List Int) : D := .tup (us.map D.int)
def mbD (nm : Str) (us : List Int) : D := .tup [.str nm, spD us]
theorem asBs_all : ∀ l : List D, asBs (l.map fun _ => D.bl true) = some (List.replicate l.length true)
  | [] => rfl
  | y :: l => by
    have ih := asBs_all l
    simp [asBs] at ih ⊢
    simp [ih, List.replicate]
theorem is_member_ok {nm : Str} {s : Int} {bs : List Bd} {us : List Int} {kvs : List (Key × D)} {t : Nat} {m : Mem} (hm : m[t]? = some (.dct kvs)) (hg : dGetI kvs (Sum.inr nm) = some (vD nm s bs)) (h : VB bs) (hi : inB bs us) :
    F_is_member [.dat (mbD nm us), .ref t] m = .ok (.dat (.bl true)) m := by
  have hl := AR.inB_len hi
  have hle := h.le
  have c : ∀ e0 e1 e2 e3 : Option SV, noX (loopC (gT 2 (gsC (gT 2 (gsC (gN 5) (gsC (gN 6) gsN))) (gsC (gN 4) gsN))) dYes ce1_is_member [e0, e1, e2, e3, none, none, none] (zipD2 (bs.map pr) (us.map D.int)) []) m = .ok ((zipD2 (bs.map pr) (us.map D.int)).map fun _ => .bl true) m := fun e0 e1 e2 e3 => by
    refine loopC_all (fun _ => .bl true) _ (fun d hd => ?_) (by simp [zipD2]; omega)
    obtain ⟨b, u, rfl, h1, h2⟩ := zip_in hi d hd
    exact ⟨[e0, e1, e2, e3, some (.dat (.int u)), some (.dat (.int b.1)), some (.dat (.int b.2))], rfl, by simp [ce1_is_member, is_between_ok h1 h2]⟩
  have al := asBs_all (zipD2 (bs.map pr) (us.map D.int))
  have i0 : ixV (.dat (mbD nm us)) (.dat (.int 0)) m = .ok (.dat (.str nm)) m := by simp [mbD, ixV, rdSq, rdL, atI, ixN]
  have i1 : ixV (.dat (mbD nm us)) (.dat (.int 1)) m = .ok (.dat (spD us)) m := by simp [mbD, ixV, rdSq, rdL, atI, ixN]
  have i2 : ixV (.dat (vD nm s bs)) (.dat (.int 2)) m = .ok (.dat (bD bs)) m := by simp [vD, ixV, rdSq, rdL, atI, ixN]
  have l1 : lenV [.dat (spD us)] m = .ok (.dat (.int us.length)) m := by simp [spD, lenV, rdSq, rdL]
  have l2 : lenV [.dat (bD bs)] m = .ok (.dat (.int us.length)) m := by simp [bD, lenV, rdSq, rdL, hl]
  have l3 : lenV [.dat (mbD nm us)] m = .ok (.dat (.int 2)) m := by simp [mbD, lenV, rdSq, rdL]
  have t1 : isiV ["tuple"] (.dat (mbD nm us)) m = .ok (.dat (.bl true)) m := by simp [mbD, isiV, tyName, tyIs]
  have t2 : isiV ["tuple"] (.dat (spD us)) m = .ok (.dat (.bl true)) m := by simp [spD, isiV, tyName, tyIs]
  have t3 : isiV ["str"] (.dat (.str nm)) m = .ok (.dat (.bl true)) m := by simp [isiV, tyName, tyIs]
  have n1 : notInKV (.dat (.str nm)) (.ref t) m = .ok (.dat (.bl false)) m := by simp [notInKV, notInKC, hm, keyD, hg]
  have n2 : itemV (.ref t) (.dat (.str nm)) m = .ok (.dat (vD nm s bs)) m := by simp [itemV, itemC, hm, keyD, hg]
  have n3 : notInSV (.dat (.int us.length)) (.dat (.tup [.int 0, .int us.length])) m = .ok (.dat (.bl false)) m := by simp [notInSV, rdSq, flats, flatD, hasD, eqF]
  have z : zip2V [.dat (bD bs), .dat (spD us)] m = .ok (zipD2 (bs.map pr) (us.map D.int)) m := by simp [zip2V, seqD, bD, spD]
  have mk : mkTup [.dat (.int 0), .dat (.int us.length)] m = .ok (.dat (.tup [.int 0, .int us.length])) m := by simp [mkTup, allDat]
  simp only [List.map_const'] at c al
  simp [F_is_member, mk, fnRun_ap, den_is_member, enter, i0, i1, i2, l1, l2, l3, t1, t2, t3, n1, n2, n3, z, wipeE, c, allV, rdL, al]
def ln1 : DS := (dParT [2, 3] (dCons dNewD (dCons dNewD dNil)))
def ln2 : DS := (dFor (dAI enumV (dCons (dVar 0) dNil)) (gT 2 (gsC (gN 4) (gsC (gN 5) gsN))) lp1_lines_of)
def ln3 : DS := (dIfS (dOrT (dNotT (dTr (dA (chk 3 F_is_row) (dCons (dVar 1) (dCons (dC (.int 0)) (dCons (dC (.int 40)) dNil)))))) (dNotT (dTr (dA allV (dCons (dLc [7] (dIt (dVar 1)) (gN 7) dYes ce2_lines_of) dNil))))) dNever dNx)
def ln4 : DS := (dSet 6 (dA mkOwn dNil))
def ln5 : DS := (dFor (dIt (dVar 1)) (gN 7) lp5_lines_of)
def ln6 : DS := (dRet (dVar 6))
theorem ln_split : den_lines_of = dSeq ln1 (dSeq ln2 (dSeq ln3 (dSeq ln4 (dSeq ln5 (ln6))))) := rfl
theorem ln1_ok (x y : SV) (m : Mem) : ln1 [some x, some y, none, none, none, none, none, none, none, none, none] m = .ok (.nx [some x, some y, some (.ref m.length), some (.ref (m.length + 1)), none, none, none, none, none, none, none]) (m ++ [.dct [], .dct []]) := by
  simp [ln1, dNewD, setAll]
theorem ltb_turn {n : Int} {nm : Str} {d : D} {e0 e1 : Option SV} {t : Nat} {m : Mem} {ks ns : List (Key × D)} (e6 : Option SV) (ht : m[t]? = some (.dct ks)) (hn : m[t + 1]? = some (.dct ns)) (hl : ks.length < 16777216) (hl2 : ns.length < 16777216) (h0 : ∀ m, ixV (.dat d) (.dat (.int 0)) m = .ok (.dat (.str nm)) m) :
    lp1_lines_of [e0, e1, some (.ref t), some (.ref (t + 1)), some (.dat (.int n)), some (.dat d), e6, none, none, none, none] m = .ok (.nx [e0, e1, some (.ref t), some (.ref (t + 1)), some (.dat (.int n)), some (.dat d), e6, none, none, none, none]) ((m.set t (.dct (dPutI ks (Sum.inr nm) d))).set (t + 1) (.dct (dPutI ns (Sum.inr nm) (.int n)))) := by
  have h2 : (m.set t (.dct (dPutI ks (Sum.inr nm) d)))[t + 1]? = some (.dct ns) := by rw [List.getElem?_set_ne (by omega)]; exact hn
  simp [lp1_lines_of, dParP, psC, pSub, subP, psN, P.bnd, P.ret, h0, ht, h2, keyD, hl, hl2, putV, putC, toNx]
structure Vb where
  nm : Str
  s : Int
  bs : List Bd
def vbD (v : Vb) : D := vD v.nm v.s v.bs
structure VbOk (v : Vb) : Prop where
  lo : 1 ≤ v.s
  hi : v.s ≤ 16
  b : VB v.bs
  nm : ∀ m, F_is_name [.dat (.str v.nm)] m = .ok (.dat (.bl true)) m
  so : (PyData.str v.nm).canLay0 = true
structure VsOk (vs : List Vb) : Prop where
  one : 1 ≤ vs.length
  few : vs.length ≤ 40
  ok : ∀ v ∈ vs, VbOk v
  dif : (vs.map (·.nm)).Nodup
def Sq (d : D) (xs : List D) : Prop := d = .lst xs ∨ d = .tup xs
theorem sq_items {d : D} {xs : List D} (h : Sq d xs) (m : Mem) : itemsV (.dat d) m = .ok xs m := by rcases h with rfl | rfl <;> simp [itemsV]
theorem sq_len {d : D} {xs : List D} (h : Sq d xs) (m : Mem) : lenV [.dat d] m = .ok (.dat (.int xs.length)) m := by rcases h with rfl | rfl <;> simp [lenV, rdSq, rdL]
theorem sq_enum {d : D} {xs : List D} (h : Sq d xs) (m : Mem) : enumV [.dat d] m = .ok (enumF xs 0) m := by rcases h with rfl | rfl <;> simp [enumV, seqD, enumD, enumF]
theorem sq_row {d : D} {xs : List D} (h : Sq d xs) {a b : Int} (h1 : a ≤ xs.length) (h2 : (xs.length : Int) ≤ b) (m : Mem) : F_is_row [.dat d, .dat (.int a), .dat (.int b)] m = .ok (.dat (.bl true)) m := by
  rcases h with rfl | rfl
  · exact is_row_ok h1 h2 m
  · exact is_row_okT h1 h2 m
theorem sq_ix {d : D} {xs : List D} (h : Sq d xs) {k : Nat} {x : D} (hx : xs[k]? = some x) (m : Mem) : ixV (.dat d) (.dat (.int (k : Int))) m = .ok (.dat x) m := by
  have hk := (List.getElem?_eq_some_iff.mp hx).1
  rcases h with rfl | rfl
  · exact ix_at hx m
  · simp [ixV, rdSq, rdL, atI, ixN, hk]
    exact (List.getElem?_eq_some_iff.mp hx).2
theorem all_true (n : Nat) : (List.replicate n true).all id = true := by simp
theorem vb0 (v : Vb) (m : Mem) : ixV (.dat (vbD v)) (.dat (.int 0)) m = .ok (.dat (.str v.nm)) m := by simp [vbD, vD, ixV, rdSq, rdL, atI, ixN]
theorem vb1 (v : Vb) (m : Mem) : ixV (.dat (vbD v)) (.dat (.int 1)) m = .ok (.dat (.int v.s)) m := by simp [vbD, vD, ixV, rdSq, rdL, atI, ixN]
theorem vb2 (v : Vb) (m : Mem) : ixV (.dat (vbD v)) (.dat (.int 2)) m = .ok (.dat (bD v.bs)) m := by simp [vbD, vD, ixV, rdSq, rdL, atI, ixN]
theorem asSs_map : ∀ xs : List Str, asSs (xs.map D.str) = some xs
  | [] => rfl
  | x :: r => by
    have := asSs_map r
    simp [asSs, this]
theorem check_ok {vs : List Vb} (h : VsOk vs) {d : D} (hd : Sq d (vs.map vbD)) (m : Mem) : F_check_variables [.dat d] m = .ok (.dat .non) m := by
  have h1 := h.one
  have h2 := h.few
  have c1 : noX (loopC (gN 1) dYes ce1_check_variables [some (.dat d), none] (vs.map vbD) []) m = .ok ((vs.map vbD).map fun _ => .bl true) m := by
    refine loopC_all (fun _ => .bl true) _ (fun x hx => ?_) (by simp; omega)
    obtain ⟨v, hv, rfl⟩ := List.mem_map.mp hx
    have o := h.ok v hv
    have := is_variable_ok (nm := v.nm) o.nm o.lo o.hi o.b m
    exact ⟨[some (.dat d), some (.dat (vbD v))], rfl, by simp [ce1_check_variables, vbD, this]⟩
  have c2 : noX (loopC (gN 1) dYes ce2_check_variables [some (.dat d), none] (vs.map vbD) []) m = .ok ((vs.map (·.nm)).map D.str) m := by
    have e : (vs.map vbD).map (fun x => match x with | .tup (y :: _) => y | y => y) = (vs.map (·.nm)).map D.str := by simp [vbD, vD]
    rw [← e]
    refine loopC_all _ _ (fun x hx => ?_) (by simp; omega)
    obtain ⟨v, hv, rfl⟩ := List.mem_map.mp hx
    exact ⟨[some (.dat d), some (.dat (vbD v))], rfl, by simp [ce2_check_variables, vb0]; rfl⟩
  have al := asBs_all (vs.map vbD)
  have r := sq_row hd (a := 1) (b := 40) (by simp; omega) (by simp; omega)
  have l := sq_len hd
  have it := sq_items hd
  have u : uniq [] (vs.map (·.nm)) = vs.map (·.nm) := by rw [uniq_id _ _ (by simpa using h.dif)]; rfl
  have us : lenSetX (.dat (.lst ((vs.map (·.nm)).map D.str))) m = .ok (.dat (.int vs.length)) m := by
    simp only [lenSetX, rdL, asSs_map]
    rw [if_pos (by simp; omega), u, List.length_map]
  have nn : PL.neV (.dat (.int (vs.length : Int))) (.dat (.int ((vs.map vbD).length : Int))) m = .ok (.dat (.bl false)) m := by
    rw [List.length_map]
    simp [PL.neV, svD, okD, eqd, PL.plain, PL.plains, dep, deps, toPy, toPys, PyData.eqv, PyData.eqvAll]
  generalize (vs.map (·.nm)).map D.str = names at *
  generalize vs.map vbD = items at *
  simp [F_check_variables, fnRun_ap, den_check_variables, enter, r, it, wipeE, c1, allV, rdL, al, all_true, c2, us, l, nn]
def tblK (vs : List Vb) : List (Key × D) := vs.map fun v => (Sum.inr v.nm, vbD v)
def numK (vs : List Vb) : List (Key × D) := vs.zipIdx.map fun p => (Sum.inr p.1.nm, .int (p.2 : Int))
theorem tblK_keys (vs : List Vb) : (tblK vs).map (·.1) = (vs.map (·.nm)).map Sum.inr := by simp [tblK]
theorem numK_keys (vs : List Vb) : (numK vs).map (·.1) = (vs.map (·.nm)).map Sum.inr := by
  unfold numK
  rw [List.map_map]
  have : (fun p : Vb × Nat => (Sum.inr p.1.nm : Key)) = (fun v : Vb => (Sum.inr v.nm : Key)) ∘ Prod.fst := rfl
  show vs.zipIdx.map (fun p : Vb × Nat => (Sum.inr p.1.nm : Key)) = _
  rw [this, ← List.map_map]
  simp
theorem inr_mem {xs : List Str} {x : Str} : (Sum.inr x : Key) ∈ xs.map Sum.inr ↔ x ∈ xs := by
  rw [List.mem_map]
  constructor
  · rintro ⟨y, hy, h⟩
    rw [← Sum.inr.inj h]
    exact hy
  · exact fun h => ⟨x, h, rfl⟩
theorem getI_of {kvs : List (Key × D)} (hn : (kvs.map (·.1)).Nodup) {k : Key} {d : D} (h : (k, d) ∈ kvs) : dGetI kvs k = some d := by
  induction kvs with
  | nil => cases h
  | cons e r ih =>
    obtain ⟨k', d'⟩ := e
    rw [List.map_cons, List.nodup_cons] at hn
    rw [getI_cons]
    rcases List.mem_cons.mp h with h | h
    · cases h
      rw [if_pos rfl]
    · rw [if_neg fun z => hn.1 (List.mem_map.mpr ⟨_, h, z.symm⟩)]
      exact ih hn.2 h
theorem tbl_at {vs : List Vb} (hd : (vs.map (·.nm)).Nodup) {i : Nat} {v : Vb} (h : vs[i]? = some v) : dGetI (tblK vs) (Sum.inr v.nm) = some (vbD v) :=
  getI_of (by rw [tblK_keys]; exact hd.map (f := Sum.inr) fun a b ne z => ne (Sum.inr.inj z)) (List.mem_map.mpr ⟨v, List.mem_of_getElem? h, rfl⟩)
theorem num_at {vs : List Vb} (hd : (vs.map (·.nm)).Nodup) {i : Nat} {v : Vb} (h : vs[i]? = some v) : dGetI (numK vs) (Sum.inr v.nm) = some (.int (i : Int)) :=
  getI_of (by rw [numK_keys]; exact hd.map (f := Sum.inr) fun a b ne z => ne (Sum.inr.inj z)) (List.mem_map.mpr ⟨(v, i), List.mem_zipIdx_iff_getElem?.mpr h, rfl⟩)
theorem ln2_loop {e0 e1 : Option SV} {M : Mem} : ∀ (r pre : List Vb) (e4 e5 : Option SV), ((pre ++ r).map (·.nm)).Nodup → (pre ++ r).length ≤ 40 →
    ∃ e4' e5', loopF (gT 2 (gsC (gN 4) (gsC (gN 5) gsN))) lp1_lines_of (enumF (r.map vbD) pre.length) [e0, e1, some (.ref M.length), some (.ref (M.length + 1)), e4, e5, none, none, none, none, none] (M ++ [.dct (tblK pre), .dct (numK pre)])
      = .ok (.nx [e0, e1, some (.ref M.length), some (.ref (M.length + 1)), e4', e5', none, none, none, none, none]) (M ++ [.dct (tblK (pre ++ r)), .dct (numK (pre ++ r))])
  | [], pre, e4, e5, _, _ => ⟨e4, e5, by rw [List.append_nil]; rfl⟩
  | v :: r, pre, e4, e5, hn, hl => by
    have hv : v.nm ∉ pre.map (·.nm) := fun z => by
      rw [List.map_append, List.nodup_append] at hn
      exact hn.2.2 v.nm z v.nm (by simp) rfl
    have hl1 : pre.length < 16777216 := by
      rw [List.length_append] at hl
      omega
    have a := ltb_turn (n := (pre.length : Int)) (nm := v.nm) (d := vbD v) (e0 := e0) (e1 := e1) (t := M.length) (m := M ++ [.dct (tblK pre), .dct (numK pre)]) (ks := tblK pre) (ns := numK pre) none (by simp) (by simp) (by simpa [tblK] using hl1) (by simpa [numK] using hl1) (vb0 v)
    have p1 : dPutI (tblK pre) (Sum.inr v.nm) (vbD v) = tblK (pre ++ [v]) := by
      rw [putI_new (by rw [tblK_keys]; exact fun z => hv (inr_mem.mp z))]
      simp [tblK]
    have p2 : dPutI (numK pre) (Sum.inr v.nm) (.int (pre.length : Int)) = numK (pre ++ [v]) := by
      rw [putI_new (by rw [numK_keys]; exact fun z => hv (inr_mem.mp z))]
      simp [numK, List.zipIdx_append]
    rw [p1, p2] at a
    have em : ((M ++ [Cell.dct (tblK pre), .dct (numK pre)]).set M.length (.dct (tblK (pre ++ [v])))).set (M.length + 1) (.dct (numK (pre ++ [v]))) = M ++ [.dct (tblK (pre ++ [v])), .dct (numK (pre ++ [v]))] := by simp
    rw [em] at a
    obtain ⟨e4', e5', q⟩ := ln2_loop (e0 := e0) (e1 := e1) (M := M) r (pre ++ [v]) (some (.dat (.int (pre.length : Int)))) (some (.dat (vbD v))) (by rw [List.append_assoc]; exact hn) (by rw [List.append_assoc]; exact hl)
    rw [List.append_assoc, List.length_append, List.length_singleton] at q
    refine ⟨e4', e5', ?_⟩
    rw [List.map_cons, enumF_cons]
    exact (loopF_nx rfl a).trans q
abbrev Mb := Nat × List Int
def vAt (vs : List Vb) (i : Nat) : Vb := vs.getD i ⟨"a", 1, []⟩
theorem vAt_get {vs : List Vb} {i : Nat} (h : i < vs.length) : vs[i]? = some (vAt vs i) := by
  unfold vAt
  rw [List.getD_eq_getElem?_getD, List.getElem?_eq_getElem h]
  rfl
structure MbOk (vs : List Vb) (e : Mb) : Prop where
  lt : e.1 < vs.length
  sub : e.2 = [] ∨ inB (vAt vs e.1).bs e.2
structure RwOk (vs : List Vb) (r : List Mb) : Prop where
  two : 2 ≤ r.length
  ten : r.length ≤ 10
  ok : ∀ e ∈ r, MbOk vs e
def mbV (vs : List Vb) (e : Mb) : D := mbD (vAt vs e.1).nm e.2
def rwD (vs : List Vb) (r : List Mb) : D := .tup (r.map (mbV vs))
def plOf (vs : List Vb) (e : Mb) : Int := (vAt vs e.1).s * place (vAt vs e.1).bs e.2
def lnOf (vs : List Vb) (r : List Mb) : GP.Ln := r.map fun e => (e.1, plOf vs e)
theorem member_none {nm : Str} {s : Int} {bs : List Bd} {kvs : List (Key × D)} {t : Nat} {m : Mem} (hm : m[t]? = some (.dct kvs)) (hg : dGetI kvs (Sum.inr nm) = some (vD nm s bs)) :
    F_is_member [.dat (mbD nm []), .ref t] m = .ok (.dat (.bl true)) m := by
  have i0 : ixV (.dat (mbD nm [])) (.dat (.int 0)) m = .ok (.dat (.str nm)) m := by simp [mbD, ixV, rdSq, rdL, atI, ixN]
  have i1 : ixV (.dat (mbD nm [])) (.dat (.int 1)) m = .ok (.dat (spD [])) m := by simp [mbD, ixV, rdSq, rdL, atI, ixN]
  have i2 : ixV (.dat (vD nm s bs)) (.dat (.int 2)) m = .ok (.dat (bD bs)) m := by simp [vD, ixV, rdSq, rdL, atI, ixN]
  have l1 : lenV [.dat (spD [])] m = .ok (.dat (.int 0)) m := by simp [spD, lenV, rdSq, rdL]
  have l2 : lenV [.dat (bD bs)] m = .ok (.dat (.int bs.length)) m := by simp [bD, lenV, rdSq, rdL]
  have l3 : lenV [.dat (mbD nm [])] m = .ok (.dat (.int 2)) m := by simp [mbD, lenV, rdSq, rdL]
  have t1 : isiV ["tuple"] (.dat (mbD nm [])) m = .ok (.dat (.bl true)) m := by simp [mbD, isiV, tyName, tyIs]
  have t2 : isiV ["tuple"] (.dat (spD [])) m = .ok (.dat (.bl true)) m := by simp [spD, isiV, tyName, tyIs]
  have t3 : isiV ["str"] (.dat (.str nm)) m = .ok (.dat (.bl true)) m := by simp [isiV, tyName, tyIs]
  have n1 : notInKV (.dat (.str nm)) (.ref t) m = .ok (.dat (.bl false)) m := by simp [notInKV, notInKC, hm, keyD, hg]
  have n2 : itemV (.ref t) (.dat (.str nm)) m = .ok (.dat (vD nm s bs)) m := by simp [itemV, itemC, hm, keyD, hg]
  have n3 : notInSV (.dat (.int 0)) (.dat (.tup [.int 0, .int bs.length])) m = .ok (.dat (.bl false)) m := by simp [notInSV, rdSq, flats, flatD, hasD, eqF]
  have z : zip2V [.dat (bD bs), .dat (spD [])] m = .ok [] m := by simp [zip2V, seqD, bD, spD, zipD2]
  have mk : mkTup [.dat (.int 0), .dat (.int bs.length)] m = .ok (.dat (.tup [.int 0, .int bs.length])) m := by simp [mkTup, allDat]
  simp [F_is_member, mk, fnRun_ap, den_is_member, enter, i0, i1, i2, l1, l2, l3, t1, t2, t3, n1, n2, n3, z, wipeE, noX, loopC, P.ret, allV, rdL, asBs]
theorem member_ok {vs : List Vb} (h : VsOk vs) {e : Mb} (he : MbOk vs e) {t : Nat} {m : Mem} (hm : m[t]? = some (.dct (tblK vs))) : F_is_member [.dat (mbV vs e), .ref t] m = .ok (.dat (.bl true)) m := by
  have hv := vAt_get he.lt
  have g := tbl_at h.dif hv
  rcases he.sub with z | z
  · unfold mbV
    rw [z]
    exact member_none hm g
  · exact is_member_ok hm g (h.ok _ (List.mem_of_getElem? hv)).b z
theorem place_nil (bs : List Bd) : place bs [] = 0 := by cases bs <;> rfl
theorem place_any {bs : List Bd} (h : VB bs) {us : List Int} (hi : us = [] ∨ inB bs us) (m : Mem) : F_place_in [.dat (bD bs), .dat (spD us)] m = .ok (.dat (.int (place bs us))) m := by
  rcases hi with rfl | hi
  · rw [place_nil]
    have z : zip2V [.dat (bD bs), .dat (spD [])] m = .ok [] m := by simp [zip2V, seqD, bD, spD, zipD2]
    simp [F_place_in, fnRun_ap, den_place_in, enter, setAll, z, loopF_nil]
  · exact place_in_ok h hi m
theorem place_big {bs : List Bd} (h : VB bs) {us : List Int} (hi : us = [] ∨ inB bs us) : (place bs us).natAbs < big := by
  rcases hi with rfl | hi
  · rw [place_nil]
    exact small_big (by decide)
  · exact xf_big (k := bs.length) (by have := h.le; omega) (place_sm hi (ext_sm h)).2
theorem loopC_b {β : Type} {g : D → En → Option En} {f : En → P SV} {env : En} {m : Mem} (a h : β → D) : ∀ (xs : List β) (acc : List D), (∀ x ∈ xs, ∃ env1, g (a x) env = some env1 ∧ f env1 m = .ok (.dat (h x)) m) → acc.length + xs.length ≤ 16777216 →
    loopC g dYes f env (xs.map a) acc m = .ok (acc ++ xs.map h) m
  | [], acc, _, _ => by simp [loopC]
  | x :: r, acc, hs, hl => by
    obtain ⟨env1, h1, h2⟩ := hs x List.mem_cons_self
    rw [List.length_cons] at hl
    have ih := loopC_b a h r (acc ++ [h x]) (fun y hy => hs y (List.mem_cons_of_mem _ hy)) (by simp; omega)
    rw [List.map_cons]
    unfold loopC
    rw [h1]
    show R.bnd (R.ok true m) _ = _
    rw [bnd_ok]
    show R.bnd (f env1 m) _ = _
    rw [h2, bnd_ok]
    show (if acc.length < 16777216 then loopC g dYes f env (r.map a) (acc ++ [h x]) m else R.stuck) = _
    rw [if_pos (by omega), ih]
    simp
theorem lcB {β : Type} {g : D → En → Option En} {f : En → P SV} {env : En} {m : Mem} (a h : β → D) (xs : List β) (hs : ∀ x ∈ xs, ∃ env1, g (a x) env = some env1 ∧ f env1 m = .ok (.dat (h x)) m) (hl : xs.length ≤ 16777216) :
    noX (loopC g dYes f env (xs.map a) []) m = .ok (xs.map h) m := by
  have := loopC_b (g := g) (f := f) (env := env) (m := m) a h xs [] hs (by simpa using hl)
  simp [noX, this]
structure RsOk (vs : List Vb) (rs : List (List Mb)) : Prop where
  few : rs.length ≤ 40
  ok : ∀ r ∈ rs, RwOk vs r
def lsOf (vs : List Vb) (rs : List (List Mb)) : List GP.Ln := rs.map (lnOf vs)
theorem ls_lt {vs : List Vb} {rs : List (List Mb)} (hr : RsOk vs rs) : ∀ l ∈ lsOf vs rs, ∀ e ∈ l, e.1 < vs.length := fun l hl e he => by
  obtain ⟨r, h1, rfl⟩ := List.mem_map.mp hl
  obtain ⟨x, h2, rfl⟩ := List.mem_map.mp he
  exact ((hr.ok r h1).ok x h2).lt
def lnB (g : Nat → Nat × Int) (l : GP.Ln) : Bool := l.all fun p => l.all fun q => decide ((g p.1).1 = (g q.1).1 ∧ (g p.1).2 + p.2 = (g q.1).2 + q.2)
def hB (g : Nat → Nat × Int) (ls : List GP.Ln) : Bool := ls.all (lnB g)
theorem hB_iff {g : Nat → Nat × Int} {ls : List GP.Ln} : hB g ls = true ↔ GP.Holds ls g := by
  unfold hB lnB GP.Holds
  simp [List.all_eq_true]
theorem uniq_one {α : Type} [DecidableEq α] {xs : List α} : (uniq [] xs).length ≤ 1 ↔ ∀ a ∈ xs, ∀ b ∈ xs, a = b := by
  have nd := uniq_nodup xs [] List.nodup_nil
  have mem : ∀ y, y ∈ uniq [] xs ↔ y ∈ xs := fun y => by rw [mem_uniq]; simp
  constructor
  · intro h a ha b hb
    have ha := (mem a).mpr ha
    have hb := (mem b).mpr hb
    generalize uniq [] xs = L at *
    match L, h with
    | [], _ => cases ha
    | [x], _ => rw [List.mem_singleton.mp ha, List.mem_singleton.mp hb]
    | x :: y :: r, h => simp at h
  · intro h
    generalize hL : uniq [] xs = L at *
    match L with
    | [] => simp
    | [x] => simp
    | x :: y :: r =>
      have e := h x ((mem x).mp (by simp)) y ((mem y).mp (by simp))
      subst e
      simp at nd
theorem gr_at {n : Nat} {g : Nat → Nat × Int} {v : Nat} (h : v < n) (m : Mem) : ixV (.dat (grD n g)) (.dat (.int (v : Int))) m = .ok (.dat (itD (g v))) m := ix_at (by simp [h, itD]) m
theorem it0 (p : Nat × Int) (m : Mem) : ixV (.dat (itD p)) (.dat (.int 0)) m = .ok (.dat (.int (p.1 : Int))) m := by simp [itD, ixV, rdSq, rdL, atI, ixN]
theorem it1 (p : Nat × Int) (m : Mem) : ixV (.dat (itD p)) (.dat (.int 1)) m = .ok (.dat (.int p.2)) m := by simp [itD, ixV, rdSq, rdL, atI, ixN]
def spots (g : Nat → Nat × Int) (l : GP.Ln) : List (List Int) := l.map fun e => [((g e.1).1 : Int), (g e.1).2 + e.2]
theorem asTs_map : ∀ ks : List (List Int), asTs (ks.map fun k => D.tup (k.map D.int)) = some ks
  | [] => rfl
  | k :: r => by
    have := asTs_map r
    have i : asIs (k.map D.int) = some k := by
      induction k with
      | nil => rfl
      | cons a b ih => simp [asIs, ih]
    simp [asTs, this, i]
theorem len_spots (ks : List (List Int)) (h : ks.length < 64) (m : Mem) : lenSetX (.dat (.lst (ks.map fun k => D.tup (k.map D.int)))) m = .ok (.dat (.int (uniq [] ks).length)) m := by
  cases ks with
  | nil => simp [lenSetX, rdL, asSs, uniq]
  | cons k r =>
    have e : asSs ((k :: r).map fun k => D.tup (k.map D.int)) = none := rfl
    simp only [lenSetX, rdL, e, asTs_map]
    rw [if_pos h]
theorem lnB_iff {g : Nat → Nat × Int} {l : GP.Ln} : lnB g l = true ↔ (uniq [] (spots g l)).length ≤ 1 := by
  rw [uniq_one]
  unfold lnB spots
  simp only [List.all_eq_true, decide_eq_true_eq, List.mem_map]
  constructor
  · rintro h a ⟨p, hp, rfl⟩ b ⟨q, hq, rfl⟩
    obtain ⟨h1, h2⟩ := h p hp q hq
    rw [h1, h2]
  · intro h p hp q hq
    have := h _ ⟨p, hp, rfl⟩ _ ⟨q, hq, rfl⟩
    simp at this
    exact ⟨by omega, this.2⟩
theorem hold_turn {n : Nat} {g : Nat → Nat × Int} {l : GP.Ln} (hl : ∀ e ∈ l, e.1 < n) (h10 : l.length ≤ 10) (e1 e3 : Option SV) (m : Mem) : ∃ x, lp2_do_hold [some (.dat (grD n g)), e1, some (.dat (lineD l)), e3, none, none] m = .ok (if lnB g l = true then .nx [some (.dat (grD n g)), e1, some (.dat (lineD l)), x, none, none] else .rt (.dat (.bl false))) m := by
  have c : noX (loopC (gT 2 (gsC (gN 4) (gsC (gN 5) gsN))) dYes ce1_do_hold [some (.dat (grD n g)), e1, some (.dat (lineD l)), e3, none, none] (l.map itD) []) m = .ok ((spots g l).map fun k => D.tup (k.map D.int)) m := by
    have e : ((spots g l).map fun k => D.tup (k.map D.int)) = l.map fun e => D.tup [.int ((g e.1).1 : Int), .int ((g e.1).2 + e.2)] := by simp [spots]
    rw [e]
    refine lcB itD _ l (fun e he => ⟨[some (.dat (grD n g)), e1, some (.dat (lineD l)), e3, some (.dat (.int (e.1 : Int))), some (.dat (.int e.2))], rfl, ?_⟩) (by omega)
    simp [ce1_do_hold, gr_at (g := g) (hl e he), it0, it1, mkTup, allDat]
  have u := len_spots (spots g l) (by simp [spots]; omega) m
  have it : itemsV (.dat (lineD l)) m = .ok (l.map itD) m := by simp [itemsV, lineD]
  refine ⟨some (.dat (.lst ((spots g l).map fun k => D.tup (k.map D.int)))), ?_⟩
  by_cases hb : lnB g l = true
  · have h1 := lnB_iff.mp hb
    have h2 : ¬ (1 : Int) < ((uniq [] (spots g l)).length : Int) := by omega
    simp [lp2_do_hold, it, wipeE, c, u, h2, hb]
  · have h1 : ¬ (uniq [] (spots g l)).length ≤ 1 := fun z => hb (lnB_iff.mpr z)
    have h2 : (1 : Int) < ((uniq [] (spots g l)).length : Int) := by omega
    simp [lp2_do_hold, it, wipeE, c, u, h2, hb]
theorem hold_loop {n : Nat} {g : Nat → Nat × Int} (e1 : Option SV) (m : Mem) : ∀ (ls : List GP.Ln) (e2 e3 : Option SV), (∀ l ∈ ls, (∀ e ∈ l, e.1 < n) ∧ l.length ≤ 10) →
    ∃ x y, loopF (gN 2) lp2_do_hold (ls.map lineD) [some (.dat (grD n g)), e1, e2, e3, none, none] m = .ok (if hB g ls = true then .nx [some (.dat (grD n g)), e1, x, y, none, none] else .rt (.dat (.bl false))) m
  | [], e2, e3, _ => ⟨e2, e3, by simp [loopF_nil, hB]⟩
  | l :: r, e2, e3, h => by
    obtain ⟨h1, h2⟩ := h l List.mem_cons_self
    obtain ⟨z, t⟩ := hold_turn (g := g) h1 h2 e1 e3 m
    by_cases hb : lnB g l = true
    · obtain ⟨x, y, q⟩ := hold_loop e1 m r (some (.dat (lineD l))) z fun l' hl' => h l' (List.mem_cons_of_mem _ hl')
      rw [if_pos hb] at t
      refine ⟨x, y, ?_⟩
      have e : hB g (l :: r) = hB g r := by simp [hB, hb]
      rw [e, List.map_cons]
      exact (loopF_nx rfl t).trans q
    · rw [if_neg hb] at t
      have e : hB g (l :: r) = false := by simp [hB, hb]
      refine ⟨none, none, ?_⟩
      rw [e, List.map_cons]
      exact loopF_rt rfl t
theorem do_hold_ok {n : Nat} {g : Nat → Nat × Int} {ls : List GP.Ln} (h : ∀ l ∈ ls, (∀ e ∈ l, e.1 < n) ∧ l.length ≤ 10) (m : Mem) : F_do_hold [.dat (grD n g), .dat (linesD ls)] m = .ok (.dat (.bl (hB g ls))) m := by
  obtain ⟨x, y, q⟩ := hold_loop (g := g) (some (.dat (linesD ls))) m ls none none h
  have it : itemsV (.dat (linesD ls)) m = .ok (ls.map lineD) m := by simp [itemsV, linesD]
  simp [F_do_hold, fnRun_ap, den_do_hold, enter, it]
  rw [q]
  by_cases hb : hB g ls = true
  · rw [if_pos hb, hb]
    simp
  · rw [if_neg hb]
    have : hB g ls = false := by simpa using hb
    rw [this]
    simp
def lowF (ps : List (Nat × Int)) (f : Nat) : Option Int := ps.foldl (fun acc p => if p.1 = f then some (min p.2 (acc.getD p.2)) else acc) none
theorem lowF_snoc (ps : List (Nat × Int)) (p : Nat × Int) (f : Nat) : lowF (ps ++ [p]) f = if p.1 = f then some (min p.2 ((lowF ps f).getD p.2)) else lowF ps f := by
  unfold lowF
  rw [List.foldl_append]
  rfl
theorem getI_app (kvs more : List (Key × D)) (k : Key) : dGetI (kvs ++ more) k = (dGetI kvs k).or (dGetI more k) := by
  unfold dGetI
  rw [List.find?_append]
  cases kvs.find? fun kv => decide (kv.1 = k) <;> simp
theorem getI_put (kvs : List (Key × D)) (k k' : Key) (x : D) : dGetI (dPutI kvs k x) k' = if k = k' then some x else dGetI kvs k' := by
  unfold dPutI
  by_cases h : (kvs.any fun kv => decide (kv.1 = k)) = true
  · rw [if_pos h]
    obtain ⟨e0, he0, hk0⟩ := List.any_eq_true.mp h
    have hk0 : e0.1 = k := by simpa using hk0
    clear h
    induction kvs with
    | nil => cases he0
    | cons e r ih =>
      obtain ⟨a, d⟩ := e
      rw [List.map_cons]
      by_cases ha : a = k
      · subst ha
        simp only [if_true]
        rw [getI_cons]
        by_cases hk : a = k'
        · rw [if_pos hk, if_pos hk]
        · rw [if_neg hk, if_neg hk, getI_cons, if_neg hk]
          clear ih he0 hk0
          induction r with
          | nil => rfl
          | cons e2 r2 ih2 =>
            obtain ⟨b, d2⟩ := e2
            rw [List.map_cons]
            by_cases hb : b = a
            · subst hb
              simp only [if_true]
              rw [getI_cons, getI_cons, if_neg hk, if_neg hk, ih2]
            · simp only [hb, if_false]
              rw [getI_cons, getI_cons, ih2]
      · simp only [ha, if_false]
        rcases List.mem_cons.mp he0 with z | z
        · rw [z] at hk0
          exact absurd hk0 ha
        · rw [getI_cons, getI_cons, ih z]
          by_cases hk : a = k'
          · rw [if_pos hk, if_pos hk, if_neg fun q => ha (hk.trans q.symm)]
          · rw [if_neg hk, if_neg hk]
  · rw [if_neg h, getI_app, getI_cons]
    by_cases hk : k = k'
    · subst hk
      rw [if_pos rfl, if_pos rfl]
      have : dGetI kvs k = none := getI_none fun z => by
        obtain ⟨e, he, h2⟩ := List.mem_map.mp z
        exact h (List.any_eq_true.mpr ⟨e, he, by simpa using h2⟩)
      rw [this]
      rfl
    · rw [if_neg hk, if_neg hk]
      cases dGetI kvs k' <;> rfl
theorem putI_len (kvs : List (Key × D)) (k : Key) (x : D) : (dPutI kvs k x).length ≤ kvs.length + 1 := by
  unfold dPutI
  split <;> simp
theorem risen_loop {e0 : Option SV} {M : Mem} : ∀ (r pre : List (Nat × Int)) (kvs : List (Key × D)) (e2 e3 : Option SV), (∀ f : Nat, dGetI kvs (Sum.inl (f : Int)) = (lowF pre f).map D.int) → kvs.length ≤ pre.length → (pre ++ r).length ≤ 1000 →
    ∃ kvs' e2' e3', loopF (gT 2 (gsC (gN 2) (gsC (gN 3) gsN))) lp1_risen (r.map itD) [e0, some (.ref M.length), e2, e3] (M ++ [.dct kvs]) = .ok (.nx [e0, some (.ref M.length), e2', e3']) (M ++ [.dct kvs']) ∧ ∀ f : Nat, dGetI kvs' (Sum.inl (f : Int)) = (lowF (pre ++ r) f).map D.int
  | [], pre, kvs, e2, e3, h, _, _ => ⟨kvs, e2, e3, by simp [loopF_nil], by rw [List.append_nil]; exact h⟩
  | (f, b) :: r, pre, kvs, e2, e3, h, hl, h1000 => by
    have hl1 : kvs.length < 16777216 := by
      rw [List.length_append] at h1000
      omega
    have hcell : (M ++ [Cell.dct kvs])[M.length]? = some (.dct kvs) := by simp
    have hset : ∀ z, (M ++ [Cell.dct kvs]).set M.length (.dct z) = M ++ [.dct z] := fun z => by simp
    have hg := h f
    have hv : ((dGetI kvs (Sum.inl (f : Int))).getD (.int b)) = .int ((lowF pre f).getD b) := by
      rw [hg]
      cases lowF pre f <;> rfl
    have t : lp1_risen [e0, some (.ref M.length), some (.dat (.int (f : Int))), some (.dat (.int b))] (M ++ [.dct kvs]) = .ok (.nx [e0, some (.ref M.length), some (.dat (.int (f : Int))), some (.dat (.int b))]) (M ++ [.dct (dPutI kvs (Sum.inl (f : Int)) (.int (min b ((lowF pre f).getD b))))]) := by
      simp [lp1_risen, dPutD, P.bnd, dGetD2, getA2, hcell, isDc, getV2, getC2, keyD, hv, min2V, putV, putC, hl1]
    obtain ⟨kvs', e2', e3', q1, q2⟩ := risen_loop (e0 := e0) (M := M) r (pre ++ [(f, b)]) (dPutI kvs (Sum.inl (f : Int)) (.int (min b ((lowF pre f).getD b)))) (some (.dat (.int (f : Int)))) (some (.dat (.int b))) (fun f' => by
      rw [getI_put, lowF_snoc]
      by_cases hf : f = f'
      · subst hf
        rw [if_pos rfl, if_pos rfl]
        rfl
      · rw [if_neg fun z => hf (by have := Sum.inl.inj z; omega), if_neg hf]
        exact h f') (by have := putI_len kvs (Sum.inl (f : Int)) (.int (min b ((lowF pre f).getD b))); simp; omega) (by rw [List.append_assoc]; exact h1000)
    rw [List.append_assoc] at q2
    exact ⟨kvs', e2', e3', (loopF_nx rfl t).trans q1, q2⟩
def upF (ps : List (Nat × Int)) (p : Nat × Int) : Nat × Int := (p.1, p.2 - (lowF ps p.1).getD 0)
theorem lowF_some : ∀ {ps : List (Nat × Int)} {p : Nat × Int}, p ∈ ps → ∃ b, lowF ps p.1 = some b := fun {ps p} hp => by
  have key : ∀ (ps pre : List (Nat × Int)), p ∈ pre ∨ p ∈ ps → (∀ q ∈ pre, ∃ b, lowF pre q.1 = some b) → ∃ b, lowF (pre ++ ps) p.1 = some b := by
    intro ps
    induction ps with
    | nil =>
      intro pre h hq
      rw [List.append_nil]
      rcases h with h | h
      · exact hq p h
      · cases h
    | cons x r ih =>
      intro pre h hq
      have := ih (pre ++ [x]) (by
        rcases h with h | h
        · exact .inl (List.mem_append_left _ h)
        · rcases List.mem_cons.mp h with z | z
          · exact .inl (by simp [z])
          · exact .inr z) fun q hq' => by
        rw [lowF_snoc]
        by_cases hx : x.1 = q.1
        · exact ⟨_, by rw [if_pos hx]⟩
        · rw [if_neg hx]
          rcases List.mem_append.mp hq' with z | z
          · exact hq q z
          · rw [List.mem_singleton.mp z] at hx
            exact absurd rfl hx
      rw [List.append_assoc] at this
      exact this
  have := key ps [] (.inr hp) fun q hq => by cases hq
  simpa using this
theorem risen_ok {ps : List (Nat × Int)} (hl : ps.length ≤ 1000) (m : Mem) : F_risen [.dat (.lst (ps.map itD))] m = .ok (.dat (.lst (ps.map fun p => itD (upF ps p)))) m := by
  obtain ⟨kvs', e2', e3', q1, q2⟩ := risen_loop (e0 := some (.dat (.lst (ps.map itD)))) (M := m) ps [] [] none none (fun f => rfl) (Nat.le_refl _) (by simpa using hl)
  rw [List.nil_append] at q2
  have it : ∀ m, itemsV (.dat (.lst (ps.map itD))) m = .ok (ps.map itD) m := fun m => by simp [itemsV]
  have hcell : (m ++ [Cell.dct kvs'])[m.length]? = some (.dct kvs') := by simp
  have c : noX (loopC (gT 2 (gsC (gN 2) (gsC (gN 3) gsN))) dYes ce2_risen [some (.dat (.lst (ps.map itD))), some (.ref m.length), none, none] (ps.map itD) []) (m ++ [.dct kvs']) = .ok (ps.map fun p => itD (upF ps p)) (m ++ [.dct kvs']) :=
    lcB itD (fun p => itD (upF ps p)) ps (fun p hp => by
      obtain ⟨b, hb⟩ := lowF_some hp
      have hg := q2 p.1
      rw [hb] at hg
      refine ⟨[some (.dat (.lst (ps.map itD))), some (.ref m.length), some (.dat (.int (p.1 : Int))), some (.dat (.int p.2))], rfl, ?_⟩
      simp [ce2_risen, itemV, itemC, hcell, keyD, hg, mkTup, allDat, itD, upF, hb]) (by omega)
  simp [F_risen, fnRun_ap, den_risen, enter, dNewD, it]
  rw [q1]
  simp [it, wipeE, c]
def dOf (ss : List (Key × D)) (v : Nat) : Nat := match dGetI ss (Sum.inl (v : Int)) with
  | some (.lst xs) => xs.length
  | _ => 0
def Tri (x : D) : Prop := ∃ a b c : Int, x = .tup [.int a, .int b, .int c]
structure BK (ls : List GP.Ln) (n s : Nat) (B : Bs) (ss : List (Key × D)) : Prop where
  bi : BI ls n s B ss
  wk : ∀ e ∈ B, GP.W ls s (dOf ss e.1) e.1 e.2
  mono : (ksB B).Pairwise fun a b => dOf ss a ≤ dOf ss b
  t3 : ∀ e ∈ ss, ∀ xs, e.2 = .lst xs → ∀ x ∈ xs, Tri x
  z0 : dOf ss s = 0
structure BJ (ls : List GP.Ln) (n s u : Nat) (B : Bs) (ss : List (Key × D)) : Prop where
  k : BK ls n s B ss
  uk : u ∈ ksB B
  top : ∀ w ∈ ksB B, dOf ss w ≤ dOf ss u + 1
section
variable {ls : List GP.Ln} {n s u : Nat} {B B' : Bs} {ss ss' : List (Key × D)}
theorem BI.get (h : BI ls n s B ss) {v : Nat} (hv : v ∈ ksB B) : ∃ xs, dGetI ss (Sum.inl (v : Int)) = some (.lst xs) ∧ (Sum.inl (v : Int), D.lst xs) ∈ ss ∧ xs.length < B.length := by
  obtain ⟨x, h1, h2⟩ := getI_some (kvs := ss) (k := Sum.inl (v : Int)) (by rw [h.sk]; exact in_keys.mpr hv)
  obtain ⟨xs, h3, h4⟩ := h.sv _ h2
  simp only at h3
  subst h3
  exact ⟨xs, h1, h2, h4⟩
theorem getI_app_in {kvs more : List (Key × D)} {k : Key} {x : D} (h : dGetI kvs k = some x) : dGetI (kvs ++ more) k = some x := by
  unfold dGetI at h ⊢
  rw [List.find?_append]
  cases hf : kvs.find? fun kv => decide (kv.1 = k) with
  | none => rw [hf] at h; cases h
  | some e => rw [hf] at h; exact h
theorem dOf_app (h : BI ls n s B ss) (p : ss <+: ss') {v : Nat} (hv : v ∈ ksB B) : dOf ss' v = dOf ss v := by
  obtain ⟨t, rfl⟩ := p
  obtain ⟨xs, h1, _⟩ := h.get hv
  unfold dOf
  rw [h1, getI_app_in h1]
theorem BJ.add (h : BJ ls n s u B ss) {l : GP.Ln} (hl : l ∈ ls) {v : Nat} {p q b : Int} (hp : (u, p) ∈ l) (hq : (v, q) ∈ l) (hb : (u, b) ∈ B) (hv : v ∉ ksB B) (hn : v < n) {xs : List D} (hx : dGetI ss (Sum.inl (u : Int)) = some (.lst xs)) (hxm : (Sum.inl (u : Int), D.lst xs) ∈ ss) (hxl : xs.length < B.length) {y : D} (hy : Tri y) :
    BJ ls n s u (B ++ [(v, b + p - q)]) (ss ++ [(Sum.inl (v : Int), .lst (xs ++ [y]))]) := by
  have bi := h.k.bi.add hl hp hq hb hv hn hxl y
  have pre : ss <+: ss ++ [(Sum.inl (v : Int), D.lst (xs ++ [y]))] := List.prefix_append _ _
  have old : ∀ w ∈ ksB B, dOf (ss ++ [(Sum.inl (v : Int), D.lst (xs ++ [y]))]) w = dOf ss w := fun w hw => dOf_app h.k.bi pre hw
  have du : dOf ss u = xs.length := by unfold dOf; rw [hx]
  have new : dOf (ss ++ [(Sum.inl (v : Int), D.lst (xs ++ [y]))]) v = xs.length + 1 := by
    have hno : dGetI ss (Sum.inl (v : Int)) = none := getI_none (by
      rw [h.k.bi.sk]
      exact fun z => hv (in_keys.mp z))
    unfold dOf
    have : dGetI (ss ++ [(Sum.inl (v : Int), D.lst (xs ++ [y]))]) (Sum.inl (v : Int)) = some (.lst (xs ++ [y])) := by
      rw [getI_app, hno, getI_cons, if_pos rfl]
      rfl
    rw [this]
    simp
  have ks : ksB (B ++ [(v, b + p - q)]) = ksB B ++ [v] := by simp [ksB]
  have hs0 : s ∈ ksB B := List.mem_map.mpr ⟨_, h.k.bi.s0, rfl⟩
  refine ⟨⟨bi, fun e he => ?_, ?_, fun e he xs' hx' x hxx => ?_, by rw [old s hs0]; exact h.k.z0⟩, by rw [ks]; exact List.mem_append_left _ h.uk, fun w hw => ?_⟩
  · rcases List.mem_append.mp he with z | z
    · rw [old e.1 (List.mem_map.mpr ⟨e, z, rfl⟩)]
      exact h.k.wk e z
    · rw [List.mem_singleton.mp z]
      simp only
      rw [new, ← du]
      exact .step (h.k.wk _ hb) hl hp hq
  · rw [ks, List.pairwise_append]
    refine ⟨?_, by simp, fun a ha c hc => ?_⟩
    · refine h.k.mono.imp_of_mem fun {a c} ha hc z => ?_
      rw [old a ha, old c hc]
      exact z
    · rw [List.mem_singleton.mp hc, old a ha, new, ← du]
      exact h.top a ha
  · rcases List.mem_append.mp he with z | z
    · exact h.k.t3 e z xs' hx' x hxx
    · rw [List.mem_singleton.mp z] at hx'
      cases hx'
      rcases List.mem_append.mp hxx with z | z
      · exact h.k.t3 _ hxm xs rfl x z
      · rw [List.mem_singleton.mp z]; exact hy
  · rw [old u h.uk]
    rw [ks] at hw
    rcases List.mem_append.mp hw with z | z
    · rw [old w z]; exact h.top w z
    · rw [List.mem_singleton.mp z, new, du]
      omega
end
theorem go_loopS {M : Mem} {L : D} {ls : List GP.Ln} {n s : Nat} (hn : n ≤ 40) {l : GP.Ln} (hl : l ∈ ls) (hlt : ∀ e ∈ l, e.1 < n) {num a : Int} {one : Nat} {p : Int} (hp : (one, p) ∈ l) :
    ∀ (r : GP.Ln) (k : Nat) (B : Bs) (ss : List (Key × D)) (e5 e6 e7 : Option SV), (∀ e ∈ r, e ∈ l) → BJ ls n s one B ss →
      ∃ B' ss' e5' e6' e7', loopF (gT 2 (gsC (gN 5) (gsC (gT 2 (gsC (gN 6) (gsC (gN 7) gsN))) gsN))) lp1_Reach_go_on (enumF (r.map itD) k) [some (.ref M.length), some (.dat (.int num)), some (.dat (.int a)), some (.dat (.int (one : Int))), some (.dat (.int p)), e5, e6, e7] (RM M L (bsD B) ss (osD B))
        = .ok (.nx [some (.ref M.length), some (.dat (.int num)), some (.dat (.int a)), some (.dat (.int (one : Int))), some (.dat (.int p)), e5', e6', e7']) (RM M L (bsD B') ss' (osD B')) ∧ B <+: B' ∧ ss <+: ss' ∧ BJ ls n s one B' ss' ∧ ∀ q ∈ r, q.1 ∈ ksB B'
  | [], k, B, ss, e5, e6, e7, hr, h => ⟨B, ss, e5, e6, e7, rfl, List.prefix_refl _, List.prefix_refl _, h, fun q hq => by cases hq⟩
  | (v, w) :: r, k, B, ss, e5, e6, e7, hr, h => by
    have hin := hr _ List.mem_cons_self
    have hvn := hlt _ hin
    have hlen := h.k.bi.len
    have hsl := h.k.bi.ssl
    have ho := h.uk
    rw [List.map_cons, enumF_cons]
    by_cases hv : v ∈ ksB B
    · obtain ⟨b0, hb0⟩ : ∃ b, bAt B v = some b := by
        cases hb : bAt B v with
        | none => exact absurd hv (bAt_none.mp hb)
        | some b => exact ⟨b, rfl⟩
      have g := go_in (M := M) (L := L) (bs := bsD B) (ss := ss) (os := osD B) (e1 := some (.dat (.int num))) (e2 := some (.dat (.int a))) (e3 := some (.dat (.int (one : Int)))) (e4 := some (.dat (.int p))) (e5 := some (.dat (.int (k : Int)))) (e7 := some (.dat (.int w))) (v := (v : Int)) (d := .int b0) (by rw [bs_get, hb0]; rfl)
      obtain ⟨B', ss', a1, a2, a3, q1, q2, qs, q3, q4⟩ := go_loopS hn hl hlt hp r (k + 1) B ss (some (.dat (.int (k : Int)))) (some (.dat (.int (v : Int)))) (some (.dat (.int w))) (fun e he => hr e (List.mem_cons_of_mem _ he)) h
      refine ⟨B', ss', a1, a2, a3, (loopF_nx rfl g).trans q1, q2, qs, q3, fun q hq => ?_⟩
      rcases List.mem_cons.mp hq with hq | hq
      · rw [hq]
        exact (List.map_subset _ q2.subset) hv
      · exact q4 q hq
    · obtain ⟨b, hb⟩ : ∃ b, bAt B one = some b := by
        cases hb : bAt B one with
        | none => exact absurd ho (bAt_none.mp hb)
        | some b => exact ⟨b, rfl⟩
      obtain ⟨xs, hx1, hx2, hx4⟩ := h.k.bi.get ho
      have g := go_new (M := M) (L := L) (bs := bsD B) (ss := ss) (os := osD B) (xs := xs) (n := num) (a := a) (one := (one : Int)) (p := p) (to := (k : Int)) (v := (v : Int)) (w := w) (b := b) (by rw [bs_get, bAt_none.mpr hv]; rfl) (by rw [bs_get, hb]; rfl) hx1 (by simp [bsD]; omega) (by omega) (by simp [osD]; omega) (by omega)
      have p1 : dPutI (bsD B) (Sum.inl (v : Int)) (.int (b + p - w)) = bsD (B ++ [(v, b + p - w)]) := by
        rw [putI_new (by
          have : (bsD B).map (·.1) = B.map fun e => (Sum.inl (e.1 : Int) : Key) := by simp [bsD]
          rw [this]
          exact fun z => hv (in_keys.mp z))]
        simp [bsD]
      have p2 : dPutI ss (Sum.inl (v : Int)) (.lst (xs ++ [.tup [.int num, .int a, .int (k : Int)]])) = ss ++ [(Sum.inl (v : Int), .lst (xs ++ [.tup [.int num, .int a, .int (k : Int)]]))] := putI_new (by
        rw [h.k.bi.sk]
        exact fun z => hv (in_keys.mp z)) _
      have p3 : osD B ++ [.int (v : Int)] = osD (B ++ [(v, b + p - w)]) := by simp [osD]
      rw [p1, p2, p3] at g
      have h' := h.add hl hp hin (bAt_mem hb) hv hvn hx1 hx2 hx4 (y := .tup [.int num, .int a, .int (k : Int)]) ⟨_, _, _, rfl⟩
      obtain ⟨B', ss', a1, a2, a3, q1, q2, qs, q3, q4⟩ := go_loopS hn hl hlt hp r (k + 1) _ _ (some (.dat (.int (k : Int)))) (some (.dat (.int (v : Int)))) (some (.dat (.int w))) (fun e he => hr e (List.mem_cons_of_mem _ he)) h'
      refine ⟨B', ss', a1, a2, a3, (loopF_nx rfl g).trans q1, (List.prefix_append _ _).trans q2, (List.prefix_append _ _).trans qs, q3, fun q hq => ?_⟩
      rcases List.mem_cons.mp hq with hq | hq
      · rw [hq]
        exact (List.map_subset _ q2.subset) (by simp)
      · exact q4 q hq
theorem go_on_okS {M : Mem} {ls : List GP.Ln} {n s : Nat} (hn : n ≤ 40) {num a : Nat} {l : GP.Ln} (h1 : ls[num]? = some l) (hlt : ∀ e ∈ l, e.1 < n) {one : Nat} {p : Int} (h2 : l[a]? = some (one, p)) {B : Bs} {ss : List (Key × D)} (h : BJ ls n s one B ss) :
    ∃ B' ss', F_Reach_go_on [.ref M.length, .dat (.int (num : Int)), .dat (.int (a : Int))] (RM M (linesD ls) (bsD B) ss (osD B)) = .ok (.dat .non) (RM M (linesD ls) (bsD B') ss' (osD B')) ∧ B <+: B' ∧ ss <+: ss' ∧ BJ ls n s one B' ss' ∧ ∀ q ∈ l, q.1 ∈ ksB B' := by
  have i1 : ∀ m, ixV (.dat (linesD ls)) (.dat (.int (num : Int))) m = .ok (.dat (lineD l)) m := ix_at (by rw [List.getElem?_map, h1]; rfl)
  have i2 : ∀ m, ixV (.dat (lineD l)) (.dat (.int (a : Int))) m = .ok (.dat (itD (one, p))) m := ix_at (by rw [List.getElem?_map, h2]; rfl)
  have en : ∀ m, enumV [.dat (lineD l)] m = .ok (enumF (l.map itD) 0) m := enum_ok _
  obtain ⟨B', ss', a1, a2, a3, q1, q2, qs, q3, q4⟩ := go_loopS (M := M) (L := linesD ls) (num := (num : Int)) (a := (a : Int)) hn (List.mem_of_getElem? h1) hlt (List.mem_of_getElem? h2) l 0 B ss none none none (fun e he => he) h
  refine ⟨B', ss', ?_, q2, qs, q3, q4⟩
  simp [F_Reach_go_on, fnRun_ap, den_Reach_go_on, enter, dFld, rm_lines, i1, i2, en]
  have g : gT 2 (gsC (gN 3) (gsC (gN 4) gsN)) (itD (one, p)) [some (.ref M.length), some (.dat (.int (num : Int))), some (.dat (.int (a : Int))), none, none, none, none, none] = some [some (.ref M.length), some (.dat (.int (num : Int))), some (.dat (.int (a : Int))), some (.dat (.int (one : Int))), some (.dat (.int p)), none, none, none] := rfl
  simp [g, i1, en, rm_lines, dFld]
  rw [q1]
  simp [rm_len, rm_tkw]
theorem in_loopS {M : Mem} {ls : List GP.Ln} {n s : Nat} (hn : n ≤ 40) {num : Nat} {l : GP.Ln} (hl : ls[num]? = some l) (hlt : ∀ e ∈ l, e.1 < n) {u j : Nat} (e1 e2 : Option SV) :
    ∀ (r pre : GP.Ln) (B : Bs) (ss : List (Key × D)) (e6 e7 e8 : Option SV), l = pre ++ r → BJ ls n s u B ss → (ksB B)[j]? = some u →
      ∃ B' ss' e6' e7' e8', loopF (gT 2 (gsC (gN 6) (gsC (gT 2 (gsC (gN 7) (gsC (gN 8) gsN))) gsN))) lp1_Reach___init__ (enumF (r.map itD) pre.length) [some (.ref M.length), e1, e2, some (.dat (.int (j : Int))), some (.dat (.int (num : Int))), some (.dat (lineD l)), e6, e7, e8] (RM M (linesD ls) (bsD B) ss (osD B))
        = .ok (.nx [some (.ref M.length), e1, e2, some (.dat (.int (j : Int))), some (.dat (.int (num : Int))), some (.dat (lineD l)), e6', e7', e8']) (RM M (linesD ls) (bsD B') ss' (osD B')) ∧ B <+: B' ∧ ss <+: ss' ∧ BJ ls n s u B' ss' ∧ ∀ e ∈ r, e.1 = u → ∀ q ∈ l, q.1 ∈ ksB B'
  | [], pre, B, ss, e6, e7, e8, he, h, hj => ⟨B, ss, e6, e7, e8, rfl, List.prefix_refl _, List.prefix_refl _, h, fun e he => by cases he⟩
  | (v, p) :: r, pre, B, ss, e6, e7, e8, he, h, hj => by
    have ho := ix_ref (rm_8 M (linesD ls) (bsD B) ss (osD B)) (os_at hj)
    have hat : l[pre.length]? = some (v, p) := by rw [he]; simp
    have hpre : l = (pre ++ [(v, p)]) ++ r := by rw [he]; simp
    have hlen : (pre ++ [(v, p)]).length = pre.length + 1 := by simp
    rw [List.map_cons, enumF_cons]
    by_cases hv : v = u
    · subst hv
      obtain ⟨B1, ss1, g1, g2, gs, g3, g4⟩ := go_on_okS (M := M) hn hl hlt hat h
      have y := it_yes (e1 := e1) (e2 := e2) (e5 := some (.dat (lineD l))) (e8 := some (.dat (.int p))) ho g1
      obtain ⟨B', ss', a1, a2, a3, q1, q2, qs, q3, q4⟩ := in_loopS hn hl hlt e1 e2 r (pre ++ [(v, p)]) B1 ss1 (some (.dat (.int (pre.length : Int)))) (some (.dat (.int (v : Int)))) (some (.dat (.int p))) hpre g3 (ks_at g2 hj)
      rw [hlen] at q1
      refine ⟨B', ss', a1, a2, a3, (loopF_nx rfl y).trans q1, g2.trans q2, gs.trans qs, q3, fun e hm hu => ?_⟩
      exact fun q hq => ks_sub q2 (g4 q hq)
    · have y := it_no (M := M) (L := linesD ls) (bs := bsD B) (ss := ss) (os := osD B) (e1 := e1) (e2 := e2) (e4 := some (.dat (.int (num : Int)))) (e5 := some (.dat (lineD l))) (e6 := some (.dat (.int (pre.length : Int)))) (e8 := some (.dat (.int p))) (v := (v : Int)) ho (by omega)
      obtain ⟨B', ss', a1, a2, a3, q1, q2, qs, q3, q4⟩ := in_loopS hn hl hlt e1 e2 r (pre ++ [(v, p)]) B ss (some (.dat (.int (pre.length : Int)))) (some (.dat (.int (v : Int)))) (some (.dat (.int p))) hpre h hj
      rw [hlen] at q1
      refine ⟨B', ss', a1, a2, a3, (loopF_nx rfl y).trans q1, q2, qs, q3, fun e hm hu => ?_⟩
      rcases List.mem_cons.mp hm with z | z
      · rw [z] at hu
        exact absurd hu hv
      · exact q4 e z hu
theorem ln_loopS {M : Mem} {ls : List GP.Ln} {n s : Nat} (hn : n ≤ 40) (hlt : ∀ l ∈ ls, ∀ e ∈ l, e.1 < n) {u j : Nat} (e1 e2 : Option SV) :
    ∀ (rs pre : List GP.Ln) (B : Bs) (ss : List (Key × D)) (e4 e5 e6 e7 e8 : Option SV), ls = pre ++ rs → BJ ls n s u B ss → (ksB B)[j]? = some u →
      ∃ B' ss' e4' e5' e6' e7' e8', loopF (gT 2 (gsC (gN 4) (gsC (gN 5) gsN))) lp2_Reach___init__ (enumF (rs.map lineD) pre.length) [some (.ref M.length), e1, e2, some (.dat (.int (j : Int))), e4, e5, e6, e7, e8] (RM M (linesD ls) (bsD B) ss (osD B))
        = .ok (.nx [some (.ref M.length), e1, e2, some (.dat (.int (j : Int))), e4', e5', e6', e7', e8']) (RM M (linesD ls) (bsD B') ss' (osD B')) ∧ B <+: B' ∧ ss <+: ss' ∧ BJ ls n s u B' ss' ∧ ∀ l ∈ rs, ∀ e ∈ l, e.1 = u → ∀ q ∈ l, q.1 ∈ ksB B'
  | [], pre, B, ss, e4, e5, e6, e7, e8, he, h, hj => ⟨B, ss, e4, e5, e6, e7, e8, rfl, List.prefix_refl _, List.prefix_refl _, h, fun e he => by cases he⟩
  | l :: rs, pre, B, ss, e4, e5, e6, e7, e8, he, h, hj => by
    have hat : ls[pre.length]? = some l := by rw [he]; simp
    have hpre : ls = (pre ++ [l]) ++ rs := by rw [he]; simp
    have hlen : (pre ++ [l]).length = pre.length + 1 := by simp
    rw [List.map_cons, enumF_cons]
    obtain ⟨B1, ss1, b1, b2, b3, g1, g2, gs, g3, g4⟩ := in_loopS (M := M) hn hat (hlt l (List.mem_of_getElem? hat)) e1 e2 l [] B ss e6 e7 e8 rfl h hj
    have en : ∀ m, enumV [.dat (lineD l)] m = .ok (enumF (l.map itD) 0) m := enum_ok _
    have y : lp2_Reach___init__ [some (.ref M.length), e1, e2, some (.dat (.int (j : Int))), some (.dat (.int (pre.length : Int))), some (.dat (lineD l)), e6, e7, e8] (RM M (linesD ls) (bsD B) ss (osD B)) = .ok (.nx [some (.ref M.length), e1, e2, some (.dat (.int (j : Int))), some (.dat (.int (pre.length : Int))), some (.dat (lineD l)), b1, b2, b3]) (RM M (linesD ls) (bsD B1) ss1 (osD B1)) := by
      simp [lp2_Reach___init__, en]
      exact g1
    obtain ⟨B', ss', a4, a5, a6, a7, a8, q1, q2, qs, q3, q4⟩ := ln_loopS hn hlt e1 e2 rs (pre ++ [l]) B1 ss1 (some (.dat (.int (pre.length : Int)))) (some (.dat (lineD l))) b1 b2 b3 hpre g3 (ks_at g2 hj)
    rw [hlen] at q1
    refine ⟨B', ss', a4, a5, a6, a7, a8, (loopF_nx rfl y).trans q1, g2.trans q2, gs.trans qs, q3, fun l' hl' => ?_⟩
    rcases List.mem_cons.mp hl' with z | z
    · rw [z]
      exact fun e he hu q hq => ks_sub q2 (g4 e he hu q hq)
    · exact q4 l' z
def WholeS (ls : List GP.Ln) (B : Bs) (ss : List (Key × D)) : Prop := ∀ l ∈ ls, ∀ e ∈ l, e.1 ∈ ksB B → ∀ q ∈ l, q.1 ∈ ksB B ∧ dOf ss q.1 ≤ dOf ss e.1 + 1
theorem wh_loopS {M : Mem} {ls : List GP.Ln} {n s : Nat} (hn : n ≤ 40) (hlt : ∀ l ∈ ls, ∀ e ∈ l, e.1 < n) (e1 : Option SV) :
    ∀ (fuel j : Nat) (B : Bs) (ss : List (Key × D)) (e4 e5 e6 e7 e8 : Option SV), BK ls n s B ss → j ≤ B.length → n < fuel + j →
      (∀ u, (ksB B)[j]? = some u → ∀ w ∈ ksB B, dOf ss w ≤ dOf ss u + 1) →
      (∀ i u, i < j → (ksB B)[i]? = some u → ∀ l ∈ ls, ∀ e ∈ l, e.1 = u → ∀ q ∈ l, q.1 ∈ ksB B ∧ dOf ss q.1 ≤ dOf ss u + 1) →
      ∃ B' ss' env', loopW ts4_Reach___init__ lp3_Reach___init__ fuel [some (.ref M.length), e1, some (.dat (linesD ls)), some (.dat (.int (j : Int))), e4, e5, e6, e7, e8] (RM M (linesD ls) (bsD B) ss (osD B))
        = .ok (.nx env') (RM M (linesD ls) (bsD B') ss' (osD B')) ∧ BK ls n s B' ss' ∧ WholeS ls B' ss'
  | 0, j, B, ss, e4, e5, e6, e7, e8, h, h1, h2, ht, h3 => by
    have := h.bi.len
    omega
  | fuel + 1, j, B, ss, e4, e5, e6, e7, e8, h, h1, h2, ht, h3 => by
    have t := ts_ok (M := M) (L := linesD ls) (bs := bsD B) (ss := ss) (os := osD B) (e1 := e1) (e2 := some (.dat (linesD ls))) (e4 := e4) (e5 := e5) (e6 := e6) (e7 := e7) (e8 := e8) (j := (j : Int))
    have ol : (osD B).length = B.length := by simp [osD]
    rw [ol] at t
    by_cases hj : j < B.length
    · obtain ⟨u, hu⟩ : ∃ u, (ksB B)[j]? = some u := ⟨_, List.getElem?_eq_getElem (by simpa [ksB] using hj)⟩
      rw [show decide ((j : Int) < (B.length : Int)) = true by simpa using hj] at t
      have hJ : BJ ls n s u B ss := ⟨h, List.mem_of_getElem? hu, ht u hu⟩
      obtain ⟨B1, ss1, b4, b5, b6, b7, b8, g1, g2, gs, g3, g4⟩ := ln_loopS (M := M) hn hlt e1 (some (.dat (linesD ls))) ls [] B ss e4 e5 e6 e7 e8 rfl hJ hu
      have en : ∀ m, enumV [.dat (linesD ls)] m = .ok (enumF (ls.map lineD) 0) m := enum_ok _
      have y : lp3_Reach___init__ [some (.ref M.length), e1, some (.dat (linesD ls)), some (.dat (.int (j : Int))), e4, e5, e6, e7, e8] (RM M (linesD ls) (bsD B) ss (osD B)) = .ok (.nx [some (.ref M.length), e1, some (.dat (linesD ls)), some (.dat (.int ((j + 1 : Nat) : Int))), b4, b5, b6, b7, b8]) (RM M (linesD ls) (bsD B1) ss1 (osD B1)) := by
        simp [lp3_Reach___init__, en]
        rw [List.length_nil] at g1
        rw [g1]
        simp
      have hu1 := ks_at g2 hu
      obtain ⟨B', ss', env', q1, q2, q3⟩ := wh_loopS hn hlt e1 fuel (j + 1) B1 ss1 b4 b5 b6 b7 b8 g3.k (by have := g2.length_le; omega) (by omega) (fun u' hu' w hw => by
        have m1 := List.pairwise_iff_getElem.mp g3.k.mono j (j + 1) (List.getElem?_eq_some_iff.mp hu1).1 (List.getElem?_eq_some_iff.mp hu').1 (by omega)
        rw [(List.getElem?_eq_some_iff.mp hu1).2, (List.getElem?_eq_some_iff.mp hu').2] at m1
        have := g3.top w hw
        omega) fun i w hi hw => by
        rcases Nat.lt_or_ge i j with z | z
        · have hw0 : (ksB B)[i]? = some w := by
            obtain ⟨tl, ht⟩ := ks_pre g2
            rw [← ht, List.getElem?_append_left (by simp [ksB]; omega)] at hw
            exact hw
          intro l hl e he hu' q hq
          obtain ⟨r1, r2⟩ := h3 i w z hw0 l hl e he hu' q hq
          rw [dOf_app h.bi gs r1, dOf_app h.bi gs (List.mem_of_getElem? hw0)]
          exact ⟨ks_sub g2 r1, r2⟩
        · have : i = j := by omega
          subst this
          rw [hu1] at hw
          cases hw
          exact fun l hl e he hu' q hq => ⟨g4 l hl e he hu' q hq, g3.top _ (g4 l hl e he hu' q hq)⟩
      refine ⟨B', ss', env', ?_, q2, q3⟩
      unfold loopW
      show R.bnd (ts4_Reach___init__ _ _) _ = _
      rw [t, bnd_ok]
      show R.bnd (lp3_Reach___init__ _ _) _ = _
      rw [y, bnd_ok]
      exact q1
    · have ej : j = B.length := by omega
      rw [show decide ((j : Int) < (B.length : Int)) = false by simp; omega] at t
      refine ⟨B, ss, [some (.ref M.length), e1, some (.dat (linesD ls)), some (.dat (.int (j : Int))), e4, e5, e6, e7, e8], ?_, h, fun l hl e he hk q hq => ?_⟩
      · unfold loopW
        show R.bnd (ts4_Reach___init__ _ _) _ = _
        rw [t, bnd_ok]
        rfl
      · obtain ⟨i, hi, hie⟩ := List.getElem_of_mem hk
        exact h3 i e.1 (by simp [ksB] at hi; omega) (by rw [List.getElem?_eq_getElem hi, hie]) l hl e he rfl q hq
theorem reach_okS (M : Mem) {ls : List GP.Ln} {n s : Nat} (hn : n ≤ 40) (hlt : ∀ l ∈ ls, ∀ e ∈ l, e.1 < n) (hs : s < n) :
    ∃ B ss, F_Reach___init__ [.ref M.length, .dat (.int (s : Int)), .dat (linesD ls)] (R0 M) = .ok (.dat .non) (RM M (linesD ls) (bsD B) ss (osD B)) ∧ BK ls n s B ss ∧ WholeS ls B ss := by
  have b0 : BI ls n s [(s, 0)] [(Sum.inl (s : Int), .lst [])] := ⟨by simp [ksB], fun v hv => by simp [ksB] at hv; omega, List.mem_cons_self, fun e he => by rw [List.mem_singleton.mp he]; exact .refl, by simp, fun e he => by rw [List.mem_singleton.mp he]; exact ⟨[], rfl, by simp⟩⟩
  have d0 : dOf [(Sum.inl (s : Int), D.lst [])] s = 0 := by
    unfold dOf
    rw [getI_cons, if_pos rfl]
    rfl
  have k0 : BK ls n s [(s, 0)] [(Sum.inl (s : Int), .lst [])] := ⟨b0, fun e he => by
    rw [List.mem_singleton.mp he]
    simp only
    rw [d0]
    exact .nil, by simp [ksB], fun e he xs hx x hxx => by
    rw [List.mem_singleton.mp he] at hx
    cases hx
    exact absurd hxx List.not_mem_nil, d0⟩
  obtain ⟨B, ss, env', q1, q2, q3⟩ := wh_loopS (M := M) hn hlt (some (.dat (.int (s : Int)))) 1000 0 [(s, 0)] [(Sum.inl (s : Int), .lst [])] none none none none none k0 (Nat.zero_le _) (by omega) (fun u hu w hw => by
    have : w = s := by simpa [ksB] using hw
    rw [this, d0]
    omega) fun i u hi => by omega
  refine ⟨B, ss, ?_, q2, q3⟩
  simp only [F_Reach___init__, fnRunK, ri_split, enter, List.map, List.length_cons, List.length_nil, List.replicate, List.cons_append, List.nil_append]
  rw [dSeq_ap]
  have r5 : ∀ m, ri5 [some (.ref M.length), some (.dat (.int (s : Int))), some (.dat (linesD ls)), none, none, none, none, none, none] m = .ok (.nx [some (.ref M.length), some (.dat (.int (s : Int))), some (.dat (linesD ls)), some (.dat (.int 0)), none, none, none, none, none]) m := fun m => by simp [ri5]
  have e1 : bsD [(s, 0)] = [(Sum.inl (s : Int), D.int 0)] := rfl
  have e2 : osD [(s, 0)] = [D.int (s : Int)] := rfl
  rw [e1, e2] at q1
  have q1 : loopW ts4_Reach___init__ lp3_Reach___init__ 1000 [some (.ref M.length), some (.dat (.int (s : Int))), some (.dat (linesD ls)), some (.dat (.int 0)), none, none, none, none, none] (RM M (linesD ls) [(Sum.inl (s : Int), D.int 0)] [(Sum.inl (s : Int), .lst [])] [.int (s : Int)]) = .ok (.nx env') (RM M (linesD ls) (bsD B) ss (osD B)) := q1
  simp [ri1_ok, ri2_ok, ri3_ok, ri4_ok, r5, ri6, dSeq_ap, q1]
def stp (ss : List (Key × D)) (v : Nat) : List D := match dGetI ss (Sum.inl (v : Int)) with
  | some (.lst xs) => xs
  | _ => []
def bkD (x : D) : D := match x with
  | .tup [a, b, c] => .tup [a, c, b]
  | x => x
def fD : Option (List D) → D
  | none => .non
  | some xs => .lst xs
def newF (f : Option (List D)) (c : List D) : Option (List D) := match f with
  | none => some c
  | some g => if c.length < g.length then some c else some g
def bsF (B : Bs) (v : Nat) : Int := (bAt B v).getD 0
def cand (B : Bs) (ss : List (Key × D)) (num a to : Nat) (p q : Nat × Int) : List (List D) :=
  if p.1 ∈ ksB B ∧ a < to ∧ bsF B p.1 + p.2 ≠ bsF B q.1 + q.2 then [stp ss p.1 ++ [.tup [.int (num : Int), .int (a : Int), .int (to : Int)]] ++ (stp ss q.1).reverse.map bkD] else []
theorem stp_len (ss : List (Key × D)) (v : Nat) : (stp ss v).length = dOf ss v := by
  unfold stp dOf
  cases dGetI ss (Sum.inl (v : Int)) with
  | none => rfl
  | some d => cases d <;> rfl
section
variable {M : Mem} {ls : List GP.Ln} {n s : Nat} {B : Bs} {ss : List (Key × D)}
theorem BK.some (h : BK ls n s B ss) {v : Nat} (hv : v ∈ ksB B) : dGetI (bsD B) (Sum.inl (v : Int)) = some (.int (bsF B v)) ∧ dGetI ss (Sum.inl (v : Int)) = some (.lst (stp ss v)) ∧ (stp ss v).length < B.length ∧ ∀ x ∈ stp ss v, Tri x := by
  obtain ⟨xs, h1, h2, h3⟩ := h.bi.get hv
  have e : stp ss v = xs := by unfold stp; rw [h1]
  refine ⟨?_, by rw [e]; exact h1, by rw [e]; exact h3, by rw [e]; exact h.t3 _ h2 xs rfl⟩
  rw [bs_get]
  unfold bsF
  cases hb : bAt B v with
  | none => exact absurd hv (bAt_none.mp hb)
  | some b => rfl
theorem wr_turn (hn : n ≤ 40) (h : BK ls n s B ss) (w : WholeS ls B ss) {l : GP.Ln} (hl : l ∈ ls) {num a to : Nat} {p q : Nat × Int} (hp : p ∈ l) (hq : q ∈ l) (f : Option (List D)) (e3 e10 e11 e12 : Option SV) :
    ∃ x10 x11, lp2_Reach_wrong [some (.ref M.length), some (.dat (fD f)), some (.dat (.int (num : Int))), e3, some (.dat (.int (a : Int))), some (.dat (.int (p.1 : Int))), some (.dat (.int p.2)), some (.dat (.int (to : Int))), some (.dat (.int (q.1 : Int))), some (.dat (.int q.2)), e10, e11, e12] (RM M (linesD ls) (bsD B) ss (osD B))
      = .ok (.nx [some (.ref M.length), some (.dat (fD ((cand B ss num a to p q).foldl newF f))), some (.dat (.int (num : Int))), e3, some (.dat (.int (a : Int))), some (.dat (.int (p.1 : Int))), some (.dat (.int p.2)), some (.dat (.int (to : Int))), some (.dat (.int (q.1 : Int))), some (.dat (.int q.2)), x10, x11, e12]) (RM M (linesD ls) (bsD B) ss (osD B)) := by
  have hlen := h.bi.len
  by_cases h1 : p.1 ∈ ksB B
  · obtain ⟨g1, g2, g3, g4⟩ := h.some h1
    obtain ⟨k1, k2, k3, k4⟩ := h.some (w l hl p hp h1 q hq).1
    by_cases h2 : a < to
    · by_cases h3 : bsF B p.1 + p.2 = bsF B q.1 + q.2
      · have c : cand B ss num a to p q = [] := by unfold cand; rw [if_neg (fun z => z.2.2 h3)]
        rw [c]
        refine ⟨e10, e11, ?_⟩
        simp [lp2_Reach_wrong, dFld, rm_bases, inKV, inB_, inC, rm_4, keyD, g1, k1, itemV, itemC, h2, h3]
      · have c : cand B ss num a to p q = [stp ss p.1 ++ [.tup [.int (num : Int), .int (a : Int), .int (to : Int)]] ++ (stp ss q.1).reverse.map bkD] := by unfold cand; rw [if_pos ⟨h1, h2, h3⟩]
        rw [c]
        have lc : ∀ (e0 e1 e2 e4 e5 e6 e7 e8 e9 e10 e11 : Option SV) m, noX (loopC (gN 12) dYes ce1_Reach_wrong [e0, e1, e2, e3, e4, e5, e6, e7, e8, e9, e10, e11, none] (stp ss q.1).reverse []) m = .ok ((stp ss q.1).reverse.map bkD) m := fun e0 e1 e2 e4 e5 e6 e7 e8 e9 e10 e11 m =>
          loopC_all bkD _ (fun x hx => by
            obtain ⟨i, j, k, rfl⟩ := k4 x (List.mem_reverse.mp hx)
            exact ⟨_, rfl, by simp [ce1_Reach_wrong, ixV, rdSq, rdL, atI, ixN, mkTup, allDat, bkD]⟩) (by simp; omega)
        have mk : ∀ m, mkTup [.dat (.int (num : Int)), .dat (.int (a : Int)), .dat (.int (to : Int))] m = .ok (.dat (.tup [.int (num : Int), .int (a : Int), .int (to : Int)])) m := fun m => by simp [mkTup, allDat]
        have rv : ∀ m, revA false (.dat (.lst (stp ss q.1))) m = .ok (.dat (.lst (stp ss q.1).reverse)) m := fun m => by simp [revA, rdL]
        have it : ∀ m, itemsV (.dat (.lst (stp ss q.1).reverse)) m = .ok (stp ss q.1).reverse m := fun m => by simp [itemsV]
        have l1 : ((stp ss q.1).reverse.map bkD).length = (stp ss q.1).length := by simp
        have ad1 : ∀ m, addV (.dat (.lst (stp ss p.1))) (.dat (.lst [.tup [.int (num : Int), .int (a : Int), .int (to : Int)]])) m = .ok (.dat (.lst (stp ss p.1 ++ [.tup [.int (num : Int), .int (a : Int), .int (to : Int)]]))) m := fun m => by
          simp [addV, rdL]
          omega
        have ad2 : ∀ m, addV (.dat (.lst (stp ss p.1 ++ [.tup [.int (num : Int), .int (a : Int), .int (to : Int)]]))) (.dat (.lst ((stp ss q.1).reverse.map bkD))) m = .ok (.dat (.lst (stp ss p.1 ++ [.tup [.int (num : Int), .int (a : Int), .int (to : Int)]] ++ (stp ss q.1).reverse.map bkD))) m := fun m => by
          simp only [addV, rdL]
          rw [if_pos (by simp; omega)]
        have ml : ∀ (d : D) m, mkLst [.dat d] m = .ok (.dat (.lst [d])) m := fun d m => by simp [mkLst, allDat]
        generalize hR : (stp ss q.1).reverse = RS at *
        generalize hC : stp ss p.1 ++ [.tup [.int (num : Int), .int (a : Int), .int (to : Int)]] ++ RS.map bkD = C at *
        generalize hP : stp ss p.1 ++ [.tup [.int (num : Int), .int (a : Int), .int (to : Int)]] = P1 at *
        generalize hQ : stp ss p.1 = SP at *
        generalize hS : stp ss q.1 = SQ at *
        generalize hK : RS.map bkD = RK at *
        have e1 : ∀ xs : List D, lenV [.dat (.lst xs)] (RM M (linesD ls) (bsD B) ss (osD B)) = .ok (.dat (.int (xs.length : Int))) (RM M (linesD ls) (bsD B) ss (osD B)) := fun xs => by simp [lenV, rdSq, rdL]
        refine ⟨some (.dat (.lst RK)), some (.dat (.lst C)), ?_⟩
        cases f with
        | none =>
          have nn : ∀ m, isNV (.dat (fD none)) (.dat .non) m = .ok (.dat (.bl true)) m := fun m => by simp [isNV, fD]
          simp [lp2_Reach_wrong, dFld, rm_bases, rm_steps, inKV, inB_, inC, rm_4, rm_6, keyD, g1, k1, g2, k2, itemV, itemC, h2, h3, rv, it, wipeE, lc, mk, ml, ad1, ad2, nn, newF, fD]
        | some g =>
          have nn : ∀ m, isNV (.dat (fD (some g))) (.dat .non) m = .ok (.dat (.bl false)) m := fun m => by simp [isNV, fD]
          have e2 : ∀ m, lenV [.dat (fD (some g))] m = .ok (.dat (.int (g.length : Int))) m := fun m => by simp [lenV, rdSq, rdL, fD]
          by_cases hlt : C.length < g.length
          · have : (C.length : Int) < (g.length : Int) := by omega
            simp [lp2_Reach_wrong, dFld, rm_bases, rm_steps, inKV, inB_, inC, rm_4, rm_6, keyD, g1, k1, g2, k2, itemV, itemC, h2, h3, rv, it, wipeE, lc, mk, ml, ad1, ad2, nn, e1, e2, this, newF, hlt]
            rfl
          · have : ¬ (C.length : Int) < (g.length : Int) := by omega
            simp [lp2_Reach_wrong, dFld, rm_bases, rm_steps, inKV, inB_, inC, rm_4, rm_6, keyD, g1, k1, g2, k2, itemV, itemC, h2, h3, rv, it, wipeE, lc, mk, ml, ad1, ad2, nn, e1, e2, this, newF, hlt]
    · have c : cand B ss num a to p q = [] := by unfold cand; rw [if_neg (fun z => h2 z.2.1)]
      rw [c]
      refine ⟨e10, e11, ?_⟩
      have h2' : ¬ (a : Int) < (to : Int) := by omega
      simp [lp2_Reach_wrong, dFld, rm_bases, inKV, inB_, inC, rm_4, keyD, g1, h2]
  · have c : cand B ss num a to p q = [] := by unfold cand; rw [if_neg (fun z => h1 z.1)]
    rw [c]
    refine ⟨e10, e11, ?_⟩
    have g1 : dGetI (bsD B) (Sum.inl (p.1 : Int)) = none := by rw [bs_get, bAt_none.mpr h1]; rfl
    simp [lp2_Reach_wrong, dFld, rm_bases, inKV, inB_, inC, rm_4, keyD, g1]
end
def candT (B : Bs) (ss : List (Key × D)) (num a : Nat) (p : Nat × Int) (r : GP.Ln) (k : Nat) : List (List D) := (r.zipIdx k).flatMap fun x => cand B ss num a x.2 p x.1
def candA (B : Bs) (ss : List (Key × D)) (num : Nat) (l r : GP.Ln) (k : Nat) : List (List D) := (r.zipIdx k).flatMap fun y => candT B ss num y.2 y.1 l 0
def candL (B : Bs) (ss : List (Key × D)) (rs : List GP.Ln) (k : Nat) : List (List D) := (rs.zipIdx k).flatMap fun z => candA B ss z.2 z.1 z.1 0
section
variable {M : Mem} {ls : List GP.Ln} {n s : Nat} {B : Bs} {ss : List (Key × D)}
theorem to_loop (hn : n ≤ 40) (h : BK ls n s B ss) (w : WholeS ls B ss) {l : GP.Ln} (hl : l ∈ ls) {num a : Nat} {p : Nat × Int} (hp : p ∈ l) (e3 e12 : Option SV) :
    ∀ (r : GP.Ln) (k : Nat) (f : Option (List D)) (e7 e8 e9 e10 e11 : Option SV), (∀ q ∈ r, q ∈ l) →
    ∃ x7 x8 x9 x10 x11, loopF (gT 2 (gsC (gN 7) (gsC (gT 2 (gsC (gN 8) (gsC (gN 9) gsN))) gsN))) lp2_Reach_wrong (enumF (r.map itD) k) [some (.ref M.length), some (.dat (fD f)), some (.dat (.int (num : Int))), e3, some (.dat (.int (a : Int))), some (.dat (.int (p.1 : Int))), some (.dat (.int p.2)), e7, e8, e9, e10, e11, e12] (RM M (linesD ls) (bsD B) ss (osD B))
      = .ok (.nx [some (.ref M.length), some (.dat (fD ((candT B ss num a p r k).foldl newF f))), some (.dat (.int (num : Int))), e3, some (.dat (.int (a : Int))), some (.dat (.int (p.1 : Int))), some (.dat (.int p.2)), x7, x8, x9, x10, x11, e12]) (RM M (linesD ls) (bsD B) ss (osD B))
  | [], k, f, e7, e8, e9, e10, e11, hr => ⟨e7, e8, e9, e10, e11, rfl⟩
  | q :: r, k, f, e7, e8, e9, e10, e11, hr => by
    obtain ⟨x10, x11, t⟩ := wr_turn (M := M) hn h w hl (num := num) (a := a) (to := k) hp (hr q List.mem_cons_self) f e3 e10 e11 e12
    obtain ⟨y7, y8, y9, y10, y11, g⟩ := to_loop hn h w hl hp e3 e12 r (k + 1) ((cand B ss num a k p q).foldl newF f) (some (.dat (.int (k : Int)))) (some (.dat (.int (q.1 : Int)))) (some (.dat (.int q.2))) x10 x11 fun z hz => hr z (List.mem_cons_of_mem _ hz)
    refine ⟨y7, y8, y9, y10, y11, ?_⟩
    have e : candT B ss num a p (q :: r) k = cand B ss num a k p q ++ candT B ss num a p r (k + 1) := by simp [candT, List.zipIdx_cons]
    rw [List.map_cons, enumF_cons, e, List.foldl_append]
    exact (loopF_nx rfl t).trans g
theorem at_loopW (hn : n ≤ 40) (h : BK ls n s B ss) (w : WholeS ls B ss) {l : GP.Ln} (hl : l ∈ ls) {num : Nat} (e12 : Option SV) :
    ∀ (r : GP.Ln) (k : Nat) (f : Option (List D)) (e4 e5 e6 e7 e8 e9 e10 e11 : Option SV), (∀ q ∈ r, q ∈ l) →
    ∃ x4 x5 x6 x7 x8 x9 x10 x11, loopF (gT 2 (gsC (gN 4) (gsC (gT 2 (gsC (gN 5) (gsC (gN 6) gsN))) gsN))) lp3_Reach_wrong (enumF (r.map itD) k) [some (.ref M.length), some (.dat (fD f)), some (.dat (.int (num : Int))), some (.dat (lineD l)), e4, e5, e6, e7, e8, e9, e10, e11, e12] (RM M (linesD ls) (bsD B) ss (osD B))
      = .ok (.nx [some (.ref M.length), some (.dat (fD ((candA B ss num l r k).foldl newF f))), some (.dat (.int (num : Int))), some (.dat (lineD l)), x4, x5, x6, x7, x8, x9, x10, x11, e12]) (RM M (linesD ls) (bsD B) ss (osD B))
  | [], k, f, e4, e5, e6, e7, e8, e9, e10, e11, hr => ⟨e4, e5, e6, e7, e8, e9, e10, e11, rfl⟩
  | p :: r, k, f, e4, e5, e6, e7, e8, e9, e10, e11, hr => by
    obtain ⟨y7, y8, y9, y10, y11, g⟩ := to_loop (M := M) hn h w hl (num := num) (a := k) (hr p List.mem_cons_self) (some (.dat (lineD l))) e12 l 0 f e7 e8 e9 e10 e11 fun z hz => hz
    have en : ∀ m, enumV [.dat (lineD l)] m = .ok (enumF (l.map itD) 0) m := enum_ok _
    have t : lp3_Reach_wrong [some (.ref M.length), some (.dat (fD f)), some (.dat (.int (num : Int))), some (.dat (lineD l)), some (.dat (.int (k : Int))), some (.dat (.int (p.1 : Int))), some (.dat (.int p.2)), e7, e8, e9, e10, e11, e12] (RM M (linesD ls) (bsD B) ss (osD B))
      = .ok (.nx [some (.ref M.length), some (.dat (fD ((candT B ss num k p l 0).foldl newF f))), some (.dat (.int (num : Int))), some (.dat (lineD l)), some (.dat (.int (k : Int))), some (.dat (.int (p.1 : Int))), some (.dat (.int p.2)), y7, y8, y9, y10, y11, e12]) (RM M (linesD ls) (bsD B) ss (osD B)) := by
      simp [lp3_Reach_wrong, en]
      exact g
    obtain ⟨x4, x5, x6, x7, x8, x9, x10, x11, g2⟩ := at_loopW hn h w hl (num := num) e12 r (k + 1) ((candT B ss num k p l 0).foldl newF f) (some (.dat (.int (k : Int)))) (some (.dat (.int (p.1 : Int)))) (some (.dat (.int p.2))) y7 y8 y9 y10 y11 fun z hz => hr z (List.mem_cons_of_mem _ hz)
    refine ⟨x4, x5, x6, x7, x8, x9, x10, x11, ?_⟩
    have e : candA B ss num l (p :: r) k = candT B ss num k p l 0 ++ candA B ss num l r (k + 1) := by simp [candA, List.zipIdx_cons]
    rw [List.map_cons, enumF_cons, e, List.foldl_append]
    exact (loopF_nx rfl t).trans g2
theorem no_loopW (hn : n ≤ 40) (h : BK ls n s B ss) (w : WholeS ls B ss) (e12 : Option SV) :
    ∀ (rs : List GP.Ln) (k : Nat) (f : Option (List D)) (e2 e3 e4 e5 e6 e7 e8 e9 e10 e11 : Option SV), (∀ l ∈ rs, l ∈ ls) →
    ∃ x2 x3 x4 x5 x6 x7 x8 x9 x10 x11, loopF (gT 2 (gsC (gN 2) (gsC (gN 3) gsN))) lp4_Reach_wrong (enumF (rs.map lineD) k) [some (.ref M.length), some (.dat (fD f)), e2, e3, e4, e5, e6, e7, e8, e9, e10, e11, e12] (RM M (linesD ls) (bsD B) ss (osD B))
      = .ok (.nx [some (.ref M.length), some (.dat (fD ((candL B ss rs k).foldl newF f))), x2, x3, x4, x5, x6, x7, x8, x9, x10, x11, e12]) (RM M (linesD ls) (bsD B) ss (osD B))
  | [], k, f, e2, e3, e4, e5, e6, e7, e8, e9, e10, e11, hr => ⟨e2, e3, e4, e5, e6, e7, e8, e9, e10, e11, rfl⟩
  | l :: rs, k, f, e2, e3, e4, e5, e6, e7, e8, e9, e10, e11, hr => by
    obtain ⟨y4, y5, y6, y7, y8, y9, y10, y11, g⟩ := at_loopW (M := M) hn h w (hr l List.mem_cons_self) (num := k) e12 l 0 f e4 e5 e6 e7 e8 e9 e10 e11 fun z hz => hz
    have en : ∀ m, enumV [.dat (lineD l)] m = .ok (enumF (l.map itD) 0) m := enum_ok _
    have t : lp4_Reach_wrong [some (.ref M.length), some (.dat (fD f)), some (.dat (.int (k : Int))), some (.dat (lineD l)), e4, e5, e6, e7, e8, e9, e10, e11, e12] (RM M (linesD ls) (bsD B) ss (osD B))
      = .ok (.nx [some (.ref M.length), some (.dat (fD ((candA B ss k l l 0).foldl newF f))), some (.dat (.int (k : Int))), some (.dat (lineD l)), y4, y5, y6, y7, y8, y9, y10, y11, e12]) (RM M (linesD ls) (bsD B) ss (osD B)) := by
      simp [lp4_Reach_wrong, en]
      exact g
    obtain ⟨x2, x3, x4, x5, x6, x7, x8, x9, x10, x11, g2⟩ := no_loopW hn h w e12 rs (k + 1) ((candA B ss k l l 0).foldl newF f) (some (.dat (.int (k : Int)))) (some (.dat (lineD l))) y4 y5 y6 y7 y8 y9 y10 y11 fun z hz => hr z (List.mem_cons_of_mem _ hz)
    refine ⟨x2, x3, x4, x5, x6, x7, x8, x9, x10, x11, ?_⟩
    have e : candL B ss (l :: rs) k = candA B ss k l l 0 ++ candL B ss rs (k + 1) := by simp [candL, List.zipIdx_cons]
    rw [List.map_cons, enumF_cons, e, List.foldl_append]
    exact (loopF_nx rfl t).trans g2
theorem wrong_ok (hn : n ≤ 40) (h : BK ls n s B ss) (w : WholeS ls B ss) : F_Reach_wrong [.ref M.length] (RM M (linesD ls) (bsD B) ss (osD B)) = .ok (.dat (fD ((candL B ss ls 0).foldl newF none))) (RM M (linesD ls) (bsD B) ss (osD B)) := by
  have en : ∀ m, enumV [.dat (linesD ls)] m = .ok (enumF (ls.map lineD) 0) m := enum_ok _
  obtain ⟨x2, x3, x4, x5, x6, x7, x8, x9, x10, x11, g⟩ := no_loopW (M := M) hn h w none ls 0 none none none none none none none none none none none fun l hl => hl
  have g : loopF (gT 2 (gsC (gN 2) (gsC (gN 3) gsN))) lp4_Reach_wrong (enumF (ls.map lineD) 0) [some (.ref M.length), some (.dat .non), none, none, none, none, none, none, none, none, none, none, none] (RM M (linesD ls) (bsD B) ss (osD B)) = _ := g
  simp [F_Reach_wrong, fnRun_ap, den_Reach_wrong, enter, dFld, rm_lines, en]
  rw [g]
  simp [rm_len, rm_tkw]
theorem fold_some : ∀ (cs : List (List D)) (g : List D), ∃ f, cs.foldl newF (some g) = some f ∧ (f = g ∨ f ∈ cs) ∧ f.length ≤ g.length ∧ ∀ c ∈ cs, f.length ≤ c.length
  | [], g => ⟨g, rfl, .inl rfl, Nat.le_refl _, fun c hc => by cases hc⟩
  | c :: cs, g => by
    by_cases h : c.length < g.length
    · obtain ⟨f, h1, h2, h3, h4⟩ := fold_some cs c
      refine ⟨f, ?_, ?_, by omega, fun x hx => ?_⟩
      · rw [List.foldl_cons]
        show cs.foldl newF (if c.length < g.length then some c else some g) = _
        rw [if_pos h]
        exact h1
      · rcases h2 with z | z
        · exact .inr (by rw [z]; exact List.mem_cons_self)
        · exact .inr (List.mem_cons_of_mem _ z)
      · rcases List.mem_cons.mp hx with z | z
        · rw [z]; exact h3
        · exact h4 x z
    · obtain ⟨f, h1, h2, h3, h4⟩ := fold_some cs g
      refine ⟨f, ?_, ?_, h3, fun x hx => ?_⟩
      · rw [List.foldl_cons]
        show cs.foldl newF (if c.length < g.length then some c else some g) = _
        rw [if_neg h]
        exact h1
      · rcases h2 with z | z
        · exact .inl z
        · exact .inr (List.mem_cons_of_mem _ z)
      · rcases List.mem_cons.mp hx with z | z
        · rw [z]; omega
        · exact h4 x z
theorem fold_none (cs : List (List D)) : (cs = [] ∧ cs.foldl newF none = none) ∨ ∃ f, cs.foldl newF none = some f ∧ f ∈ cs ∧ ∀ c ∈ cs, f.length ≤ c.length := by
  cases cs with
  | nil => exact .inl ⟨rfl, rfl⟩
  | cons c cs =>
    obtain ⟨f, h1, h2, h3, h4⟩ := fold_some cs c
    refine .inr ⟨f, h1, ?_, fun x hx => ?_⟩
    · rcases h2 with z | z
      · rw [z]; exact List.mem_cons_self
      · exact List.mem_cons_of_mem _ z
    · rcases List.mem_cons.mp hx with z | z
      · rw [z]; exact h3
      · exact h4 x z
theorem bk_bf (h : BK ls n s B ss) (w : WholeS ls B ss) : GP.Bf ls s (· ∈ ksB B) (bsF B) (dOf ss) := by
  have hs : s ∈ ksB B := List.mem_map.mpr ⟨_, h.bi.s0, rfl⟩
  have at_ : ∀ v ∈ ksB B, (v, bsF B v) ∈ B := fun v hv => by
    unfold bsF
    cases hb : bAt B v with
    | none => exact absurd hv (bAt_none.mp hb)
    | some b => exact bAt_mem hb
  have un : ∀ {v : Nat} {b c : Int}, (v, b) ∈ B → (v, c) ∈ B → b = c := fun {v b c} h1 h2 => by
    have nd := h.bi.nd
    unfold ksB at nd
    clear at_ hs w
    generalize B = B at *
    clear h
    induction B with
    | nil => cases h1
    | cons e r ih =>
      rw [List.map_cons, List.nodup_cons] at nd
      rcases List.mem_cons.mp h1 with z | z <;> rcases List.mem_cons.mp h2 with y | y
      · rw [← z] at y; cases y; rfl
      · exact absurd (List.mem_map.mpr ⟨_, y, by rw [← z]⟩) nd.1
      · exact absurd (List.mem_map.mpr ⟨_, z, by rw [← y]⟩) nd.1
      · exact ih z y nd.2
  exact ⟨hs, un (at_ s hs) h.bi.s0, fun v hv => h.wk _ (at_ v hv), h.z0, fun l hl p hp q hq hd => w l hl p hp hd q hq⟩
theorem cand_mem {c : List D} : c ∈ candL B ss ls 0 → ∃ l ∈ ls, ∃ p ∈ l, ∃ q ∈ l, p.1 ∈ ksB B ∧ bsF B p.1 + p.2 ≠ bsF B q.1 + q.2 ∧ c.length = dOf ss p.1 + 1 + dOf ss q.1 := by
  intro hc
  obtain ⟨⟨l, num⟩, h1, hc⟩ := List.mem_flatMap.mp hc
  obtain ⟨⟨p, a⟩, h2, hc⟩ := List.mem_flatMap.mp hc
  obtain ⟨⟨q, to⟩, h3, hc⟩ := List.mem_flatMap.mp hc
  have m1 := List.mem_of_getElem? (List.mem_zipIdx_iff_getElem?.mp h1)
  have m2 := List.mem_of_getElem? (List.mem_zipIdx_iff_getElem?.mp h2)
  have m3 := List.mem_of_getElem? (List.mem_zipIdx_iff_getElem?.mp h3)
  unfold cand at hc
  split at hc
  · rename_i z
    rw [List.mem_singleton.mp hc]
    refine ⟨l, m1, p, m2, q, m3, z.1, z.2.2, ?_⟩
    simp [stp_len]
    omega
  · cases hc
theorem cand_of {l : GP.Ln} (hl : l ∈ ls) {p q : Nat × Int} {i j : Nat} (hp : l[i]? = some p) (hq : l[j]? = some q) (hij : i < j) (hd : p.1 ∈ ksB B) (ne : bsF B p.1 + p.2 ≠ bsF B q.1 + q.2) : ∃ c ∈ candL B ss ls 0, c.length = dOf ss p.1 + 1 + dOf ss q.1 := by
  obtain ⟨num, hnum, hln⟩ := List.getElem_of_mem hl
  refine ⟨stp ss p.1 ++ [.tup [.int (num : Int), .int (i : Int), .int (j : Int)]] ++ (stp ss q.1).reverse.map bkD, ?_, by simp [stp_len]; omega⟩
  refine List.mem_flatMap.mpr ⟨(l, num), List.mem_zipIdx_iff_getElem?.mpr (by rw [List.getElem?_eq_getElem hnum, hln]), ?_⟩
  refine List.mem_flatMap.mpr ⟨(p, i), List.mem_zipIdx_iff_getElem?.mpr hp, ?_⟩
  refine List.mem_flatMap.mpr ⟨(q, j), List.mem_zipIdx_iff_getElem?.mpr hq, ?_⟩
  show _ ∈ cand B ss num i j p q
  unfold cand
  rw [if_pos ⟨hd, hij, ne⟩]
  exact List.mem_cons_self
theorem wrong_ring (h : BK ls n s B ss) (w : WholeS ls B ss) : (∀ f, (candL B ss ls 0).foldl newF none = some f → GP.Ring ls f.length) ∧ ∀ {m : Nat} {b : Int}, GP.W ls s m s b → b ≠ 0 → ∃ f, (candL B ss ls 0).foldl newF none = some f ∧ f.length ≤ m := by
  have bf := bk_bf h w
  have fo := fold_none (candL B ss ls 0)
  constructor
  · intro f hf
    rcases fo with ⟨_, z⟩ | ⟨f', h1, h2, _⟩
    · rw [z] at hf; cases hf
    · rw [h1] at hf
      cases hf
      obtain ⟨l, hl, p, hp, q, hq, hd, ne, e⟩ := cand_mem h2
      rw [e]
      exact bf.ring hl hp hq hd ne
  · intro m b hw hb
    obtain ⟨l, hl, p, hp, q, hq, hd, ne, le⟩ := bf.mis hw hb
    obtain ⟨c, hc, e⟩ : ∃ c ∈ candL B ss ls 0, c.length ≤ m := by
      obtain ⟨i, hi, hpi⟩ := List.getElem_of_mem hp
      obtain ⟨j, hj, hqj⟩ := List.getElem_of_mem hq
      have gp : l[i]? = some p := by rw [List.getElem?_eq_getElem hi, hpi]
      have gq : l[j]? = some q := by rw [List.getElem?_eq_getElem hj, hqj]
      rcases Nat.lt_trichotomy i j with z | z | z
      · obtain ⟨c, h1, h2⟩ := cand_of (ss := ss) hl gp gq z hd ne
        exact ⟨c, h1, by omega⟩
      · subst z
        rw [gp] at gq
        cases gq
        exact absurd rfl ne
      · obtain ⟨c, h1, h2⟩ := cand_of (ss := ss) hl gq gp z (w l hl p hp hd q hq).1 (fun y => ne y.symm)
        exact ⟨c, h1, by omega⟩
    rcases fo with ⟨z, _⟩ | ⟨f, h1, _, h3⟩
    · rw [z] at hc; cases hc
    · exact ⟨f, h1, Nat.le_trans (h3 c hc) e⟩
end
theorem noX_ofR {r : P (List D)} {m m' : Mem} {a : List D} (h : r m = .ok a m') : noX r m = .ok a m' := by
  unfold noX
  simp only [h]
structure WrP (ls : List GP.Ln) (s : Nat) (r : Option (List D)) : Prop where
  ring : ∀ f, r = some f → GP.Ring ls f.length
  le : ∀ {m : Nat} {b : Int}, GP.W ls s m s b → b ≠ 0 → ∃ f, r = some f ∧ f.length ≤ m
theorem rgc1 {ls : List GP.Ln} {n s : Nat} (hn : n ≤ 40) (hlt : ∀ l ∈ ls, ∀ e ∈ l, e.1 < n) (hs : s < n) (e0 e2 e4 : Option SV) (X : Mem) :
    ∃ r X', ce1_ring_of [e0, some (.dat (linesD ls)), e2, some (.dat (.int (s : Int))), e4] X = .ok (.dat (fD r)) (X ++ X') ∧ WrP ls s r := by
  obtain ⟨B, ss, r1, bk, wh⟩ := reach_okS X hn hlt hs
  have mk : mkO "Reach" 3 F_Reach___init__ [.dat (.int (s : Int)), .dat (linesD ls)] X = .ok (.ref X.length) (RM X (linesD ls) (bsD B) ss (osD B)) := by
    unfold R0 at r1
    simp only [mkO]
    rw [if_pos (by rfl), r1]
  have wr := wrong_ok (M := X) hn bk wh
  obtain ⟨p1, p2⟩ := wrong_ring bk wh
  have k1 : ¬ (("wrong" : Str) = "lines") := by decide +kernel
  have k2 : ¬ (("wrong" : Str) = "bases") := by decide +kernel
  have k3 : ¬ (("wrong" : Str) = "steps") := by decide +kernel
  have k4 : ¬ (("wrong" : Str) = "order") := by decide +kernel
  refine ⟨_, [.dead, .odx, .dead, .dead, .dct (bsD B), .dead, .dct ss, .dead, .lst (osD B), .obj X.length "Reach" (RF X (linesD ls))], ?_, ⟨p1, p2⟩⟩
  · have e : RM X (linesD ls) (bsD B) ss (osD B) = X ++ [.dead, .odx, .dead, .dead, .dct (bsD B), .dead, .dct ss, .dead, .lst (osD B), .obj X.length "Reach" (RF X (linesD ls))] := rfl
    rw [← e]
    simp [ce1_ring_of, dMeth, dMake, mk, clsR, k1, k2, k3, k4, wr, P.ret]
theorem rg_loop {ls : List GP.Ln} {n : Nat} (hn : n ≤ 40) (hlt : ∀ l ∈ ls, ∀ e ∈ l, e.1 < n) (e0 e2 e3 e4 : Option SV) :
    ∀ (k s : Nat) (X : Mem) (acc : List D), s + k ≤ n → acc.length + k ≤ 1000 →
      ∃ rs : List (Option (List D)), ∃ X', loopC (gN 3) dYes ce1_ring_of [e0, some (.dat (linesD ls)), e2, e3, e4] (rngD (s : Int) k) acc X = .ok (acc ++ rs.map fD) (X ++ X') ∧ rs.length = k ∧ ∀ i r, rs[i]? = some r → WrP ls (s + i) r
  | 0, s, X, acc, _, _ => ⟨[], [], by simp [rngD, loopC], rfl, fun i r h => by simp at h⟩
  | k + 1, s, X, acc, hs, ha => by
    obtain ⟨r, X1, c, w⟩ := rgc1 hn hlt (s := s) (by omega) e0 e2 e4 X
    obtain ⟨rs, X2, q1, q2, q3⟩ := rg_loop hn hlt e0 e2 e3 e4 k (s + 1) (X ++ X1) (acc ++ [fD r]) (by omega) (by simp; omega)
    refine ⟨r :: rs, X1 ++ X2, ?_, by simp [q2], fun i x h => ?_⟩
    · have er : rngD (s : Int) (k + 1) = .int (s : Int) :: rngD ((s + 1 : Nat) : Int) k := by
        simp [rngD, List.range_succ_eq_map, Function.comp_def]
        intro a _
        omega
      rw [er]
      unfold loopC
      show R.bnd (R.ok true X) _ = _
      rw [bnd_ok]
      show R.bnd (ce1_ring_of [e0, some (.dat (linesD ls)), e2, some (.dat (.int (s : Int))), e4] X) _ = _
      rw [c, bnd_ok]
      show (if acc.length < 16777216 then loopC (gN 3) dYes ce1_ring_of [e0, some (.dat (linesD ls)), e2, e3, e4] (rngD ((s + 1 : Nat) : Int) k) (acc ++ [fD r]) (X ++ X1) else R.stuck) = _
      rw [if_pos (by omega), q1]
      simp
    · cases i with
      | zero =>
        have : r = x := by simpa using h
        rw [← this]
        exact w
      | succ i =>
        have := q3 i x (by simpa using h)
        rw [show s + (i + 1) = s + 1 + i by omega]
        exact this
theorem short_ex : ∀ {ds : List D}, ds ≠ [] → ∃ d, shortL ds = some d ∧ d ∈ ds ∧ ∀ e ∈ ds, lsLen d ≤ lsLen e := fun {ds} hne => by
  have ex : ∀ ds : List D, ds ≠ [] → ∃ d ∈ ds, ∀ e ∈ ds, lsLen d ≤ lsLen e := fun ds => by
    induction ds with
    | nil => exact fun z => absurd rfl z
    | cons x r ih =>
      intro _
      cases hr : r with
      | nil => exact ⟨x, List.mem_cons_self, fun e he => by rw [List.mem_singleton.mp he]; omega⟩
      | cons y r' =>
        obtain ⟨d, h1, h2⟩ := ih (by rw [hr]; simp)
        rw [hr] at h1 h2
        by_cases hx : lsLen x ≤ lsLen d
        · exact ⟨x, List.mem_cons_self, fun e he => by
            rcases List.mem_cons.mp he with z | z
            · rw [z]; omega
            · have := h2 e z; omega⟩
        · exact ⟨d, List.mem_cons_of_mem _ h1, fun e he => by
            rcases List.mem_cons.mp he with z | z
            · rw [z]; omega
            · exact h2 e z⟩
  obtain ⟨d, h1, h2⟩ := ex ds hne
  cases hs : shortL ds with
  | none =>
    unfold shortL at hs
    have := List.find?_eq_none.mp hs d h1
    exact absurd (List.all_eq_true.mpr fun e he => decide_eq_true (h2 e he)) this
  | some x =>
    unfold shortL at hs
    have p := List.find?_some hs
    exact ⟨x, rfl, List.mem_of_find?_eq_some hs, fun e he => of_decide_eq_true (List.all_eq_true.mp p e he)⟩
def isS : D → Bool
  | .non => false
  | _ => true
theorem fD_filter : ∀ rs : List (Option (List D)), (rs.map fD).filter isS = (rs.filterMap id).map D.lst
  | [] => rfl
  | none :: r => by
    have := fD_filter r
    show (r.map fD).filter isS = _
    exact this
  | some x :: r => by
    have := fD_filter r
    show D.lst x :: (r.map fD).filter isS = D.lst x :: (r.filterMap id).map D.lst
    rw [this]
theorem ring_of_ok {ls : List GP.Ln} {n : Nat} (hn : n ≤ 40) (h10 : ∀ l ∈ ls, (∀ e ∈ l, e.1 < n) ∧ l.length ≤ 10) (m : Mem) :
    ∃ g r, GP.Sp n ls g ∧ F_ring_of [.dat (.int (n : Int)), .dat (linesD ls)] m = .ok (.dat r) m ∧ (hB g ls = true → r = .non) ∧ (hB g ls = false → ∃ xs : List D, r = .tup xs ∧ GP.Ring ls xs.length ∧ ∀ k, GP.Ring ls k → xs.length ≤ k) := by
  have hlt : ∀ l ∈ ls, ∀ e ∈ l, e.1 < n := fun l hl => (h10 l hl).1
  obtain ⟨g, hg, gs⟩ := groups_ok hn hlt m
  have hold := do_hold_ok (g := g) h10
  cases hb : hB g ls with
  | true =>
    refine ⟨g, .non, hg, ?_, fun _ => rfl, fun z => by rw [hb] at z; cases z⟩
    simp [F_ring_of, fnRun_ap, den_ring_of, enter, gs, hold, hb]
  | false =>
    obtain ⟨rs, X', q1, q2, q3⟩ := rg_loop hn hlt (some (.dat (.int (n : Int)))) none none none n 0 m [] (by omega) (by simp; omega)
    rw [List.nil_append, show ((0 : Nat) : Int) = 0 from rfl] at q1
    have q1' := noX_ofR q1
    have rg : ∀ m, rng1V [.dat (.int (n : Int))] m = .ok (rngD 0 n) m := fun m => by
      simp [rng1V]
      omega
    have nh : ¬ GP.Holds ls g := fun z => by rw [hB_iff.mpr z] at hb; cases hb
    have start : ∀ k, GP.Ring ls k → ∃ f, some f ∈ rs ∧ f.length ≤ k := fun k ⟨s, b, w, hb0⟩ => by
      have hs := GP.Ring.start hlt w (GP.Ring.pos w hb0)
      have hr : rs[s]? = some rs[s] := List.getElem?_eq_getElem (by omega)
      have wp := q3 s _ hr
      rw [Nat.zero_add] at wp
      obtain ⟨f, h1, h2⟩ := wp.le w hb0
      exact ⟨f, by rw [← h1]; exact List.getElem_mem _, h2⟩
    obtain ⟨k0, hk0⟩ := hg.ring hlt nh
    obtain ⟨f0, hf0, _⟩ := start k0 hk0
    have mem : ∀ f, some f ∈ rs → D.lst f ∈ (rs.filterMap id).map D.lst := fun f hf => List.mem_map.mpr ⟨f, List.mem_filterMap.mpr ⟨_, hf, rfl⟩, rfl⟩
    obtain ⟨d, d1, d2, d3⟩ := short_ex (ds := (rs.filterMap id).map D.lst) (fun z => by have := mem f0 hf0; rw [z] at this; cases this)
    obtain ⟨xs, hxs, rfl⟩ := List.mem_map.mp d2
    obtain ⟨o, ho, ho2⟩ := List.mem_filterMap.mp hxs
    have ho2 : o = some xs := ho2
    subst ho2
    have c : noX (loopC (gN 4) ct3_ring_of ce2_ring_of [some (.dat (.int (n : Int))), some (.dat (linesD ls)), some (.dat (.lst (rs.map fD))), none, none] (rs.map fD) []) (m ++ X') = .ok ((rs.filterMap id).map D.lst) (m ++ X') := by
      have := loopC_map (g := gN 4) (t := ct3_ring_of) (f := ce2_ring_of) (env := [some (.dat (.int (n : Int))), some (.dat (linesD ls)), some (.dat (.lst (rs.map fD))), none, none]) (m := m ++ X') isS id (rs.map fD) [] (fun d hd => by
        obtain ⟨r, hr, rfl⟩ := List.mem_map.mp hd
        refine ⟨_, rfl, ?_, fun _ => by simp [ce2_ring_of]⟩
        cases r with
        | none => simp [ct3_ring_of, notNV, fD, isS]
        | some x => simp [ct3_ring_of, notNV, fD, isS]) (by simp; omega)
      rw [List.nil_append, List.map_id, fD_filter] at this
      exact noX_ofR this
    have al : ((rs.filterMap id).map D.lst).all isLs = true := List.all_eq_true.mpr fun x hx => by
      obtain ⟨y, _, rfl⟩ := List.mem_map.mp hx
      rfl
    have mv := minLenV_lst al d1
    have it : ∀ m, itemsV (.dat (.lst (rs.map fD))) m = .ok (rs.map fD) m := fun m => by simp [itemsV]
    have tp : ∀ m, tupleV [.dat (.lst xs)] m = .ok (.dat (.tup xs)) m := fun m => by simp [tupleV, rdSq, rdL]
    have tk : (m ++ X').take m.length = m := by simp
    refine ⟨g, .tup xs, hg, ?_, fun z => (by rw [hb] at z; cases z), fun _ => ⟨xs, rfl, ?_, fun k hk => ?_⟩⟩
    · generalize (rs.filterMap id).map D.lst = FL at *
      generalize rs.map fD = RL at *
      simp [F_ring_of, fnRun_ap, den_ring_of, enter, gs, hold, hb, rg, wipeE, q1', it, c, mv, tp]
    · obtain ⟨i, hi, hie⟩ := List.getElem_of_mem ho
      exact (q3 i (some xs) (by rw [List.getElem?_eq_getElem hi, hie])).ring xs rfl
    · obtain ⟨f, h1, h2⟩ := start k hk
      have := d3 _ (mem f h1)
      simp only [lsLen] at this
      omega
theorem row_turnW {vs : List Vb} {w : List Mb → D} (hw : ∀ r, Sq (w r) (r.map (mbV vs))) (h : VsOk vs) {r : List Mb} (hr : RwOk vs r) {e0 e1 e4 e5 : Option SV} {t o : Nat} {m : Mem} {xs : List D} (ht : m[t]? = some (.dct (tblK vs))) (hn : m[t + 1]? = some (.dct (numK vs))) (ho : m[o]? = some (.lst xs)) (hl : xs.length < 16777216) :
    lp5_lines_of [e0, e1, some (.ref t), some (.ref (t + 1)), e4, e5, some (.ref o), some (.dat (w r)), none, none, none] m = .ok (.nx [e0, e1, some (.ref t), some (.ref (t + 1)), e4, e5, some (.ref o), some (.dat (w r)), none, none, none]) (m.set o (.lst (xs ++ [lineD (lnOf vs r)]))) := by
  have hten := hr.ten
  have c1 : noX (loopC (gN 10) dYes ce3_lines_of [e0, e1, some (.ref t), some (.ref (t + 1)), e4, e5, some (.ref o), some (.dat (w r)), none, none, none] (r.map (mbV vs)) []) m = .ok (r.map fun _ => .bl true) m :=
    lcB (mbV vs) (fun _ => .bl true) r (fun e he => ⟨_, rfl, by
      have := member_ok h (hr.ok e he) (t := t) (m := m) ht
      simp [ce3_lines_of, this]⟩) (by omega)
  have al : asBs (r.map fun _ => D.bl true) = some (List.replicate r.length true) := by
    have : ∀ l : List Mb, asBs (l.map fun _ => D.bl true) = some (List.replicate l.length true) := fun l => by
      induction l with
      | nil => rfl
      | cons y l ih => simp [asBs] at ih ⊢; simp [ih, List.replicate]
    exact this r
  have c2 : noX (loopC (gT 2 (gsC (gN 8) (gsC (gN 9) gsN))) dYes ce4_lines_of [e0, e1, some (.ref t), some (.ref (t + 1)), e4, e5, some (.ref o), some (.dat (w r)), none, none, none] (r.map (mbV vs)) []) m = .ok (r.map fun e => itD (e.1, plOf vs e)) m :=
    lcB (mbV vs) (fun e => itD (e.1, plOf vs e)) r (fun e he => by
      have ok := hr.ok e he
      have hv := vAt_get ok.lt
      have vo := h.ok _ (List.mem_of_getElem? hv)
      have k1 : itemV (.ref t) (.dat (.str (vAt vs e.1).nm)) m = .ok (.dat (vbD (vAt vs e.1))) m := by simp [itemV, itemC, ht, keyD, tbl_at h.dif hv]
      have k2 : itemV (.ref (t + 1)) (.dat (.str (vAt vs e.1).nm)) m = .ok (.dat (.int (e.1 : Int))) m := by simp [itemV, itemC, hn, keyD, num_at h.dif hv]
      have p := place_any vo.b ok.sub m
      have sb : (vAt vs e.1).s.natAbs < big := small_big (by have := vo.lo; have := vo.hi; omega)
      have mo : mulOk (vAt vs e.1).s (place (vAt vs e.1).bs e.2) = true := mulOk_big sb (place_big vo.b ok.sub)
      refine ⟨[e0, e1, some (.ref t), some (.ref (t + 1)), e4, e5, some (.ref o), some (.dat (w r)), some (.dat (.str (vAt vs e.1).nm)), some (.dat (spD e.2)), none], rfl, ?_⟩
      simp only [ce4_lines_of]
      simp [k1, k2, vb1, vb2, p, mo, mkTup, allDat, itD, plOf]) (by omega)
  have el : (r.map fun e => itD (e.1, plOf vs e)) = (lnOf vs r).map itD := by simp [lnOf]
  rw [el] at c2
  have i1 : itemsV (.dat (w r)) m = .ok (r.map (mbV vs)) m := sq_items (hw r) m
  simp [lp5_lines_of, i1, c1, wipeE, allV, rdL, al, c2, ho, hl]
  rfl
theorem rows_loopW {vs : List Vb} {w : List Mb → D} (hw : ∀ r, Sq (w r) (r.map (mbV vs))) (h : VsOk vs) {e0 e1 e4 e5 : Option SV} {M : Mem} : ∀ (r pre : List (List Mb)) (e7 : Option SV), (∀ x ∈ r, RwOk vs x) → (pre ++ r).length ≤ 40 →
    ∃ e7', loopF (gN 7) lp5_lines_of (r.map w) [e0, e1, some (.ref M.length), some (.ref (M.length + 1)), e4, e5, some (.ref (M.length + 2)), e7, none, none, none] (M ++ [.dct (tblK vs), .dct (numK vs), .lst ((lsOf vs pre).map lineD)])
      = .ok (.nx [e0, e1, some (.ref M.length), some (.ref (M.length + 1)), e4, e5, some (.ref (M.length + 2)), e7', none, none, none]) (M ++ [.dct (tblK vs), .dct (numK vs), .lst ((lsOf vs (pre ++ r)).map lineD)])
  | [], pre, e7, _, _ => ⟨e7, by rw [List.append_nil]; rfl⟩
  | x :: r, pre, e7, hr, hl => by
    have hl1 : ((lsOf vs pre).map lineD).length < 16777216 := by
      rw [List.length_append] at hl
      simp [lsOf]
      omega
    have t := row_turnW hw h (hr x List.mem_cons_self) (e0 := e0) (e1 := e1) (e4 := e4) (e5 := e5) (t := M.length) (o := M.length + 2) (m := M ++ [.dct (tblK vs), .dct (numK vs), .lst ((lsOf vs pre).map lineD)]) (xs := (lsOf vs pre).map lineD) (by simp) (by simp) (by simp) hl1
    have em : (M ++ [Cell.dct (tblK vs), .dct (numK vs), .lst ((lsOf vs pre).map lineD)]).set (M.length + 2) (.lst ((lsOf vs pre).map lineD ++ [lineD (lnOf vs x)])) = M ++ [.dct (tblK vs), .dct (numK vs), .lst ((lsOf vs (pre ++ [x])).map lineD)] := by simp [lsOf]
    rw [em] at t
    obtain ⟨e7', q⟩ := rows_loopW hw h (e0 := e0) (e1 := e1) (e4 := e4) (e5 := e5) (M := M) r (pre ++ [x]) (some (.dat (w x))) (fun y hy => hr y (List.mem_cons_of_mem _ hy)) (by rw [List.append_assoc]; exact hl)
    rw [List.append_assoc] at q
    exact ⟨e7', (loopF_nx rfl t).trans q⟩
theorem lines_of_w {vs : List Vb} {w : List Mb → D} (hw : ∀ r, Sq (w r) (r.map (mbV vs))) (h : VsOk vs) {rs : List (List Mb)} (hr : RsOk vs rs) {d d' : D} (hd : Sq d (vs.map vbD)) (hd' : Sq d' (rs.map w)) (m : Mem) : F_lines_of [.dat d, .dat d'] m = .ok (.dat (linesD (lsOf vs rs))) m := by
  have h40 := h.few
  have r40 := hr.few
  have s1 := ln1_ok (.dat d) (.dat d') m
  obtain ⟨e4, e5, q2⟩ := ln2_loop (e0 := some (.dat d)) (e1 := some (.dat d')) (M := m) vs [] none none (by simpa using h.dif) (by simpa using h40)
  obtain ⟨e7, q5⟩ := rows_loopW hw h (e0 := some (.dat d)) (e1 := some (.dat d')) (e4 := e4) (e5 := e5) (M := m) rs [] none hr.ok (by simpa using r40)
  have t0 : tblK [] = [] := rfl
  have n0 : numK [] = [] := rfl
  have l0 : (lsOf vs []).map lineD = [] := rfl
  rw [t0, n0, List.nil_append, List.length_nil] at q2
  rw [l0, List.nil_append] at q5
  have en := sq_enum hd
  have it := sq_items hd'
  have rr := sq_row hd' (a := 0) (b := 40) (by omega) (by simp; omega)
  have c1 : noX (loopC (gN 7) dYes ce2_lines_of [some (.dat d), some (.dat d'), some (.ref m.length), some (.ref (m.length + 1)), e4, e5, none, none, none, none, none] (rs.map w) []) (m ++ [.dct (tblK vs), .dct (numK vs)]) = .ok (rs.map fun _ => .bl true) (m ++ [.dct (tblK vs), .dct (numK vs)]) :=
    lcB w (fun _ => .bl true) rs (fun r hx => ⟨_, rfl, by
      have ok := hr.ok r hx
      have := sq_row (hw r) (a := 2) (b := 10) (by have := ok.two; simp; omega) (by have := ok.ten; simp; omega)
      simp [ce2_lines_of, this]⟩) (by omega)
  have al : asBs (rs.map fun _ => D.bl true) = some (List.replicate rs.length true) := by
    have : ∀ l : List (List Mb), asBs (l.map fun _ => D.bl true) = some (List.replicate l.length true) := fun l => by
      induction l with
      | nil => rfl
      | cons y l ih => simp [asBs] at ih ⊢; simp [ih, List.replicate]
    exact this rs
  simp only [F_lines_of, fnRun_ap, ln_split, enter, List.map, List.length_cons, List.length_nil, List.replicate, List.cons_append, List.nil_append]
  rw [dSeq_ap, s1]
  simp [ln2, en]
  rw [q2]
  simp [ln3, rr, it, c1, wipeE, allV, rdL, al, ln4, mkOwn, allDat, ln5]
  rw [q5]
  simp [ln6, exitV, linesD]
section
variable {vs : List Vb} {d d' : D} {ls : List GP.Ln}
structure Lin (vs : List Vb) (d d' : D) (ls : List GP.Ln) : Prop where
  sq : Sq d (vs.map vbD)
  ln : ∀ m, F_lines_of [.dat d, .dat d'] m = .ok (.dat (linesD ls)) m
  ten : ∀ l ∈ ls, (∀ e ∈ l, e.1 < vs.length) ∧ l.length ≤ 10
  few : ls.length ≤ 40
theorem Lin.lt (L : Lin vs d d' ls) : ∀ l ∈ ls, ∀ e ∈ l, e.1 < vs.length := fun l hl => (L.ten l hl).1
theorem hB_eq {g k : Nat → Nat × Int} {n : Nat} (hg : GP.Sp n ls g) (hk : GP.Sp n ls k) (hm : ∀ l ∈ ls, ∀ e ∈ l, e.1 < n) : hB g ls = hB k ls := by
  have := hg.holds_iff hk hm
  rw [← hB_iff, ← hB_iff] at this
  cases h1 : hB g ls <;> cases h2 : hB k ls <;> simp_all
theorem ring_ln (h : VsOk vs) (L : Lin vs d d' ls) {k : Nat → Nat × Int} (hk : GP.Sp vs.length ls k) (m : Mem) :
    ∃ r, F_ring [.dat d, .dat d'] m = .ok (.dat r) m ∧ (hB k ls = true → r = .non) ∧ (hB k ls = false → ∃ xs : List D, r = .tup xs ∧ GP.Ring ls xs.length ∧ ∀ j, GP.Ring ls j → xs.length ≤ j) := by
  obtain ⟨g, r, hg, e, p1, p2⟩ := ring_of_ok h.few L.ten m
  have ck := check_ok h L.sq
  have ln := L.ln
  have le := sq_len L.sq
  rw [List.length_map] at le
  rw [hB_eq hg hk L.lt] at p1 p2
  refine ⟨r, ?_, p1, p2⟩
  simp [F_ring, fnRun_ap, den_ring, enter, ck, ln, le, e]
end
def offD (vs : List Vb) (g : Nat → Nat × Int) : List D := (List.range vs.length).map fun v => .tup [.str (vAt vs v).nm, .str (vAt vs (g v).1).nm, .int ((g v).2 - (lowF ((List.range vs.length).map g) (g v).1).getD 0)]
theorem vs_map (vs : List Vb) : vs.map vbD = (List.range vs.length).map fun v => vbD (vAt vs v) := by
  apply List.ext_getElem
  · simp
  · intro i h1 h2
    have hi : i < vs.length := by simpa using h1
    simp [vAt, List.getElem?_eq_getElem hi]
theorem zipD2_map {β : Type} (a b : β → D) : ∀ xs : List β, zipD2 (xs.map a) (xs.map b) = xs.map fun x => .tup [a x, b x]
  | [] => by simp [zipD2]
  | x :: r => by
    show .tup [a x, b x] :: zipD2 (r.map a) (r.map b) = _
    rw [zipD2_map a b r]
    rfl
theorem sq_zip {d : D} {xs ys : List D} (h : Sq d xs) (m : Mem) : zip2V [.dat d, .dat (.lst ys)] m = .ok (zipD2 xs ys) m := by rcases h with rfl | rfl <;> simp [zip2V, seqD]
theorem ln_ten {vs : List Vb} {rs : List (List Mb)} (hr : RsOk vs rs) : ∀ l ∈ lsOf vs rs, (∀ e ∈ l, e.1 < vs.length) ∧ l.length ≤ 10 := fun l hl => by
  refine ⟨ls_lt hr l hl, ?_⟩
  obtain ⟨r, h1, rfl⟩ := List.mem_map.mp hl
  have := (hr.ok r h1).ten
  simpa [lnOf] using this
theorem cut_takeI (xs : List D) (j : Nat) : cutD xs none (some (j : Int)) = xs.take j := by
  unfold PL.cutD
  rw [HT.sIx_none, HT.sIx_nat]
  simp
theorem offsets_ln {vs : List Vb} (h : VsOk vs) {d d' : D} {ls : List GP.Ln} (L : Lin vs d d' ls) {k : Nat → Nat × Int} (hk : GP.Sp vs.length ls k) (m : Mem) :
    F_offsets [.dat d, .dat d'] m = if hB k ls = true then .ok (.ref m.length) (m ++ [.lst (offD vs k)]) else .ok (.dat .non) m := by
  have h40 := h.few
  obtain ⟨g, hg, gs⟩ := groups_ok h.few L.lt m
  have ck := check_ok h L.sq
  have ln := L.ln
  have hold := do_hold_ok (g := g) L.ten
  have le := sq_len L.sq
  rw [List.length_map] at le
  have hgk : hB g ls = hB k ls := by
    exact hB_eq hg hk L.lt
  by_cases hb : hB g ls = true
  · rw [if_pos (by rw [← hgk]; exact hb)]
    have same : ∀ v, v < vs.length → k v = g v := fun v hv => hg.same hk (hB_iff.mp hb) hv
    have eo : offD vs k = offD vs g := by
      have eps : (List.range vs.length).map k = (List.range vs.length).map g := List.map_congr_left fun v hv => same v (List.mem_range.mp hv)
      unfold offD
      rw [eps]
      exact List.map_congr_left fun v hv => by rw [same v (List.mem_range.mp hv)]
    rw [eo]
    have grs : grD vs.length g = .lst (((List.range vs.length).map g).map itD) := by simp [grD, itD]
    have ri := risen_ok (ps := (List.range vs.length).map g) (by simp; omega)
    rw [← grs] at ri
    have zz : ∀ m, zip2V [.dat d, .dat (.lst (((List.range vs.length).map g).map fun p => itD (upF ((List.range vs.length).map g) p)))] m = .ok ((List.range vs.length).map fun v => .tup [vbD (vAt vs v), itD (upF ((List.range vs.length).map g) (g v))]) m := fun m => by
      rw [sq_zip L.sq, vs_map vs, List.map_map, zipD2_map]
      rfl
    have c : ∀ m, noX (loopC (gT 2 (gsC (gN 4) (gsC (gT 2 (gsC (gN 5) (gsC (gN 6) gsN))) gsN))) dYes ce1_offsets [some (.dat d), some (.dat d'), some (.dat (linesD ls)), some (.dat (grD vs.length g)), none, none, none] ((List.range vs.length).map fun v => D.tup [vbD (vAt vs v), itD (upF ((List.range vs.length).map g) (g v))]) []) m = .ok (offD vs g) m := fun m => by
      refine lcB _ _ _ (fun v hv => ?_) (by simp; omega)
      have hv := List.mem_range.mp hv
      have hf : (g v).1 < vs.length := Nat.lt_of_le_of_lt (hg.le v hv) hv
      refine ⟨[some (.dat d), some (.dat d'), some (.dat (linesD ls)), some (.dat (grD vs.length g)), some (.dat (vbD (vAt vs v))), some (.dat (.int ((g v).1 : Int))), some (.dat (.int ((upF ((List.range vs.length).map g) (g v)).2)))], rfl, ?_⟩
      have ix := sq_ix L.sq (k := (g v).1) (x := vbD (vAt vs (g v).1)) (by rw [List.getElem?_map, vAt_get hf]; rfl)
      simp [ce1_offsets, vb0, ix, mkTup, allDat, upF]
    generalize (((List.range vs.length).map g).map fun p => itD (upF ((List.range vs.length).map g) p)) = RL at ri zz
    generalize ((List.range vs.length).map fun v => D.tup [vbD (vAt vs v), itD (upF ((List.range vs.length).map g) (g v))]) = IT at zz c
    simp [F_offsets, fnRun_ap, den_offsets, enter, ck, ln, le, gs, hold, hb, ri, zz, wipeE, c, exitM, exitO]
  · have hb' : hB g ls = false := by simpa using hb
    rw [if_neg (by rw [← hgk]; exact hb)]
    simp [F_offsets, fnRun_ap, den_offsets, enter, ck, ln, le, gs, hold, hb', exitM]
theorem lin_w {vs : List Vb} (h : VsOk vs) {w : List Mb → D} (hw : ∀ r, Sq (w r) (r.map (mbV vs))) {rs : List (List Mb)} (hr : RsOk vs rs) {d d' : D} (hd : Sq d (vs.map vbD)) (hd' : Sq d' (rs.map w)) : Lin vs d d' (lsOf vs rs) := ⟨hd, lines_of_w hw h hr hd hd', ln_ten hr, by simpa [lsOf] using hr.few⟩
theorem dkGet_get : ∀ (kvs : List (Key × D)) (k : Key), dkGet (kvs.map (·.1)) (kvs.map (·.2)) k = dGetI kvs k
  | [], k => rfl
  | (a, d) :: r, k => by
    rw [getI_cons, List.map_cons, List.map_cons]
    unfold dkGet
    rw [dkGet_get r k]
theorem rngD_cons (a : Int) (n : Nat) : rngD a (n + 1) = .int a :: rngD (a + 1) n := by
  simp [rngD, List.range_succ_eq_map, Function.comp_def]
  intro b _
  omega
open GP (Tb Gr gof)
def nmO (vs : List Vb) (i : Nat) : Str := (vAt vs i).nm
theorem nm_inj {vs : List Vb} (hd : (vs.map (·.nm)).Nodup) {i j : Nat} (hi : i < vs.length) (hj : j < vs.length) (h : nmO vs i = nmO vs j) : i = j := by
  have h1 : (vs.map (·.nm))[i]? = some (nmO vs i) := by rw [List.getElem?_map, vAt_get hi]; rfl
  have h2 : (vs.map (·.nm))[j]? = some (nmO vs i) := by rw [List.getElem?_map, vAt_get hj, h]; rfl
  have l1 := (List.getElem?_eq_some_iff.mp h1).1
  have l2 := (List.getElem?_eq_some_iff.mp h2).1
  have e1 := (List.getElem?_eq_some_iff.mp h1).2
  have e2 := (List.getElem?_eq_some_iff.mp h2).2
  have pw := List.pairwise_iff_getElem.mp hd
  rcases Nat.lt_trichotomy i j with z | z | z
  · exact absurd (e1.trans e2.symm) (pw i j l1 l2 z)
  · exact z
  · exact absurd (e2.trans e1.symm) (pw j i l2 l1 z)
def grp (s : Nat) (B : Bs) : Tb := B.map fun e => (e.1, s, e.2)
theorem grp_look (s : Nat) : ∀ (B : Bs) (v : Nat), GP.look (grp s B) v = (bAt B v).map fun b => (s, b)
  | [], v => rfl
  | e :: r, v => by
    have ih := grp_look s r v
    unfold GP.look bAt at ih ⊢
    show ((List.find? _ ((e.1, s, e.2) :: grp s r)).map _) = _
    rw [List.find?_cons, List.find?_cons]
    by_cases h : e.1 = v
    · subst h; simp
    · have h2 : (e.1 == v) = false := by simpa using h
      simp only [h2]
      exact ih
structure LI (n : Nat) (ls : List GP.Ln) (T0 : Tb) (s : Nat) (B : Bs) : Prop where
  gr : Gr n ls T0
  hs : s ∉ GP.keys T0
  dj : ∀ v ∈ ksB B, v ∉ GP.keys T0
  nd : (ksB B).Nodup
  lt : ∀ v ∈ ksB B, v < n
  s0 : (s, 0) ∈ B
  rc : ∀ e ∈ B, GP.Rc ls s e.1 e.2
section
variable {n : Nat} {ls : List GP.Ln} {T0 : Tb} {s : Nat} {B : Bs}
theorem LI.look (h : LI n ls T0 s B) (v : Nat) : (v ∈ GP.keys T0 ∧ bAt B v = none ∧ ∃ x, GP.look (T0 ++ grp s B) v = some x ∧ x.1 ≠ s ∧ x.1 < n) ∨ (v ∉ GP.keys T0 ∧ GP.look (T0 ++ grp s B) v = (bAt B v).map fun b => (s, b)) := by
  by_cases hv : v ∈ GP.keys T0
  · refine .inl ⟨hv, bAt_none.mpr fun z => h.dj v z hv, ?_⟩
    rw [GP.look_app hv]
    cases hl : GP.look T0 v with
    | none => exact absurd hv (GP.look_none.mp hl)
    | some x =>
      have hf := h.gr.fst _ (GP.look_mem hl)
      have hk : x.1 ∈ GP.keys T0 := List.mem_map.mpr ⟨_, hf, rfl⟩
      exact ⟨x, rfl, fun z => h.hs (by rw [← z]; exact hk), h.gr.lt _ hk⟩
  · exact .inr ⟨hv, by rw [GP.look_app_none hv, grp_look]⟩
theorem LI.len (h : LI n ls T0 s B) : (T0 ++ grp s B).length ≤ n + n := by
  have h1 := nodup_lt n h.nd h.lt
  have h2 := nodup_lt n h.gr.nd h.gr.lt
  simp [ksB, GP.keys, grp] at *
  omega
end
theorem eq_str {x y : Str} (hx : (PyData.str x).canLay0 = true) (hy : (PyData.str y).canLay0 = true) (m : Mem) : PL.eqV (.dat (.str x)) (.dat (.str y)) m = .ok (.dat (.bl (decide (x = y)))) m := by
  simp [PL.eqV, svD, okD, eqd, PL.plain, PL.plains, dep, deps, toPy, toPys, PyData.eqv, PyData.eqvAll, hx, hy]
  by_cases h : x = y
  · simp [h]
  · simp [h]
theorem nm_so {vs : List Vb} (h : VsOk vs) {i : Nat} (hi : i < vs.length) : (PyData.str (nmO vs i)).canLay0 = true := (h.ok _ (List.mem_of_getElem? (vAt_get hi))).so
open GP (Tb Gr gof)
section
variable {vs : List Vb} {ls : List GP.Ln} {T0 : Tb} {s : Nat} {B : Bs}
theorem LI.add {n : Nat} (h : LI n ls T0 s B) {l : GP.Ln} (hl : l ∈ ls) {p q : Nat × Int} (hp : p ∈ l) (hq : q ∈ l) {b : Int} (hb : (p.1, b) ∈ B) (hv : q.1 ∉ ksB B) (hn : q.1 < n) : q.1 ∉ GP.keys T0 ∧ LI n ls T0 s (B ++ [(q.1, b + p.2 - q.2)]) := by
  have far : q.1 ∉ GP.keys T0 := fun z => by
    obtain ⟨e, he, h1⟩ := List.mem_map.mp z
    obtain ⟨e', h2, h3, _⟩ := h.gr.cl l hl q hq p hp e he h1
    exact h.dj p.1 (List.mem_map.mpr ⟨_, hb, rfl⟩) (List.mem_map.mpr ⟨e', h2, h3⟩)
  have kb : ksB (B ++ [(q.1, b + p.2 - q.2)]) = ksB B ++ [q.1] := by simp [ksB]
  refine ⟨far, h.gr, h.hs, fun v hv' => ?_, ?_, fun v hv' => ?_, List.mem_append_left _ h.s0, fun e he => ?_⟩
  · rw [kb] at hv'
    rcases List.mem_append.mp hv' with z | z
    · exact h.dj v z
    · rw [List.mem_singleton.mp z]; exact far
  · rw [kb, List.nodup_append]
    exact ⟨h.nd, by simp, fun x hx y hy z => hv (by rw [← List.mem_singleton.mp hy, ← z]; exact hx)⟩
  · rw [kb] at hv'
    rcases List.mem_append.mp hv' with z | z
    · exact h.lt v z
    · rw [List.mem_singleton.mp z]; exact hn
  · rcases List.mem_append.mp he with z | z
    · exact h.rc e z
    · rw [List.mem_singleton.mp z]
      exact .step (h.rc _ hb) hl hp hq
def namesD (vs : List Vb) : D := .lst ((List.range vs.length).map fun i => .str (nmO vs i))
end
open GP (Tb Gr gof)
def WF (k : Nat) (F : Mem → R SV) (P : D → Prop) : Prop := ∀ m, Wl k m → ∃ d c, isW c ∧ F m = .ok (.dat d) (m.set k c) ∧ P d
theorem draw_WF {k : Nat} {n : Int} (hn : 0 < n) (hb : n.natAbs < big) : WF k (F__law_draw [.ref k, .dat (.int n)]) fun d => ∃ i : Int, d = .int i ∧ 0 ≤ i ∧ i < n := fun m h => by
  obtain ⟨v, mm', e, d, i, c, rfl, hc, rfl, hd⟩ := draw_wp h hn hb (Q := fun v mm' => ∃ d, ∃ i : Int, ∃ c, v = .dat d ∧ isW c ∧ mm' = m.set k c ∧ d = .int i ∧ 0 ≤ i ∧ i < n) fun d c a b e => ⟨.int d, d, c, rfl, a, rfl, rfl, b, e⟩
  exact ⟨d, c, hc, e, i, hd⟩
theorem pick_WF {k : Nat} {xs : List D} (hx : 0 < xs.length) (hl : xs.length ≤ 1000) : WF k (F__law_pick [.ref k, .dat (.lst xs)]) fun d => d ∈ xs := fun m h => by
  obtain ⟨v, mm', e, d, c, rfl, hc, rfl, hd⟩ := pick_wp h hx hl (Q := fun v mm' => ∃ d c, v = .dat d ∧ isW c ∧ mm' = m.set k c ∧ d ∈ xs) fun d c a b => ⟨d, c, rfl, a, rfl, b⟩
  exact ⟨d, c, hc, e, hd⟩
theorem setA {k : Nat} {m l : Mem} {c0 c : Cell} (hk : k < m.length) : (m.set k c0 ++ l).set k c = m.set k c ++ l := by
  rw [List.set_append_left _ _ (by rw [List.length_set]; exact hk), List.set_set]
theorem WF.at {k : Nat} {F : Mem → R SV} {P : D → Prop} (h : WF k F P) {m : Mem} {c0 : Cell} (hk : k < m.length) (h0 : isW c0) (l : Mem) : ∃ d c, isW c ∧ F (m.set k c0 ++ l) = .ok (.dat d) (m.set k c ++ l) ∧ P d := by
  obtain ⟨d, c, hc, e, p⟩ := h _ (wlA (wlS hk h0) l)
  rw [setA hk] at e
  exact ⟨d, c, hc, e, p⟩
theorem WF.on {k : Nat} {F : Mem → R SV} {P : D → Prop} (h : WF k F P) {m : Mem} {c0 : Cell} (hk : k < m.length) (h0 : isW c0) : ∃ d c, isW c ∧ F (m.set k c0) = .ok (.dat d) (m.set k c) ∧ P d := by
  obtain ⟨d, c, hc, e, p⟩ := h _ (wlS hk h0)
  rw [List.set_set] at e
  exact ⟨d, c, hc, e, p⟩
theorem WF.mk {k : Nat} {F : Mem → R SV} {P : D → Prop} (h : ∀ (m : Mem) (c0 : Cell), k < m.length → isW c0 → ∃ d c, isW c ∧ F (m.set k c0) = .ok (.dat d) (m.set k c) ∧ P d) : WF k F P := fun m hw => by
  obtain ⟨c, hc, e⟩ := wl_self hw
  have := h m c (wl_lt hw) hc
  rw [e] at this
  exact this
theorem loopC_WF {g : D → En → Option En} {f : En → P SV} {env : En} {k : Nat} {m : Mem} (J : List D → Prop) : ∀ (items acc : List D) (j : Nat) (c0 : Cell), isW c0 → acc.length = j → J acc →
    (∀ i d acc c0, items[i]? = some d → acc.length = j + i → J acc → isW c0 → ∃ env1 y c, g d env = some env1 ∧ isW c ∧ f env1 (m.set k c0) = .ok (.dat y) (m.set k c) ∧ J (acc ++ [y])) → j + items.length ≤ 16777216 →
    ∃ acc' c, isW c ∧ loopC g dYes f env items acc (m.set k c0) = .ok acc' (m.set k c) ∧ J acc' ∧ acc'.length = j + items.length
  | [], acc, j, c0, h0, hj, hJ, _, _ => ⟨acc, c0, h0, by simp [loopC], hJ, by simpa using hj⟩
  | d :: r, acc, j, c0, h0, hj, hJ, hs, hl => by
    rw [List.length_cons] at hl
    obtain ⟨env1, y, c, h1, h2, h3, h4⟩ := hs 0 d acc c0 rfl hj hJ h0
    obtain ⟨acc', c', hc', q1, q2, q3⟩ := loopC_WF J r (acc ++ [y]) (j + 1) c h2 (by simp [hj]) h4 (fun i d acc c0 a b => by
      have := hs (i + 1) d acc c0 (by simpa using a) (by omega)
      exact this) (by omega)
    refine ⟨acc', c', hc', ?_, q2, by rw [q3, List.length_cons]; omega⟩
    unfold loopC
    rw [h1]
    show R.bnd (R.ok true _) _ = _
    rw [bnd_ok]
    show R.bnd (f env1 _) _ = _
    rw [h3, bnd_ok]
    show (if acc.length < 16777216 then loopC g dYes f env r (acc ++ [y]) (m.set k c) else R.stuck) = _
    rw [if_pos (by omega)]
    exact q1
structure Bo (bs : List Bd) : Prop where
  le : bs.length ≤ 3
  in1 : ∀ b ∈ bs, -3 ≤ b.1 ∧ b.1 ≤ b.2 ∧ b.2 ≤ b.1 + 2 ∧ b.1 ≤ 3
theorem Bo.vb {bs : List Bd} (h : Bo bs) : VB bs := ⟨by have := h.le; omega, fun b hb => by have := h.in1 b hb; unfold FAR; omega⟩
theorem bnd_loop {k : Nat} {w : Int} (hw1 : 1 ≤ w) (hw4 : w ≤ 3) {m : Mem} (hk : k < m.length) : ∀ (j : Nat) (a : Int) (bs : List Bd) (c0 : Cell) (x3 x4 : Option SV), isW c0 → bs.length + j ≤ 3 → Bo bs →
    ∃ bs' c x3' x4', isW c ∧ loopF (gN 3) lp1__law_bounds (rngD a j) [some (.ref k), some (.dat (.int w)), some (.ref m.length), x3, x4] (m.set k c0 ++ [.lst (bs.map pr)]) = .ok (.nx [some (.ref k), some (.dat (.int w)), some (.ref m.length), x3', x4']) (m.set k c ++ [.lst (bs'.map pr)]) ∧ Bo bs'
  | 0, a, bs, c0, x3, x4, h0, hl, hb => ⟨bs, c0, x3, x4, h0, by simp [rngD, loopF_nil], hb⟩
  | j + 1, a, bs, c0, x3, x4, h0, hl, hb => by
    obtain ⟨d, c, hc, e, i, rfl, i1, i2⟩ := (draw_WF (k := k) (n := 7) (by decide) (small_big (by decide))).at hk h0 [.lst (bs.map pr)]
    obtain ⟨d', c', hc', e', i', rfl, i1', i2'⟩ := (draw_WF (k := k) (n := w) (by omega) (small_big (by omega))).at hk hc [.lst (bs.map pr)]
    have hcell : ∀ c, (m.set k c ++ [Cell.lst (bs.map pr)])[m.length]? = some (.lst (bs.map pr)) := fun c => by
      rw [List.getElem?_append_right (by simp)]
      simp
    have hset : ∀ c z, (m.set k c ++ [Cell.lst (bs.map pr)]).set m.length (.lst z) = m.set k c ++ [.lst z] := fun c z => by
      rw [List.set_append_right _ _ (by simp)]
      simp
    have hbo : Bo (bs ++ [(i - 3, i - 3 + i')]) := ⟨by simp; omega, fun b hb' => by
      rcases List.mem_append.mp hb' with z | z
      · exact hb.in1 b z
      · rw [List.mem_singleton.mp z]
        dsimp only
        omega⟩
    obtain ⟨bs', c2, x3', x4', hc2, q1, q2⟩ := bnd_loop hw1 hw4 hk j (a + 1) (bs ++ [(i - 3, i - 3 + i')]) c' (some (.dat (.int a))) (some (.dat (.int (i - 3)))) hc' (by simp; omega) hbo
    have lt : bs.length < 16777216 := by omega
    have t : lp1__law_bounds [some (.ref k), some (.dat (.int w)), some (.ref m.length), some (.dat (.int a)), x4] (m.set k c0 ++ [.lst (bs.map pr)]) = .ok (.nx [some (.ref k), some (.dat (.int w)), some (.ref m.length), some (.dat (.int a)), some (.dat (.int (i - 3)))]) (m.set k c' ++ [.lst ((bs ++ [(i - 3, i - 3 + i')]).map pr)]) := by
      simp [lp1__law_bounds, e, e', hcell, hset, rdL, mkTup, allDat, pr, lt]
    refine ⟨bs', c2, x3', x4', hc2, ?_, q2⟩
    rw [rngD_cons]
    exact (loopF_nx rfl t).trans q1
theorem bounds_WF {k : Nat} {w : Int} (hw1 : 1 ≤ w) (hw4 : w ≤ 3) : WF k (F__law_bounds [.ref k, .dat (.int w)]) fun d => ∃ bs, d = bD bs ∧ Bo bs := WF.mk fun m c0 hk h0 => by
  obtain ⟨d, c, hc, e, hd⟩ := (pick_WF (k := k) (xs := [.int 0, .int 1, .int 1, .int 1, .int 2, .int 3]) (by simp) (by simp)).at hk h0 [.lst []]
  obtain ⟨j, rfl, hj⟩ : ∃ j : Nat, d = .int (j : Int) ∧ j ≤ 3 := by
    simp at hd
    rcases hd with h | h | h | h
    · exact ⟨0, h, by omega⟩
    · exact ⟨1, h, by omega⟩
    · exact ⟨2, h, by omega⟩
    · exact ⟨3, h, by omega⟩
  obtain ⟨bs, c', x3', x4', hc', q, hb⟩ := bnd_loop hw1 hw4 hk j 0 [] c none none hc (by simp; omega) ⟨by simp, fun b hb => by cases hb⟩
  have rg : ∀ m, rng1V [.dat (.int (j : Int))] m = .ok (rngD 0 j) m := fun m => by
    simp [rng1V]
    omega
  have hcell : (m.set k c' ++ [Cell.lst (bs.map pr)])[m.length]? = some (.lst (bs.map pr)) := by
    rw [List.getElem?_append_right (by simp)]
    simp
  have htake : (m.set k c' ++ [Cell.lst (bs.map pr)]).take m.length = m.set k c' := by
    rw [List.take_append_of_le_length (by simp), List.take_of_length_le (by simp)]
  refine ⟨bD bs, c', hc', ?_, bs, rfl, hb⟩
  simp [F__law_bounds, fnRun_ap, den__law_bounds, enter, mkOwn, mkLst, allDat, e, rg]
  rw [List.map_nil] at q
  rw [q]
  simp [tupleV, rdSq, rdL, hcell, htake, bD]
theorem wide_loop (a0 : Option SV) (m : Mem) : ∀ (bs : List Bd) (k : Nat) (a : Int) (x y : Option SV), a.natAbs ≤ XF ^ k → k + bs.length ≤ 7 → (∀ b ∈ bs, 0 < AR.ext b ∧ AR.ext b = b.2 - b.1 + 1 ∧ (AR.ext b).natAbs ≤ XF) →
    ∃ x' y', loopF (gT 2 (gsC (gN 2) (gsC (gN 3) gsN))) lp1__law_wide (bs.map pr) [a0, some (.dat (.int a)), x, y] m = .ok (.nx [a0, some (.dat (.int (a * AR.prod (exts bs)))), x', y']) m
  | [], k, a, x, y, h1, h2, h3 => ⟨x, y, by simp [loopF_nil, AR.prod, exts]⟩
  | b :: r, k, a, x, y, h1, h2, h3 => by
    obtain ⟨e1, e2, e3⟩ := h3 b List.mem_cons_self
    rw [List.length_cons] at h2
    have ab : a.natAbs < big := xf_big (k := k) (by omega) h1
    have xb : (AR.ext b).natAbs < big := xf_big (k := 1) (by omega) (by rw [Nat.pow_one]; exact e3)
    have mo : mulOk a (b.2 - b.1 + 1) = true := by rw [← e2]; simp [mulOk, ab, xb]
    obtain ⟨x', y', q⟩ := wide_loop a0 m r (k + 1) (a * AR.ext b) (some (.dat (.int b.1))) (some (.dat (.int b.2))) (by rw [Int.natAbs_mul, Nat.pow_succ]; exact Nat.mul_le_mul h1 e3) (by omega) fun z hz => h3 z (List.mem_cons_of_mem _ hz)
    refine ⟨x', y', ?_⟩
    rw [List.map_cons]
    refine (loopF_nx (env2 := [a0, some (.dat (.int (a * AR.ext b))), some (.dat (.int b.1)), some (.dat (.int b.2))]) (m2 := m) rfl ?_).trans ?_
    · simp [lp1__law_wide, mo, e2]
    · rw [q]
      show _ = R.ok (Out.nx [a0, some (.dat (.int (a * (AR.ext b * AR.prod (exts r))))), x', y']) m
      rw [Int.mul_assoc]
theorem wide_ok {bs : List Bd} (h : VB bs) (m : Mem) : F__law_wide [.dat (bD bs)] m = .ok (.dat (.int (AR.prod (exts bs)))) m := by
  obtain ⟨x', y', q⟩ := wide_loop (some (.dat (bD bs))) m bs 0 1 none none (by simp) (by have := h.le; omega) (ext_sm h)
  rw [Int.one_mul] at q
  simp [F__law_wide, fnRun_ap, den__law_wide, enter, itemsV, bD] at q ⊢
  simp [q]
theorem inB_snoc : ∀ {bs : List Bd} {us : List Int} {b : Bd} {u : Int}, inB bs us → b.1 ≤ u → u ≤ b.2 → inB (bs ++ [b]) (us ++ [u])
  | [], [], b, u, _, h1, h2 => ⟨h1, h2, trivial⟩
  | [], _ :: _, _, _, h, _, _ => h.elim
  | _ :: _, [], _, _, h, _, _ => h.elim
  | _ :: _, _ :: _, _, _, h, h1, h2 => ⟨h.1, h.2.1, inB_snoc h.2.2 h1 h2⟩
theorem at_loop {m : Mem} {a0 : Option SV} : ∀ (bs pre : List Bd) (us : List Int) (q : Int) (x3 x4 : Option SV), inB pre us → (pre ++ bs).length ≤ 7 → (∀ b ∈ bs, 0 < AR.ext b ∧ AR.ext b = b.2 - b.1 + 1 ∧ (AR.ext b).natAbs ≤ XF) →
    ∃ us' q' x3' x4', loopF (gT 2 (gsC (gN 3) (gsC (gN 4) gsN))) lp1__law_at (bs.map pr) [a0, some (.dat (.int q)), some (.ref m.length), x3, x4] (m ++ [.lst (us.map D.int)]) = .ok (.nx [a0, q', some (.ref m.length), x3', x4']) (m ++ [.lst (us'.map D.int)]) ∧ inB (pre ++ bs) us'
  | [], pre, us, q, x3, x4, h, _, _ => ⟨us, some (.dat (.int q)), x3, x4, by simp [loopF_nil], by rw [List.append_nil]; exact h⟩
  | b :: r, pre, us, q, x3, x4, h, hl, hb => by
    obtain ⟨e1, e2, e3⟩ := hb b List.mem_cons_self
    have ne : b.2 - b.1 + 1 ≠ 0 := by omega
    have xb : (b.2 - b.1 + 1).natAbs < big := by rw [← e2]; exact xf_big (k := 1) (by omega) (by rw [Nat.pow_one]; exact e3)
    obtain ⟨f1, f2⟩ := fmod_nonneg (a := q) (b := b.2 - b.1 + 1) (by omega)
    have hlen := AR.inB_len h
    have hcell : (m ++ [Cell.lst (us.map D.int)])[m.length]? = some (.lst (us.map D.int)) := by simp
    have lt : us.length < 16777216 := by rw [List.length_append] at hl; omega
    obtain ⟨us', q', x3', x4', q1, q2⟩ := at_loop (m := m) (a0 := a0) r (pre ++ [b]) (us ++ [b.1 + q.fmod (b.2 - b.1 + 1)]) (q.fdiv (b.2 - b.1 + 1)) (some (.dat (.int b.1))) (some (.dat (.int b.2))) (inB_snoc h (by omega) (by omega)) (by rw [List.append_assoc]; exact hl) fun z hz => hb z (List.mem_cons_of_mem _ hz)
    rw [List.append_assoc] at q2
    refine ⟨us', q', x3', x4', ?_, q2⟩
    rw [List.map_cons]
    refine (loopF_nx (env2 := [a0, some (.dat (.int (q.fdiv (b.2 - b.1 + 1)))), some (.ref m.length), some (.dat (.int b.1)), some (.dat (.int b.2))]) (m2 := m ++ [.lst ((us ++ [b.1 + q.fmod (b.2 - b.1 + 1)]).map D.int)]) rfl ?_).trans q1
    simp [lp1__law_at, hcell, rdL, ne, xb, lt]
theorem at_ok {bs : List Bd} (h : VB bs) (q : Int) (m : Mem) : ∃ us, inB bs us ∧ F__law_at [.dat (bD bs), .dat (.int q)] m = .ok (.dat (spD us)) m := by
  obtain ⟨us, q', x3, x4, q1, q2⟩ := at_loop (m := m) (a0 := some (.dat (bD bs))) bs [] [] q none none trivial (by have := h.le; simpa using this) (ext_sm h)
  have it : ∀ m, itemsV (.dat (bD bs)) m = .ok (bs.map pr) m := fun m => by simp [itemsV, bD]
  refine ⟨us, q2, ?_⟩
  rw [List.map_nil] at q1
  simp [F__law_at, fnRun_ap, den__law_at, enter, mkOwn, allDat, it]
  rw [q1]
  simp [tupleV, rdSq, rdL, spD]
theorem member_WF {k : Nat} {v : Vb} (h : VB v.bs) (q : Int) : WF k (F__law_member [.ref k, .dat (vbD v), .dat (.int q)]) fun d => ∃ us, d = mbD v.nm us ∧ (us = [] ∨ inB v.bs us) := WF.mk fun m c0 hk h0 => by
  have fin : ∀ c, isW c → ∃ us, inB v.bs us ∧ F__law_at [.dat (bD v.bs), .dat (.int q)] (m.set k c) = .ok (.dat (spD us)) (m.set k c) := fun c _ => at_ok h q _
  by_cases hq : q = 0
  · obtain ⟨d, c, hc, e, i, rfl, i1, i2⟩ := (draw_WF (k := k) (n := 2) (by decide) (small_big (by decide))).on hk h0
    by_cases hi : i = 0
    · refine ⟨mbD v.nm [], c, hc, ?_, [], rfl, .inl rfl⟩
      subst hq hi
      simp [F__law_member, fnRun_ap, den__law_member, enter, e, vb0, mkTup, allDat, mbD, spD]
    · obtain ⟨us, hu, a⟩ := fin c hc
      refine ⟨mbD v.nm us, c, hc, ?_, us, rfl, .inr hu⟩
      subst hq
      simp [F__law_member, fnRun_ap, den__law_member, enter, e, hi, vb0, vb2, a, mkTup, allDat, mbD]
  · obtain ⟨us, hu, a⟩ := fin c0 h0
    refine ⟨mbD v.nm us, c0, h0, ?_, us, rfl, .inr hu⟩
    simp [F__law_member, fnRun_ap, den__law_member, enter, hq, vb0, vb2, a, mkTup, allDat, mbD]
def names8 : List Str := ["a", "bb", "c", "dot", "e", "f", "gamma", "z"]
theorem name8 {x : Str} (h : x ∈ names8) : (∀ m, F_is_name [.dat (.str x)] m = .ok (.dat (.bl true)) m) ∧ (PyData.str x).canLay0 = true := by
  have key : ∀ x ∈ names8, ∀ m, den_is_name [some (.dat (.str x)), none] m = .ok (.rt (.dat (.bl true))) m := by
    intro x h m
    simp only [names8, List.mem_cons, List.not_mem_nil, or_false] at h
    rcases h with rfl | rfl | rfl | rfl | rfl | rfl | rfl | rfl <;> kernel_rfl
  have lay : ∀ x ∈ names8, (PyData.str x).canLay0 = true := by
    intro x h
    simp only [names8, List.mem_cons, List.not_mem_nil, or_false] at h
    rcases h with rfl | rfl | rfl | rfl | rfl | rfl | rfl | rfl <;> decide +kernel
  refine ⟨fun m => ?_, lay x h⟩
  have e := key x h m
  simp [F_is_name, fnRun_ap, enter, e]
theorem cut8 : ∀ j : Nat, j ≤ 8 → cutD (names8.map D.str) none (some (j : Int)) = (names8.take j).map D.str := by
  intro j hj
  have : j = 0 ∨ j = 1 ∨ j = 2 ∨ j = 3 ∨ j = 4 ∨ j = 5 ∨ j = 6 ∨ j = 7 ∨ j = 8 := by omega
  rcases this with rfl | rfl | rfl | rfl | rfl | rfl | rfl | rfl | rfl <;> rfl
structure Va (v : Vb) : Prop where
  lo : 1 ≤ v.s
  hi : v.s ≤ 5
  b : Bo v.bs
theorem Va.vb {v : Vb} (h : Va v) : VB v.bs := h.b.vb
theorem wide_pos {bs : List Bd} (h : VB bs) : 0 < AR.prod (exts bs) ∧ (AR.prod (exts bs)).natAbs < big := by
  obtain ⟨h1, h2⟩ := prod_sm (ext_sm h)
  exact ⟨h1, xf_big (k := bs.length) (by have := h.le; omega) h2⟩
section
variable {vs : List Vb} {k : Nat} {m : Mem}
theorem va_at (hv : ∀ v ∈ vs, Va v) {i : Nat} (h : i < vs.length) : Va (vAt vs i) := hv _ (List.mem_of_getElem? (vAt_get h))
theorem cell_at (hk : k < m.length) (c : Cell) (x : Cell) : (m.set k c ++ [x])[m.length]? = some x := by
  rw [List.getElem?_append_right (by simp)]
  simp
theorem cell_set (c : Cell) (x y : Cell) : (m.set k c ++ [x]).set m.length y = m.set k c ++ [y] := by
  rw [List.set_append_right _ _ (by simp)]
  simp
theorem mem_ap (hv : ∀ v ∈ vs, Va v) {i : Nat} (h : i < vs.length) (q : Int) (hk : k < m.length) {c0 : Cell} (h0 : isW c0) (l : Mem) :
    ∃ us c, isW c ∧ F__law_member [.ref k, .dat (vbD (vAt vs i)), .dat (.int q)] (m.set k c0 ++ l) = .ok (.dat (mbV vs (i, us))) (m.set k c ++ l) ∧ MbOk vs (i, us) := by
  obtain ⟨d, c, hc, e, us, rfl, hu⟩ := (member_WF (k := k) (va_at hv h).vb q).at hk h0 l
  exact ⟨us, c, hc, e, h, hu⟩
theorem row_stp (hv : ∀ v ∈ vs, Va v) {bases : List Int} (hb : bases.length = vs.length) (hk : k < m.length) {i : Nat} (hi : i < vs.length) {e1 e4 : Option SV} {k3 : Nat} {u : Int} {acc : List Mb} (hl : acc.length ≤ 20) {c0 : Cell} (h0 : isW c0) (x9 x10 : Option SV) :
    ∃ acc' c x9' x10', isW c ∧ lp1__law_row [some (.ref k), e1, some (.dat (.lst (bases.map D.int))), some (.dat (.int (k3 : Int))), e4, some (.dat (.int u)), some (.ref m.length), some (.dat (.int (i : Int))), some (.dat (vbD (vAt vs i))), x9, x10] (m.set k c0 ++ [.lst (acc.map (mbV vs))])
      = .ok (.nx [some (.ref k), e1, some (.dat (.lst (bases.map D.int))), some (.dat (.int (k3 : Int))), e4, some (.dat (.int u)), some (.ref m.length), some (.dat (.int (i : Int))), some (.dat (vbD (vAt vs i))), x9', x10']) (m.set k c ++ [.lst (acc'.map (mbV vs))]) ∧ (acc' = acc ∨ ∃ us, acc' = acc ++ [(i, us)] ∧ MbOk vs (i, us)) := by
  have va := va_at hv hi
  have s1 := va.lo
  have s5 := va.hi
  have sn : (vAt vs i).s ≠ 0 := by omega
  have sb : (vAt vs i).s.natAbs < big := small_big (by omega)
  have wd := wide_ok va.vb
  have at_ : ∀ m, ixV (.dat (.lst (bases.map D.int))) (.dat (.int (i : Int))) m = .ok (.dat (.int (bases.getD i 0))) m := fun m => sq_ix (.inl rfl) (by
    have : i < bases.length := by omega
    simp [List.getElem?_eq_getElem this]) m
  have lt : acc.length < 16777216 := by omega
  generalize bases.getD i 0 = b0 at at_
  generalize hfar : u - b0 = far at *
  by_cases g4 : i = k3
  · subst g4
    refine ⟨acc, c0, some (.dat (.int far)), some (.dat (.bl (decide (0 ≤ far) && (decide (far.fmod (vAt vs i).s = 0) && decide (far.fdiv (vAt vs i).s < AR.prod (exts (vAt vs i).bs)))))), h0, ?_, .inl rfl⟩
    by_cases g1 : 0 ≤ far
    · by_cases g2 : far.fmod (vAt vs i).s = 0
      · simp [lp1__law_row, at_, hfar, g1, vb1, vb2, sn, sb, g2, wd]
      · simp [lp1__law_row, at_, hfar, g1, vb1, vb2, sn, sb, g2, wd]
    · simp [lp1__law_row, at_, hfar, g1]
  · have g4' : ¬ (i : Int) = (k3 : Int) := by omega
    by_cases g1 : 0 ≤ far
    · by_cases g2 : far.fmod (vAt vs i).s = 0
      · by_cases g3 : far.fdiv (vAt vs i).s < AR.prod (exts (vAt vs i).bs)
        · obtain ⟨d, c, hc, e, z, rfl, z1, z2⟩ := (draw_WF (k := k) (n := 2) (by decide) (small_big (by decide))).at hk h0 [.lst (acc.map (mbV vs))]
          by_cases hz : z = 0
          · obtain ⟨us, c', hc', e', hu⟩ := mem_ap hv hi (far.fdiv (vAt vs i).s) hk hc [.lst (acc.map (mbV vs))]
            refine ⟨acc ++ [(i, us)], c', some (.dat (.int far)), some (.dat (.bl true)), hc', ?_, .inr ⟨us, rfl, hu⟩⟩
            subst hz
            simp [lp1__law_row, at_, hfar, g1, vb1, vb2, sn, sb, g2, wd, g3, g4', e, e', cell_at hk, cell_set, rdL, lt]
          · refine ⟨acc, c, some (.dat (.int far)), some (.dat (.bl true)), hc, ?_, .inl rfl⟩
            simp [lp1__law_row, at_, hfar, g1, vb1, vb2, sn, sb, g2, wd, g3, g4', e, hz]
        · refine ⟨acc, c0, some (.dat (.int far)), some (.dat (.bl false)), h0, ?_, .inl rfl⟩
          simp [lp1__law_row, at_, hfar, g1, vb1, vb2, sn, sb, g2, wd, g3, g4']
      · refine ⟨acc, c0, some (.dat (.int far)), some (.dat (.bl false)), h0, ?_, .inl rfl⟩
        simp [lp1__law_row, at_, hfar, g1, vb1, vb2, sn, sb, g2, wd, g4']
    · refine ⟨acc, c0, some (.dat (.int far)), some (.dat (.bl false)), h0, ?_, .inl rfl⟩
      simp [lp1__law_row, at_, hfar, g1, g4']
theorem row_loop (hv : ∀ v ∈ vs, Va v) (h8 : vs.length ≤ 8) {bases : List Int} (hb : bases.length = vs.length) (hk : k < m.length) {e1 e4 : Option SV} {k3 : Nat} {u : Int} :
    ∀ (r : List Vb) (i : Nat) (acc : List Mb) (c0 : Cell) (x7 x8 x9 x10 : Option SV), vs.drop i = r → i + r.length = vs.length → isW c0 → 1 ≤ acc.length → acc.length ≤ 1 + i → (∀ e ∈ acc, MbOk vs e) →
    ∃ acc' : List Mb, ∃ c y7 y8 y9 y10, isW c ∧ loopF (gT 2 (gsC (gN 7) (gsC (gN 8) gsN))) lp1__law_row (enumF (r.map vbD) i) [some (.ref k), e1, some (.dat (.lst (bases.map D.int))), some (.dat (.int (k3 : Int))), e4, some (.dat (.int u)), some (.ref m.length), x7, x8, x9, x10] (m.set k c0 ++ [.lst (acc.map (mbV vs))])
      = .ok (.nx [some (.ref k), e1, some (.dat (.lst (bases.map D.int))), some (.dat (.int (k3 : Int))), e4, some (.dat (.int u)), some (.ref m.length), y7, y8, y9, y10]) (m.set k c ++ [.lst (acc'.map (mbV vs))]) ∧ 1 ≤ acc'.length ∧ acc'.length ≤ 1 + vs.length ∧ ∀ e ∈ acc', MbOk vs e
  | [], i, acc, c0, x7, x8, x9, x10, hd, hn, h0, h1, h2, h3 => ⟨acc, c0, x7, x8, x9, x10, h0, rfl, h1, by simp at hn; omega, h3⟩
  | v :: r, i, acc, c0, x7, x8, x9, x10, hd, hn, h0, h1, h2, h3 => by
    rw [List.length_cons] at hn
    have hi : i < vs.length := by omega
    have hvi : v = vAt vs i := by
      have : vs[i]? = some v := by
        have := congrArg (fun l => l[0]?) hd
        simpa using this
      rw [vAt_get hi] at this
      exact (Option.some.inj this).symm
    have hd' : vs.drop (i + 1) = r := by
      have := congrArg List.tail hd
      simpa using this
    obtain ⟨acc1, c1, z9, z10, hc1, t, ht⟩ := row_stp hv hb hk hi (e1 := e1) (e4 := e4) (k3 := k3) (u := u) (acc := acc) (by omega) h0 x9 x10
    have p : 1 ≤ acc1.length ∧ acc1.length ≤ 1 + (i + 1) ∧ ∀ e ∈ acc1, MbOk vs e := by
      rcases ht with rfl | ⟨us, rfl, hu⟩
      · exact ⟨h1, by omega, h3⟩
      · refine ⟨by simp, by simp; omega, fun e he => ?_⟩
        rcases List.mem_append.mp he with z | z
        · exact h3 e z
        · rw [List.mem_singleton.mp z]; exact hu
    obtain ⟨acc', c, y7, y8, y9, y10, hc, q, q1⟩ := row_loop hv h8 hb hk (e1 := e1) (e4 := e4) (k3 := k3) (u := u) r (i + 1) acc1 c1 (some (.dat (.int (i : Int)))) (some (.dat (vbD (vAt vs i)))) z9 z10 hd' (by omega) hc1 p.1 p.2.1 p.2.2
    refine ⟨acc', c, y7, y8, y9, y10, hc, ?_, q1⟩
    rw [List.map_cons, enumF_cons, hvi]
    exact (loopF_nx rfl t).trans q
theorem row_WF (hv : ∀ v ∈ vs, Va v) (h1 : 1 ≤ vs.length) (h8 : vs.length ≤ 8) {bases : List Int} (hb : bases.length = vs.length) : WF k (F__law_row [.ref k, .dat (.lst (vs.map vbD)), .dat (.lst (bases.map D.int))]) fun d => ∃ r, d = rwD vs r ∧ RwOk vs r := WF.mk fun m c0 hk h0 => by
  have lp : ∀ m, lenV [.dat (.lst (vs.map vbD))] m = .ok (.dat (.int (vs.length : Int))) m := fun m => by
    have := sq_len (.inl rfl : Sq (.lst (vs.map vbD)) (vs.map vbD)) m
    rwa [List.length_map] at this
  have pa : ∀ {i : Nat}, i < vs.length → ∀ m, ixV (.dat (.lst (vs.map vbD))) (.dat (.int (i : Int))) m = .ok (.dat (vbD (vAt vs i))) m := fun {i} hi m => sq_ix (.inl rfl) (by rw [List.getElem?_map, vAt_get hi]; rfl) m
  have ba : ∀ {i : Nat}, i < vs.length → ∀ m, ixV (.dat (.lst (bases.map D.int))) (.dat (.int (i : Int))) m = .ok (.dat (.int (bases.getD i 0))) m := fun {i} hi m => sq_ix (.inl rfl) (by
    have : i < bases.length := by omega
    simp [List.getElem?_eq_getElem this]) m
  obtain ⟨d, c1, hc1, e1, i, rfl, i0, i1⟩ := (draw_WF (k := k) (n := (vs.length : Int)) (by omega) (small_big (by omega))).on hk h0
  obtain ⟨k3, rfl⟩ : ∃ k3 : Nat, i = (k3 : Int) := ⟨i.toNat, by omega⟩
  have hk3 : k3 < vs.length := by omega
  have va := va_at hv hk3
  have wd := wide_ok va.vb
  obtain ⟨w0, w1⟩ := wide_pos va.vb
  obtain ⟨d, c2, hc2, e2, q, rfl, q0, q1⟩ := (draw_WF (k := k) w0 w1).on hk hc1
  have mo : mulOk (vAt vs k3).s q = true := mulOk_l _ (by have := va.lo; have := va.hi; omega)
  obtain ⟨us, c3, hc3, e3, hm⟩ := mem_ap hv hk3 q hk hc2 []
  rw [List.append_nil, List.append_nil] at e3
  have en : ∀ m, enumV [.dat (.lst (vs.map vbD))] m = .ok (enumF (vs.map vbD) 0) m := fun m => sq_enum (.inl rfl) m
  obtain ⟨acc, c4, y7, y8, y9, y10, hc4, lo, a1, a2, a3⟩ := row_loop hv h8 hb hk (e1 := some (.dat (.lst (vs.map vbD)))) (e4 := some (.dat (.int q))) (k3 := k3) (u := bases.getD k3 0 + (vAt vs k3).s * q) vs 0 [(k3, us)] c3 none none none none rfl (by simp) hc3 (by simp) (by simp) (fun e he => by rw [List.mem_singleton.mp he]; exact hm)
  rw [List.map_singleton] at lo
  have lenc : ∀ (c : Cell) (xs : List Mb), lenV [.ref m.length] (m.set k c ++ [.lst (xs.map (mbV vs))]) = .ok (.dat (.int (xs.length : Int))) (m.set k c ++ [.lst (xs.map (mbV vs))]) := fun c xs => by simp [lenV, rdSq, rdL, cell_at hk]
  have tk : ∀ (c x : Cell), (m.set k c ++ [x]).take m.length = m.set k c := fun c x => by
    rw [List.take_append_of_le_length (by simp), List.take_of_length_le (by simp)]
  have mk : ∀ (c : Cell) (d : D), mkOwn [.dat d] (m.set k c) = .ok (.ref m.length) (m.set k c ++ [.lst [d]]) := fun c d => by simp [mkOwn, allDat]
  have sl : ∀ (c : Cell) (xs : List Mb), xs.length ≤ 10 → PL.cutVl false (.ref m.length) none (some 10) (m.set k c ++ [.lst (xs.map (mbV vs))]) = .ok (.dat (.lst (xs.map (mbV vs)))) (m.set k c ++ [.lst (xs.map (mbV vs))]) := fun c xs hx => by
    have this : cutD (xs.map (mbV vs)) none (some 10) = xs.map (mbV vs) := by
      have := cut_takeI (xs.map (mbV vs)) 10
      rw [List.take_of_length_le (by simpa using hx)] at this
      exact this
    simp only [PL.cutVl, rdL, cell_at hk, this, frs_false]
  have fin : ∀ (c : Cell) (xs : List Mb), 2 ≤ xs.length → xs.length ≤ 10 → (∀ e ∈ xs, MbOk vs e) → RwOk vs xs := fun c xs a b e => ⟨a, b, e⟩
  have more : ∀ (c : Cell), isW c → ∃ j us' cc pd, isW cc ∧ j < vs.length ∧ MbOk vs (j, us') ∧ ∃ ca cb q', F__law_pick [.ref k, .dat (.lst (vs.map vbD))] (m.set k c ++ [.lst (acc.map (mbV vs))]) = .ok (.dat (vbD (vAt vs j))) (m.set k ca ++ [.lst (acc.map (mbV vs))]) ∧ F__law_wide [.dat (bD (vAt vs j).bs)] (m.set k ca ++ [.lst (acc.map (mbV vs))]) = .ok (.dat (.int pd)) (m.set k ca ++ [.lst (acc.map (mbV vs))])
      ∧ F__law_draw [.ref k, .dat (.int pd)] (m.set k ca ++ [.lst (acc.map (mbV vs))]) = .ok (.dat (.int q')) (m.set k cb ++ [.lst (acc.map (mbV vs))]) ∧ F__law_member [.ref k, .dat (vbD (vAt vs j)), .dat (.int q')] (m.set k cb ++ [.lst (acc.map (mbV vs))]) = .ok (.dat (mbV vs (j, us'))) (m.set k cc ++ [.lst (acc.map (mbV vs))]) := fun c hc => by
    obtain ⟨d, ca, hca, e4, hd⟩ := (pick_WF (k := k) (xs := vs.map vbD) (by simp; omega) (by simp; omega)).at hk hc [.lst (acc.map (mbV vs))]
    obtain ⟨v, hvm, rfl⟩ := List.mem_map.mp hd
    obtain ⟨j, hj, rfl⟩ := List.getElem_of_mem hvm
    have hvj : vs[j] = vAt vs j := by
      have := vAt_get hj
      rw [List.getElem?_eq_getElem hj] at this
      exact Option.some.inj this
    rw [hvj] at e4
    have va := va_at hv hj
    obtain ⟨w0, w1⟩ := wide_pos va.vb
    obtain ⟨d, cb, hcb, e5, q', rfl, q0, q1⟩ := (draw_WF (k := k) w0 w1).at hk hca [.lst (acc.map (mbV vs))]
    obtain ⟨us', cc, hcc, e6, hm'⟩ := mem_ap hv hj q' hk hcb [.lst (acc.map (mbV vs))]
    exact ⟨j, us', cc, _, hcc, hj, hm', ca, cb, q', e4, wide_ok va.vb _, e5, e6⟩
  have lt : acc.length < 16777216 := by omega
  have all2 : ∀ (j : Nat) (us' : List Int), MbOk vs (j, us') → ∀ e ∈ acc ++ [(j, us')], MbOk vs e := fun j us' h e he => by
    rcases List.mem_append.mp he with z | z
    · exact a3 e z
    · rw [List.mem_singleton.mp z]; exact h
  have ba3 := ba hk3
  clear ba
  generalize bases.getD k3 0 = b0 at ba3 lo
  by_cases g2 : acc.length < 2
  · have g2' : (acc.length : Int) < 2 := by omega
    obtain ⟨j, us', cc, pd, hcc, hj, hm', ca, cb, q', f1, f2, f3, f4⟩ := more c4 hc4
    refine ⟨rwD vs (acc ++ [(j, us')]), cc, hcc, ?_, _, rfl, fin cc _ (by simp; omega) (by simp; omega) (all2 j us' hm')⟩
    have sl' := sl cc (acc ++ [(j, us')]) (by simp; omega)
    rw [List.map_append, List.map_singleton] at sl'
    generalize hP : vs.map vbD = PV at *
    simp [F__law_row, fnRun_ap, den__law_row, enter, lp, e1, pa hk3, vb1, vb2, wd, e2, ba3, mo, e3, mk, en]
    rw [lo]
    simp [lenc, g2', f1, vb2, f2, f3, f4, cell_at hk, cell_set, rdL, lt]
    simp [sl', tupleV, rdSq, rdL, tk, rwD]
  · have g2' : ¬ (acc.length : Int) < 2 := by omega
    obtain ⟨d, c5, hc5, e5, z, rfl, z0, z1⟩ := (draw_WF (k := k) (n := 9) (by decide) (small_big (by decide))).at hk hc4 [.lst (acc.map (mbV vs))]
    by_cases hz : z = 0
    · obtain ⟨j, us', cc, pd, hcc, hj, hm', ca, cb, q', f1, f2, f3, f4⟩ := more c5 hc5
      refine ⟨rwD vs (acc ++ [(j, us')]), cc, hcc, ?_, _, rfl, fin cc _ (by simp; omega) (by simp; omega) (all2 j us' hm')⟩
      have sl' := sl cc (acc ++ [(j, us')]) (by simp; omega)
      rw [List.map_append, List.map_singleton] at sl'
      subst hz
      generalize hP : vs.map vbD = PV at *
      simp [F__law_row, fnRun_ap, den__law_row, enter, lp, e1, pa hk3, vb1, vb2, wd, e2, ba3, mo, e3, mk, en]
      rw [lo]
      simp [lenc, g2', e5, f1, vb2, f2, f3, f4, cell_at hk, cell_set, rdL, lt]
      simp [sl', tupleV, rdSq, rdL, tk, rwD]
    · refine ⟨rwD vs acc, c5, hc5, ?_, _, rfl, fin c5 _ (by omega) (by omega) a3⟩
      have sl' := sl c5 acc (by omega)
      generalize hP : vs.map vbD = PV at *
      simp [F__law_row, fnRun_ap, den__law_row, enter, lp, e1, pa hk3, vb1, vb2, wd, e2, ba3, mo, e3, mk, en]
      rw [lo]
      simp [lenc, g2', e5, hz]
      simp [sl', tupleV, rdSq, rdL, tk, rwD]
end
section
variable {vs : List Vb} {k : Nat}
theorem rows_WF {q : Int} (hq0 : 0 ≤ q) (hq : q ≤ 38) (hv : ∀ v ∈ vs, Va v) (h1 : 1 ≤ vs.length) (h8 : vs.length ≤ 8) : WF k (F__law_rows [.ref k, .dat (.lst (vs.map vbD)), .dat (.int q)]) fun d => ∃ rs, d = .lst (rs.map (rwD vs)) ∧ (RsOk vs rs ∧ (rs.length : Int) ≤ q) := WF.mk fun m c0 hk h0 => by
  have it : ∀ m, itemsV (.dat (.lst (vs.map vbD))) m = .ok (vs.map vbD) m := fun m => by simp [itemsV]
  obtain ⟨acc, c, hc, qq, ⟨bs, rfl⟩, hl⟩ := loopC_WF (g := gN 4) (f := ce1__law_rows) (env := [some (.ref k), some (.dat (.lst (vs.map vbD))), some (.dat (.int q)), none, none, none]) (k := k) (m := m)
    (fun acc => ∃ bs : List Int, acc = bs.map D.int) (vs.map vbD) [] 0 c0 h0 rfl ⟨[], rfl⟩ (by
    rintro i d acc c0 hi hl ⟨bs, rfl⟩ h0
    obtain ⟨z, c1, hc1, e1, i, rfl, _, _⟩ := (draw_WF (k := k) (n := 9) (by decide) (small_big (by decide))).on hk h0
    exact ⟨[some (.ref k), some (.dat (.lst (vs.map vbD))), some (.dat (.int q)), none, some (.dat d), none], .int i, c1, rfl, hc1, by simp [ce1__law_rows, e1], bs ++ [i], by simp⟩) (by simp; omega)
  have hb : bs.length = vs.length := by simpa using hl
  obtain ⟨d, c2, hc2, e2, n, rfl, n0, n1⟩ := (draw_WF (k := k) (n := q + 1) (by omega) (small_big (by omega))).on hk hc
  obtain ⟨n, rfl⟩ : ∃ j : Nat, n = (j : Int) := ⟨n.toNat, by omega⟩
  have rg : ∀ m, rng1V [.dat (.int (n : Int))] m = .ok (rngD 0 n) m := fun m => by
    simp [rng1V]
    omega
  have rl : (rngD 0 n).length = n := by simp [rngD]
  obtain ⟨acc, c3, hc3, q2, ⟨rs, rfl, ok⟩, hl2⟩ := loopC_WF (g := gN 5) (f := ce2__law_rows) (env := [some (.ref k), some (.dat (.lst (vs.map vbD))), some (.dat (.int q)), some (.dat (.lst (bs.map D.int))), none, none]) (k := k) (m := m)
    (fun acc => ∃ rs : List (List Mb), acc = rs.map (rwD vs) ∧ ∀ r ∈ rs, RwOk vs r) (rngD 0 n) [] 0 c2 hc2 rfl ⟨[], rfl, fun r hr => by cases hr⟩ (by
    rintro i d acc c0 hi hl ⟨rs, rfl, ok⟩ h0
    obtain ⟨z, c1, hc1, e1, r, rfl, hr⟩ := (row_WF (k := k) hv h1 h8 hb).on hk h0
    refine ⟨[some (.ref k), some (.dat (.lst (vs.map vbD))), some (.dat (.int q)), some (.dat (.lst (bs.map D.int))), none, some (.dat d)], rwD vs r, c1, rfl, hc1, by simp only [ce2__law_rows]; simp [e1], rs ++ [r], by simp, fun x hx => ?_⟩
    rcases List.mem_append.mp hx with z | z
    · exact ok x z
    · rw [List.mem_singleton.mp z]; exact hr) (by rw [rl]; omega)
  rw [rl, List.length_map, Nat.zero_add] at hl2
  have q' := noX_ofR qq
  have q2' := noX_ofR q2
  refine ⟨.lst (rs.map (rwD vs)), c3, hc3, ?_, rs, rfl, ⟨by omega, ok⟩, by omega⟩
  generalize vs.map vbD = PV at *
  generalize bs.map D.int = BI at *
  generalize rs.map (rwD vs) = RV at *
  simp [F__law_rows, fnRun_ap, den__law_rows, enter, it, wipeE, q', e2, rg, q2']
end
def FARn : Int := 1000000000000000000000000000000
theorem loopW_go {t : En → PL.P Bool} {body : DS} {n : Nat} {env env' : En} {m m' : Mem} (ht : t env m = .ok true m) (hb : body env m = .ok (.nx env') m') : loopW t body (n + 1) env m = loopW t body n env' m' := by
  simp [loopW, ht, hb]
theorem loopW_end {t : En → PL.P Bool} {body : DS} {n : Nat} {env : En} {m : Mem} (ht : t env m = .ok false m) : loopW t body (n + 1) env m = .ok (.nx env) m := by
  simp [loopW, ht]
theorem nat_fmod (x y : Nat) : ((x : Int)).fmod (y : Int) = ((x % y : Nat) : Int) := by
  rw [Int.fmod_eq_emod_of_nonneg _ (by omega)]
  exact (Int.natCast_emod x y).symm
theorem nat_fdiv (x y : Nat) : ((x : Int)).fdiv (y : Int) = ((x / y : Nat) : Int) := by
  rw [Int.fdiv_eq_ediv_of_nonneg _ (by omega)]
  exact (Int.natCast_ediv x y).symm
theorem gcd_test (x y : Nat) (m : Mem) : ts2_gcd [some (.dat (.int x)), some (.dat (.int y))] m = .ok (!decide (y = 0)) m := by
  simp [ts2_gcd] <;> omega
theorem gcd_body (x y : Nat) (hy : y ≠ 0) (m : Mem) : lp1_gcd [some (.dat (.int x)), some (.dat (.int y))] m = .ok (.nx [some (.dat (.int y)), some (.dat (.int ((x % y : Nat) : Int)))]) m := by
  simp [lp1_gcd, hy, nat_fmod]
theorem gcd_loop (m : Mem) : ∀ (k x y n : Nat), y < 2 ^ k → 2 * k + 1 ≤ n → loopW ts2_gcd lp1_gcd n [some (.dat (.int x)), some (.dat (.int y))] m = .ok (.nx [some (.dat (.int (Nat.gcd x y : Nat))), some (.dat (.int 0))]) m
  | 0, x, y, n, h, hn => by
    obtain ⟨n, rfl⟩ : ∃ n', n = n' + 1 := ⟨n - 1, by omega⟩
    have hy : y = 0 := by simpa using h
    subst hy
    rw [loopW_end (by rw [gcd_test]; simp)]
    simp
  | k + 1, x, y, n, h, hn => by
    obtain ⟨n, rfl⟩ : ∃ n', n = n' + 2 := ⟨n - 2, by omega⟩
    by_cases hy : y = 0
    · subst hy
      rw [loopW_end (by rw [gcd_test]; simp)]
      simp
    · rw [loopW_go (by rw [gcd_test]; simp [hy]) (gcd_body x y hy m)]
      by_cases hr : x % y = 0
      · rw [hr, loopW_end (by rw [gcd_test]; simp)]
        have : Nat.gcd x y = y := by rw [Nat.gcd_comm, Nat.gcd_rec, hr]; simp
        rw [this]
        rfl
      · rw [loopW_go (by rw [gcd_test]; simp [hr]) (gcd_body y (x % y) hr m)]
        have h2 := TR.half_step (show 0 < x % y by omega) (Nat.mod_lt x (by omega))
        rw [gcd_loop m k (x % y) (y % (x % y)) n (by rw [Nat.pow_succ] at h; omega) (by omega)]
        have : Nat.gcd (x % y) (y % (x % y)) = Nat.gcd x y := by
          rw [Nat.gcd_comm, ← Nat.gcd_rec, Nat.gcd_comm x y, Nat.gcd_rec y x]
        rw [this]
theorem gcd_ok {a b : Int} (ha : 0 ≤ a) (hb : 0 ≤ b) (h : b < 2 ^ 400) (m : Mem) : F_gcd [.dat (.int a), .dat (.int b)] m = .ok (.dat (.int (Int.gcd a b))) m := by
  have q := gcd_loop m 400 a.toNat b.toNat 1000 (by omega) (by decide)
  rw [show ((a.toNat : Nat) : Int) = a by omega, show ((b.toNat : Nat) : Int) = b by omega] at q
  have e : Int.gcd a b = Nat.gcd a.toNat b.toNat := by
    unfold Int.gcd
    rw [show a.natAbs = a.toNat by omega, show b.natAbs = b.toNat by omega]
  rw [e]
  simp [F_gcd, fnRun_ap, den_gcd, enter, dWhile, q]
theorem lcm_ok {a b : Int} (ha : 0 < a) (hb : 0 < b) (h : a ≤ FARn) (h' : b ≤ FARn) (m : Mem) : F_lcm [.dat (.int a), .dat (.int b)] m = .ok (.dat (.int (Int.lcm a b))) m := by
  have g := gcd_ok (a := a) (b := b) (by omega) (by omega) (by unfold FARn at h'; omega)
  have mo : mulOk a b = true := mulOk_big (small_big (by unfold FARn at *; omega)) (small_big (by unfold FARn at *; omega))
  have g0 : 0 < Int.gcd a b := Int.gcd_pos_of_ne_zero_left _ (by omega)
  have gle : Int.gcd a b ≤ a.natAbs := Nat.le_of_dvd (by omega) (Nat.gcd_dvd_left ..)
  have gb : Int.gcd a b < big := small_big (by unfold FARn at *; omega)
  have e : ((a * b).natAbs : Int).fdiv (Int.gcd a b : Int) = (Int.lcm a b : Int) := by
    rw [nat_fdiv]
    rw [Int.natAbs_mul]
    rfl
  simp [F_lcm, fnRun_ap, den_lcm, enter, g, mo, show Int.gcd a b ≠ 0 by omega, gb, e]
structure EInv (M a : Int) (x y : Nat) (u v : Int) : Prop where
  d1 : M ∣ ((x : Int) - u * a)
  d2 : M ∣ ((y : Int) - v * a)
  sum : (u.natAbs * y + v.natAbs * x : Nat) = M.toNat
  sgn : u * v ≤ 0
  pos : 0 < x ∨ v = 0
theorem natAbs_opp {u v : Int} (t : Nat) (h : u * v ≤ 0) : (u - (t : Int) * v).natAbs = u.natAbs + t * v.natAbs := by
  have e : ((t : Int) * v).natAbs = t * v.natAbs := by rw [Int.natAbs_mul]; simp
  rcases Int.lt_trichotomy v 0 with hv | hv | hv
  · have hu : 0 ≤ u := by
      by_cases q : 0 ≤ u
      · exact q
      · have := Int.mul_pos_of_neg_of_neg (show u < 0 by omega) hv
        omega
    have : (t : Int) * v ≤ 0 := Int.mul_nonpos_of_nonneg_of_nonpos (by omega) (by omega)
    omega
  · subst hv; simp
  · have hu : u ≤ 0 := by
      by_cases q : u ≤ 0
      · exact q
      · have := Int.mul_pos (show 0 < u by omega) hv
        omega
    have : 0 ≤ (t : Int) * v := Int.mul_nonneg (by omega) (by omega)
    omega
theorem EInv.step {M a : Int} {x y : Nat} {u v : Int} (h : EInv M a x y u v) (hy : y ≠ 0) : EInv M a y (x % y) v (u - ((x / y : Nat) : Int) * v) := by
  have hx := Nat.div_add_mod x y
  generalize hq : x / y = q at *
  refine ⟨h.d2, ?_, ?_, ?_, .inl (by omega)⟩
  · have h1 : M ∣ ((q : Int) * ((y : Int) - v * a)) := Int.dvd_trans h.d2 ⟨(q : Int), Int.mul_comm _ _⟩
    have h2 := Int.dvd_sub h.d1 h1
    have e : (x : Int) - u * a - (q : Int) * ((y : Int) - v * a) = ((x % y : Nat) : Int) - (u - (q : Int) * v) * a := by
      have e1 : (x : Int) = (y : Int) * (q : Int) + ((x % y : Nat) : Int) := by omega
      rw [Int.mul_sub, Int.sub_mul, Int.mul_assoc, Int.mul_comm (q : Int) (y : Int)]
      omega
    rw [e] at h2
    exact h2
  · rw [natAbs_opp _ h.sgn, ← h.sum]
    have e1 : x = y * q + x % y := by omega
    have e2 : v.natAbs * x = v.natAbs * (y * q) + v.natAbs * (x % y) := by
      rw [← Nat.mul_add]
      rw [← e1]
    have e3 : (u.natAbs + q * v.natAbs) * y = u.natAbs * y + v.natAbs * (y * q) := by
      rw [Nat.add_mul, Nat.mul_comm q v.natAbs, Nat.mul_assoc, Nat.mul_comm q y]
    omega
  · have : v * (u - (q : Int) * v) = u * v - (q : Int) * (v * v) := by
      rw [Int.mul_sub, Int.mul_comm v u, Int.mul_left_comm]
    rw [this]
    have h1 := h.sgn
    have h2 : 0 ≤ v * v := by
      rcases Int.le_total 0 v with h | h
      · exact Int.mul_nonneg h h
      · exact Int.mul_nonneg_of_nonpos_of_nonpos h h
    have h3 : 0 ≤ (q : Int) * (v * v) := Int.mul_nonneg (by omega) h2
    omega
theorem inv_test (a b : Option SV) (x y : Nat) (u v : Option SV) (t : Option SV) (m : Mem) : ts2_inverse [a, b, some (.dat (.int x)), some (.dat (.int y)), u, v, t] m = .ok (!decide (y = 0)) m := by
  simp [ts2_inverse] <;> omega
theorem inv_body {M c : Int} (hM : M ≤ 3 * FARn) {x y : Nat} {u v : Int} (h : EInv M c x y u v) (hx : x ≤ 3 * FARn) (hy : y ≠ 0) (hy2 : y ≤ 3 * FARn) (a b t : Option SV) (m : Mem) : lp1_inverse [a, b, some (.dat (.int x)), some (.dat (.int y)), some (.dat (.int u)), some (.dat (.int v)), t] m =
    .ok (.nx [a, b, some (.dat (.int y)), some (.dat (.int ((x % y : Nat) : Int))), some (.dat (.int v)), some (.dat (.int (u - ((x / y : Nat) : Int) * v))), some (.dat (.int ((x / y : Nat) : Int)))]) m := by
  have hy' : (y : Int) ≠ 0 := by omega
  have yb : y < big := small_big (by unfold FARn at *; omega)
  have hq : x / y ≤ x := Nat.div_le_self x y
  have vb : v.natAbs < big := by
    rcases h.pos with p | p
    · have : v.natAbs * 1 ≤ v.natAbs * x := Nat.mul_le_mul_left _ p
      have := h.sum
      exact small_big (by unfold FARn at *; omega)
    · subst p; exact small_big (by decide)
  have qb : x / y < big := small_big (by unfold FARn at *; omega)
  have mo1 : mulOk ((x / y : Nat) : Int) (y : Int) = true := mulOk_big (by rw [Int.natAbs_natCast]; exact qb) (by rw [Int.natAbs_natCast]; exact yb)
  have mo2 : mulOk ((x / y : Nat) : Int) v = true := mulOk_big (by rw [Int.natAbs_natCast]; exact qb) vb
  have e : (x : Int) - ((x / y : Nat) : Int) * (y : Int) = ((x % y : Nat) : Int) := by
    have := Nat.div_add_mod x y
    rw [Int.mul_comm]
    have h2 : ((y * (x / y) : Nat) : Int) = (y : Int) * ((x / y : Nat) : Int) := by simp
    omega
  have fd := nat_fdiv x y
  generalize ((x / y : Nat) : Int) = q at *
  generalize ((x % y : Nat) : Int) = r at *
  simp only [lp1_inverse]
  simp [hy, yb, fd, mo1, mo2, e]
theorem inv_loop {M c : Int} (hM : M ≤ 3 * FARn) (a b : Option SV) (m : Mem) : ∀ (k x y n : Nat) (u v : Int) (t : Option SV), EInv M c x y u v → y < 2 ^ k → 2 * k + 1 ≤ n → x ≤ 3 * FARn → y ≤ 3 * FARn →
    ∃ u' v' t', loopW ts2_inverse lp1_inverse n [a, b, some (.dat (.int x)), some (.dat (.int y)), some (.dat (.int u)), some (.dat (.int v)), t] m = .ok (.nx [a, b, some (.dat (.int (Nat.gcd x y : Nat))), some (.dat (.int 0)), some (.dat (.int u')), v', t']) m ∧ M ∣ ((Nat.gcd x y : Nat) - u' * c)
  | 0, x, y, n, u, v, t, hI, h, hn, hx, hy2 => by
    obtain ⟨n, rfl⟩ : ∃ n', n = n' + 1 := ⟨n - 1, by omega⟩
    have hy : y = 0 := by simpa using h
    subst hy
    exact ⟨u, some (.dat (.int v)), t, by rw [loopW_end (by rw [inv_test]; simp)]; simp, by simpa using hI.d1⟩
  | k + 1, x, y, n, u, v, t, hI, h, hn, hx, hy2 => by
    obtain ⟨n, rfl⟩ : ∃ n', n = n' + 2 := ⟨n - 2, by omega⟩
    by_cases hy : y = 0
    · subst hy
      exact ⟨u, some (.dat (.int v)), t, by rw [loopW_end (by rw [inv_test]; simp)]; simp, by simpa using hI.d1⟩
    · rw [loopW_go (by rw [inv_test]; simp [hy]) (inv_body hM hI hx hy hy2 a b t m)]
      have hI2 := hI.step hy
      have hr2 : x % y < y := Nat.mod_lt x (by omega)
      by_cases hr : x % y = 0
      · have e : Nat.gcd x y = y := by rw [Nat.gcd_comm, Nat.gcd_rec, hr]; simp
        rw [e]
        exact ⟨v, _, _, by rw [hr, loopW_end (by rw [inv_test]; simp)]; rfl, hI.d2⟩
      · rw [loopW_go (by rw [inv_test]; simp [hr]) (inv_body hM hI2 (by omega) hr (by omega) a b _ m)]
        have h2 := TR.half_step (show 0 < x % y by omega) hr2
        have e : Nat.gcd (x % y) (y % (x % y)) = Nat.gcd x y := by
          rw [Nat.gcd_comm, ← Nat.gcd_rec, Nat.gcd_comm x y, Nat.gcd_rec y x]
        have q := inv_loop hM a b m k (x % y) (y % (x % y)) n _ _ (some (.dat (.int ((y / (x % y) : Nat) : Int)))) (hI2.step hr) (by rw [Nat.pow_succ] at h; omega) (by omega) (by omega) (by omega)
        rw [e] at q
        exact q
theorem inverse_ok {a M : Int} (hM : 0 < M) (hM2 : M ≤ FARn) (hg : Int.gcd a M = 1) (m : Mem) : ∃ u : Int, F_inverse [.dat (.int a), .dat (.int M)] m = .ok (.dat (.int u)) m ∧ 0 ≤ u ∧ u < M ∧ M ∣ (1 - u * a) := by
  have hr := fmod_nonneg (a := a) hM
  have hI : EInv M (a.fmod M) (a.fmod M).toNat M.toNat 1 0 := by
    refine ⟨?_, ?_, by simp, by simp, .inr rfl⟩
    · rw [show ((a.fmod M).toNat : Int) - 1 * a.fmod M = 0 by omega]; exact Int.dvd_zero _
    · rw [show (M.toNat : Int) - 0 * a.fmod M = M by omega]; exact Int.dvd_refl _
  obtain ⟨u, v', t', q, hd⟩ := inv_loop (show M ≤ 3 * FARn by unfold FARn at *; omega) (some (.dat (.int a))) (some (.dat (.int M))) m 400 (a.fmod M).toNat M.toNat 1000 1 0 none hI (by unfold FARn at hM2; omega) (by decide) (by unfold FARn at *; omega) (by unfold FARn at *; omega)
  have ed := TR.dvd_fmod (a := a) (b := M) (Int.dvd_refl M) hM
  have eg : Nat.gcd (a.fmod M).toNat M.toNat = 1 := by
    have h1 : Nat.gcd (a.fmod M).toNat M.toNat = Int.gcd (a.fmod M) M := by
      unfold Int.gcd
      rw [show (a.fmod M).natAbs = (a.fmod M).toNat by omega, show M.natAbs = M.toNat by omega]
    rw [h1, ← hg, Int.fmod_eq_emod_of_nonneg _ (by omega)]
    have := Int.gcd_add_mul_left_left M (a % M) (a / M)
    rw [Int.emod_add_mul_ediv] at this
    exact this.symm
  rw [eg] at hd
  rw [show (((a.fmod M).toNat : Nat) : Int) = a.fmod M by omega, show ((M.toNat : Nat) : Int) = M by omega] at q
  have hr2 := fmod_nonneg (a := u) hM
  refine ⟨u.fmod M, ?_, hr2.1, hr2.2, ?_⟩
  · simp [F_inverse, fnRun_ap, den_inverse, enter, mkTup, allDat, gT, gsC, gN, gsN, dWhile, q, show M ≠ 0 by omega]
  · have eu := TR.dvd_fmod (a := u) (b := M) (Int.dvd_refl M) hM
    obtain ⟨k1, hk1⟩ := hd
    obtain ⟨k2, hk2⟩ := ed
    obtain ⟨k3, hk3⟩ := eu
    refine ⟨k1 - u * k2 + a * k3, ?_⟩
    have e1 : u.fmod M = u - M * k3 := by omega
    have e2 : a.fmod M = a - M * k2 := by omega
    rw [e2] at hk1
    rw [e1]
    have x1 : u * (a - M * k2) = u * a - M * (u * k2) := by rw [Int.mul_sub, Int.mul_left_comm]
    have x2 : (u - M * k3) * a = u * a - M * (a * k3) := by rw [Int.sub_mul, Int.mul_assoc, Int.mul_comm k3 a]
    have x3 : M * (k1 - u * k2 + a * k3) = M * k1 - M * (u * k2) + M * (a * k3) := by rw [Int.mul_add, Int.mul_sub]
    rw [x2, x3]
    rw [x1] at hk1
    simp at hk1
    omega
theorem meeting_none {f s f' s' : Int} (hs : 0 < s) (hs' : 0 < s') (h2 : s' ≤ FARn) (hd : ¬ (Int.gcd s s' : Int) ∣ (f' - f)) (m : Mem) : F_meeting [.dat (.int f), .dat (.int s), .dat (.int f'), .dat (.int s')] m = .ok (.dat .non) m := by
  have g := gcd_ok (a := s) (b := s') (by omega) (by omega) (by unfold FARn at h2; omega)
  have g0 : 0 < Int.gcd s s' := Int.gcd_pos_of_ne_zero_left _ (by omega)
  have hm : ¬ (f' - f).fmod (Int.gcd s s' : Int) = 0 := fun q => hd (Int.dvd_of_fmod_eq_zero q)
  simp [F_meeting, fnRun_ap, den_meeting, enter, g, show Int.gcd s s' ≠ 0 by omega, hm]
theorem dvd_cancel {g p x : Int} (h : p ∣ x) : g * p ∣ g * x := Int.mul_dvd_mul (Int.dvd_refl g) h
theorem meeting_ok {f s f' s' : Int} (hs : 0 < s) (hs' : 0 < s') (h1 : s ≤ FARn) (h2 : s' ≤ FARn) (hf : (f' - f).natAbs ≤ 3 * FARn) (hd : (Int.gcd s s' : Int) ∣ (f' - f)) (m : Mem) :
    ∃ x : Int, F_meeting [.dat (.int f), .dat (.int s), .dat (.int f'), .dat (.int s')] m = .ok (.dat (.tup [.int x, .int (Int.lcm s s')])) m ∧ s ∣ (x - f) ∧ s' ∣ (x - f') := by
  have g := gcd_ok (a := s) (b := s') (by omega) (by omega) (by unfold FARn at h2; omega)
  have g0 : 0 < Int.gcd s s' := Int.gcd_pos_of_ne_zero_left _ (by omega)
  have gle : Int.gcd s s' ≤ s.natAbs := Nat.le_of_dvd (by omega) (Nat.gcd_dvd_left ..)
  have gb : Int.gcd s s' < big := small_big (by unfold FARn at *; omega)
  have hm : (f' - f).fmod (Int.gcd s s' : Int) = 0 := Int.fmod_eq_zero_of_dvd hd
  have l1 := lcm_ok hs hs' h1 h2
  have L0 : 0 < Int.lcm s s' := Int.lcm_pos (by omega) (by omega)
  have dL1 : s ∣ (Int.lcm s s' : Int) := Int.dvd_lcm_left ..
  have dL2 : s' ∣ (Int.lcm s s' : Int) := Int.dvd_lcm_right ..
  obtain ⟨c, hc⟩ := hd
  obtain ⟨p, hp⟩ : (Int.gcd s s' : Int) ∣ s' := Int.gcd_dvd_right ..
  obtain ⟨o, ho⟩ : (Int.gcd s s' : Int) ∣ s := Int.gcd_dvd_left ..
  generalize hgg : (Int.gcd s s' : Int) = gg at *
  have gg0 : 0 < gg := by omega
  have ggn : gg ≠ 0 := by omega
  have p0 : 0 < p := by
    by_cases q : 0 < p
    · exact q
    · have := Int.mul_nonpos_of_nonneg_of_nonpos (show 0 ≤ gg by omega) (show p ≤ 0 by omega)
      omega
  have o0 : 0 < o := by
    by_cases q : 0 < o
    · exact q
    · have := Int.mul_nonpos_of_nonneg_of_nonpos (show 0 ≤ gg by omega) (show o ≤ 0 by omega)
      omega
  have e1 : s'.fdiv gg = p := by rw [hp]; exact Int.mul_fdiv_cancel_left _ ggn
  have e2 : s.fdiv gg = o := by rw [ho]; exact Int.mul_fdiv_cancel_left _ ggn
  have e3 : (f' - f).fdiv gg = c := by rw [hc]; exact Int.mul_fdiv_cancel_left _ ggn
  have ple : p ≤ s' := by
    have : 1 * p ≤ gg * p := Int.mul_le_mul_of_nonneg_right (by omega) (by omega)
    omega
  have ole : o ≤ s := by
    have : 1 * o ≤ gg * o := Int.mul_le_mul_of_nonneg_right (by omega) (by omega)
    omega
  have cle : c.natAbs ≤ (f' - f).natAbs := by
    rw [hc, Int.natAbs_mul]
    exact Nat.le_mul_of_pos_left _ (by omega)
  have gbI : gg.natAbs < big := by omega
  have hcop : Int.gcd o p = 1 := by
    have := Int.gcd_mul_left gg o p
    rw [← ho, ← hp] at this
    have h3 : gg.natAbs = Int.gcd s s' := by omega
    rw [h3] at this
    have h4 : Int.gcd s s' * 1 = Int.gcd s s' * Int.gcd o p := by omega
    exact (Nat.eq_of_mul_eq_mul_left g0 h4).symm
  have fin_ : ∀ t : Int, p ∣ (t * o - c) → s ∣ ((f + t * s).fmod (Int.lcm s s' : Int) - f) ∧ s' ∣ ((f + t * s).fmod (Int.lcm s s' : Int) - f') := fun t ht => by
    have q1 := TR.dvd_fmod (a := f + t * s) (b := (Int.lcm s s' : Int)) dL1 (by omega)
    have q2 := TR.dvd_fmod (a := f + t * s) (b := (Int.lcm s s' : Int)) dL2 (by omega)
    generalize (f + t * s).fmod (Int.lcm s s' : Int) = z at *
    constructor
    · have := Int.dvd_sub (show s ∣ t * s from ⟨t, Int.mul_comm _ _⟩) q1
      rw [show t * s - (f + t * s - z) = z - f by omega] at this
      exact this
    · have h5 : s' ∣ (t * s - (f' - f)) := by
        have := dvd_cancel (g := gg) ht
        rw [← hp, Int.mul_sub, ← hc, Int.mul_left_comm, ← ho] at this
        exact this
      have := Int.dvd_sub h5 q2
      rw [show t * s - (f' - f) - (f + t * s - z) = z - f' by omega] at this
      exact this
  have lb : Int.lcm s s' ≠ 0 := by omega
  by_cases hp1 : 1 < p
  · obtain ⟨u, hu, u0, u1, ud⟩ := inverse_ok (a := o) (M := p) (by omega) (by omega) hcop m
    have mo1 : mulOk c u = true := mulOk_big (small_big (by unfold FARn at *; omega)) (small_big (by unfold FARn at *; omega))
    have ht := fmod_nonneg (a := c * u) p0
    have mo2 : mulOk ((c * u).fmod p) s = true := mulOk_big (small_big (by unfold FARn at *; omega)) (small_big (by unfold FARn at *; omega))
    have hpd : p ∣ ((c * u).fmod p * o - c) := by
      have q := TR.dvd_fmod (a := c * u) (b := p) (Int.dvd_refl p) p0
      obtain ⟨k1, hk1⟩ := q
      obtain ⟨k2, hk2⟩ := ud
      refine ⟨-(k1 * o) - c * k2, ?_⟩
      have x1 : (c * u).fmod p = c * u - p * k1 := by omega
      rw [x1, Int.sub_mul, Int.mul_sub, Int.mul_neg, Int.mul_assoc, Int.mul_assoc]
      have x2 : c * (1 - u * o) = c * (p * k2) := by rw [hk2]
      rw [Int.mul_sub, Int.mul_one, Int.mul_left_comm c p k2] at x2
      omega
    obtain ⟨y1, y2⟩ := fin_ _ hpd
    refine ⟨_, ?_, y1, y2⟩
    simp [F_meeting, fnRun_ap, den_meeting, enter, g, ggn, hm, l1, e1, e2, e3, hp1, gbI, hu, mo1, mo2, show p ≠ 0 by omega, mkTup, allDat, lb]
  · have p1 : p = 1 := by omega
    obtain ⟨y1, y2⟩ := fin_ 0 (by rw [p1]; exact Int.one_dvd _)
    refine ⟨_, ?_, y1, y2⟩
    have mo : mulOk 0 s = true := mulOk_l _ (by decide)
    simp [F_meeting, fnRun_ap, den_meeting, enter, g, ggn, hm, l1, e1, hp1, gbI, mo, mkTup, allDat, lb]
def kut (b s lo n : Int) : Int := (lo + n - b).fdiv s - (lo - b).fdiv s
theorem cuts_ok {b s lo hi : Int} (hs : 0 < s) (hb : s ≤ 1000) (m : Mem) : F_cuts [.dat (.int b), .dat (.int s), .dat (.int lo), .dat (.int hi)] m = .ok (.dat (.int (kut b s lo (hi - 1 - lo)))) m := by
  have e : kut b s lo (hi - 1 - lo) = (hi - 1 - b).fdiv s - (lo - b).fdiv s := by
    unfold kut
    rw [show lo + (hi - 1 - lo) - b = hi - 1 - b by omega]
  rw [e]
  simp [F_cuts, fnRun_ap, den_cuts, enter, show s ≠ 0 by omega, show s.natAbs < big from small_big (by omega)]
theorem fd_cls {x y s : Int} (hs : 0 < s) (h : s ∣ x - y) : ∃ k, x = y + s * k := by
  obtain ⟨k, hk⟩ := h
  exact ⟨k, by omega⟩
theorem kut_cls {b b' s lo n : Int} (hs : 0 < s) (h : s ∣ b' - b) : kut b' s lo n = kut b s lo n := by
  obtain ⟨k, rfl⟩ := fd_cls hs h
  unfold kut
  have e1 : lo + n - (b + s * k) = lo + n - b + s * (-k) := by rw [Int.mul_neg]; omega
  have e2 : lo - (b + s * k) = lo - b + s * (-k) := by rw [Int.mul_neg]; omega
  have n0 : s ≠ 0 := by omega
  rw [e1, e2, Int.add_mul_fdiv_left _ _ n0, Int.add_mul_fdiv_left _ _ n0]
  omega
theorem kut_sh (b s lo n d : Int) : kut (b + d) s (lo + d) n = kut b s lo n := by
  unfold kut
  rw [show lo + d + n - (b + d) = lo + n - b by omega, show lo + d - (b + d) = lo - b by omega]
noncomputable def kut2 (b s c t lo n : Int) : Int := by
  classical
  exact if h : ∃ x : Int, s ∣ x - b ∧ t ∣ x - c then kut h.choose (Int.lcm s t) lo n else 0
theorem kut2_of {b s c t lo n x : Int} (hs : 0 < s) (ht : 0 < t) (h1 : s ∣ x - b) (h2 : t ∣ x - c) : kut2 b s c t lo n = kut x (Int.lcm s t) lo n := by
  have h : ∃ x : Int, s ∣ x - b ∧ t ∣ x - c := ⟨x, h1, h2⟩
  unfold kut2
  rw [dif_pos h]
  have L0 : 0 < Int.lcm s t := Int.lcm_pos (by omega) (by omega)
  refine kut_cls (by omega) ?_
  obtain ⟨q1, q2⟩ := h.choose_spec
  refine Int.coe_lcm_dvd ?_ ?_
  · have := Int.dvd_sub q1 h1
    rwa [show h.choose - b - (x - b) = h.choose - x by omega] at this
  · have := Int.dvd_sub q2 h2
    rwa [show h.choose - c - (x - c) = h.choose - x by omega] at this
theorem kut2_no {b s c t lo n : Int} (h : ¬ ∃ x : Int, s ∣ x - b ∧ t ∣ x - c) : kut2 b s c t lo n = 0 := by
  unfold kut2
  rw [dif_neg h]
def wD (b s e : Int) : D := .tup [.int b, .int s, .int e]
theorem idx_at {d : D} (hd : eqF d d = true) : ∀ {ds : List D} {k : Nat}, ds[k]? = some d → (∀ j e, j < k → ds[j]? = some e → eqF e d = false) → idxOf d ds = some k
  | [], k, h, _ => by cases h
  | e :: r, 0, h, _ => by
    have : e = d := by simpa using h
    subst this
    simp [idxOf, hd]
  | e :: r, k + 1, h, hn => by
    have h0 := hn 0 e (by omega) rfl
    have ih := idx_at hd (ds := r) (k := k) (by simpa using h) fun j x hj hx => hn (j + 1) x (by omega) (by simpa using hx)
    simp [idxOf, h0, ih]
theorem nm_index {vs : List Vb} (hv : VsOk vs) {i : Nat} (h : i < vs.length) (m : Mem) : indexV (.dat (namesD vs)) (.dat (.str (nmO vs i))) m = .ok (.dat (.int (i : Int))) m := by
  have e : idxOf (.str (nmO vs i)) ((List.range vs.length).map fun i => D.str (nmO vs i)) = some i := by
    refine idx_at (by simp [eqF]) (by simp [h]) fun j e hj he => ?_
    have hj' : j < vs.length := by omega
    have : e = .str (nmO vs j) := by simpa [hj'] using he.symm
    subst this
    have : nmO vs j ≠ nmO vs i := fun z => by have := nm_inj hv.dif hj' h z; omega
    simp [eqF, this]
  have fl : flats ((List.range vs.length).map fun i => D.str (nmO vs i)) = true := by simp [flats, flatD]
  simp [indexV, namesD, rdL, flatD, fl, e]
theorem w0 (x y w : Int) (m : Mem) : ixV (.dat (wD x y w)) (.dat (.int 0)) m = .ok (.dat (.int x)) m := by simp [wD, ixV, rdSq, rdL, atI, ixN]
theorem w1 (x y w : Int) (m : Mem) : ixV (.dat (wD x y w)) (.dat (.int 1)) m = .ok (.dat (.int y)) m := by simp [wD, ixV, rdSq, rdL, atI, ixN]
theorem w2 (x y w : Int) (m : Mem) : ixV (.dat (wD x y w)) (.dat (.int 2)) m = .ok (.dat (.int w)) m := by simp [wD, ixV, rdSq, rdL, atI, ixN]
theorem q0 (x y : D) (m : Mem) : ixV (.dat (.tup [x, y])) (.dat (.int 0)) m = .ok (.dat x) m := by simp [ixV, rdSq, rdL, atI, ixN]
theorem q1 (x y : D) (m : Mem) : ixV (.dat (.tup [x, y])) (.dat (.int 1)) m = .ok (.dat y) m := by simp [ixV, rdSq, rdL, atI, ixN]
theorem dvd_fm {b s x : Int} : s ∣ x - b.fmod s ↔ s ∣ x - b := by
  have := Int.mul_fdiv_add_fmod b s
  constructor
  · intro h
    have := Int.dvd_sub h (Int.dvd_mul_right s (b.fdiv s))
    rwa [show x - b.fmod s - s * b.fdiv s = x - b by omega] at this
  · intro h
    have := Int.dvd_add h (Int.dvd_mul_right s (b.fdiv s))
    rwa [show x - b + s * b.fdiv s = x - b.fmod s by omega] at this
theorem common_ok {b s e c t e' lo hi : Int} (hs : 0 < s) (hs2 : s ≤ 16) (ht : 0 < t) (ht2 : t ≤ 16) (m : Mem) : F_common_cuts [.dat (wD b s e), .dat (wD c t e'), .dat (.int lo), .dat (.int hi)] m = .ok (.dat (.int (kut2 b s c t lo (hi - 1 - lo)))) m := by
  have r1 := fmod_nonneg (a := b) hs
  have r2 := fmod_nonneg (a := c) ht
  have sb : s.natAbs < big := small_big (by omega)
  have tb : t.natAbs < big := small_big (by omega)
  have n1 : s ≠ 0 := by omega
  have n2 : t ≠ 0 := by omega
  have F1 : s ≤ FARn := by unfold FARn; omega
  have F2 : t ≤ FARn := by unfold FARn; omega
  by_cases hd : (Int.gcd s t : Int) ∣ (c.fmod t - b.fmod s)
  · obtain ⟨x, h1, h2, h3⟩ := meeting_ok hs ht F1 F2 (by unfold FARn; omega) hd m
    have L0 : 0 < Int.lcm s t := Int.lcm_pos (by omega) (by omega)
    have L1 : (Int.lcm s t : Int) ≤ 1000 := by
      have : (Int.lcm s t : Int) ∣ s * t := Int.coe_lcm_dvd (Int.dvd_mul_right ..) (Int.dvd_mul_left ..)
      have p : 0 < s * t := Int.mul_pos hs ht
      have le := Int.le_of_dvd p this
      have : s * t ≤ 16 * 16 := Int.mul_le_mul hs2 ht2 (by omega) (by omega)
      omega
    have cu := cuts_ok (b := x) (lo := lo) (hi := hi) (s := (Int.lcm s t : Int)) (by omega) L1
    rw [kut2_of hs ht (dvd_fm.mp h2) (dvd_fm.mp h3)]
    simp [F_common_cuts, fnRun_ap, den_common_cuts, enter, w0, w1, sb, tb, n1, n2, h1, q0, q1, cu]
  · have h1 := meeting_none hs ht F2 hd m
    rw [kut2_no]
    · simp [F_common_cuts, fnRun_ap, den_common_cuts, enter, w0, w1, sb, tb, n1, n2, h1]
    · rintro ⟨x, h2, h3⟩
      refine hd ?_
      have a1 := Int.dvd_trans (Int.gcd_dvd_left s t) (dvd_fm.mpr h2)
      have a2 := Int.dvd_trans (Int.gcd_dvd_right s t) (dvd_fm.mpr h3)
      have := Int.dvd_sub a1 a2
      rwa [show x - b.fmod s - (x - c.fmod t) = c.fmod t - b.fmod s by omega] at this
def sgD (b s e c t e' lo hi : Int) : D := .tup [wD b s e, wD c t e', .tup [.int lo, .int hi]]
noncomputable def prs (b s c t lo n : Int) : Int := 1 + (kut b s lo n + kut c t lo n) - kut2 b s c t lo n
theorem pairs_ok {a1 a2 a3 a4 : SV} {b s e c t e' lo hi : Int} (h : ∀ m, F_sight_of [a1, a2, a3, a4] m = .ok (.dat (sgD b s e c t e' lo hi)) m) (hs : 0 < s) (hs2 : s ≤ 16) (ht : 0 < t) (ht2 : t ≤ 16) (m : Mem) :
    F_pairs_number [a1, a2, a3, a4] m = .ok (.dat (.int (prs b s c t lo (hi - 1 - lo)))) m := by
  have k1 := cuts_ok (b := b) (lo := lo) (hi := hi) hs (by omega)
  have k2 := cuts_ok (b := c) (lo := lo) (hi := hi) ht (by omega)
  have k3 := common_ok (b := b) (e := e) (c := c) (e' := e') (lo := lo) (hi := hi) hs hs2 ht ht2
  have n : ∀ x y m, isNV (.dat (.tup [.int x, .int y])) (.dat .non) m = .ok (.dat (.bl false)) m := fun x y m => by simp [isNV]
  simp [F_pairs_number, fnRun_ap, den_pairs_number, enter, h, sgD, gT, gsC, gsN, gN, n, w0, w1, k1, k2, k3, prs]
theorem shared_ok {a1 a2 a3 a4 : SV} {b s e c t e' lo hi : Int} (h : ∀ m, F_sight_of [a1, a2, a3, a4] m = .ok (.dat (sgD b s e c t e' lo hi)) m) (m : Mem) :
    F_shared [a1, a2, a3, a4] m = .ok (.dat (.tup [.int (lo - b), .int (hi - lo)])) m := by
  have n : ∀ x y m, isNV (.dat (.tup [.int x, .int y])) (.dat .non) m = .ok (.dat (.bl false)) m := fun x y m => by simp [isNV]
  simp [F_shared, fnRun_ap, den_shared, enter, h, sgD, gT, gsC, gsN, gN, n, w0, w1, q0, q1, mkTup, allDat]
theorem twins_ok {a1 a2 a3 a4 : SV} {b s e c t e' lo hi : Int} (h : ∀ m, F_sight_of [a1, a2, a3, a4] m = .ok (.dat (sgD b s e c t e' lo hi)) m) (hs : 0 < s) (hs2 : s ≤ 16) (m : Mem) :
    F_twins_number [a1, a2, a3, a4] m = .ok (.dat (.int (if s = t ∧ (b - c).fmod s = 0 then (hi - lo).fdiv s else 0))) m := by
  have n : ∀ x y m, isNV (.dat (.tup [.int x, .int y])) (.dat .non) m = .ok (.dat (.bl false)) m := fun x y m => by simp [isNV]
  have sb : s.natAbs < big := small_big (by omega)
  have n1 : s ≠ 0 := by omega
  by_cases h1 : s = t
  · by_cases h2 : (b - c).fmod s = 0
    · subst h1
      simp [F_twins_number, fnRun_ap, den_twins_number, enter, h, sgD, gT, gsC, gsN, gN, n, w0, w1, q0, q1, h2, sb, n1]
    · subst h1
      simp [F_twins_number, fnRun_ap, den_twins_number, enter, h, sgD, gT, gsC, gsN, gN, n, w0, w1, q0, q1, h2, sb, n1]
  · simp [F_twins_number, fnRun_ap, den_twins_number, enter, h, sgD, gT, gsC, gsN, gN, n, w0, w1, q0, q1, h1, sb, n1]
theorem touched_ok {a1 a2 a3 a4 : SV} {b s e c t e' lo hi k : Int} (h : ∀ m, F_sight_of [a1, a2, a3, a4] m = .ok (.dat (sgD b s e c t e' lo hi)) m) (hs : 0 < s) (hs2 : s ≤ 16) (ht : 0 < t) (ht2 : t ≤ 16)
    (hk : 0 ≤ k) (hk2 : k ≤ (e - b).fdiv s - 1) (hkb : k.natAbs < big) (h1 : b + k * s < hi) (h2 : lo < b + k * s + s) (m : Mem) :
    F_touched [a1, a2, a3, .dat (.int k), a4] m = .ok (.dat (.tup [.int ((max (b + k * s) lo - c).fdiv t), .int ((min (b + k * s + s) hi - 1 - c).fdiv t)])) m := by
  have n : ∀ x y m, isNV (.dat (.tup [.int x, .int y])) (.dat .non) m = .ok (.dat (.bl false)) m := fun x y m => by simp [isNV]
  have sb : s.natAbs < big := small_big (by omega)
  have n1 : s ≠ 0 := by omega
  have tb : t.natAbs < big := small_big (by omega)
  have n2 : t ≠ 0 := by omega
  have mo : mulOk k s = true := by simp [mulOk, hkb, sb]
  have bt := is_between_ok hk hk2
  have o1 : ¬ hi ≤ b + k * s := by omega
  have o2 : ¬ b + k * s + s ≤ lo := by omega
  simp [F_touched, fnRun_ap, den_touched, enter, h, sgD, gT, gsC, gsN, gN, n, w0, w1, w2, q0, q1, sb, n1, bt, mo, o1, o2, max2V, min2V]
  simp [F_stretch, fnRun_ap, den_stretch, enter, tb, n2, mkTup, allDat]
def UN (v : Vb) : Int := v.s * AR.prod (exts v.bs)
theorem UN_mul {v : Vb} (h : VbOk v) : mulOk v.s (AR.prod (exts v.bs)) = true := by
  have h1 := h.lo
  have h2 := h.hi
  have h3 := (prod_sm (ext_sm h.b)).2
  have h4 := h.b.le
  have : (AR.prod (exts v.bs)).natAbs < big := xf_big (k := v.bs.length) (by omega) h3
  have b2 : v.s.natAbs < big := small_big (by omega)
  simp [mulOk, this, b2]
theorem units_ok {v : Vb} (h : VbOk v) (m : Mem) : F_units_of [.dat (vbD v)] m = .ok (.dat (.int (UN v))) m := by
  have := many_ok h.b
  simp [F_units_of, fnRun_ap, den_units_of, enter, vb1, vb2, this, UN_mul h, UN]
theorem nm_has {vs : List Vb} {i : Nat} (h : i < vs.length) (m : Mem) : notInSV (.dat (.str (nmO vs i))) (.dat (namesD vs)) m = .ok (.dat (.bl false)) m := by
  have fl : flats ((List.range vs.length).map fun i => D.str (nmO vs i)) = true := by simp [flats, flatD]
  have hs : hasD ((List.range vs.length).map fun i => D.str (nmO vs i)) (.str (nmO vs i)) = true := by
    unfold hasD
    rw [List.any_eq_true]
    exact ⟨.str (nmO vs i), List.mem_map.mpr ⟨i, List.mem_range.mpr h, rfl⟩, by simp [eqF]⟩
  simp [notInSV, namesD, rdSq, rdL, flatD, fl, hs]
def bseD (vs : List Vb) (k : Nat → Nat × Int) (i : Nat) : D := wD (k i).2 (vAt vs i).s ((k i).2 + UN (vAt vs i))
def loU (k : Nat → Nat × Int) (i j : Nat) : Int := max (k i).2 (k j).2
def hiU (vs : List Vb) (k : Nat → Nat × Int) (i j : Nat) : Int := min ((k i).2 + UN (vAt vs i)) ((k j).2 + UN (vAt vs j))
def farU (vs : List Vb) (k : Nat → Nat × Int) (i j : Nat) : Bool := decide ((k i).1 ≠ (k j).1 ∨ hiU vs k i j ≤ loU k i j)
def sgtD (vs : List Vb) (k : Nat → Nat × Int) (i j : Nat) : D := .tup [bseD vs k i, bseD vs k j, if farU vs k i j = true then .non else .tup [.int (loU k i j), .int (hiU vs k i j)]]
theorem sight_ok {vs : List Vb} (h : VsOk vs) {d d' : D} {ls : List GP.Ln} (hd : Sq d (vs.map vbD)) (ln : ∀ m, F_lines_of [.dat d, .dat d'] m = .ok (.dat (linesD ls)) m) (ten : ∀ l ∈ ls, (∀ e ∈ l, e.1 < vs.length) ∧ l.length ≤ 10)
    {k : Nat → Nat × Int} (hk : GP.Sp vs.length ls k) (hold : GP.Holds ls k) {i j : Nat} (hi : i < vs.length) (hj : j < vs.length) (m : Mem) :
    F_sight_of [.dat d, .dat d', .dat (.str (nmO vs i)), .dat (.str (nmO vs j))] m = .ok (.dat (sgtD vs k i j)) m := by
  have h40 := h.few
  have lt : ∀ l ∈ ls, ∀ e ∈ l, e.1 < vs.length := fun l hl => (ten l hl).1
  obtain ⟨g, hg, gs⟩ := groups_ok h.few lt m
  have ck := check_ok h hd
  have hold_ := do_hold_ok (g := g) ten
  have le := sq_len hd
  rw [List.length_map] at le
  have hb : hB g ls = true := by
    rw [hB_eq hg hk lt]
    exact hB_iff.mpr hold
  have same : ∀ v, v < vs.length → k v = g v := fun v hv => hg.same hk (hB_iff.mp hb) hv
  rw [hb] at hold_
  have it : ∀ m, itemsV (.dat d) m = .ok ((List.range vs.length).map fun v => vbD (vAt vs v)) m := fun m => by rw [sq_items hd, vs_map]
  have c1 : ∀ (e1 e3 e4 e5 e6 : Option SV) m, noX (loopC (gN 13) dYes ce1_sight_of [some (.dat d), e1, e3, e4, e5, e6, none, none, none, none, none, none, none, none, none] ((List.range vs.length).map fun v => vbD (vAt vs v)) []) m = .ok ((List.range vs.length).map fun v => .str (nmO vs v)) m := fun e1 e3 e4 e5 e6 m => by
    refine lcB _ _ _ (fun v hv => ⟨_, rfl, ?_⟩) (by simp; omega)
    simp [ce1_sight_of, vb0, nmO]
  have ixv : ∀ v, v < vs.length → ∀ m, ixV (.dat d) (.dat (.int (v : Int))) m = .ok (.dat (vbD (vAt vs v))) m := fun v hv m => sq_ix hd (by rw [List.getElem?_map, vAt_get hv]; rfl) m
  have ixg : ∀ v, v < vs.length → ∀ m, ixV (.dat (grD vs.length g)) (.dat (.int (v : Int))) m = .ok (.dat (itD (k v))) m := fun v hv m => by rw [gr_at hv, same v hv]
  have mk3 : ∀ (a b c : Int) m, mkTup [.dat (.int a), .dat (.int b), .dat (.int c)] m = .ok (.dat (wD a b c)) m := fun a b c m => by simp [mkTup, allDat, wD]
  have vb : ∀ v, v < vs.length → VbOk (vAt vs v) := fun v hv => h.ok _ (List.mem_of_getElem? (vAt_get hv))
  have one : ∀ (e1 e3 e4 e5 e7 e8 e9 : Option SV) v m, v < vs.length → ce2_sight_of [some (.dat d), e1, e3, e4, e5, some (.dat (grD vs.length g)), e7, e8, e9, none, none, none, none, none, some (.dat (.int (v : Int)))] m = .ok (.dat (bseD vs k v)) m := fun e1 e3 e4 e5 e7 e8 e9 v m hv => by
    simp [ce2_sight_of, ixv v hv, ixg v hv, it1, vb1, units_ok (vb v hv), mk3, bseD]
  have c2 : ∀ (e1 e3 e4 e5 e7 e8 e9 : Option SV) m, noX (loopC (gN 14) dYes ce2_sight_of [some (.dat d), e1, e3, e4, e5, some (.dat (grD vs.length g)), e7, e8, e9, none, none, none, none, none, none] [.int (i : Int), .int (j : Int)] []) m = .ok [bseD vs k i, bseD vs k j] m := fun e1 e3 e4 e5 e7 e8 e9 m => by
    simp [noX, loopC, gN, dYes, P.ret, one _ _ _ _ _ _ _ i _ hi, one _ _ _ _ _ _ _ j _ hj]
  have n1 := nm_has (vs := vs) hi
  have n2 := nm_has (vs := vs) hj
  have x1 := nm_index h hi
  have x2 := nm_index h hj
  have t1 : ∀ (x : Str) m, isiV ["str"] (.dat (.str x)) m = .ok (.dat (.bl true)) m := fun x m => by simp [isiV, tyName, tyIs]
  have it2 : ∀ (x y : D) m, itemsV (.dat (.tup [x, y])) m = .ok [x, y] m := fun x y m => by simp [itemsV]
  have mk2 : ∀ (a b : Int) m, mkTup [.dat (.int a), .dat (.int b)] m = .ok (.dat (.tup [.int a, .int b])) m := fun a b m => by simp [mkTup, allDat]
  have l0 : ∀ (x y : D) m, ixV (.dat (.lst [x, y])) (.dat (.int 0)) m = .ok (.dat x) m := fun x y m => by simp [ixV, rdSq, rdL, atI, ixN]
  have l1 : ∀ (x y : D) m, ixV (.dat (.lst [x, y])) (.dat (.int 1)) m = .ok (.dat y) m := fun x y m => by simp [ixV, rdSq, rdL, atI, ixN]
  have b0 : ∀ v m, ixV (.dat (bseD vs k v)) (.dat (.int 0)) m = .ok (.dat (.int (k v).2)) m := fun v m => by simp [bseD, wD, ixV, rdSq, rdL, atI, ixN]
  have b2 : ∀ v m, ixV (.dat (bseD vs k v)) (.dat (.int 2)) m = .ok (.dat (.int ((k v).2 + UN (vAt vs v)))) m := fun v m => by simp [bseD, wD, ixV, rdSq, rdL, atI, ixN]
  have gi := ixg i hi
  have gj := ixg j hj
  have nd : D.lst ((List.range vs.length).map fun v => D.str (nmO vs v)) = namesD vs := rfl
  have mk3' : ∀ (a b c : D) m, mkTup [.dat a, .dat b, .dat c] m = .ok (.dat (.tup [a, b, c])) m := fun a b c m => by simp [mkTup, allDat]
  have rl : ∀ m, rdL (.dat (namesD vs)) m = some ((List.range vs.length).map fun i => D.str (nmO vs i)) := fun m => rfl
  simp [F_sight_of, fnRun_ap, den_sight_of, enter, ck, ln, le, gs, hold_, it, wipeE, c1, nd, t1, n1, n2, dIndex, rl, x1, x2, mk2, it2, c2, l0, l1, b0, b2, max2V, min2V, gi, gj, it0, setAll, dOrV]
  by_cases e1 : (k i).1 = (k j).1
  · have e1' : ((k i).1 : Int) = (k j).1 := by rw [e1]
    simp only [e1', decide_true, Bool.not_true]
    by_cases e2 : hiU vs k i j ≤ loU k i j
    · have e2' := e2
      unfold hiU loU at e2'
      have fr : farU vs k i j = true := by simp [farU, e2]
      simp [P.ret, e2', mk3', l0, l1, sgtD, fr]
    · have e2' := e2
      unfold hiU loU at e2'
      have fr : farU vs k i j = false := by simp [farU, e2, e1]
      simp [P.ret, e2', mk2, mk3', l0, l1, sgtD, fr, hiU, loU]
  · have e1' : ¬ ((k i).1 : Int) = (k j).1 := by omega
    have fr : farU vs k i j = true := by simp [farU, e1]
    simp [P.ret, e1', mk3', l0, l1, sgtD, fr]
section
variable {a1 a2 a3 a4 : SV} {b s e c t e' : Int}
theorem shared_no (h : ∀ m, F_sight_of [a1, a2, a3, a4] m = .ok (.dat (.tup [wD b s e, wD c t e', .non])) m) (m : Mem) : F_shared [a1, a2, a3, a4] m = .ok (.dat .non) m := by
  have n : ∀ m, isNV (.dat .non) (.dat .non) m = .ok (.dat (.bl true)) m := fun m => by simp [isNV]
  simp [F_shared, fnRun_ap, den_shared, enter, h, gT, gsC, gsN, gN, n]
theorem pairs_no (h : ∀ m, F_sight_of [a1, a2, a3, a4] m = .ok (.dat (.tup [wD b s e, wD c t e', .non])) m) (m : Mem) : F_pairs_number [a1, a2, a3, a4] m = .ok (.dat (.int 0)) m := by
  have n : ∀ m, isNV (.dat .non) (.dat .non) m = .ok (.dat (.bl true)) m := fun m => by simp [isNV]
  simp [F_pairs_number, fnRun_ap, den_pairs_number, enter, h, gT, gsC, gsN, gN, n]
theorem twins_no (h : ∀ m, F_sight_of [a1, a2, a3, a4] m = .ok (.dat (.tup [wD b s e, wD c t e', .non])) m) (m : Mem) : F_twins_number [a1, a2, a3, a4] m = .ok (.dat (.int 0)) m := by
  have n : ∀ m, isNV (.dat .non) (.dat .non) m = .ok (.dat (.bl true)) m := fun m => by simp [isNV]
  simp [F_twins_number, fnRun_ap, den_twins_number, enter, h, gT, gsC, gsN, gN, n]
theorem touched_no {k : Int} (h : ∀ m, F_sight_of [a1, a2, a3, a4] m = .ok (.dat (.tup [wD b s e, wD c t e', .non])) m) (hs : 0 < s) (hs2 : s ≤ 16) (hk : 0 ≤ k) (hk2 : k ≤ (e - b).fdiv s - 1) (hkb : k.natAbs < big) (m : Mem) :
    F_touched [a1, a2, a3, .dat (.int k), a4] m = .ok (.dat .non) m := by
  have n : ∀ m, isNV (.dat .non) (.dat .non) m = .ok (.dat (.bl true)) m := fun m => by simp [isNV]
  have sb : s.natAbs < big := small_big (by omega)
  have n1 : s ≠ 0 := by omega
  have mo : mulOk k s = true := by simp [mulOk, hkb, sb]
  have bt := is_between_ok hk hk2
  simp [F_touched, fnRun_ap, den_touched, enter, h, gT, gsC, gsN, gN, n, w0, w1, w2, sb, n1, bt, mo]
theorem touched_far {lo hi k : Int} (h : ∀ m, F_sight_of [a1, a2, a3, a4] m = .ok (.dat (sgD b s e c t e' lo hi)) m) (hs : 0 < s) (hs2 : s ≤ 16) (hk : 0 ≤ k) (hk2 : k ≤ (e - b).fdiv s - 1) (hkb : k.natAbs < big)
    (far : ¬ (b + k * s < hi ∧ lo < b + k * s + s)) (m : Mem) : F_touched [a1, a2, a3, .dat (.int k), a4] m = .ok (.dat .non) m := by
  have n : ∀ x y m, isNV (.dat (.tup [.int x, .int y])) (.dat .non) m = .ok (.dat (.bl false)) m := fun x y m => by simp [isNV]
  have sb : s.natAbs < big := small_big (by omega)
  have n1 : s ≠ 0 := by omega
  have mo : mulOk k s = true := by simp [mulOk, hkb, sb]
  have bt := is_between_ok hk hk2
  by_cases o1 : hi ≤ b + k * s
  · simp [F_touched, fnRun_ap, den_touched, enter, h, sgD, gT, gsC, gsN, gN, n, w0, w1, w2, q0, q1, sb, n1, bt, mo, o1]
  · have o2 : b + k * s + s ≤ lo := by omega
    simp [F_touched, fnRun_ap, den_touched, enter, h, sgD, gT, gsC, gsN, gN, n, w0, w1, w2, q0, q1, sb, n1, bt, mo, o1, o2]
end
section
variable {vs : List Vb} {d d' : D} {k : Nat → Nat × Int} {i j : Nat}
structure Seen (vs : List Vb) (d d' : D) (k : Nat → Nat × Int) (i j : Nat) : Prop where
  go : ∀ m, F_sight_of [.dat d, .dat d', .dat (.str (nmO vs i)), .dat (.str (nmO vs j))] m = .ok (.dat (sgtD vs k i j)) m
  s0 : 0 < (vAt vs i).s
  s1 : (vAt vs i).s ≤ 16
  t0 : 0 < (vAt vs j).s
  t1 : (vAt vs j).s ≤ 16
def ivD (x y : Int) : D := .tup [.int x, .int y]
def shD (vs : List Vb) (k : Nat → Nat × Int) (i j : Nat) : D := if farU vs k i j = true then .non else ivD (loU k i j - (k i).2) (hiU vs k i j - loU k i j)
noncomputable def paI (vs : List Vb) (k : Nat → Nat × Int) (i j : Nat) : Int := if farU vs k i j = true then 0 else prs (k i).2 (vAt vs i).s (k j).2 (vAt vs j).s (loU k i j) (hiU vs k i j - 1 - loU k i j)
def twI (vs : List Vb) (k : Nat → Nat × Int) (i j : Nat) : Int := if farU vs k i j = true then 0 else if (vAt vs i).s = (vAt vs j).s ∧ ((k i).2 - (k j).2).fmod (vAt vs i).s = 0 then (hiU vs k i j - loU k i j).fdiv (vAt vs i).s else 0
def toD (vs : List Vb) (k : Nat → Nat × Int) (i j : Nat) (n : Int) : D :=
  if farU vs k i j = true then .non else if (k i).2 + n * (vAt vs i).s < hiU vs k i j ∧ loU k i j < (k i).2 + n * (vAt vs i).s + (vAt vs i).s then
    ivD ((max ((k i).2 + n * (vAt vs i).s) (loU k i j) - (k j).2).fdiv (vAt vs j).s) ((min ((k i).2 + n * (vAt vs i).s + (vAt vs i).s) (hiU vs k i j) - 1 - (k j).2).fdiv (vAt vs j).s) else .non
theorem Seen.no (S : Seen vs d d' k i j) (h : farU vs k i j = true) (m : Mem) : F_sight_of [.dat d, .dat d', .dat (.str (nmO vs i)), .dat (.str (nmO vs j))] m = .ok (.dat (.tup [bseD vs k i, bseD vs k j, .non])) m := by
  rw [S.go, sgtD, if_pos h]
theorem Seen.yes (S : Seen vs d d' k i j) (h : ¬ farU vs k i j = true) (m : Mem) : F_sight_of [.dat d, .dat d', .dat (.str (nmO vs i)), .dat (.str (nmO vs j))] m = .ok (.dat (sgD (k i).2 (vAt vs i).s ((k i).2 + UN (vAt vs i)) (k j).2 (vAt vs j).s ((k j).2 + UN (vAt vs j)) (loU k i j) (hiU vs k i j))) m := by
  rw [S.go, sgtD, if_neg h]
  rfl
theorem Seen.shared (S : Seen vs d d' k i j) (m : Mem) : F_shared [.dat d, .dat d', .dat (.str (nmO vs i)), .dat (.str (nmO vs j))] m = .ok (.dat (shD vs k i j)) m := by
  unfold shD
  by_cases h : farU vs k i j = true
  · rw [if_pos h]
    exact shared_no (S.no h) m
  · rw [if_neg h]
    exact shared_ok (S.yes h) m
theorem Seen.pairs (S : Seen vs d d' k i j) (m : Mem) : F_pairs_number [.dat d, .dat d', .dat (.str (nmO vs i)), .dat (.str (nmO vs j))] m = .ok (.dat (.int (paI vs k i j))) m := by
  unfold paI
  by_cases h : farU vs k i j = true
  · rw [if_pos h]
    exact pairs_no (S.no h) m
  · rw [if_neg h]
    exact pairs_ok (S.yes h) S.s0 S.s1 S.t0 S.t1 m
theorem Seen.twins (S : Seen vs d d' k i j) (m : Mem) : F_twins_number [.dat d, .dat d', .dat (.str (nmO vs i)), .dat (.str (nmO vs j))] m = .ok (.dat (.int (twI vs k i j))) m := by
  unfold twI
  by_cases h : farU vs k i j = true
  · rw [if_pos h]
    exact twins_no (S.no h) m
  · rw [if_neg h]
    exact twins_ok (S.yes h) S.s0 S.s1 m
theorem Seen.touched (S : Seen vs d d' k i j) {n : Int} (h0 : 0 ≤ n) (h1 : n ≤ (UN (vAt vs i)).fdiv (vAt vs i).s - 1) (hb : n.natAbs < big) (m : Mem) :
    F_touched [.dat d, .dat d', .dat (.str (nmO vs i)), .dat (.int n), .dat (.str (nmO vs j))] m = .ok (.dat (toD vs k i j n)) m := by
  have h1' : n ≤ ((k i).2 + UN (vAt vs i) - (k i).2).fdiv (vAt vs i).s - 1 := by
    rw [show (k i).2 + UN (vAt vs i) - (k i).2 = UN (vAt vs i) by omega]
    exact h1
  unfold toD
  by_cases h : farU vs k i j = true
  · rw [if_pos h]
    exact touched_no (S.no h) S.s0 S.s1 h0 h1' hb m
  · rw [if_neg h]
    by_cases q : (k i).2 + n * (vAt vs i).s < hiU vs k i j ∧ loU k i j < (k i).2 + n * (vAt vs i).s + (vAt vs i).s
    · rw [if_pos q]
      exact touched_ok (S.yes h) S.s0 S.s1 S.t0 S.t1 h0 h1' hb q.1 q.2 m
    · rw [if_neg q]
      exact touched_far (S.yes h) S.s0 S.s1 h0 h1' hb q m
theorem seen_of (h : VsOk vs) {ls : List GP.Ln} (hd : Sq d (vs.map vbD)) (ln : ∀ m, F_lines_of [.dat d, .dat d'] m = .ok (.dat (linesD ls)) m) (ten : ∀ l ∈ ls, (∀ e ∈ l, e.1 < vs.length) ∧ l.length ≤ 10)
    (hk : GP.Sp vs.length ls k) (hold : GP.Holds ls k) (hi : i < vs.length) (hj : j < vs.length) : Seen vs d d' k i j where
  go := sight_ok h hd ln ten hk hold hi hj
  s0 := by have := (h.ok _ (List.mem_of_getElem? (vAt_get hi))).lo; omega
  s1 := (h.ok _ (List.mem_of_getElem? (vAt_get hi))).hi
  t0 := by have := (h.ok _ (List.mem_of_getElem? (vAt_get hj))).lo; omega
  t1 := (h.ok _ (List.mem_of_getElem? (vAt_get hj))).hi
end
theorem mx_sc {b c x y : Int} (hb : 0 < b) : max (b * x + c) (b * y + c) = b * max x y + c := by
  by_cases h : x ≤ y
  · have := Int.mul_le_mul_of_nonneg_left h (show 0 ≤ b by omega)
    rw [Int.max_eq_right h, Int.max_eq_right (by omega)]
  · have := Int.mul_le_mul_of_nonneg_left (show y ≤ x by omega) (show 0 ≤ b by omega)
    rw [Int.max_eq_left (by omega), Int.max_eq_left (by omega)]
theorem mn_sc {b c x y : Int} (hb : 0 < b) : min (b * x + c) (b * y + c) = b * min x y + c := by
  by_cases h : x ≤ y
  · have := Int.mul_le_mul_of_nonneg_left h (show 0 ≤ b by omega)
    rw [Int.min_eq_left h, Int.min_eq_left (by omega)]
  · have := Int.mul_le_mul_of_nonneg_left (show y ≤ x by omega) (show 0 ≤ b by omega)
    rw [Int.min_eq_right (by omega), Int.min_eq_right (by omega)]
theorem le_sc {b c x y : Int} (hb : 0 < b) : b * x + c ≤ b * y + c ↔ x ≤ y := by
  constructor
  · intro h
    exact Int.le_of_mul_le_mul_left (a := b) (by omega) hb
  · intro h
    have := Int.mul_le_mul_of_nonneg_left h (show 0 ≤ b by omega)
    omega
theorem lt_sc {b c x y : Int} (hb : 0 < b) : b * x + c < b * y + c ↔ x < y := by
  have := le_sc (c := c) (x := y) (y := x) hb
  omega
theorem fd_sc {b s z : Int} (hb : 0 < b) (hs : 0 < s) : (b * z).fdiv (b * s) = z.fdiv s := Int.mul_fdiv_mul_of_pos _ _ hb
theorem fd_eqT {x s k : Int} (hs : 0 < s) (h1 : k * s ≤ x) (h2 : x < (k + 1) * s) : x.fdiv s = k := by
  have q := Int.mul_fdiv_add_fmod x s
  have r := fmod_nonneg (a := x) hs
  generalize x.fdiv s = y at *
  generalize x.fmod s = z at *
  have a1 : s * (k - y) < s * 1 := by rw [Int.mul_sub, Int.mul_comm s k]; omega
  have a2 : s * (y - k) < s * 1 := by rw [Int.mul_sub, Int.mul_comm s k]; rw [Int.add_mul] at h2; omega
  have a1 := Int.lt_of_mul_lt_mul_left a1 (by omega)
  have a2 := Int.lt_of_mul_lt_mul_left a2 (by omega)
  omega
theorem fd_sc1 {b s z : Int} (hb : 0 < b) (hs : 0 < s) : (b * z - 1).fdiv (b * s) = (z - 1).fdiv s := by
  have q := Int.mul_fdiv_add_fmod (z - 1) s
  have r := fmod_nonneg (a := z - 1) hs
  refine fd_eqT (Int.mul_pos hb hs) ?_ ?_
  · generalize (z - 1).fdiv s = w at *
    have : w * s ≤ z - 1 := by rw [Int.mul_comm]; omega
    have := Int.mul_le_mul_of_nonneg_left this (show 0 ≤ b by omega)
    rw [Int.mul_sub] at this
    rw [show w * (b * s) = b * (w * s) by rw [Int.mul_left_comm]]
    omega
  · generalize (z - 1).fdiv s = w at *
    have : z ≤ (w + 1) * s := by rw [Int.add_mul, Int.mul_comm w s]; omega
    have := Int.mul_le_mul_of_nonneg_left this (show 0 ≤ b by omega)
    rw [show (w + 1) * (b * s) = b * ((w + 1) * s) by rw [Int.mul_left_comm]]
    omega
theorem kut2_shT {b s c t lo n d : Int} (hs : 0 < s) (ht : 0 < t) : kut2 (b + d) s (c + d) t (lo + d) n = kut2 b s c t lo n := by
  by_cases h : ∃ x : Int, s ∣ x - b ∧ t ∣ x - c
  · obtain ⟨x, h1, h2⟩ := h
    rw [kut2_of hs ht h1 h2, kut2_of (x := x + d) hs ht (by rwa [show x + d - (b + d) = x - b by omega]) (by rwa [show x + d - (c + d) = x - c by omega]), kut_sh]
  · rw [kut2_no h, kut2_no]
    rintro ⟨x, h1, h2⟩
    exact h ⟨x - d, by rwa [show x - d - b = x - (b + d) by omega], by rwa [show x - d - c = x - (c + d) by omega]⟩
theorem kut_sc {b x s lo hi : Int} (hb : 0 < b) (hs : 0 < s) : kut (b * x) (b * s) (b * lo) (b * hi - 1 - b * lo) = kut x s lo (hi - 1 - lo) := by
  unfold kut
  rw [show b * lo + (b * hi - 1 - b * lo) - b * x = b * (hi - x) - 1 by rw [Int.mul_sub]; omega, show b * lo - b * x = b * (lo - x) by rw [Int.mul_sub], fd_sc hb hs, fd_sc1 hb hs, show lo + (hi - 1 - lo) - x = hi - x - 1 by omega]
theorem kut2_sc {b x s y t lo hi : Int} (hb : 0 < b) (hs : 0 < s) (ht : 0 < t) : kut2 (b * x) (b * s) (b * y) (b * t) (b * lo) (b * hi - 1 - b * lo) = kut2 x s y t lo (hi - 1 - lo) := by
  have p1 := Int.mul_pos hb hs
  have p2 := Int.mul_pos hb ht
  have nb : b ≠ 0 := by omega
  by_cases h : ∃ z : Int, s ∣ z - x ∧ t ∣ z - y
  · obtain ⟨z, h1, h2⟩ := h
    rw [kut2_of hs ht h1 h2, kut2_of (x := b * z) p1 p2 (by rw [← Int.mul_sub]; exact Int.mul_dvd_mul_left _ h1) (by rw [← Int.mul_sub]; exact Int.mul_dvd_mul_left _ h2)]
    have L : ((Int.lcm (b * s) (b * t) : Nat) : Int) = b * (Int.lcm s t : Nat) := by
      rw [Int.lcm_mul_left]
      rw [Int.natCast_mul]
      congr 1
      omega
    have L0 : 0 < Int.lcm s t := Int.lcm_pos (by omega) (by omega)
    rw [L, kut_sc hb (by omega)]
  · rw [kut2_no h, kut2_no]
    rintro ⟨z, h1, h2⟩
    have hz : b ∣ z := by
      have := Int.dvd_trans (Int.dvd_mul_right b s) h1
      have := Int.dvd_add this (Int.dvd_mul_right b x)
      rwa [Int.sub_add_cancel] at this
    obtain ⟨w, rfl⟩ := hz
    rw [← Int.mul_sub] at h1 h2
    exact h ⟨w, Int.dvd_of_mul_dvd_mul_left nb h1, Int.dvd_of_mul_dvd_mul_left nb h2⟩
theorem prs_sc {b x s y t lo hi c : Int} (hb : 0 < b) (hs : 0 < s) (ht : 0 < t) : prs (b * x + c) (b * s) (b * y + c) (b * t) (b * lo + c) (b * hi + c - 1 - (b * lo + c)) = prs x s y t lo (hi - 1 - lo) := by
  have p1 := Int.mul_pos hb hs
  have p2 := Int.mul_pos hb ht
  unfold prs
  rw [kut_sh, kut_sh, kut2_shT p1 p2, show b * hi + c - 1 - (b * lo + c) = b * hi - 1 - b * lo by omega, kut_sc hb hs, kut_sc hb ht, kut2_sc hb hs ht]
structure Rel (b : Int) (vs vs' : List Vb) (k k' : Nat → Nat × Int) (i j i' j' : Nat) : Prop where
  pos : 0 < b
  s0 : 0 < (vAt vs i).s
  t0 : 0 < (vAt vs j).s
  g : (k' i').1 = (k' j').1 ↔ (k i).1 = (k j).1
  o : (k i).1 = (k j).1 → ∃ c, (k' i').2 = b * (k i).2 + c ∧ (k' j').2 = b * (k j).2 + c
  si : (vAt vs' i').s = b * (vAt vs i).s
  sj : (vAt vs' j').s = b * (vAt vs j).s
  ui : UN (vAt vs' i') = b * UN (vAt vs i)
  uj : UN (vAt vs' j') = b * UN (vAt vs j)
section
variable {b : Int} {vs vs' : List Vb} {k k' : Nat → Nat × Int} {i j i' j' : Nat}
theorem Rel.lohi (R : Rel b vs vs' k k' i j i' j') {c : Int} (h1 : (k' i').2 = b * (k i).2 + c) (h2 : (k' j').2 = b * (k j).2 + c) : loU k' i' j' = b * loU k i j + c ∧ hiU vs' k' i' j' = b * hiU vs k i j + c := by
  unfold loU hiU
  rw [h1, h2, R.ui, R.uj, show b * (k i).2 + c + b * UN (vAt vs i) = b * ((k i).2 + UN (vAt vs i)) + c by rw [Int.mul_add]; omega, show b * (k j).2 + c + b * UN (vAt vs j) = b * ((k j).2 + UN (vAt vs j)) + c by rw [Int.mul_add]; omega]
  exact ⟨mx_sc R.pos, mn_sc R.pos⟩
theorem Rel.far (R : Rel b vs vs' k k' i j i' j') : farU vs' k' i' j' = farU vs k i j := by
  unfold farU
  by_cases e : (k i).1 = (k j).1
  · obtain ⟨c, h1, h2⟩ := R.o e
    obtain ⟨l, h⟩ := R.lohi h1 h2
    rw [l, h]
    simp only [R.g, e, ne_eq, not_true_eq_false, false_or, le_sc R.pos]
  · simp only [R.g, e, ne_eq, not_false_eq_true, true_or]
theorem Rel.near (R : Rel b vs vs' k k' i j i' j') (h : ¬ farU vs k i j = true) : ∃ c, (k' i').2 = b * (k i).2 + c ∧ (k' j').2 = b * (k j).2 + c ∧ loU k' i' j' = b * loU k i j + c ∧ hiU vs' k' i' j' = b * hiU vs k i j + c := by
  have e : (k i).1 = (k j).1 := by
    by_cases e : (k i).1 = (k j).1
    · exact e
    · exact absurd (by simp [farU, e]) h
  obtain ⟨c, h1, h2⟩ := R.o e
  obtain ⟨l, h⟩ := R.lohi h1 h2
  exact ⟨c, h1, h2, l, h⟩
def tmD (b : Int) (d : D) : D := match d with
  | .tup [.int x, .int y] => .tup [.int (b * x), .int (b * y)]
  | d => d
theorem Rel.shared (R : Rel b vs vs' k k' i j i' j') : shD vs' k' i' j' = tmD b (shD vs k i j) := by
  unfold shD
  rw [R.far]
  by_cases h : farU vs k i j = true
  · rw [if_pos h, if_pos h]
    rfl
  · rw [if_neg h, if_neg h]
    obtain ⟨c, h1, h2, l, u⟩ := R.near h
    rw [h1, l, u]
    show ivD _ _ = ivD _ _
    rw [Int.mul_sub, Int.mul_sub]
    congr 1 <;> omega
theorem Rel.pairs (R : Rel b vs vs' k k' i j i' j') : paI vs' k' i' j' = paI vs k i j := by
  unfold paI
  rw [R.far]
  by_cases h : farU vs k i j = true
  · rw [if_pos h, if_pos h]
  · rw [if_neg h, if_neg h]
    obtain ⟨c, h1, h2, l, u⟩ := R.near h
    rw [h1, h2, l, u, R.si, R.sj]
    exact prs_sc R.pos R.s0 R.t0
theorem fmz_sc {b s x : Int} (hb : 0 < b) : (b * x).fmod (b * s) = 0 ↔ x.fmod s = 0 := by
  constructor
  · intro h
    exact Int.fmod_eq_zero_of_dvd (Int.dvd_of_mul_dvd_mul_left (by omega) (Int.dvd_of_fmod_eq_zero h))
  · intro h
    exact Int.fmod_eq_zero_of_dvd (Int.mul_dvd_mul_left _ (Int.dvd_of_fmod_eq_zero h))
theorem Rel.twins (R : Rel b vs vs' k k' i j i' j') : twI vs' k' i' j' = twI vs k i j := by
  unfold twI
  rw [R.far]
  by_cases h : farU vs k i j = true
  · rw [if_pos h, if_pos h]
  · rw [if_neg h, if_neg h]
    obtain ⟨c, h1, h2, l, u⟩ := R.near h
    rw [h1, h2, l, u, R.si, R.sj]
    have hb := R.pos
    have e1 : b * (vAt vs i).s = b * (vAt vs j).s ↔ (vAt vs i).s = (vAt vs j).s := ⟨fun h => Int.eq_of_mul_eq_mul_left (by omega) h, fun h => by rw [h]⟩
    have e2 : b * (k i).2 + c - (b * (k j).2 + c) = b * ((k i).2 - (k j).2) := by rw [Int.mul_sub]; omega
    have e3 : b * hiU vs k i j + c - (b * loU k i j + c) = b * (hiU vs k i j - loU k i j) := by rw [Int.mul_sub]; omega
    simp only [e2, e3, e1, fmz_sc hb, fd_sc hb R.s0]
theorem Rel.touched (R : Rel b vs vs' k k' i j i' j') (n : Int) : toD vs' k' i' j' n = toD vs k i j n := by
  unfold toD
  rw [R.far]
  by_cases h : farU vs k i j = true
  · rw [if_pos h, if_pos h]
  · rw [if_neg h, if_neg h]
    obtain ⟨c, h1, h2, l, u⟩ := R.near h
    have hb := R.pos
    rw [h1, h2, l, u, R.si, R.sj]
    have e1 : b * (k i).2 + c + n * (b * (vAt vs i).s) = b * ((k i).2 + n * (vAt vs i).s) + c := by rw [Int.mul_add, Int.mul_left_comm]; omega
    have e2 : b * ((k i).2 + n * (vAt vs i).s) + c + b * (vAt vs i).s = b * ((k i).2 + n * (vAt vs i).s + (vAt vs i).s) + c := by rw [Int.mul_add b ((k i).2 + n * (vAt vs i).s)]; omega
    rw [e1, e2]
    simp only [lt_sc hb, mx_sc hb, mn_sc hb]
    generalize max ((k i).2 + n * (vAt vs i).s) (loU k i j) = A
    generalize min ((k i).2 + n * (vAt vs i).s + (vAt vs i).s) (hiU vs k i j) = B
    rw [show b * A + c - (b * (k j).2 + c) = b * (A - (k j).2) by rw [Int.mul_sub]; omega, show b * B + c - 1 - (b * (k j).2 + c) = b * (B - (k j).2) - 1 by rw [Int.mul_sub]; omega, fd_sc hb R.t0, fd_sc1 hb R.t0, show B - (k j).2 - 1 = B - 1 - (k j).2 by omega]
end
theorem parts_WFn {k j : Nat} {w : Int} (hw1 : 1 ≤ w) (hw4 : w ≤ 3) (h1 : 1 ≤ j) (h8 : j ≤ 8) : WF k (F__law_parts [.ref k, .dat (.int (j : Int)), .dat (.int w)]) fun d => ∃ vs : List Vb, d = .lst (vs.map vbD) ∧ VsOk vs ∧ vs.length ≤ 8 ∧ (∀ v ∈ vs, Va v) ∧ vs.map (·.nm) = names8.take vs.length := WF.mk fun m c0 hk h0 => by
  have ml : ∀ m, mkLst [.dat (.str "a"), .dat (.str "bb"), .dat (.str "c"), .dat (.str "dot"), .dat (.str "e"), .dat (.str "f"), .dat (.str "gamma"), .dat (.str "z")] m = .ok (.dat (.lst (names8.map D.str))) m := fun m => by
    simp [mkLst, allDat, names8]
  have cu := cut8 j h8
  have it : ∀ m, itemsV (.dat (.lst ((names8.take j).map D.str))) m = .ok ((names8.take j).map D.str) m := fun m => by simp [itemsV]
  have ln : ((names8.take j).map D.str).length = j := by simp [names8]; omega
  obtain ⟨acc, c, hc, q, ⟨vs, rfl, n1, n2⟩, hl⟩ := loopC_WF (g := gN 4) (f := ce1__law_parts) (env := [some (.ref k), some (.dat (.int (j : Int))), some (.dat (.int w)), some (.dat (.lst ((names8.take j).map D.str))), none]) (k := k) (m := m)
    (fun acc => ∃ vs : List Vb, acc = vs.map vbD ∧ vs.map (·.nm) = names8.take vs.length ∧ ∀ v ∈ vs, Va v) ((names8.take j).map D.str) [] 0 c0 h0 rfl ⟨[], rfl, rfl, fun v hv => by cases hv⟩ (by
    rintro i d acc c0 hi hl ⟨vs, rfl, n1, n2⟩ h0
    rw [List.length_map, Nat.zero_add] at hl
    obtain ⟨x, hx, rfl⟩ : ∃ x : Str, names8[i]? = some x ∧ d = .str x := by
      rw [List.getElem?_map, Option.map_eq_some_iff] at hi
      obtain ⟨x, h, rfl⟩ := hi
      rw [List.getElem?_take] at h
      split at h
      · exact ⟨x, h, rfl⟩
      · cases h
    obtain ⟨s, c1, hc1, e1, hs⟩ := (pick_WF (k := k) (xs := [.int 1, .int 1, .int 2, .int 2, .int 3, .int 5]) (by simp) (by simp)).on hk h0
    obtain ⟨b, c2, hc2, e2, bs, rfl, hb⟩ := (bounds_WF (k := k) hw1 hw4).on hk hc1
    obtain ⟨s, rfl, s1, s2⟩ : ∃ z : Int, s = .int z ∧ 1 ≤ z ∧ z ≤ 5 := by
      simp at hs
      rcases hs with h | h | h | h <;> exact ⟨_, h, by omega, by omega⟩
    refine ⟨[some (.ref k), some (.dat (.int (j : Int))), some (.dat (.int w)), some (.dat (.lst ((names8.take j).map D.str))), some (.dat (.str x))], vbD ⟨x, s, bs⟩, c2, rfl, hc2, ?_, vs ++ [⟨x, s, bs⟩], by simp, ?_, ?_⟩
    · simp [ce1__law_parts, mkLst, e1, e2, mkTup, allDat, vbD, vD]
    · rw [List.map_append, n1, List.length_append, hl, List.map_singleton, List.length_singleton, List.take_succ, hx]
      rfl
    · intro v hv
      rcases List.mem_append.mp hv with z | z
      · exact n2 v z
      · rw [List.mem_singleton.mp z]
        exact ⟨s1, s2, hb⟩) (by rw [ln]; omega)
  rw [ln, List.length_map, Nat.zero_add] at hl
  have q' : noX (loopC (gN 4) dYes ce1__law_parts [some (.ref k), some (.dat (.int (j : Int))), some (.dat (.int w)), some (.dat (.lst ((names8.take j).map D.str))), none] ((names8.take j).map D.str) []) (m.set k c0) = .ok (vs.map vbD) (m.set k c) := noX_ofR q
  have okn : ∀ v ∈ vs, v.nm ∈ names8 := fun v hv => by
    have : v.nm ∈ vs.map (·.nm) := List.mem_map.mpr ⟨v, hv, rfl⟩
    rw [n1] at this
    exact List.mem_of_mem_take this
  refine ⟨.lst (vs.map vbD), c, hc, ?_, vs, rfl, ⟨by omega, by omega, fun v hv => ⟨(n2 v hv).lo, by have := (n2 v hv).hi; omega, (n2 v hv).b.vb, (name8 (okn v hv)).1, (name8 (okn v hv)).2⟩, ?_⟩, by omega, n2, n1⟩
  · have sl : ∀ m, PL.cutVl false (.dat (.lst (names8.map D.str))) none (some (j : Int)) m = .ok (.dat (.lst ((names8.take j).map D.str))) m := fun m => by
      rw [← cu]
      rfl
    generalize names8.map D.str = N8 at ml sl
    generalize (names8.take j).map D.str = NJ at *
    simp [F__law_parts, fnRun_ap, den__law_parts, enter, ml, sl, it, wipeE, q']
  · rw [n1]
    exact (List.take_sublist _ _).nodup (by decide)
def qn (x : Str) : Str := ("q" : Str) ++ x
def names8q : List Str := ["qa", "qbb", "qc", "qdot", "qe", "qf", "qgamma", "qz"]
theorem names_q : names8.map qn = names8q := by decide +kernel
theorem name8q {x : Str} (h : x ∈ names8q) : (∀ m, F_is_name [.dat (.str x)] m = .ok (.dat (.bl true)) m) ∧ (PyData.str x).canLay0 = true := by
  have key : ∀ x ∈ names8q, ∀ m, den_is_name [some (.dat (.str x)), none] m = .ok (.rt (.dat (.bl true))) m := by
    intro x h m
    simp only [names8q, List.mem_cons, List.not_mem_nil, or_false] at h
    rcases h with rfl | rfl | rfl | rfl | rfl | rfl | rfl | rfl <;> kernel_rfl
  have lay : ∀ x ∈ names8q, (PyData.str x).canLay0 = true := by
    intro x h
    simp only [names8q, List.mem_cons, List.not_mem_nil, or_false] at h
    rcases h with rfl | rfl | rfl | rfl | rfl | rfl | rfl | rfl <;> decide +kernel
  refine ⟨fun m => ?_, lay x h⟩
  have e := key x h m
  simp [F_is_name, fnRun_ap, enter, e]
def mvB (bs : List Bd) (mv : List Int) : List Bd := (bs.zip mv).map fun p => (p.1.1 + p.2, p.1.2 + p.2)
def mvU (us mv : List Int) : List Int := (us.zip mv).map fun p => p.1 + p.2
def rnV (b : Int) (mv : List Int) (v : Vb) : Vb := ⟨qn v.nm, b * v.s, mvB v.bs mv⟩
def rnM (mv : List Int) (e : Mb) : Mb := (e.1, mvU e.2 mv)
theorem mv_ext (b : Bd) (f : Int) : AR.ext (b.1 + f, b.2 + f) = AR.ext b := by
  unfold AR.ext
  simp only [show b.2 + f - (b.1 + f) = b.2 - b.1 by omega]
theorem mv_exts : ∀ {bs : List Bd} {mv : List Int}, bs.length ≤ mv.length → exts (mvB bs mv) = exts bs
  | [], _, _ => rfl
  | b :: r, [], h => by simp at h
  | b :: r, f :: fs, h => by
    have := mv_exts (bs := r) (mv := fs) (by simpa using h)
    unfold exts mvB at this ⊢
    simp only [List.zip_cons_cons, List.map_cons, this, mv_ext]
theorem mv_inB : ∀ {bs : List Bd} {us mv : List Int}, bs.length ≤ mv.length → inB bs us → inB (mvB bs mv) (mvU us mv)
  | [], [], _, _, _ => trivial
  | [], _ :: _, _, _, h => h.elim
  | _ :: _, [], _, _, h => h.elim
  | b :: r, u :: us, [], h, _ => by simp at h
  | b :: r, u :: us, f :: fs, h, hi => by
    obtain ⟨i1, i2, i3⟩ := hi
    have := mv_inB (bs := r) (us := us) (mv := fs) (by simpa using h) i3
    exact ⟨by show b.1 + f ≤ u + f; omega, by show u + f ≤ b.2 + f; omega, this⟩
theorem mv_place : ∀ {bs : List Bd} {us mv : List Int}, bs.length ≤ mv.length → inB bs us → place (mvB bs mv) (mvU us mv) = place bs us
  | [], [], _, _, _ => rfl
  | [], _ :: _, _, _, h => h.elim
  | _ :: _, [], _, _, h => h.elim
  | b :: r, u :: us, [], h, _ => by simp at h
  | b :: r, u :: us, f :: fs, h, hi => by
    obtain ⟨i1, i2, i3⟩ := hi
    have := mv_place (bs := r) (us := us) (mv := fs) (by simpa using h) i3
    show u + f - (b.1 + f) + AR.ext (b.1 + f, b.2 + f) * place (mvB r fs) (mvU us fs) = u - b.1 + AR.ext b * place r us
    rw [this, mv_ext]
    omega
theorem mv_nil (mv : List Int) : mvU [] mv = [] := rfl
theorem vAt_map {vs : List Vb} {i : Nat} (f : Vb → Vb) (h : i < vs.length) : vAt (vs.map f) i = f (vAt vs i) := by
  have h1 := vAt_get h
  have h2 := vAt_get (vs := vs.map f) (i := i) (by simpa using h)
  rw [List.getElem?_map, h1] at h2
  exact (Option.some.inj h2).symm
section
variable {vs : List Vb} {rs : List (List Mb)} {b : Int} {mv : List Int}
structure Mv (mv : List Int) : Prop where
  three : mv.length = 3
  sm : ∀ f ∈ mv, -50 ≤ f ∧ f ≤ 100000000000000000000
theorem mv_VB : ∀ {bs : List Bd} {mv : List Int}, (∀ f ∈ mv, -50 ≤ f ∧ f ≤ 100000000000000000000) → (∀ b ∈ bs, -3 ≤ b.1 ∧ b.1 ≤ b.2 ∧ b.2 ≤ b.1 + 2 ∧ b.1 ≤ 3) → ∀ b ∈ mvB bs mv, -FAR ≤ b.1 ∧ b.1 ≤ b.2 ∧ b.2 ≤ FAR := fun {bs mv} hm hb x hx => by
  obtain ⟨⟨c, f⟩, hp, rfl⟩ := List.mem_map.mp hx
  have h1 := hb c (List.of_mem_zip hp).1
  have h2 := hm f (List.of_mem_zip hp).2
  unfold FAR
  simp only
  omega
theorem rn_vs (hv : VsOk vs) (va : ∀ v ∈ vs, Va v) (hn : vs.map (·.nm) = names8.take vs.length) (h1 : 1 ≤ b) (h3 : b ≤ 3) (hm : Mv mv) : VsOk (vs.map (rnV b mv)) where
  one := by simpa using hv.one
  few := by simpa using hv.few
  ok := fun v hx => by
    obtain ⟨w, hw, rfl⟩ := List.mem_map.mp hx
    have a := va w hw
    have s1 := a.lo
    have s2 := a.hi
    have p1 := Int.mul_le_mul h3 s2 (by omega) (by omega)
    have p2 := Int.mul_le_mul h1 s1 (by omega) (by omega)
    have hq : qn w.nm ∈ names8q := by
      rw [← names_q]
      have : w.nm ∈ vs.map (·.nm) := List.mem_map.mpr ⟨w, hw, rfl⟩
      rw [hn] at this
      exact List.mem_map.mpr ⟨_, List.mem_of_mem_take this, rfl⟩
    refine ⟨by show 1 ≤ b * w.s; omega, by show b * w.s ≤ 16; omega, ⟨?_, mv_VB hm.sm a.b.in1⟩, (name8q hq).1, (name8q hq).2⟩
    have := a.b.le
    show ((w.bs.zip mv).map _).length ≤ 7
    rw [List.length_map, List.length_zip]
    omega
  dif := by
    have e : (vs.map (rnV b mv)).map (·.nm) = (vs.map (·.nm)).map qn := by simp [rnV]
    rw [e, hn, List.map_take, names_q]
    exact (List.take_sublist _ _).nodup (by decide +kernel)
theorem rn_len (hm : Mv mv) {v : Vb} (a : Va v) : v.bs.length ≤ mv.length := by
  have := a.b.le
  have := hm.three
  omega
theorem va_of (va : ∀ v ∈ vs, Va v) {i : Nat} (h : i < vs.length) : Va (vAt vs i) := va _ (List.mem_of_getElem? (vAt_get h))
theorem rn_mb (va : ∀ v ∈ vs, Va v) (hm : Mv mv) {e : Mb} (he : MbOk vs e) : MbOk (vs.map (rnV b mv)) (rnM mv e) ∧ plOf (vs.map (rnV b mv)) (rnM mv e) = b * plOf vs e := by
  have a := va_of va he.lt
  have l := rn_len hm a
  have ev : vAt (vs.map (rnV b mv)) (rnM mv e).1 = rnV b mv (vAt vs e.1) := vAt_map _ he.lt
  refine ⟨⟨by simpa [rnM] using he.lt, ?_⟩, ?_⟩
  · rw [ev]
    rcases he.sub with h | h
    · left
      show mvU e.2 mv = []
      rw [h]
      rfl
    · exact .inr (mv_inB l h)
  · unfold plOf
    rw [ev]
    show b * (vAt vs e.1).s * place (mvB (vAt vs e.1).bs mv) (mvU e.2 mv) = _
    rw [Int.mul_assoc]
    rcases he.sub with h | h
    · rw [h, mv_nil, place_nil, place_nil]
    · rw [mv_place l h]
theorem rn_rs (va : ∀ v ∈ vs, Va v) (hm : Mv mv) (hr : RsOk vs rs) : RsOk (vs.map (rnV b mv)) (rs.map fun r => r.map (rnM mv)) where
  few := by simpa using hr.few
  ok := fun r hx => by
    obtain ⟨w, hw, rfl⟩ := List.mem_map.mp hx
    have o := hr.ok w hw
    refine ⟨by simpa using o.two, by simpa using o.ten, fun e he => ?_⟩
    obtain ⟨e, he0, rfl⟩ := List.mem_map.mp he
    exact (rn_mb va hm (o.ok e he0)).1
theorem rn_ls (va : ∀ v ∈ vs, Va v) (hm : Mv mv) (hr : RsOk vs rs) : lsOf (vs.map (rnV b mv)) (rs.map fun r => r.map (rnM mv)) = GP.scl b (lsOf vs rs) := by
  unfold lsOf GP.scl
  rw [List.map_map, List.map_map]
  refine List.map_congr_left fun r hx => ?_
  have o := hr.ok r hx
  show lnOf _ (r.map (rnM mv)) = (lnOf vs r).map fun e => (e.1, b * e.2)
  unfold lnOf
  rw [List.map_map, List.map_map]
  refine List.map_congr_left fun e he => ?_
  show ((rnM mv e).1, plOf _ (rnM mv e)) = (e.1, b * plOf vs e)
  rw [(rn_mb va hm (o.ok e he)).2]
  rfl
theorem rn_un (va : ∀ v ∈ vs, Va v) (hm : Mv mv) {i : Nat} (h : i < vs.length) : (vAt (vs.map (rnV b mv)) i).s = b * (vAt vs i).s ∧ UN (vAt (vs.map (rnV b mv)) i) = b * UN (vAt vs i) ∧ (vAt (vs.map (rnV b mv)) i).nm = qn (vAt vs i).nm ∧ exts (vAt (vs.map (rnV b mv)) i).bs = exts (vAt vs i).bs := by
  have l := rn_len hm (va_of va h)
  rw [vAt_map _ h]
  refine ⟨rfl, ?_, rfl, mv_exts l⟩
  unfold UN
  show b * (vAt vs i).s * AR.prod (exts (mvB (vAt vs i).bs mv)) = _
  rw [mv_exts l, Int.mul_assoc]
end
section
variable {vs : List Vb} {rs : List (List Mb)} {b : Int} {mv : List Int}
def rwL (vs : List Vb) (r : List Mb) : D := .lst (r.map (mbV vs))
theorem rwL_sq (vs : List Vb) (r : List Mb) : Sq (rwL vs r) (r.map (mbV vs)) := .inl rfl
def qK (vs : List Vb) : List (Key × D) := vs.map fun v => (Sum.inr v.nm, .str (qn v.nm))
theorem qK_keys (vs : List Vb) : (qK vs).map (·.1) = (vs.map (·.nm)).map Sum.inr := by simp [qK]
theorem qK_nd (hd : (vs.map (·.nm)).Nodup) : ((qK vs).map (·.1)).Nodup := by
  rw [qK_keys]
  exact hd.map (f := Sum.inr) fun a b ne z => ne (Sum.inr.inj z)
theorem qK_at (hd : (vs.map (·.nm)).Nodup) {v : Vb} (h : v ∈ vs) : dGetI (qK vs) (Sum.inr v.nm) = some (.str (qn v.nm)) :=
  getI_of (qK_nd hd) (List.mem_map.mpr ⟨v, h, rfl⟩)
def qD (vs : List Vb) : D := .dk ((qK vs).map (·.1)) ((qK vs).map (·.2))
theorem q_item (hd : (vs.map (·.nm)).Nodup) {v : Vb} (h : v ∈ vs) (m : Mem) : itemKV (.dat (qD vs)) (.dat (.str v.nm)) m = .ok (.dat (.str (qn v.nm))) m := by
  simp only [qD, itemKV, keyD, dkGet_get, qK_at hd h]
theorem zip_bd : ∀ (bs : List Bd) (mv : List Int), zipD2 (bs.map pr) (mv.map D.int) = (bs.zip mv).map fun p => .tup [pr p.1, .int p.2]
  | [], _ => by simp [zipD2]
  | b :: r, [] => by simp [zipD2]
  | b :: r, f :: fs => by
    show .tup [pr b, .int f] :: zipD2 (r.map pr) (fs.map D.int) = _
    rw [zip_bd r fs]
    rfl
theorem zip_us : ∀ (us mv : List Int), zipD2 (us.map D.int) (mv.map D.int) = (us.zip mv).map fun p => .tup [.int p.1, .int p.2]
  | [], _ => by simp [zipD2]
  | b :: r, [] => by simp [zipD2]
  | b :: r, f :: fs => by
    show .tup [.int b, .int f] :: zipD2 (r.map D.int) (fs.map D.int) = _
    rw [zip_us r fs]
    rfl
theorem rn1_turn (hd : (vs.map (·.nm)).Nodup) {v : Vb} (hv : v ∈ vs) (va : Va v) (hb : 1 ≤ b) (hb3 : b ≤ 3) (hm : Mv mv) {o : Nat} {m : Mem} {xs : List Vb} (ho : m[o]? = some (.lst (xs.map vbD))) (hx : xs.length ≤ 1000) (e0 e1 e9 e10 e11 : Option SV) :
    ∃ x, lp3__law_renamed [e0, e1, some (.dat (.lst (mv.map D.int))), some (.dat (.int b)), some (.dat (qD vs)), some (.ref o), some (.dat (.str v.nm)), some (.dat (.int v.s)), some (.dat (bD v.bs)), e9, e10, e11, none, none, none, none, none, none] m
      = .ok (.nx [e0, e1, some (.dat (.lst (mv.map D.int))), some (.dat (.int b)), some (.dat (qD vs)), some (.ref o), some (.dat (.str v.nm)), some (.dat (.int v.s)), some (.dat (bD v.bs)), x, e10, e11, none, none, none, none, none, none]) (m.set o (.lst ((xs ++ [rnV b mv v]).map vbD))) := by
  have z : ∀ m, zip2V [.dat (bD v.bs), .dat (.lst (mv.map D.int))] m = .ok ((v.bs.zip mv).map fun p => .tup [pr p.1, .int p.2]) m := fun m => by
    rw [← zip_bd]
    simp [zip2V, seqD, bD]
  have lz : (v.bs.zip mv).length ≤ 16777216 := by
    rw [List.length_zip, hm.three]
    omega
  have c : ∀ m, noX (loopC (gT 2 (gsC (gT 2 (gsC (gN 13) (gsC (gN 14) gsN))) (gsC (gN 12) gsN))) dYes ce2__law_renamed [e0, e1, some (.dat (.lst (mv.map D.int))), some (.dat (.int b)), some (.dat (qD vs)), some (.ref o), some (.dat (.str v.nm)), some (.dat (.int v.s)), some (.dat (bD v.bs)), e9, e10, e11, none, none, none, none, none, none] ((v.bs.zip mv).map fun p => .tup [pr p.1, .int p.2]) []) m = .ok ((mvB v.bs mv).map pr) m := fun m => by
    have := lcB (g := gT 2 (gsC (gT 2 (gsC (gN 13) (gsC (gN 14) gsN))) (gsC (gN 12) gsN))) (f := ce2__law_renamed) (env := [e0, e1, some (.dat (.lst (mv.map D.int))), some (.dat (.int b)), some (.dat (qD vs)), some (.ref o), some (.dat (.str v.nm)), some (.dat (.int v.s)), some (.dat (bD v.bs)), e9, e10, e11, none, none, none, none, none, none]) (m := m)
      (fun p : Bd × Int => .tup [pr p.1, .int p.2]) (fun p => pr (p.1.1 + p.2, p.1.2 + p.2)) (v.bs.zip mv) (fun p hp => ⟨[e0, e1, some (.dat (.lst (mv.map D.int))), some (.dat (.int b)), some (.dat (qD vs)), some (.ref o), some (.dat (.str v.nm)), some (.dat (.int v.s)), some (.dat (bD v.bs)), e9, e10, e11, some (.dat (.int p.2)), some (.dat (.int p.1.1)), some (.dat (.int p.1.2)), none, none, none], rfl, by simp [ce2__law_renamed, mkTup, allDat, pr]⟩) lz
    rw [this]
    simp [mvB]
  have it := q_item hd hv
  have mo : mulOk b v.s = true := mulOk_l _ (by omega)
  have lt : xs.length < 16777216 := by omega
  have tv : ∀ m, tupleV [.dat (.lst ((mvB v.bs mv).map pr))] m = .ok (.dat (bD (mvB v.bs mv))) m := fun m => by simp [tupleV, rdSq, rdL, bD]
  refine ⟨some (.dat (.lst ((mvB v.bs mv).map pr))), ?_⟩
  have ev : D.tup [.str (qn v.nm), .int (b * v.s), bD (mvB v.bs mv)] = vbD (rnV b mv v) := rfl
  generalize ((v.bs.zip mv).map fun p => D.tup [pr p.1, .int p.2]) = Z at z c
  generalize (mvB v.bs mv).map pr = Y at *
  generalize mv.map D.int = MV at *
  generalize qD vs = QD at *
  simp [lp3__law_renamed, z, c, wipeE, it, mo, tv, mkTup, allDat, ho, rdL, lt, ev]
theorem rn1_loop (hd : (vs.map (·.nm)).Nodup) (va : ∀ v ∈ vs, Va v) (h8 : vs.length ≤ 8) (hb : 1 ≤ b) (hb3 : b ≤ 3) (hm : Mv mv) {m : Mem} (e0 e1 : Option SV) : ∀ (r pre : List Vb) (e6 e7 e8 e9 : Option SV), pre ++ r = vs →
    ∃ y6 y7 y8 y9, loopF (gT 3 (gsC (gN 6) (gsC (gN 7) (gsC (gN 8) gsN)))) lp3__law_renamed (r.map vbD) [e0, e1, some (.dat (.lst (mv.map D.int))), some (.dat (.int b)), some (.dat (qD vs)), some (.ref m.length), e6, e7, e8, e9, none, none, none, none, none, none, none, none] (m ++ [.lst ((pre.map (rnV b mv)).map vbD)])
      = .ok (.nx [e0, e1, some (.dat (.lst (mv.map D.int))), some (.dat (.int b)), some (.dat (qD vs)), some (.ref m.length), y6, y7, y8, y9, none, none, none, none, none, none, none, none]) (m ++ [.lst ((vs.map (rnV b mv)).map vbD)])
  | [], pre, e6, e7, e8, e9, h => by
    rw [List.append_nil] at h
    subst h
    exact ⟨e6, e7, e8, e9, rfl⟩
  | v :: r, pre, e6, e7, e8, e9, h => by
    have hv : v ∈ vs := by rw [← h]; simp
    have hl : (pre ++ v :: r).length ≤ 8 := by rw [h]; exact h8
    rw [List.length_append] at hl
    have hcell : (m ++ [Cell.lst ((pre.map (rnV b mv)).map vbD)])[m.length]? = some (.lst ((pre.map (rnV b mv)).map vbD)) := by simp
    obtain ⟨x, t⟩ := rn1_turn hd hv (va v hv) hb hb3 hm hcell (by simp; omega) e0 e1 e9 none none
    have es : (m ++ [Cell.lst ((pre.map (rnV b mv)).map vbD)]).set m.length (.lst ((pre.map (rnV b mv) ++ [rnV b mv v]).map vbD)) = m ++ [.lst (((pre ++ [v]).map (rnV b mv)).map vbD)] := by simp
    rw [es] at t
    obtain ⟨y6, y7, y8, y9, q⟩ := rn1_loop hd va h8 hb hb3 hm e0 e1 r (pre ++ [v]) (some (.dat (.str v.nm))) (some (.dat (.int v.s))) (some (.dat (bD v.bs))) x (by rw [List.append_assoc]; exact h)
    exact ⟨y6, y7, y8, y9, (loopF_nx rfl t).trans q⟩
theorem rn_mbV (va : ∀ v ∈ vs, Va v) {e : Mb} (h : e.1 < vs.length) : mbV (vs.map (rnV b mv)) (rnM mv e) = .tup [.str (qn (vAt vs e.1).nm), spD (mvU e.2 mv)] := by
  have ev : vAt (vs.map (rnV b mv)) (rnM mv e).1 = rnV b mv (vAt vs e.1) := vAt_map _ h
  unfold mbV
  rw [ev]
  rfl
theorem rn2_turn (hd : (vs.map (·.nm)).Nodup) (va : ∀ v ∈ vs, Va v) (hm : Mv mv) {r : List Mb} (hr : RwOk vs r) {o : Nat} {m : Mem} {xs : List D} (ho : m[o]? = some (.lst xs)) (hx : xs.length ≤ 1000) (e0 e1 e3 e5 e6 e7 e8 e9 : Option SV) :
    lp6__law_renamed [e0, e1, some (.dat (.lst (mv.map D.int))), e3, some (.dat (qD vs)), e5, e6, e7, e8, e9, some (.ref o), some (.dat (rwD vs r)), none, none, none, none, none, none] m
      = .ok (.nx [e0, e1, some (.dat (.lst (mv.map D.int))), e3, some (.dat (qD vs)), e5, e6, e7, e8, e9, some (.ref o), some (.dat (rwD vs r)), none, none, none, none, none, none]) (m.set o (.lst (xs ++ [rwL (vs.map (rnV b mv)) (r.map (rnM mv))]))) := by
  have lt : xs.length < 16777216 := by omega
  have it : ∀ m, itemsV (.dat (rwD vs r)) m = .ok (r.map (mbV vs)) m := fun m => by simp [itemsV, rwD]
  have ten := hr.ten
  have c : ∀ m, noX (loopC (gT 2 (gsC (gN 6) (gsC (gN 16) gsN))) dYes ce5__law_renamed [e0, e1, some (.dat (.lst (mv.map D.int))), e3, some (.dat (qD vs)), e5, none, e7, e8, e9, some (.ref o), some (.dat (rwD vs r)), none, none, none, none, none, none] (r.map (mbV vs)) []) m = .ok (r.map fun e => mbV (vs.map (rnV b mv)) (rnM mv e)) m := fun m => by
    refine lcB (mbV vs) (fun e => mbV (vs.map (rnV b mv)) (rnM mv e)) r (fun e he => ⟨[e0, e1, some (.dat (.lst (mv.map D.int))), e3, some (.dat (qD vs)), e5, some (.dat (.str (vAt vs e.1).nm)), e7, e8, e9, some (.ref o), some (.dat (rwD vs r)), none, none, none, none, some (.dat (spD e.2)), none], rfl, ?_⟩) (by omega)
    have me := hr.ok e he
    have hv := List.mem_of_getElem? (vAt_get me.lt)
    have q := q_item hd hv
    have z : ∀ m, zip2V [.dat (spD e.2), .dat (.lst (mv.map D.int))] m = .ok ((e.2.zip mv).map fun p => .tup [.int p.1, .int p.2]) m := fun m => by
      rw [← zip_us]
      simp [zip2V, seqD, spD]
    have lz : (e.2.zip mv).length ≤ 16777216 := by
      rw [List.length_zip, hm.three]
      omega
    have c2 : ∀ m, noX (loopC (gT 2 (gsC (gN 17) (gsC (gN 12) gsN))) dYes ce4__law_renamed [e0, e1, some (.dat (.lst (mv.map D.int))), e3, some (.dat (qD vs)), e5, some (.dat (.str (vAt vs e.1).nm)), e7, e8, e9, some (.ref o), some (.dat (rwD vs r)), none, none, none, none, some (.dat (spD e.2)), none] ((e.2.zip mv).map fun p => .tup [.int p.1, .int p.2]) []) m = .ok ((mvU e.2 mv).map D.int) m := fun m => by
      have := lcB (g := gT 2 (gsC (gN 17) (gsC (gN 12) gsN))) (f := ce4__law_renamed) (env := [e0, e1, some (.dat (.lst (mv.map D.int))), e3, some (.dat (qD vs)), e5, some (.dat (.str (vAt vs e.1).nm)), e7, e8, e9, some (.ref o), some (.dat (rwD vs r)), none, none, none, none, some (.dat (spD e.2)), none]) (m := m)
        (fun p : Int × Int => .tup [.int p.1, .int p.2]) (fun p => .int (p.1 + p.2)) (e.2.zip mv) (fun p hp => ⟨[e0, e1, some (.dat (.lst (mv.map D.int))), e3, some (.dat (qD vs)), e5, some (.dat (.str (vAt vs e.1).nm)), e7, e8, e9, some (.ref o), some (.dat (rwD vs r)), some (.dat (.int p.2)), none, none, none, some (.dat (spD e.2)), some (.dat (.int p.1))], rfl, by simp [ce4__law_renamed]⟩) lz
      rw [this]
      simp [mvU]
    have tv : ∀ m, tupleV [.dat (.lst ((mvU e.2 mv).map D.int))] m = .ok (.dat (spD (mvU e.2 mv))) m := fun m => by simp [tupleV, rdSq, rdL, spD]
    rw [rn_mbV va me.lt]
    generalize ((e.2.zip mv).map fun p => D.tup [.int p.1, .int p.2]) = Z at z c2
    generalize (mvU e.2 mv).map D.int = Y at *
    generalize mv.map D.int = MV at *
    generalize qD vs = QD at *
    generalize spD e.2 = SD at *
    simp [ce5__law_renamed, q, z, c2, wipeE, tv, mkTup, allDat]
  have er : (r.map fun e => mbV (vs.map (rnV b mv)) (rnM mv e)) = (r.map (rnM mv)).map (mbV (vs.map (rnV b mv))) := by simp
  rw [er] at c
  unfold rwL
  generalize (r.map (rnM mv)).map (mbV (vs.map (rnV b mv))) = Y at *
  generalize mv.map D.int = MV at *
  generalize qD vs = QD at *
  generalize r.map (mbV vs) = Z at *
  generalize rwD vs r = RW at *
  simp [lp6__law_renamed, it, c, wipeE, ho, rdL, lt]
theorem rn2_loop (hd : (vs.map (·.nm)).Nodup) (va : ∀ v ∈ vs, Va v) (hm : Mv mv) {m : Mem} (e0 e1 e3 e5 e6 e7 e8 e9 : Option SV) (x : Cell) : ∀ (r pre : List (List Mb)) (e11 : Option SV), (∀ w ∈ r, RwOk vs w) → (pre ++ r).length ≤ 40 →
    ∃ y11, loopF (gN 11) lp6__law_renamed (r.map (rwD vs)) [e0, e1, some (.dat (.lst (mv.map D.int))), e3, some (.dat (qD vs)), e5, e6, e7, e8, e9, some (.ref (m.length + 1)), e11, none, none, none, none, none, none] (m ++ [x, .lst ((pre.map fun r => r.map (rnM mv)).map (rwL (vs.map (rnV b mv))))])
      = .ok (.nx [e0, e1, some (.dat (.lst (mv.map D.int))), e3, some (.dat (qD vs)), e5, e6, e7, e8, e9, some (.ref (m.length + 1)), y11, none, none, none, none, none, none]) (m ++ [x, .lst (((pre ++ r).map fun r => r.map (rnM mv)).map (rwL (vs.map (rnV b mv))))])
  | [], pre, e11, _, _ => ⟨e11, by rw [List.append_nil]; rfl⟩
  | w :: r, pre, e11, h, hl => by
    rw [List.length_append] at hl
    have t := rn2_turn (b := b) hd va hm (h w List.mem_cons_self) (o := m.length + 1) (m := m ++ [x, .lst ((pre.map fun r => r.map (rnM mv)).map (rwL (vs.map (rnV b mv))))]) (xs := (pre.map fun r => r.map (rnM mv)).map (rwL (vs.map (rnV b mv)))) (by simp) (by simp; omega) e0 e1 e3 e5 e6 e7 e8 e9
    have es : (m ++ [x, Cell.lst ((pre.map fun r => r.map (rnM mv)).map (rwL (vs.map (rnV b mv))))]).set (m.length + 1) (.lst ((pre.map fun r => r.map (rnM mv)).map (rwL (vs.map (rnV b mv))) ++ [rwL (vs.map (rnV b mv)) (w.map (rnM mv))])) = m ++ [x, .lst (((pre ++ [w]).map fun r => r.map (rnM mv)).map (rwL (vs.map (rnV b mv))))] := by simp
    rw [es] at t
    obtain ⟨y11, q⟩ := rn2_loop hd va hm e0 e1 e3 e5 e6 e7 e8 e9 x r (pre ++ [w]) (some (.dat (rwD vs w))) (fun y hy => h y (List.mem_cons_of_mem _ hy)) (by rw [List.append_assoc, List.length_append]; exact hl)
    rw [List.append_assoc pre] at q
    exact ⟨y11, (loopF_nx rfl t).trans q⟩
theorem nm_len {x : Str} (h : x ∈ names8) : ("q" : Str).length + x.length ≤ 16777216 := by
  have : ∀ x ∈ names8, ("q" : Str).length + x.length ≤ 16777216 := by decide +kernel
  exact this x h
theorem nm_of (hn : vs.map (·.nm) = names8.take vs.length) {v : Vb} (h : v ∈ vs) : v.nm ∈ names8 := by
  have : v.nm ∈ vs.map (·.nm) := List.mem_map.mpr ⟨v, h, rfl⟩
  rw [hn] at this
  exact List.mem_of_mem_take this
theorem renamed_ok (hv : VsOk vs) (hn : vs.map (·.nm) = names8.take vs.length) (va : ∀ v ∈ vs, Va v) (h8 : vs.length ≤ 8) (hr : RsOk vs rs) (hb : 1 ≤ b) (hb3 : b ≤ 3) (hm : Mv mv) (m : Mem) :
    F__law_renamed [.dat (.lst (vs.map vbD)), .dat (.lst (rs.map (rwD vs))), .dat (.lst (mv.map D.int)), .dat (.int b)] m = .ok (.dat (.tup [.lst ((vs.map (rnV b mv)).map vbD), .lst ((rs.map fun r => r.map (rnM mv)).map (rwL (vs.map (rnV b mv))))])) m := by
  have it1 : ∀ m, itemsV (.dat (.lst (vs.map vbD))) m = .ok (vs.map vbD) m := fun m => by simp [itemsV]
  have it2 : ∀ m, itemsV (.dat (.lst (rs.map (rwD vs)))) m = .ok (rs.map (rwD vs)) m := fun m => by simp [itemsV]
  have c1 : ∀ (e0 e1 e2 e3 : Option SV) m, noX (loopC (gN 15) dYes ce1__law_renamed [e0, e1, e2, e3, none, none, none, none, none, none, none, none, none, none, none, none, none, none] (vs.map vbD) []) m = .ok (vs.map fun v => D.tup [.str v.nm, .str (qn v.nm)]) m := fun e0 e1 e2 e3 m =>
    lcB vbD (fun v => D.tup [.str v.nm, .str (qn v.nm)]) vs (fun v hx => ⟨_, rfl, by
      have a8 := nm_len (nm_of hn hx)
      simp [ce1__law_renamed, vb0, addV, a8, qn, mkTup, allDat]⟩) (by omega)
  have ask : ∀ l : List Vb, asKD (l.map fun v => D.tup [.str v.nm, .str (qn v.nm)]) = some (qK l) := fun l => by
    induction l with
    | nil => rfl
    | cons v r ih => simp [asKD, keyD, ih, qK]
  have dk := dictKD_ap (ask vs) (qK_nd hv.dif)
  obtain ⟨y6, y7, y8, y9, q1⟩ := rn1_loop hv.dif va h8 hb hb3 hm (m := m) (some (.dat (.lst (vs.map vbD)))) (some (.dat (.lst (rs.map (rwD vs))))) vs [] none none none none rfl
  obtain ⟨y11, q2⟩ := rn2_loop (b := b) hv.dif va hm (m := m) (some (.dat (.lst (vs.map vbD)))) (some (.dat (.lst (rs.map (rwD vs))))) (some (.dat (.int b))) (some (.ref m.length)) y6 y7 y8 y9 (.lst ((vs.map (rnV b mv)).map vbD)) rs [] none hr.ok (by simpa using hr.few)
  rw [List.nil_append] at q2
  have n1 : (([] : List Vb).map (rnV b mv)).map vbD = [] := rfl
  have n2 : (([] : List (List Mb)).map fun r => r.map (rnM mv)).map (rwL (vs.map (rnV b mv))) = [] := rfl
  rw [n1] at q1
  rw [n2] at q2
  have qd : D.dk ((qK vs).map (·.1)) ((qK vs).map (·.2)) = qD vs := rfl
  rw [qd] at dk
  generalize (vs.map (rnV b mv)).map vbD = NV at *
  generalize ((rs.map fun r => r.map (rnM mv)).map (rwL (vs.map (rnV b mv)))) = NR at *
  generalize (vs.map fun v => D.tup [.str v.nm, .str (qn v.nm)]) = QL at *
  generalize qD vs = QD at *
  generalize vs.map vbD = PV at *
  generalize rs.map (rwD vs) = RV at *
  generalize mv.map D.int = MV at *
  have e1 : ∀ y, dFrz 10 [some (.dat (.lst PV)), some (.dat (.lst RV)), some (.dat (.lst MV)), some (.dat (.int b)), some (.dat QD), some (.ref m.length), y6, y7, y8, y9, some (.ref (m.length + 1)), y, none, none, none, none, none, none] (m ++ [.lst NV, .lst NR]) = .ok (.nx [some (.dat (.lst PV)), some (.dat (.lst RV)), some (.dat (.lst MV)), some (.dat (.int b)), some (.dat QD), some (.ref m.length), y6, y7, y8, y9, some (.dat (.lst NR)), y, none, none, none, none, none, none]) (m ++ [.lst NV, .dead]) := fun y => by simp [dFrz, frzV, frzC]
  have e2 : ∀ y, dFrz 5 [some (.dat (.lst PV)), some (.dat (.lst RV)), some (.dat (.lst MV)), some (.dat (.int b)), some (.dat QD), some (.ref m.length), y6, y7, y8, y9, some (.dat (.lst NR)), y, none, none, none, none, none, none] (m ++ [.lst NV, .dead]) = .ok (.nx [some (.dat (.lst PV)), some (.dat (.lst RV)), some (.dat (.lst MV)), some (.dat (.int b)), some (.dat QD), some (.dat (.lst NV)), y6, y7, y8, y9, some (.dat (.lst NR)), y, none, none, none, none, none, none]) (m ++ [.dead, .dead]) := fun y => by simp [dFrz, frzV, frzC]
  simp [F__law_renamed, fnRun_ap, den__law_renamed, enter, it1, it2, wipeE, c1, dk, mkOwn, allDat, setAll, q1, q2, e1, e2, mkTup]
end
mutual
theorem eqv_self : ∀ d : D, PL.plain d = true → PyData.eqv (toPy d) (toPy d) = true
  | .non, _ => by simp [toPy, PyData.eqv]
  | .bl b, _ => by simp [toPy, PyData.eqv]
  | .int i, _ => by simp [toPy, PyData.eqv]
  | .str x, _ => by simp [toPy, PyData.eqv]
  | .tup xs, h => by
    simp only [toPy, PyData.eqv]
    exact eqvs_self xs (by simpa [PL.plain] using h)
  | .lst xs, h => by
    simp only [toPy, PyData.eqv]
    exact eqvs_self xs (by simpa [PL.plain] using h)
theorem eqvs_self : ∀ xs : List D, plains xs = true → PyData.eqvAll (toPys xs) (toPys xs) = true
  | [], _ => by simp [toPys, PyData.eqvAll]
  | d :: r, h => by
    simp only [plains, Bool.and_eq_true] at h
    simp only [toPys, PyData.eqvAll, Bool.and_eq_true]
    exact ⟨eqv_self d h.1, eqvs_self r h.2⟩
end
def Pl (n : Nat) (d : D) : Prop := PL.plain d = true ∧ dep d ≤ n
theorem pl_non (n : Nat) : Pl n .non := ⟨rfl, Nat.zero_le _⟩
theorem pl_int (n : Nat) (i : Int) : Pl n (.int i) := ⟨rfl, Nat.zero_le _⟩
theorem pl_str (n : Nat) {x : Str} (h : (PyData.str x).canLay0 = true) : Pl n (.str x) := ⟨by simpa [PL.plain] using h, Nat.zero_le _⟩
theorem pls_all {n : Nat} : ∀ {xs : List D}, (∀ d ∈ xs, Pl n d) → plains xs = true ∧ deps xs ≤ n
  | [], _ => ⟨rfl, Nat.zero_le _⟩
  | d :: r, h => by
    obtain ⟨h1, h2⟩ := h d List.mem_cons_self
    obtain ⟨i1, i2⟩ := pls_all fun x hx => h x (List.mem_cons_of_mem _ hx)
    exact ⟨by simp [plains, h1, i1], by simp only [deps]; omega⟩
theorem pl_tup {n : Nat} {xs : List D} (h : ∀ d ∈ xs, Pl n d) : Pl (n + 1) (.tup xs) := by
  obtain ⟨h1, h2⟩ := pls_all h
  exact ⟨by simpa [PL.plain] using h1, by simp only [dep]; omega⟩
theorem pl_lst {n : Nat} {xs : List D} (h : ∀ d ∈ xs, Pl n d) : Pl (n + 1) (.lst xs) := by
  obtain ⟨h1, h2⟩ := pls_all h
  exact ⟨by simpa [PL.plain] using h1, by simp only [dep]; omega⟩
theorem Pl.le {n k : Nat} {d : D} (h : Pl n d) (hk : n ≤ k) : Pl k d := ⟨h.1, Nat.le_trans h.2 hk⟩
theorem pl_okD {n : Nat} {d : D} (h : Pl n d) (hn : n ≤ 64) : okD d = true := by
  have := h.2
  simp only [okD, h.1, Bool.true_and, decide_eq_true_eq]
  omega
theorem pl_eqd {n : Nat} {d : D} (h : Pl n d) : eqd d d = true := eqv_self d h.1
theorem ne_pl {n : Nat} {d : D} (h : Pl n d) (hn : n ≤ 64) (m : Mem) : PL.neV (.dat d) (.dat d) m = .ok (.dat (.bl false)) m := by
  simp [PL.neV, svD, pl_okD h hn, pl_eqd h]
section
variable {vs : List Vb} {d' : D} {ls : List GP.Ln} {k : Nat → Nat × Int} {i j : Nat}
theorem only_nm : ∀ {vs : List Vb} {v : Vb}, (vs.map (·.nm)).Nodup → v ∈ vs → vs.filter (fun w => decide (w.nm = v.nm)) = [v]
  | [], v, _, h => by cases h
  | w :: r, v, hd, h => by
    rw [List.map_cons, List.nodup_cons] at hd
    rcases List.mem_cons.mp h with z | z
    · subst z
      have e : r.filter (fun w => decide (w.nm = v.nm)) = [] := by
        rw [List.filter_eq_nil_iff]
        intro x hx z
        exact hd.1 (List.mem_map.mpr ⟨x, hx, of_decide_eq_true z⟩)
      rw [List.filter_cons, if_pos (by simp), e]
    · have ne : w.nm ≠ v.nm := fun q => hd.1 (by rw [q]; exact List.mem_map.mpr ⟨v, z, rfl⟩)
      rw [List.filter_cons, if_neg (by simpa using ne), only_nm hd.2 z]
def isNm (x : Str) : D → Bool
  | .tup [.str y, _, _] => decide (y = x)
  | _ => false
theorem only_D {v : Vb} (hd : (vs.map (·.nm)).Nodup) (h : v ∈ vs) : (vs.map vbD).filter (isNm v.nm) = [vbD v] := by
  rw [List.filter_map]
  have e : (isNm v.nm ∘ vbD) = fun w => decide (w.nm = v.nm) := by
    funext w
    rfl
  rw [e, only_nm hd h]
  rfl
noncomputable def rsL (vs : List Vb) (k : Nat → Nat × Int) (i j N : Nat) : List D := (List.range N).map (fun n : Nat => toD vs k i j n) ++ [.int (paI vs k i j), .int (twI vs k i j)]
theorem told_ok (h : VsOk vs) (L : Lin vs (.lst (vs.map vbD)) d' ls) (hk : GP.Sp vs.length ls k) (hold : GP.Holds ls k) (hi : i < vs.length) (hj : j < vs.length) {N : Nat} (hN : AR.prod (exts (vAt vs i).bs) = N) (h1 : N ≤ 1000) (m : Mem) :
    F__law_told [.dat (.lst (vs.map vbD)), .dat d', .dat (.str (nmO vs i)), .dat (.str (nmO vs j))] m = .ok (.dat (.tup [shD vs k i j, .lst (rsL vs k i j N)])) m := by
  have sn := seen_of (vs := vs) h L.sq L.ln L.ten hk hold hi hj
  have hv := List.mem_of_getElem? (vAt_get hi)
  have vo := h.ok _ hv
  have w := wide_ok vo.b
  rw [hN] at w
  have so := nm_so h hi
  have few := h.few
  have it : ∀ m, itemsV (.dat (.lst (vs.map vbD))) m = .ok (vs.map vbD) m := fun m => by simp [itemsV]
  have c1 : ∀ (e0 e1 e3 : Option SV) m, noX (loopC (gN 8) ct2__law_told ce1__law_told [e0, e1, some (.dat (.str (nmO vs i))), e3, none, none, none, none, none] (vs.map vbD) []) m = .ok [vbD (vAt vs i)] m := fun e0 e1 e3 m => by
    have q := loopC_map (g := gN 8) (t := ct2__law_told) (f := ce1__law_told) (env := [e0, e1, some (.dat (.str (nmO vs i))), e3, none, none, none, none, none]) (m := m) (isNm (nmO vs i)) id (vs.map vbD) [] (fun d hd => by
      obtain ⟨u, hu, rfl⟩ := List.mem_map.mp hd
      refine ⟨_, rfl, ?_, fun _ => by simp [ce1__law_told]⟩
      have su := (h.ok u hu).so
      simp [ct2__law_told, vb0, eq_str su so]
      rfl) (by simp; omega)
    rw [List.nil_append, List.map_id, show nmO vs i = (vAt vs i).nm from rfl, only_D h.dif hv] at q
    exact noX_ofR q
  have un : (UN (vAt vs i)).fdiv (vAt vs i).s = N := by
    rw [UN, hN]
    have := sn.s0
    rw [Int.mul_comm]
    exact Int.mul_fdiv_cancel _ (by omega)
  have rg : ∀ m, rng1V [.dat (.int (N : Int))] m = .ok ((List.range N).map fun n : Nat => D.int n) m := fun m => by
    simp [rng1V, rngD]
    omega
  have c2 : ∀ (e4 e5 : Option SV) m, noX (loopC (gN 7) dYes ce3__law_told [some (.dat (.lst (vs.map vbD))), some (.dat d'), some (.dat (.str (nmO vs i))), some (.dat (.str (nmO vs j))), e4, e5, none, none, none] ((List.range N).map fun n : Nat => D.int n) []) m = .ok ((List.range N).map fun n : Nat => toD vs k i j n) m := fun e4 e5 m => by
    refine lcB _ _ _ (fun n hn => ⟨_, rfl, ?_⟩) (by simp; omega)
    have hn := List.mem_range.mp hn
    have := sn.touched (n := (n : Int)) (by omega) (by rw [un]; omega) (small_big (by omega))
    simp [ce3__law_told, this]
  have q1 := sn.shared
  have q2 := sn.pairs
  have q3 := sn.twins
  have x0 : ∀ (x : D) m, ixV (.dat (.lst [x])) (.dat (.int 0)) m = .ok (.dat x) m := fun x m => by simp [ixV, rdSq, rdL, atI, ixN]
  have ad : ∀ m, addV (.dat (.lst ((List.range N).map fun n : Nat => toD vs k i j n))) (.dat (.lst [.int (paI vs k i j), .int (twI vs k i j)])) m = .ok (.dat (.lst (rsL vs k i j N))) m := fun m => by
    simp [addV, rdL, rsL]
    omega
  generalize (List.range N).map (fun n : Nat => toD vs k i j n) = TL at c2 ad
  generalize rsL vs k i j N = RL at *
  generalize vs.map vbD = PV at *
  simp [F__law_told, fnRun_ap, den__law_told, enter, it, wipeE, c1, x0, vb2, w, rg, c2, q2, q3, mkLst, allDat, q1, ad, mkTup]
theorem shD_cs (vs : List Vb) (k : Nat → Nat × Int) (i j : Nat) : shD vs k i j = .non ∨ ∃ x y, shD vs k i j = ivD x y := by
  unfold shD
  split
  · exact .inl rfl
  · exact .inr ⟨_, _, rfl⟩
theorem toD_cs (vs : List Vb) (k : Nat → Nat × Int) (i j : Nat) (n : Int) : toD vs k i j n = .non ∨ ∃ x y, toD vs k i j n = ivD x y := by
  unfold toD
  split
  · exact .inl rfl
  · split
    · exact .inr ⟨_, _, rfl⟩
    · exact .inl rfl
theorem cs_pl {d : D} (h : d = .non ∨ ∃ x y, d = ivD x y) : Pl 1 d := by
  rcases h with rfl | ⟨x, y, rfl⟩
  · exact pl_non _
  · exact pl_tup fun d hd => by
      rcases List.mem_cons.mp hd with rfl | hd
      · exact pl_int _ _
      · rcases List.mem_cons.mp hd with rfl | hd
        · exact pl_int _ _
        · cases hd
theorem tm_cs {b : Int} {d : D} (h : d = .non ∨ ∃ x y, d = ivD x y) : tmD b d = .non ∨ ∃ x y, tmD b d = ivD x y := by
  rcases h with rfl | ⟨x, y, rfl⟩
  · exact .inl rfl
  · exact .inr ⟨_, _, rfl⟩
theorem told_pl {d : D} (h : d = .non ∨ ∃ x y, d = ivD x y) (vs : List Vb) (k : Nat → Nat × Int) (i j N : Nat) : Pl 3 (.tup [d, .lst (rsL vs k i j N)]) := by
  refine pl_tup fun x hx => ?_
  rcases List.mem_cons.mp hx with rfl | hx
  · exact (cs_pl h).le (by omega)
  · rcases List.mem_cons.mp hx with rfl | hx
    · refine pl_lst fun y hy => ?_
      unfold rsL at hy
      rcases List.mem_append.mp hy with z | z
      · obtain ⟨n, _, rfl⟩ := List.mem_map.mp z
        exact cs_pl (toD_cs vs k i j n)
      · rcases List.mem_cons.mp z with rfl | z
        · exact pl_int _ _
        · rcases List.mem_cons.mp z with rfl | z
          · exact pl_int _ _
          · cases z
    · cases hx
theorem times_ok {b : Int} (h1 : 1 ≤ b) (h3 : b ≤ 3) {d : D} (h : d = .non ∨ ∃ x y, d = ivD x y) (m : Mem) : F__law_times [.dat d, .dat (.int b)] m = .ok (.dat (tmD b d)) m := by
  rcases h with rfl | ⟨x, y, rfl⟩
  · have n : ∀ m, isNV (.dat .non) (.dat .non) m = .ok (.dat (.bl true)) m := fun m => by simp [isNV]
    simp [F__law_times, fnRun_ap, den__law_times, enter, n, tmD]
  · have n : ∀ m, isNV (.dat (ivD x y)) (.dat .non) m = .ok (.dat (.bl false)) m := fun m => by simp [isNV, ivD]
    have i0 : ∀ m, ixV (.dat (ivD x y)) (.dat (.int 0)) m = .ok (.dat (.int x)) m := fun m => by simp [ivD, ixV, rdSq, rdL, atI, ixN]
    have i1 : ∀ m, ixV (.dat (ivD x y)) (.dat (.int 1)) m = .ok (.dat (.int y)) m := fun m => by simp [ivD, ixV, rdSq, rdL, atI, ixN]
    have mo : ∀ x, mulOk b x = true := fun x => mulOk_l _ (by omega)
    have e : tmD b (ivD x y) = .tup [.int (b * x), .int (b * y)] := rfl
    rw [e]
    generalize ivD x y = DD at *
    simp [F__law_times, fnRun_ap, den__law_times, enter, n, i0, i1, mo, mkTup, allDat]
theorem Rel.rest {b : Int} {vs' : List Vb} {k' : Nat → Nat × Int} {i' j' : Nat} (R : Rel b vs vs' k k' i j i' j') (N : Nat) : rsL vs' k' i' j' N = rsL vs k i j N := by
  unfold rsL
  rw [R.pairs, R.twins]
  congr 1
  exact List.map_congr_left fun n _ => R.touched n
theorem tm_one {d : D} (h : d = .non ∨ ∃ x y, d = ivD x y) : tmD 1 d = d := by
  rcases h with rfl | ⟨x, y, rfl⟩
  · rfl
  · show ivD (1 * x) (1 * y) = ivD x y
    rw [Int.one_mul, Int.one_mul]
end
theorem va_few {v : Vb} (h : Va v) : ∃ N : Nat, (N : Int) = AR.prod (exts v.bs) ∧ 1 ≤ N ∧ N ≤ 27 ∧ N * v.s.toNat ≤ 299 := by
  have b := h.b
  have lo := h.lo
  have hi := h.hi
  have key : 1 ≤ AR.prod (exts v.bs) ∧ AR.prod (exts v.bs) ≤ 27 := by
    have le := b.le
    have ins := b.in1
    have ex := ext_sm h.vb
    have e3 : ∀ x ∈ v.bs, 1 ≤ AR.ext x ∧ AR.ext x ≤ 3 := fun x hx => by
      have h1 := ins x hx
      have h2 := ex x hx
      omega
    clear ins ex
    match hb : v.bs with
    | [] => simp [exts, AR.prod]
    | [x] =>
      have := e3 x (by rw [hb]; simp)
      simp [exts, AR.prod]
      omega
    | [x, y] =>
      have h1 := e3 x (by rw [hb]; simp)
      have h2 := e3 y (by rw [hb]; simp)
      have p1 := Int.mul_le_mul h1.2 h2.2 (by omega) (by omega)
      have p2 := Int.mul_le_mul h1.1 h2.1 (by omega) (by omega)
      simp [exts, AR.prod]
      omega
    | [x, y, z] =>
      have h1 := e3 x (by rw [hb]; simp)
      have h2 := e3 y (by rw [hb]; simp)
      have h3 := e3 z (by rw [hb]; simp)
      have p1 := Int.mul_le_mul h2.2 h3.2 (by omega) (by omega)
      have p2 := Int.mul_le_mul h2.1 h3.1 (by omega) (by omega)
      have p3 := Int.mul_le_mul h1.2 p1 (by omega) (by omega)
      have p4 := Int.mul_le_mul h1.1 p2 (by omega) (by omega)
      simp [exts, AR.prod]
      omega
    | _ :: _ :: _ :: _ :: _ => rw [hb] at le; simp at le
  refine ⟨(AR.prod (exts v.bs)).toNat, by omega, by omega, by omega, ?_⟩
  have := Nat.mul_le_mul (show (AR.prod (exts v.bs)).toNat ≤ 27 by omega) (show v.s.toNat ≤ 5 by omega)
  omega
section
variable {vs : List Vb} {rs : List (List Mb)} {b : Int} {mv : List Int} {k k' : Nat → Nat × Int} {i j : Nat}
theorem sq_l5 (xs : List D) : Sq (.lst xs) xs := .inl rfl
theorem rw_sq5 (vs : List Vb) (r : List Mb) : Sq (rwD vs r) (r.map (mbV vs)) := .inr rfl
theorem lin_l5 (h : VsOk vs) (hr : RsOk vs rs) : Lin vs (.lst (vs.map vbD)) (.lst (rs.map (rwD vs))) (lsOf vs rs) := lin_w h (rw_sq5 vs) hr (sq_l5 _) (sq_l5 _)
theorem lin_q5 (h : VsOk (vs.map (rnV b mv))) (va : ∀ v ∈ vs, Va v) (hm : Mv mv) (hr : RsOk vs rs) : Lin (vs.map (rnV b mv)) (.lst ((vs.map (rnV b mv)).map vbD)) (.lst ((rs.map fun r => r.map (rnM mv)).map (rwL (vs.map (rnV b mv))))) (GP.scl b (lsOf vs rs)) := by
  rw [← rn_ls va hm hr]
  exact lin_w h (rwL_sq _) (rn_rs va hm hr) (sq_l5 _) (sq_l5 _)
theorem rel_q (hv : VsOk vs) (va : ∀ v ∈ vs, Va v) (hm : Mv mv) (hb : 1 ≤ b) (hi : i < vs.length) (hj : j < vs.length) : Rel b vs (vs.map (rnV b mv)) k (GP.scg b k) i j i j where
  pos := by omega
  s0 := by have := (va_of va hi).lo; omega
  t0 := by have := (va_of va hj).lo; omega
  g := Iff.rfl
  o := fun _ => ⟨0, by simp [GP.scg], by simp [GP.scg]⟩
  si := (rn_un va hm hi).1
  sj := (rn_un va hm hj).1
  ui := (rn_un va hm hi).2.1
  uj := (rn_un va hm hj).2.1
theorem low_fold (b : Int) (hb : 0 < b) (f : Nat) : ∀ (l : List (Nat × Int)) (acc : Option Int), (l.map fun p => (p.1, b * p.2)).foldl (fun acc p => if p.1 = f then some (min p.2 (acc.getD p.2)) else acc) (acc.map (b * ·)) = (l.foldl (fun acc p => if p.1 = f then some (min p.2 (acc.getD p.2)) else acc) acc).map (b * ·)
  | [], acc => rfl
  | p :: r, acc => by
    rw [List.map_cons, List.foldl_cons, List.foldl_cons]
    rw [← low_fold b hb f r]
    congr 1
    by_cases e : p.1 = f
    · rw [if_pos e, if_pos e]
      have mn := fun x y => mn_sc (b := b) (c := 0) (x := x) (y := y) hb
      simp only [Int.add_zero] at mn
      cases acc with
      | none => simp [mn]
      | some a => simp [mn]
    · rw [if_neg e, if_neg e]
theorem low_scl (hb : 0 < b) (l : List (Nat × Int)) (f : Nat) : (lowF (l.map fun p => (p.1, b * p.2)) f).getD 0 = b * (lowF l f).getD 0 := by
  have := low_fold b hb f l none
  unfold lowF
  rw [Option.map_none] at this
  rw [this]
  generalize l.foldl (fun acc p => if p.1 = f then some (min p.2 (acc.getD p.2)) else acc) none = o
  cases o <;> simp
def farI (vs : List Vb) (k : Nat → Nat × Int) (v : Nat) : Int := (k v).2 - (lowF ((List.range vs.length).map k) (k v).1).getD 0
def qO (vs : List Vb) (b : Int) (k : Nat → Nat × Int) (v : Nat) : D := .tup [.str (qn (vAt vs v).nm), .str (qn (vAt vs (k v).1).nm), .int (b * farI vs k v)]
theorem off_q (va : ∀ v ∈ vs, Va v) (hm : Mv mv) (hb : 1 ≤ b) (hk : ∀ v, v < vs.length → (k v).1 < vs.length) : offD (vs.map (rnV b mv)) (GP.scg b k) = (List.range vs.length).map (qO vs b k) := by
  unfold offD
  rw [List.length_map]
  refine List.map_congr_left fun v hv => ?_
  have hv := List.mem_range.mp hv
  have e : (List.range vs.length).map (GP.scg b k) = ((List.range vs.length).map k).map fun p => (p.1, b * p.2) := by
    rw [List.map_map]
    rfl
  have n1 := (rn_un (b := b) va hm hv).2.2.1
  have n2 := (rn_un (b := b) va hm (hk v hv)).2.2.1
  have e1 : (GP.scg b k v).1 = (k v).1 := rfl
  have e2 : (GP.scg b k v).2 = b * (k v).2 := rfl
  rw [e1, e2, n1, n2, e, low_scl (by omega), ← Int.mul_sub]
  rfl
theorem off_d (vs : List Vb) (k : Nat → Nat × Int) : offD vs k = (List.range vs.length).map fun v => D.tup [.str (vAt vs v).nm, .str (vAt vs (k v).1).nm, .int (farI vs k v)] := rfl
theorem off_pl (h : VsOk vs) (hk : ∀ v, v < vs.length → (k v).1 < vs.length) : Pl 2 (.lst (offD vs k)) := by
  refine pl_lst fun d hd => ?_
  rw [off_d] at hd
  obtain ⟨v, hv, rfl⟩ := List.mem_map.mp hd
  have hv := List.mem_range.mp hv
  have s1 := nm_so h hv
  have s2 := nm_so h (hk v hv)
  exact pl_tup fun x hx => by
    rcases List.mem_cons.mp hx with rfl | hx
    · exact pl_str _ s1
    · rcases List.mem_cons.mp hx with rfl | hx
      · exact pl_str _ s2
      · rcases List.mem_cons.mp hx with rfl | hx
        · exact pl_int _ _
        · cases hx
def rvM (n : Nat) (e : Mb) : Mb := (n - 1 - e.1, e.2)
def rvR (n : Nat) (rs : List (List Mb)) : List (List Mb) := (rs.map fun r => r.map (rvM n)).reverse
theorem vAt_rev (h : i < vs.length) : vAt vs.reverse (vs.length - 1 - i) = vAt vs i := by
  have h1 := vAt_get h
  have h2 := vAt_get (vs := vs.reverse) (i := vs.length - 1 - i) (by rw [List.length_reverse]; omega)
  rw [List.getElem?_reverse (by omega), show vs.length - 1 - (vs.length - 1 - i) = i by omega, h1] at h2
  exact (Option.some.inj h2).symm
theorem rv_mb {e : Mb} (he : MbOk vs e) : MbOk vs.reverse (rvM vs.length e) ∧ plOf vs.reverse (rvM vs.length e) = plOf vs e ∧ mbV vs.reverse (rvM vs.length e) = mbV vs e := by
  have hl := he.lt
  have ev : vAt vs.reverse (rvM vs.length e).1 = vAt vs e.1 := vAt_rev hl
  refine ⟨⟨by show vs.length - 1 - e.1 < _; rw [List.length_reverse]; omega, by rw [ev]; exact he.sub⟩, ?_, ?_⟩
  · unfold plOf
    rw [ev]
    rfl
  · unfold mbV
    rw [ev]
    rfl
theorem rv_vs (h : VsOk vs) : VsOk vs.reverse where
  one := by simpa using h.one
  few := by simpa using h.few
  ok := fun v hv => h.ok v (List.mem_reverse.mp hv)
  dif := by
    rw [List.map_reverse]
    exact (List.reverse_perm _).nodup_iff.mpr h.dif
theorem rv_rs (hr : RsOk vs rs) : RsOk vs.reverse (rvR vs.length rs) where
  few := by simpa [rvR] using hr.few
  ok := fun r hx => by
    obtain ⟨w, hw, rfl⟩ := List.mem_map.mp (List.mem_reverse.mp hx)
    have o := hr.ok w hw
    refine ⟨by simpa using o.two, by simpa using o.ten, fun e he => ?_⟩
    obtain ⟨e, he0, rfl⟩ := List.mem_map.mp he
    exact (rv_mb (o.ok e he0)).1
theorem rv_data (hr : RsOk vs rs) : (rs.map (rwD vs)).reverse = (rvR vs.length rs).map (rwD vs.reverse) := by
  unfold rvR
  rw [List.map_reverse, List.map_map]
  congr 1
  refine List.map_congr_left fun r hx => ?_
  show D.tup (r.map (mbV vs)) = D.tup ((r.map (rvM vs.length)).map (mbV vs.reverse))
  rw [List.map_map]
  congr 1
  refine List.map_congr_left fun e he => ?_
  exact (rv_mb ((hr.ok r hx).ok e he)).2.2.symm
theorem rv_s1 (hr : RsOk vs rs) : ∀ l ∈ lsOf vs rs, ∃ l' ∈ lsOf vs.reverse (rvR vs.length rs), ∀ e ∈ l, (vs.length - 1 - e.1, e.2) ∈ l' := fun l hl => by
  obtain ⟨r, hx, rfl⟩ := List.mem_map.mp hl
  refine ⟨lnOf vs.reverse (r.map (rvM vs.length)), List.mem_map.mpr ⟨_, List.mem_reverse.mpr (List.mem_map.mpr ⟨r, hx, rfl⟩), rfl⟩, fun e he => ?_⟩
  obtain ⟨x, he0, rfl⟩ := List.mem_map.mp he
  refine List.mem_map.mpr ⟨rvM vs.length x, List.mem_map.mpr ⟨x, he0, rfl⟩, ?_⟩
  show ((rvM vs.length x).1, plOf vs.reverse (rvM vs.length x)) = (vs.length - 1 - x.1, plOf vs x)
  rw [(rv_mb ((hr.ok r hx).ok x he0)).2.1]
  rfl
theorem rv_s2 (hr : RsOk vs rs) : ∀ l ∈ lsOf vs.reverse (rvR vs.length rs), ∃ l' ∈ lsOf vs rs, ∀ e ∈ l, (vs.length - 1 - e.1, e.2) ∈ l' := fun l hl => by
  obtain ⟨r', hx, rfl⟩ := List.mem_map.mp hl
  obtain ⟨r, hx0, rfl⟩ := List.mem_map.mp (List.mem_reverse.mp hx)
  refine ⟨lnOf vs r, List.mem_map.mpr ⟨r, hx0, rfl⟩, fun e he => ?_⟩
  obtain ⟨x, he0, rfl⟩ := List.mem_map.mp he
  obtain ⟨x, he1, rfl⟩ := List.mem_map.mp he0
  refine List.mem_map.mpr ⟨x, he1, ?_⟩
  have ok := (hr.ok r hx0).ok x he1
  have lt := ok.lt
  show (x.1, plOf vs x) = (vs.length - 1 - (vs.length - 1 - x.1), plOf vs.reverse (rvM vs.length x))
  rw [(rv_mb ok).2.1, show vs.length - 1 - (vs.length - 1 - x.1) = x.1 by omega]
theorem rv_hold (hr : RsOk vs rs) (H : GP.Holds (lsOf vs rs) k) (a : GP.Sp vs.length (lsOf vs.reverse (rvR vs.length rs)) k') : GP.Holds (lsOf vs.reverse (rvR vs.length rs)) k' := by
  have h1 : GP.Holds (lsOf vs.reverse (rvR vs.length rs)) fun v => k (vs.length - 1 - v) := GP.turn_holds (r := fun v => vs.length - 1 - v) (rv_s2 hr) H
  refine a.holds_of ?_ h1
  have := ls_lt (rv_rs hr)
  rwa [List.length_reverse] at this
theorem rel_r (va : ∀ v ∈ vs, Va v) (hr : RsOk vs rs) (a : GP.Sp vs.length (lsOf vs rs) k) (H : GP.Holds (lsOf vs rs) k) (a' : GP.Sp vs.length (lsOf vs.reverse (rvR vs.length rs)) k') (hi : i < vs.length) (hj : j < vs.length) : Rel 1 vs vs.reverse k k' i j (vs.length - 1 - i) (vs.length - 1 - j) where
  pos := by omega
  s0 := by have := (va_of va hi).lo; omega
  t0 := by have := (va_of va hj).lo; omega
  g := by
    constructor
    · intro e
      have := (GP.turn_rel (r := fun v => vs.length - 1 - v) (rv_s2 hr) a' H (u := vs.length - 1 - i) (v := vs.length - 1 - j) (by omega) (by omega) e).1
      rwa [show vs.length - 1 - (vs.length - 1 - i) = i by omega, show vs.length - 1 - (vs.length - 1 - j) = j by omega] at this
    · intro e
      exact (GP.turn_rel (r := fun v => vs.length - 1 - v) (rv_s1 hr) a (rv_hold hr H a') hi hj e).1
  o := fun e => by
    have := (GP.turn_rel (r := fun v => vs.length - 1 - v) (rv_s1 hr) a (rv_hold hr H a') hi hj e).2
    exact ⟨(k' (vs.length - 1 - i)).2 - (k i).2, by omega, by omega⟩
  si := by rw [vAt_rev hi, Int.one_mul]
  sj := by rw [vAt_rev hj, Int.one_mul]
  ui := by rw [vAt_rev hi, Int.one_mul]
  uj := by rw [vAt_rev hj, Int.one_mul]
end
section
variable {vs : List Vb} {rs : List (List Mb)} {b : Int} {mv : List Int} {g g' : Nat → Nat × Int} {kk : Nat}
structure Sc5 (vs : List Vb) (rs : List (List Mb)) (b : Int) (mv : List Int) (g g' : Nat → Nat × Int) : Prop where
  ok : VsOk vs
  nm : vs.map (·.nm) = names8.take vs.length
  va : ∀ v ∈ vs, Va v
  few : vs.length ≤ 8
  rws : RsOk vs rs
  lo : 1 ≤ b
  hi : b ≤ 3
  mvs : Mv mv
  sp : GP.Sp vs.length (lsOf vs rs) g
  sp' : GP.Sp vs.length (lsOf vs.reverse (rvR vs.length rs)) g'
theorem add_q {x : Str} (h : x ∈ names8) (m : Mem) : addV (.dat (.str "q")) (.dat (.str x)) m = .ok (.dat (.str (qn x))) m := by
  have := nm_len h
  simp [addV, this, qn]
theorem nm_mem (S : Sc5 vs rs b mv g g') {i : Nat} (hi : i < vs.length) : nmO vs i ∈ names8 := nm_of S.nm (List.mem_of_getElem? (vAt_get hi))
theorem right_turn (S : Sc5 vs rs b mv g g') (hold : GP.Holds (lsOf vs rs) g) {m : Mem} (hk : kk < m.length) {c0 : Cell} (h0 : isW c0) (e4 e7 e8 e9 e10 e11 e12 e13 e14 : Option SV) :
    ∃ c x11 x12 x13 x14, isW c ∧ lp2__law_right [some (.ref kk), some (.dat (.lst (vs.map vbD))), some (.dat (.int b)), some (.dat (.lst (rs.map (rwD vs)))), e4, some (.dat (.lst ((vs.map (rnV b mv)).map vbD))), some (.dat (.lst ((rs.map fun r => r.map (rnM mv)).map (rwL (vs.map (rnV b mv)))))), e7, e8, e9, e10, e11, e12, e13, e14, none, none, none] (m.set kk c0) =
      .ok (.nx [some (.ref kk), some (.dat (.lst (vs.map vbD))), some (.dat (.int b)), some (.dat (.lst (rs.map (rwD vs)))), e4, some (.dat (.lst ((vs.map (rnV b mv)).map vbD))), some (.dat (.lst ((rs.map fun r => r.map (rnM mv)).map (rwL (vs.map (rnV b mv)))))), e7, e8, e9, e10, x11, x12, x13, x14, none, none, none]) (m.set kk c) := by
  have one := S.ok.one
  have few := S.few
  have hp : 0 < (vs.map vbD).length := by rw [List.length_map]; omega
  have hp2 : (vs.map vbD).length ≤ 1000 := by rw [List.length_map]; omega
  obtain ⟨d1, c1, hc1, p1, m1⟩ := (pick_WF (k := kk) hp hp2).on hk h0
  obtain ⟨d2', c2, hc2, p2, m2⟩ := (pick_WF (k := kk) hp hp2).on hk hc1
  obtain ⟨v1, hv1, rfl⟩ := List.mem_map.mp m1
  obtain ⟨v2, hv2, rfl⟩ := List.mem_map.mp m2
  obtain ⟨i, hi⟩ := List.mem_iff_getElem?.mp hv1
  obtain ⟨j, hj⟩ := List.mem_iff_getElem?.mp hv2
  have li := (List.getElem?_eq_some_iff.mp hi).1
  have lj := (List.getElem?_eq_some_iff.mp hj).1
  have ei : vAt vs i = v1 := by
    have := vAt_get li
    rw [hi] at this
    exact (Option.some.inj this).symm
  have ej : vAt vs j = v2 := by
    have := vAt_get lj
    rw [hj] at this
    exact (Option.some.inj this).symm
  obtain ⟨N, n1, n2, n3, n4⟩ := va_few (S.va v1 hv1)
  rw [← ei] at n1
  have vq := rn_vs S.ok S.va S.nm S.lo S.hi S.mvs
  have Lq := lin_q5 (rs := rs) vq S.va S.mvs S.rws
  have vr := rv_vs S.ok
  have rr := rv_rs S.rws
  have Lr := lin_l5 vr rr
  have t1 := told_ok S.ok (lin_l5 S.ok S.rws) S.sp hold li lj (N := N) n1.symm (by omega)
  have lq : (vs.map (rnV b mv)).length = vs.length := by simp
  have spq : GP.Sp (vs.map (rnV b mv)).length (GP.scl b (lsOf vs rs)) (GP.scg b g) := by rw [lq]; exact S.sp.scl
  have t2 := told_ok vq Lq spq ((GP.holds_scl (by have := S.lo; omega)).mpr hold) (i := i) (j := j) (by rw [lq]; exact li) (by rw [lq]; exact lj) (N := N) (by rw [(rn_un S.va S.mvs li).2.2.2]; exact n1.symm) (by omega)
  have lr : vs.reverse.length = vs.length := by simp
  have spr : GP.Sp vs.reverse.length (lsOf vs.reverse (rvR vs.length rs)) g' := by rw [lr]; exact S.sp'
  have t3 := told_ok vr Lr spr (rv_hold S.rws hold S.sp') (i := vs.length - 1 - i) (j := vs.length - 1 - j) (by rw [lr]; omega) (by rw [lr]; omega) (N := N) (by rw [vAt_rev li]; exact n1.symm) (by omega)
  have Rq := rel_q (k := g) S.ok S.va S.mvs S.lo li lj
  have Rr := rel_r S.va S.rws S.sp hold S.sp' li lj
  rw [Rq.shared, Rq.rest] at t2
  rw [Rr.shared, Rr.rest, tm_one (shD_cs vs g i j)] at t3
  have nq : ∀ {u : Nat}, u < vs.length → nmO (vs.map (rnV b mv)) u = qn (nmO vs u) := fun hu => (rn_un S.va S.mvs hu).2.2.1
  have nr : ∀ {u : Nat}, u < vs.length → nmO vs.reverse (vs.length - 1 - u) = nmO vs u := fun hu => by unfold nmO; rw [vAt_rev hu]
  rw [nq li, nq lj] at t2
  rw [nr li, nr lj, ← rv_data S.rws, List.map_reverse] at t3
  have a1 := add_q (nm_mem S li)
  have a2 := add_q (nm_mem S lj)
  have ti := times_ok S.lo S.hi (shD_cs vs g i j)
  have pl1 := ne_pl (told_pl (shD_cs vs g i j) vs g i j N) (by omega)
  have pl2 := ne_pl (told_pl (tm_cs (b := b) (shD_cs vs g i j)) vs g i j N) (by omega)
  have nmi : (vbD v1) = vbD (vAt vs i) := by rw [ei]
  have nmj : (vbD v2) = vbD (vAt vs j) := by rw [ej]
  rw [nmi] at p1
  rw [nmj] at p2
  have v0i : ∀ m, ixV (.dat (vbD (vAt vs i))) (.dat (.int 0)) m = .ok (.dat (.str (nmO vs i))) m := fun m => vb0 _ m
  have v0j : ∀ m, ixV (.dat (vbD (vAt vs j))) (.dat (.int 0)) m = .ok (.dat (.str (nmO vs j))) m := fun m => vb0 _ m
  have rv1 : ∀ (xs : List D) m, revA false (.dat (.lst xs)) m = .ok (.dat (.lst xs.reverse)) m := fun xs m => rfl
  have mk2 : ∀ (x y : D) m, mkTup [.dat x, .dat y] m = .ok (.dat (.tup [x, y])) m := fun x y m => by simp [mkTup, allDat]
  refine ⟨c2, some (.dat (.str (nmO vs i))), some (.dat (.str (nmO vs j))), some (.dat (shD vs g i j)), some (.dat (.lst (rsL vs g i j N))), hc2, ?_⟩
  clear Rq Rr Lq Lr vq vr rr spq spr nq nr
  generalize rsL vs g i j N = RL at *
  generalize tmD b (shD vs g i j) = TS at *
  generalize shD vs g i j = SH at *
  generalize (vs.map (rnV b mv)).map vbD = NV at *
  generalize ((rs.map fun r => r.map (rnM mv)).map (rwL (vs.map (rnV b mv)))) = NR at *
  generalize rs.map (rwD vs) = RV at *
  generalize vs.map vbD = PV at *
  generalize qn (nmO vs i) = QI at *
  generalize qn (nmO vs j) = QJ at *
  generalize nmO vs i = NI at *
  generalize nmO vs j = NJ at *
  simp [lp2__law_right, p1, p2, setAll, v0i, v0j, t1, gT, gsC, gsN, gN, a1, a2, t2, ti, mk2, pl1, pl2, rv1, t3]
theorem right_loop (S : Sc5 vs rs b mv g g') (hold : GP.Holds (lsOf vs rs) g) {m : Mem} (hk : kk < m.length) (e4 e7 e8 e9 : Option SV) : ∀ (items : List D) (c0 : Cell) (e10 e11 e12 e13 e14 : Option SV), isW c0 →
    ∃ c env', isW c ∧ loopF (gN 10) lp2__law_right items [some (.ref kk), some (.dat (.lst (vs.map vbD))), some (.dat (.int b)), some (.dat (.lst (rs.map (rwD vs)))), e4, some (.dat (.lst ((vs.map (rnV b mv)).map vbD))), some (.dat (.lst ((rs.map fun r => r.map (rnM mv)).map (rwL (vs.map (rnV b mv)))))), e7, e8, e9, e10, e11, e12, e13, e14, none, none, none] (m.set kk c0) = .ok (.nx env') (m.set kk c)
  | [], c0, e10, e11, e12, e13, e14, h0 => ⟨c0, _, h0, rfl⟩
  | d :: r, c0, e10, e11, e12, e13, e14, h0 => by
    obtain ⟨c, x11, x12, x13, x14, hc, t⟩ := right_turn S hold hk h0 e4 e7 e8 e9 (some (.dat d)) e11 e12 e13 e14
    obtain ⟨c', env', hc', ih⟩ := right_loop S hold hk e4 e7 e8 e9 r c (some (.dat d)) x11 x12 x13 x14 hc
    exact ⟨c', env', hc', (loopF_nx rfl t).trans ih⟩
theorem right_WF (k : Nat) : WF k (F__law_right [.ref k]) fun d => d = .bl true := WF.mk fun m c0 hk h0 => by
  obtain ⟨_, c1, hc1, p1, q, rfl, q0, q6⟩ := (draw_WF (k := k) (n := 5) (by decide) (small_big (by decide))).on hk h0
  obtain ⟨j, rfl⟩ : ∃ j : Nat, q = j := ⟨q.toNat, by omega⟩
  obtain ⟨_, c2, hc2, p2, vs, rfl, hv, few, va, hn⟩ := (parts_WFn (k := k) (j := 2 + j) (w := 3) (by decide) (by decide) (by omega) (by omega)).on hk hc1
  obtain ⟨_, c3, hc3, p3, z, rfl, z0, z3⟩ := (draw_WF (k := k) (n := 3) (by decide) (small_big (by decide))).on hk hc2
  obtain ⟨_, c4, hc4, p4, rs, rfl, hr, _⟩ := (rows_WF (k := k) (q := 6) (by decide) (by decide) va hv.one few).on hk hc3
  obtain ⟨_, c5, hc5, p5, f1, rfl, f10, f11⟩ := (draw_WF (k := k) (n := 99) (by decide) (small_big (by decide))).on hk hc4
  obtain ⟨_, c6, hc6, p6, f3, rfl, f30, f31⟩ := (draw_WF (k := k) (n := 9) (by decide) (small_big (by decide))).on hk hc5
  rw [show (((2 + j : Nat) : Int)) = 2 + j by omega] at p2
  have hm : Mv [f1 - 50, 100000000000000000000, f3] := ⟨rfl, fun f hf => by
    simp only [List.mem_cons, List.not_mem_nil, or_false] at hf
    rcases hf with rfl | rfl | rfl <;> omega⟩
  have rn := renamed_ok (b := 1 + z) hv hn va few hr (by omega) (by omega) hm
  obtain ⟨g, hg, _⟩ := groups_ok hv.few (ls_lt hr) []
  have vr := rv_vs hv
  have rr := rv_rs hr
  obtain ⟨g', hg', _⟩ := groups_ok vr.few (ls_lt rr) []
  rw [List.length_reverse] at hg'
  have S : Sc5 vs rs (1 + z) [f1 - 50, 100000000000000000000, f3] g g' := ⟨hv, hn, va, few, hr, by omega, by omega, hm, hg, hg'⟩
  have vq := rn_vs hv va hn S.lo S.hi hm
  have Lq := lin_q5 (rs := rs) vq va hm hr
  have lq : (vs.map (rnV (1 + z) [f1 - 50, 100000000000000000000, f3])).length = vs.length := by simp
  have spq : GP.Sp (vs.map (rnV (1 + z) [f1 - 50, 100000000000000000000, f3])).length (GP.scl (1 + z) (lsOf vs rs)) (GP.scg (1 + z) g) := by rw [lq]; exact hg.scl
  obtain ⟨r1, e1, y1, x1⟩ := ring_ln hv (lin_l5 hv hr) hg (m.set k c6)
  obtain ⟨r2, e2, y2, x2⟩ := ring_ln vq Lq spq (m.set k c6)
  have hb2 : hB (GP.scg (1 + z) g) (GP.scl (1 + z) (lsOf vs rs)) = hB g (lsOf vs rs) := by
    rw [Bool.eq_iff_iff, hB_iff, hB_iff]
    exact GP.holds_scl (by omega)
  rw [hb2] at y2 x2
  have ml : ∀ m, mkLst [.dat (.int (f1 - 50)), .dat (.int 100000000000000000000), .dat (.int f3)] m = .ok (.dat (.lst (([f1 - 50, 100000000000000000000, f3] : List Int).map D.int))) m := fun m => by simp [mkLst, allDat]
  have gTn : ∀ (x y : D) (env : En), gT 2 (gsC (gN 5) (gsC (gN 6) gsN)) (.tup [x, y]) env = some ((env.set 5 (some (.dat x))).set 6 (some (.dat y))) := fun x y env => rfl
  cases hb : hB g (lsOf vs rs) with
  | true =>
    have hold := hB_iff.mp hb
    have y1 := y1 hb
    have y2 := y2 hb
    subst y1 y2
    obtain ⟨c7, env', hc7, lp⟩ := right_loop S hold hk (some (.dat (.lst (([f1 - 50, 100000000000000000000, f3] : List Int).map D.int)))) (some (.dat .non)) (some (.dat .non)) (some (.dat (.lst ((List.range vs.length).map (qO vs (1 + z) g))))) (rngD 0 4) c6 none none none none none hc6
    have glt : ∀ v, v < vs.length → (g v).1 < vs.length := fun v h => Nat.lt_of_le_of_lt (hg.le v h) h
    have o1 := fun m => offsets_ln hv (lin_l5 hv hr) hg m
    have o2 := fun m => offsets_ln vq Lq spq m
    simp only [hb, if_true] at o1
    simp only [hb2, hb, if_true] at o2
    rw [off_q va hm S.lo glt] at o2
    have glt' : ∀ v, v < (vs.map (rnV (1 + z) [f1 - 50, 100000000000000000000, f3])).length → (GP.scg (1 + z) g v).1 < (vs.map (rnV (1 + z) [f1 - 50, 100000000000000000000, f3])).length := fun v h => by
      rw [lq] at h ⊢
      exact glt v h
    have pl := off_pl vq glt'
    rw [off_q va hm S.lo glt] at pl
    have ne := ne_pl pl (by omega)
    have it : ∀ m, itemsV (.dat (.lst (offD vs g))) m = .ok ((List.range vs.length).map fun v => D.tup [.str (vAt vs v).nm, .str (vAt vs (g v).1).nm, .int (farI vs g v)]) m := fun m => by rw [off_d]; simp [itemsV]
    have c : ∀ m (e1 e3 e4 e5 e6 e7 e8 : Option SV), noX (loopC (gT 3 (gsC (gN 15) (gsC (gN 16) (gsC (gN 17) gsN)))) dYes ce1__law_right [some (.ref k), e1, some (.dat (.int (1 + z))), e3, e4, e5, e6, e7, e8, none, none, none, none, none, none, none, none, none] ((List.range vs.length).map fun v => D.tup [.str (vAt vs v).nm, .str (vAt vs (g v).1).nm, .int (farI vs g v)]) []) m = .ok ((List.range vs.length).map (qO vs (1 + z) g)) m := fun m e1 e3 e4 e5 e6 e7 e8 => by
      refine lcB _ _ _ (fun v hx => ?_) (by simp; omega)
      have hx := List.mem_range.mp hx
      refine ⟨[some (.ref k), e1, some (.dat (.int (1 + z))), e3, e4, e5, e6, e7, e8, none, none, none, none, none, none, some (.dat (.str (vAt vs v).nm)), some (.dat (.str (vAt vs (g v).1).nm)), some (.dat (.int (farI vs g v)))], rfl, ?_⟩
      have a1 := add_q (nm_mem S hx)
      have a2 := add_q (nm_mem S (glt v hx))
      have mo : mulOk (1 + z) (farI vs g v) = true := mulOk_l _ (by omega)
      unfold nmO at a1 a2
      simp [ce1__law_right, a1, a2, mo, mkTup, allDat, qO]
    have nn : ∀ m, notNV (.dat .non) (.dat .non) m = .ok (.dat (.bl false)) m := fun m => by simp [notNV]
    have rg : ∀ m, rng1V [.dat (.int 4)] m = .ok (rngD 0 4) m := fun m => by simp [rng1V]
    refine ⟨.bl true, c7, hc7, ?_, rfl⟩
    have tk : (m.set k c7).take m.length = m.set k c7 := List.take_of_length_le (by simp)
    clear pl Lq vq vr rr x1 x2 S glt glt' spq hm
    generalize rngD 0 4 = R4 at rg lp
    generalize (List.range vs.length).map (qO vs (1 + z) g) = OQ at *
    generalize ((List.range vs.length).map fun v => D.tup [.str (vAt vs v).nm, .str (vAt vs (g v).1).nm, .int (farI vs g v)]) = OL at *
    generalize offD vs g = OD at *
    generalize (vs.map (rnV (1 + z) [f1 - 50, 100000000000000000000, f3])).map vbD = NV at *
    generalize ((rs.map fun r => r.map (rnM [f1 - 50, 100000000000000000000, f3])).map (rwL (vs.map (rnV (1 + z) [f1 - 50, 100000000000000000000, f3])))) = NR at *
    generalize ([f1 - 50, 100000000000000000000, f3] : List Int).map D.int = MV at *
    generalize rs.map (rwD vs) = RV at *
    generalize vs.map vbD = PV at *
    simp [F__law_right, fnRun_ap, den__law_right, enter, p1, p2, p3, p4, p5, p6, setAll, ml, rn, gTn, e1, e2, nn, o1, fzL, fzC, it, wipeE, c, o2, ne, rg, lp, tk]
  | false =>
    obtain ⟨xs, rfl, x1, x1'⟩ := x1 hb
    obtain ⟨ys, rfl, x2, x2'⟩ := x2 hb
    have le : xs.length = ys.length := by
      have a := x1' _ ((GP.ring_scl (b := 1 + z) (by omega)).mp x2)
      have c := x2' _ ((GP.ring_scl (b := 1 + z) (by omega)).mpr x1)
      omega
    have nn : ∀ (xs : List D) m, notNV (.dat (.tup xs)) (.dat .non) m = .ok (.dat (.bl true)) m := fun xs m => by simp [notNV]
    have ln : ∀ (xs : List D) m, lenV [.dat (.tup xs)] m = .ok (.dat (.int (xs.length : Int))) m := fun xs m => by simp [lenV, rdSq, rdL]
    refine ⟨.bl true, c6, hc6, ?_, rfl⟩
    have tk : (m.set k c6).take m.length = m.set k c6 := List.take_of_length_le (by simp)
    clear Lq vq vr rr S spq hm
    generalize (vs.map (rnV (1 + z) [f1 - 50, 100000000000000000000, f3])).map vbD = NV at *
    generalize ((rs.map fun r => r.map (rnM [f1 - 50, 100000000000000000000, f3])).map (rwL (vs.map (rnV (1 + z) [f1 - 50, 100000000000000000000, f3])))) = NR at *
    generalize ([f1 - 50, 100000000000000000000, f3] : List Int).map D.int = MV at *
    generalize rs.map (rwD vs) = RV at *
    generalize vs.map vbD = PV at *
    simp [F__law_right, fnRun_ap, den__law_right, enter, p1, p2, p3, p4, p5, p6, setAll, ml, rn, gTn, e1, e2, nn, ln, le, tk]
end
theorem well_ok (x : Int) (m : Mem) : ∃ w, isW w ∧ F__law_well [.dat (.int x)] m = .ok (.ref m.length) (m ++ [w]) := by
  have mo1 : mulOk x 1 = true := mulOk_r _ (by decide)
  have mo0 : mulOk x 0 = true := mulOk_r _ (by decide)
  have b1 : (2147483629 : Nat) < big := small_big (by decide)
  by_cases h : (1000000000000000000 : Int) ≤ x
  · refine ⟨.lst [.int x, .int (x.fmod 2147483629), .int 0], ⟨_, _, _, rfl⟩, ?_⟩
    simp [F__law_well, fnRun_ap, den__law_well, enter, mkOwn, allDat, mo1, exitO, h, b1]
  · refine ⟨.lst [.int 0, .int (x.fmod 2147483629), .int 0], ⟨_, _, _, rfl⟩, ?_⟩
    simp [F__law_well, fnRun_ap, den__law_well, enter, mkOwn, allDat, mo0, exitO, h, b1]
theorem turns_ok {k : Nat} {m : Mem} (h : Wl k m) (a b c : Option SV) : ∃ c' m', loopF (gN 3) lp1_law (rngD 0 5) [a, b, some (.ref k), c] m = .ok (.nx [a, b, some (.ref k), c']) m' := by
  obtain ⟨env', m', q, ⟨c', rfl⟩, _⟩ := loopF_inv (g := gN 3) (body := lp1_law) (fun _ env m => (∃ c', env = [a, b, some (.ref k), c']) ∧ Wl k m) (rngD 0 5) 0 [a, b, some (.ref k), c] m ⟨⟨c, rfl⟩, h⟩ (by
    rintro i d env mm hi ⟨⟨c', rfl⟩, hw⟩
    obtain ⟨_, c2, hc2, r, rfl⟩ := right_WF k mm hw
    have e1 : lp1_law [a, b, some (.ref k), some (.dat d)] mm = .ok (.nx [a, b, some (.ref k), some (.dat d)]) (mm.set k c2) := by
      simp [lp1_law, r]
    exact ⟨_, _, mm.set k c2, rfl, .inl e1, ⟨_, rfl⟩, wlS (wl_lt hw) hc2⟩)
  exact ⟨c', m', q⟩
theorem outer_ok (x : Int) (a b c : Option SV) (m : Mem) : ∃ b' c' m', lp2_law [a, some (.dat (.int x)), b, c] m = .ok (.nx [a, some (.dat (.int x)), b', c']) m' := by
  obtain ⟨w, hw, e1⟩ := well_ok x m
  have hW : Wl m.length (m ++ [w]) := by
    obtain ⟨x, y, z, rfl⟩ := hw
    exact ⟨x, y, z, get_app_len _ _⟩
  obtain ⟨c', m', q⟩ := turns_ok hW a (some (.dat (.int x))) c
  refine ⟨some (.ref m.length), c', m', ?_⟩
  simp [lp2_law, e1, rng1V, q]
theorem law_true (ns : List Int) (hl : ns.length ≤ 63) : ∃ m', F_law [.dat (.scr ns)] [] = .ok (.dat (.bl true)) m' := by
  obtain ⟨env', m', q, a, b, c, rfl⟩ := loopF_inv (g := gN 1) (body := lp2_law) (fun _ env m => ∃ a b c, env = [some (.dat (.scr ns)), a, b, c]) ((ns.map D.int).take 4 ++ [.int 0]) 0 [some (.dat (.scr ns)), none, none, none] [] ⟨none, none, none, rfl⟩ (by
    rintro i d env mm hi ⟨a, b, c, rfl⟩
    obtain ⟨x, rfl⟩ : ∃ x : Int, d = .int x := by
      have := List.mem_of_getElem? hi
      rcases List.mem_append.mp this with h | h
      · obtain ⟨x, _, rfl⟩ := List.mem_map.mp (List.mem_of_mem_take h)
        exact ⟨x, rfl⟩
      · exact ⟨0, by simpa using h⟩
    obtain ⟨b', c', m', e⟩ := outer_ok x (some (.dat (.scr ns))) b c mm
    exact ⟨_, _, m', rfl, .inl e, _, _, _, rfl⟩)
  have cd : PL.cutD (ns.map D.int) none (some 4) = (ns.map D.int).take 4 := cut_takeI _ 4
  have sl : ∀ m, PL.frs false ((ns.map D.int).take 4) m = .ok (.dat (.lst ((ns.map D.int).take 4))) m := fun m => rfl
  have it : ∀ m, itemsV (.dat (.lst ((ns.map D.int).take 4 ++ [.int 0]))) m = .ok ((ns.map D.int).take 4 ++ [.int 0]) m := fun m => by simp [itemsV]
  have ml1 : ∀ (d : D) m, mkLst [.dat d] m = .ok (.dat (.lst [d])) m := fun d m => by simp [mkLst, allDat]
  have ad : ∀ m, addV (.dat (.lst ((ns.map D.int).take 4))) (.dat (.lst [.int 0])) m = .ok (.dat (.lst ((ns.map D.int).take 4 ++ [.int 0]))) m := fun m => by
    simp [addV, rdL]
    omega
  generalize (ns.map D.int).take 4 ++ [.int 0] = items at *
  generalize (ns.map D.int).take 4 = L4 at *
  refine ⟨[], ?_⟩
  simp [F_law, fnRun_ap, den_law, enter, cd, sl, ml1, ad, it, q]
end G
namespace G
open PySem PySem.Spec PyProof.Rows L2 PL
def topS (i : Nat) : Stmt := PySem.Challenge.pw_sectionwise_k55_whole_variables_told_oth.main.body.getD i (.Pass ⟨0, 0, 0, 0⟩)
abbrev s__law_well : Stmt := topS 45
theorem sc__law_well : FnScope ["_law_cell"] ["_law_cell"] (defScope s__law_well) := ⟨rfl, rfl, rfl, by decide +kernel, rfl, by decide +kernel, by decide +kernel⟩
abbrev s_is_row : Stmt := topS 8
theorem sc_is_row : FnScope ["value", "least", "most"] ["value", "least", "most"] (defScope s_is_row) := ⟨rfl, rfl, rfl, by decide +kernel, rfl, by decide +kernel, by decide +kernel⟩
abbrev s_is_whole : Stmt := topS 6
theorem sc_is_whole : FnScope ["value"] ["value"] (defScope s_is_whole) := ⟨rfl, rfl, rfl, by decide +kernel, rfl, by decide +kernel, by decide +kernel⟩
abbrev s_is_between : Stmt := topS 7
theorem sc_is_between : FnScope ["value", "low", "high"] ["value", "low", "high"] (defScope s_is_between) := ⟨rfl, rfl, rfl, by decide +kernel, rfl, by decide +kernel, by decide +kernel⟩
abbrev s_is_name : Stmt := topS 20
theorem sc_is_name : FnScope ["value", "sign"] ["value"] (defScope s_is_name) := ⟨rfl, rfl, rfl, by decide +kernel, rfl, by decide +kernel, by decide +kernel⟩
abbrev s_is_bounds : Stmt := topS 21
theorem sc_is_bounds : FnScope ["value", "pair", "low", "high", "one"] ["value"] (defScope s_is_bounds) := ⟨rfl, rfl, rfl, by decide +kernel, rfl, by decide +kernel, by decide +kernel⟩
abbrev s_is_variable : Stmt := topS 22
theorem sc_is_variable : FnScope ["value"] ["value"] (defScope s_is_variable) := ⟨rfl, rfl, rfl, by decide +kernel, rfl, by decide +kernel, by decide +kernel⟩
abbrev s_check_variables : Stmt := topS 23
theorem sc_check_variables : FnScope ["variables", "one"] ["variables"] (defScope s_check_variables) := ⟨rfl, rfl, rfl, by decide +kernel, rfl, by decide +kernel, by decide +kernel⟩
abbrev s_place_in : Stmt := topS 26
theorem sc_place_in : FnScope ["bounds", "subscripts", "found", "wide", "low", "high", "at"] ["bounds", "subscripts"] (defScope s_place_in) := ⟨rfl, rfl, rfl, by decide +kernel, rfl, by decide +kernel, by decide +kernel⟩
abbrev s_is_member : Stmt := topS 27
theorem sc_is_member : FnScope ["value", "table", "bounds", "subscripts", "at", "low", "high"] ["value", "table"] (defScope s_is_member) := ⟨rfl, rfl, rfl, by decide +kernel, rfl, by decide +kernel, by decide +kernel⟩
abbrev s_lines_of : Stmt := topS 28
theorem sc_lines_of : FnScope ["variables", "rows", "table", "numbers", "number", "variable", "found", "row", "name", "at", "one"] ["variables", "rows"] (defScope s_lines_of) := ⟨rfl, rfl, rfl, by decide +kernel, rfl, by decide +kernel, by decide +kernel⟩
abbrev s_Reach_go_on : Stmt := clsDef (topS 29) 1
theorem sc_Reach_go_on : FnScope ["self", "number", "at", "one", "place", "to", "variable", "other"] ["self", "number", "at"] (defScope s_Reach_go_on) := ⟨rfl, rfl, rfl, by decide +kernel, rfl, by decide +kernel, by decide +kernel⟩
abbrev s_Reach___init__ : Stmt := clsDef (topS 29) 0
theorem sc_Reach___init__ : FnScope ["self", "start", "lines", "done", "number", "line", "at", "variable", "place"] ["self", "start", "lines"] (defScope s_Reach___init__) := ⟨rfl, rfl, rfl, by decide +kernel, rfl, by decide +kernel, by decide +kernel⟩
abbrev s_groups_of : Stmt := topS 30
theorem sc_groups_of : FnScope ["many", "lines", "found", "start", "reach", "variable", "base"] ["many", "lines"] (defScope s_groups_of) := ⟨rfl, rfl, rfl, by decide +kernel, rfl, by decide +kernel, by decide +kernel⟩
abbrev s_do_hold : Stmt := topS 31
theorem sc_do_hold : FnScope ["groups", "lines", "line", "spots", "variable", "place"] ["groups", "lines"] (defScope s_do_hold) := ⟨rfl, rfl, rfl, by decide +kernel, rfl, by decide +kernel, by decide +kernel⟩
abbrev s_risen : Stmt := topS 33
theorem sc_risen : FnScope ["groups", "least", "first", "base"] ["groups"] (defScope s_risen) := ⟨rfl, rfl, rfl, by decide +kernel, rfl, by decide +kernel, by decide +kernel⟩
abbrev s_offsets : Stmt := topS 34
theorem sc_offsets : FnScope ["variables", "rows", "lines", "groups", "one", "first", "at"] ["variables", "rows"] (defScope s_offsets) := ⟨rfl, rfl, rfl, by decide +kernel, rfl, by decide +kernel, by decide +kernel⟩
abbrev s_Reach_wrong : Stmt := clsDef (topS 29) 2
theorem sc_Reach_wrong : FnScope ["self", "found", "number", "line", "at", "one", "place", "to", "other", "behind", "back", "steps", "step"] ["self"] (defScope s_Reach_wrong) := ⟨rfl, rfl, rfl, by decide +kernel, rfl, by decide +kernel, by decide +kernel⟩
abbrev s_ring_of : Stmt := topS 32
theorem sc_ring_of : FnScope ["many", "lines", "rings", "start", "steps"] ["many", "lines"] (defScope s_ring_of) := ⟨rfl, rfl, rfl, by decide +kernel, rfl, by decide +kernel, by decide +kernel⟩
abbrev s_ring : Stmt := topS 35
theorem sc_ring : FnScope ["variables", "rows"] ["variables", "rows"] (defScope s_ring) := ⟨rfl, rfl, rfl, by decide +kernel, rfl, by decide +kernel, by decide +kernel⟩
abbrev s__law_draw : Stmt := topS 46
theorem sc__law_draw : FnScope ["_law_well_here", "_law_many", "_law_drawn", "_law_mixed"] ["_law_well_here", "_law_many"] (defScope s__law_draw) := ⟨rfl, rfl, rfl, by decide +kernel, rfl, by decide +kernel, by decide +kernel⟩
abbrev s__law_pick : Stmt := topS 47
theorem sc__law_pick : FnScope ["_law_well_here", "_law_some"] ["_law_well_here", "_law_some"] (defScope s__law_pick) := ⟨rfl, rfl, rfl, by decide +kernel, rfl, by decide +kernel, by decide +kernel⟩
abbrev s__law_bounds : Stmt := topS 48
theorem sc__law_bounds : FnScope ["_law_well_here", "_law_most", "_law_found", "_law_turn", "_law_low"] ["_law_well_here", "_law_most"] (defScope s__law_bounds) := ⟨rfl, rfl, rfl, by decide +kernel, rfl, by decide +kernel, by decide +kernel⟩
abbrev s__law_parts : Stmt := topS 49
theorem sc__law_parts : FnScope ["_law_well_here", "_law_many", "_law_most", "_law_names", "_law_name"] ["_law_well_here", "_law_many", "_law_most"] (defScope s__law_parts) := ⟨rfl, rfl, rfl, by decide +kernel, rfl, by decide +kernel, by decide +kernel⟩
abbrev s__law_wide : Stmt := topS 50
theorem sc__law_wide : FnScope ["_law_bounds_here", "_law_found", "_law_low", "_law_high"] ["_law_bounds_here"] (defScope s__law_wide) := ⟨rfl, rfl, rfl, by decide +kernel, rfl, by decide +kernel, by decide +kernel⟩
abbrev s__law_at : Stmt := topS 51
theorem sc__law_at : FnScope ["_law_bounds_here", "_law_number", "_law_found", "_law_low", "_law_high"] ["_law_bounds_here", "_law_number"] (defScope s__law_at) := ⟨rfl, rfl, rfl, by decide +kernel, rfl, by decide +kernel, by decide +kernel⟩
abbrev s__law_member : Stmt := topS 52
theorem sc__law_member : FnScope ["_law_well_here", "_law_part", "_law_spot"] ["_law_well_here", "_law_part", "_law_spot"] (defScope s__law_member) := ⟨rfl, rfl, rfl, by decide +kernel, rfl, by decide +kernel, by decide +kernel⟩
abbrev s__law_row : Stmt := topS 53
theorem sc__law_row : FnScope ["_law_well_here", "_law_parts_so", "_law_bases_here", "_law_k", "_law_spot", "_law_unit", "_law_found", "_law_at_here", "_law_part", "_law_far", "_law_fits"] ["_law_well_here", "_law_parts_so", "_law_bases_here"] (defScope s__law_row) := ⟨rfl, rfl, rfl, by decide +kernel, rfl, by decide +kernel, by decide +kernel⟩
abbrev s__law_rows : Stmt := topS 54
theorem sc__law_rows : FnScope ["_law_well_here", "_law_parts_so", "_law_most", "_law_bases_here", "_law_part", "_law_turn"] ["_law_well_here", "_law_parts_so", "_law_most"] (defScope s__law_rows) := ⟨rfl, rfl, rfl, by decide +kernel, rfl, by decide +kernel, by decide +kernel⟩
abbrev s__law_renamed : Stmt := topS 59
theorem sc__law_renamed : FnScope ["_law_parts_so", "_law_rows_so", "_law_moves", "_law_by", "_law_table", "_law_news", "_law_name", "_law_size", "_law_bounds_here", "_law_told_here", "_law_lines_here", "_law_row_here", "_law_far", "_law_low", "_law_high", "_law_part", "_law_at_here", "_law_one"] ["_law_parts_so", "_law_rows_so", "_law_moves", "_law_by"] (defScope s__law_renamed) := ⟨rfl, rfl, rfl, by decide +kernel, rfl, by decide +kernel, by decide +kernel⟩
abbrev s_many_elements : Stmt := topS 24
theorem sc_many_elements : FnScope ["bounds", "found", "low", "high"] ["bounds"] (defScope s_many_elements) := ⟨rfl, rfl, rfl, by decide +kernel, rfl, by decide +kernel, by decide +kernel⟩
abbrev s_units_of : Stmt := topS 25
theorem sc_units_of : FnScope ["variable"] ["variable"] (defScope s_units_of) := ⟨rfl, rfl, rfl, by decide +kernel, rfl, by decide +kernel, by decide +kernel⟩
abbrev s_sight_of : Stmt := topS 39
theorem sc_sight_of : FnScope ["variables", "rows", "one", "other", "lines", "groups", "names", "left", "right", "begins", "low", "high", "is_none", "variable", "at"] ["variables", "rows", "one", "other"] (defScope s_sight_of) := ⟨rfl, rfl, rfl, by decide +kernel, rfl, by decide +kernel, by decide +kernel⟩
abbrev s_shared : Stmt := topS 40
theorem sc_shared : FnScope ["variables", "rows", "one", "other", "mine", "its", "both"] ["variables", "rows", "one", "other"] (defScope s_shared) := ⟨rfl, rfl, rfl, by decide +kernel, rfl, by decide +kernel, by decide +kernel⟩
abbrev s_stretch : Stmt := topS 36
theorem sc_stretch : FnScope ["begin", "size", "low", "high"] ["begin", "size", "low", "high"] (defScope s_stretch) := ⟨rfl, rfl, rfl, by decide +kernel, rfl, by decide +kernel, by decide +kernel⟩
abbrev s_touched : Stmt := topS 41
theorem sc_touched : FnScope ["variables", "rows", "one", "number", "other", "mine", "its", "both", "low"] ["variables", "rows", "one", "number", "other"] (defScope s_touched) := ⟨rfl, rfl, rfl, by decide +kernel, rfl, by decide +kernel, by decide +kernel⟩
abbrev s_cuts : Stmt := topS 37
theorem sc_cuts : FnScope ["begin", "size", "low", "high"] ["begin", "size", "low", "high"] (defScope s_cuts) := ⟨rfl, rfl, rfl, by decide +kernel, rfl, by decide +kernel, by decide +kernel⟩
abbrev s_gcd : Stmt := topS 9
theorem sc_gcd : FnScope ["one", "other"] ["one", "other"] (defScope s_gcd) := ⟨rfl, rfl, rfl, by decide +kernel, rfl, by decide +kernel, by decide +kernel⟩
abbrev s_lcm : Stmt := topS 10
theorem sc_lcm : FnScope ["one", "other"] ["one", "other"] (defScope s_lcm) := ⟨rfl, rfl, rfl, by decide +kernel, rfl, by decide +kernel, by decide +kernel⟩
abbrev s_inverse : Stmt := topS 11
theorem sc_inverse : FnScope ["number", "modulus", "one", "other", "first", "last", "times"] ["number", "modulus"] (defScope s_inverse) := ⟨rfl, rfl, rfl, by decide +kernel, rfl, by decide +kernel, by decide +kernel⟩
abbrev s_meeting : Stmt := topS 12
theorem sc_meeting : FnScope ["first", "step", "other", "stride", "shared", "whole", "part", "times"] ["first", "step", "other", "stride"] (defScope s_meeting) := ⟨rfl, rfl, rfl, by decide +kernel, rfl, by decide +kernel, by decide +kernel⟩
abbrev s_common_cuts : Stmt := topS 38
theorem sc_common_cuts : FnScope ["one", "other", "low", "high", "found"] ["one", "other", "low", "high"] (defScope s_common_cuts) := ⟨rfl, rfl, rfl, by decide +kernel, rfl, by decide +kernel, by decide +kernel⟩
abbrev s_pairs_number : Stmt := topS 42
theorem sc_pairs_number : FnScope ["variables", "rows", "one", "other", "mine", "its", "both", "low", "high", "apart"] ["variables", "rows", "one", "other"] (defScope s_pairs_number) := ⟨rfl, rfl, rfl, by decide +kernel, rfl, by decide +kernel, by decide +kernel⟩
abbrev s_twins_number : Stmt := topS 43
theorem sc_twins_number : FnScope ["variables", "rows", "one", "other", "mine", "its", "both"] ["variables", "rows", "one", "other"] (defScope s_twins_number) := ⟨rfl, rfl, rfl, by decide +kernel, rfl, by decide +kernel, by decide +kernel⟩
abbrev s__law_told : Stmt := topS 60
theorem sc__law_told : FnScope ["_law_parts_so", "_law_rows_so", "_law_one", "_law_other", "_law_many", "_law_found", "_law_more", "_law_k", "_law_part"] ["_law_parts_so", "_law_rows_so", "_law_one", "_law_other"] (defScope s__law_told) := ⟨rfl, rfl, rfl, by decide +kernel, rfl, by decide +kernel, by decide +kernel⟩
abbrev s__law_times : Stmt := topS 61
theorem sc__law_times : FnScope ["_law_pair", "_law_by"] ["_law_pair", "_law_by"] (defScope s__law_times) := ⟨rfl, rfl, rfl, by decide +kernel, rfl, by decide +kernel, by decide +kernel⟩
abbrev s__law_right : Stmt := topS 62
theorem sc__law_right : FnScope ["_law_well_here", "_law_parts_so", "_law_by", "_law_rows_so", "_law_moves", "_law_news", "_law_lines_here", "_law_here", "_law_there", "_law_due", "_law_turn", "_law_one", "_law_other", "_law_both", "_law_rest", "_law_name", "_law_group", "_law_far"] ["_law_well_here"] (defScope s__law_right) := ⟨rfl, rfl, rfl, by decide +kernel, rfl, by decide +kernel, by decide +kernel⟩
abbrev s_law : Stmt := topS 63
theorem sc_law : FnScope ["_law_script", "_law_cell", "_law_well_here", "_law_turn"] ["_law_script"] (defScope s_law) := ⟨rfl, rfl, rfl, by decide +kernel, rfl, by decide +kernel, by decide +kernel⟩
structure Hd (K : PySem.W.Frag) (mg : Str → Option Value) : Prop where
  m_abs : mg "abs" = none
  m_all : mg "all" = none
  m_bool : mg "bool" = none
  m_dict : mg "dict" = none
  m_enumerate : mg "enumerate" = none
  m_int : mg "int" = none
  m_isinstance : mg "isinstance" = none
  m_len : mg "len" = none
  m_list : mg "list" = none
  m_max : mg "max" = none
  m_min : mg "min" = none
  m_range : mg "range" = none
  m_set : mg "set" = none
  m_str : mg "str" = none
  m_tuple : mg "tuple" = none
  m_zip : mg "zip" = none
  h_FAR : ∃ t, mg "FAR" = some (.int 1000000000000000000000000000000 t)
  h_MOST_DIMENSIONS : ∃ t, mg "MOST_DIMENSIONS" = some (.int 7 t)
  h_MOST_MEMBERS : ∃ t, mg "MOST_MEMBERS" = some (.int 10 t)
  h_MOST_ROWS : ∃ t, mg "MOST_ROWS" = some (.int 40 t)
  h_MOST_SIZE : ∃ t, mg "MOST_SIZE" = some (.int 16 t)
  h_MOST_VARIABLES : ∃ t, mg "MOST_VARIABLES" = some (.int 40 t)
  z_LETTERS : ∃ t, mg "LETTERS" = some (.str "abcdefghijklmnopqrstuvwxyz" t)
  o_Reach : mg "Reach" = some (.ref (He.ga K "Reach")) ∧ Cls K (He.ga K "Reach")
  n_Reach_bases : NoAttr K (He.ga K "Reach") "bases"
  n_Reach_lines : NoAttr K (He.ga K "Reach") "lines"
  n_Reach_order : NoAttr K (He.ga K "Reach") "order"
  n_Reach_steps : NoAttr K (He.ga K "Reach") "steps"
  e_Reach_go_on : Meth K (He.ga K "Reach") "go_on" (He.ma K (He.ga K "Reach") "go_on")
  f_Reach_go_on : ∃ fd, FunD K "go_on" "Reach.go_on" (defArgs s_Reach_go_on) (defBody s_Reach_go_on) (defScope s_Reach_go_on) [] [] (He.ma K (He.ga K "Reach") "go_on") fd
  i_Reach : Mk K (He.ga K "Reach") (He.ma K (He.ga K "Reach") "__init__")
  f_Reach___init__ : ∃ fd, FunD K "__init__" "Reach.__init__" (defArgs s_Reach___init__) (defBody s_Reach___init__) (defScope s_Reach___init__) [] [] (He.ma K (He.ga K "Reach") "__init__") fd
  e_Reach_wrong : Meth K (He.ga K "Reach") "wrong" (He.ma K (He.ga K "Reach") "wrong")
  f_Reach_wrong : ∃ fd, FunD K "wrong" "Reach.wrong" (defArgs s_Reach_wrong) (defBody s_Reach_wrong) (defScope s_Reach_wrong) [] [] (He.ma K (He.ga K "Reach") "wrong") fd
  f__law_well : ∃ f fd, mg "_law_well" = some (.ref f) ∧ FunD K "_law_well" "_law_well" (defArgs s__law_well) (defBody s__law_well) (defScope s__law_well) [] [] f fd
  f_is_row : ∃ f fd, mg "is_row" = some (.ref f) ∧ FunD K "is_row" "is_row" (defArgs s_is_row) (defBody s_is_row) (defScope s_is_row) [] [] f fd
  f_is_whole : ∃ f fd, mg "is_whole" = some (.ref f) ∧ FunD K "is_whole" "is_whole" (defArgs s_is_whole) (defBody s_is_whole) (defScope s_is_whole) [] [] f fd
  f_is_between : ∃ f fd, mg "is_between" = some (.ref f) ∧ FunD K "is_between" "is_between" (defArgs s_is_between) (defBody s_is_between) (defScope s_is_between) [] [] f fd
  f_is_name : ∃ f fd, mg "is_name" = some (.ref f) ∧ FunD K "is_name" "is_name" (defArgs s_is_name) (defBody s_is_name) (defScope s_is_name) [] [] f fd
  f_is_bounds : ∃ f fd, mg "is_bounds" = some (.ref f) ∧ FunD K "is_bounds" "is_bounds" (defArgs s_is_bounds) (defBody s_is_bounds) (defScope s_is_bounds) [] [] f fd
  f_is_variable : ∃ f fd, mg "is_variable" = some (.ref f) ∧ FunD K "is_variable" "is_variable" (defArgs s_is_variable) (defBody s_is_variable) (defScope s_is_variable) [] [] f fd
  f_check_variables : ∃ f fd, mg "check_variables" = some (.ref f) ∧ FunD K "check_variables" "check_variables" (defArgs s_check_variables) (defBody s_check_variables) (defScope s_check_variables) [] [] f fd
  f_place_in : ∃ f fd, mg "place_in" = some (.ref f) ∧ FunD K "place_in" "place_in" (defArgs s_place_in) (defBody s_place_in) (defScope s_place_in) [] [] f fd
  f_is_member : ∃ f fd, mg "is_member" = some (.ref f) ∧ FunD K "is_member" "is_member" (defArgs s_is_member) (defBody s_is_member) (defScope s_is_member) [] [] f fd
  f_lines_of : ∃ f fd, mg "lines_of" = some (.ref f) ∧ FunD K "lines_of" "lines_of" (defArgs s_lines_of) (defBody s_lines_of) (defScope s_lines_of) [] [] f fd
  f_groups_of : ∃ f fd, mg "groups_of" = some (.ref f) ∧ FunD K "groups_of" "groups_of" (defArgs s_groups_of) (defBody s_groups_of) (defScope s_groups_of) [] [] f fd
  f_do_hold : ∃ f fd, mg "do_hold" = some (.ref f) ∧ FunD K "do_hold" "do_hold" (defArgs s_do_hold) (defBody s_do_hold) (defScope s_do_hold) [] [] f fd
  f_risen : ∃ f fd, mg "risen" = some (.ref f) ∧ FunD K "risen" "risen" (defArgs s_risen) (defBody s_risen) (defScope s_risen) [] [] f fd
  f_offsets : ∃ f fd, mg "offsets" = some (.ref f) ∧ FunD K "offsets" "offsets" (defArgs s_offsets) (defBody s_offsets) (defScope s_offsets) [] [] f fd
  f_ring_of : ∃ f fd, mg "ring_of" = some (.ref f) ∧ FunD K "ring_of" "ring_of" (defArgs s_ring_of) (defBody s_ring_of) (defScope s_ring_of) [] [] f fd
  f_ring : ∃ f fd, mg "ring" = some (.ref f) ∧ FunD K "ring" "ring" (defArgs s_ring) (defBody s_ring) (defScope s_ring) [] [] f fd
  f__law_draw : ∃ f fd, mg "_law_draw" = some (.ref f) ∧ FunD K "_law_draw" "_law_draw" (defArgs s__law_draw) (defBody s__law_draw) (defScope s__law_draw) [] [] f fd
  f__law_pick : ∃ f fd, mg "_law_pick" = some (.ref f) ∧ FunD K "_law_pick" "_law_pick" (defArgs s__law_pick) (defBody s__law_pick) (defScope s__law_pick) [] [] f fd
  f__law_bounds : ∃ f fd, mg "_law_bounds" = some (.ref f) ∧ FunD K "_law_bounds" "_law_bounds" (defArgs s__law_bounds) (defBody s__law_bounds) (defScope s__law_bounds) [] [] f fd
  f__law_parts : ∃ f fd, mg "_law_parts" = some (.ref f) ∧ FunD K "_law_parts" "_law_parts" (defArgs s__law_parts) (defBody s__law_parts) (defScope s__law_parts) [] [] f fd
  f__law_wide : ∃ f fd, mg "_law_wide" = some (.ref f) ∧ FunD K "_law_wide" "_law_wide" (defArgs s__law_wide) (defBody s__law_wide) (defScope s__law_wide) [] [] f fd
  f__law_at : ∃ f fd, mg "_law_at" = some (.ref f) ∧ FunD K "_law_at" "_law_at" (defArgs s__law_at) (defBody s__law_at) (defScope s__law_at) [] [] f fd
  f__law_member : ∃ f fd, mg "_law_member" = some (.ref f) ∧ FunD K "_law_member" "_law_member" (defArgs s__law_member) (defBody s__law_member) (defScope s__law_member) [] [] f fd
  f__law_row : ∃ f fd, mg "_law_row" = some (.ref f) ∧ FunD K "_law_row" "_law_row" (defArgs s__law_row) (defBody s__law_row) (defScope s__law_row) [] [] f fd
  f__law_rows : ∃ f fd, mg "_law_rows" = some (.ref f) ∧ FunD K "_law_rows" "_law_rows" (defArgs s__law_rows) (defBody s__law_rows) (defScope s__law_rows) [] [] f fd
  f__law_renamed : ∃ f fd, mg "_law_renamed" = some (.ref f) ∧ FunD K "_law_renamed" "_law_renamed" (defArgs s__law_renamed) (defBody s__law_renamed) (defScope s__law_renamed) [] [] f fd
  f_many_elements : ∃ f fd, mg "many_elements" = some (.ref f) ∧ FunD K "many_elements" "many_elements" (defArgs s_many_elements) (defBody s_many_elements) (defScope s_many_elements) [] [] f fd
  f_units_of : ∃ f fd, mg "units_of" = some (.ref f) ∧ FunD K "units_of" "units_of" (defArgs s_units_of) (defBody s_units_of) (defScope s_units_of) [] [] f fd
  f_sight_of : ∃ f fd, mg "sight_of" = some (.ref f) ∧ FunD K "sight_of" "sight_of" (defArgs s_sight_of) (defBody s_sight_of) (defScope s_sight_of) [] [] f fd
  f_shared : ∃ f fd, mg "shared" = some (.ref f) ∧ FunD K "shared" "shared" (defArgs s_shared) (defBody s_shared) (defScope s_shared) [] [] f fd
  f_stretch : ∃ f fd, mg "stretch" = some (.ref f) ∧ FunD K "stretch" "stretch" (defArgs s_stretch) (defBody s_stretch) (defScope s_stretch) [] [] f fd
  f_touched : ∃ f fd, mg "touched" = some (.ref f) ∧ FunD K "touched" "touched" (defArgs s_touched) (defBody s_touched) (defScope s_touched) [] [] f fd
  f_cuts : ∃ f fd, mg "cuts" = some (.ref f) ∧ FunD K "cuts" "cuts" (defArgs s_cuts) (defBody s_cuts) (defScope s_cuts) [] [] f fd
  f_gcd : ∃ f fd, mg "gcd" = some (.ref f) ∧ FunD K "gcd" "gcd" (defArgs s_gcd) (defBody s_gcd) (defScope s_gcd) [] [] f fd
  f_lcm : ∃ f fd, mg "lcm" = some (.ref f) ∧ FunD K "lcm" "lcm" (defArgs s_lcm) (defBody s_lcm) (defScope s_lcm) [] [] f fd
  f_inverse : ∃ f fd, mg "inverse" = some (.ref f) ∧ FunD K "inverse" "inverse" (defArgs s_inverse) (defBody s_inverse) (defScope s_inverse) [] [] f fd
  f_meeting : ∃ f fd, mg "meeting" = some (.ref f) ∧ FunD K "meeting" "meeting" (defArgs s_meeting) (defBody s_meeting) (defScope s_meeting) [] [] f fd
  f_common_cuts : ∃ f fd, mg "common_cuts" = some (.ref f) ∧ FunD K "common_cuts" "common_cuts" (defArgs s_common_cuts) (defBody s_common_cuts) (defScope s_common_cuts) [] [] f fd
  f_pairs_number : ∃ f fd, mg "pairs_number" = some (.ref f) ∧ FunD K "pairs_number" "pairs_number" (defArgs s_pairs_number) (defBody s_pairs_number) (defScope s_pairs_number) [] [] f fd
  f_twins_number : ∃ f fd, mg "twins_number" = some (.ref f) ∧ FunD K "twins_number" "twins_number" (defArgs s_twins_number) (defBody s_twins_number) (defScope s_twins_number) [] [] f fd
  f__law_told : ∃ f fd, mg "_law_told" = some (.ref f) ∧ FunD K "_law_told" "_law_told" (defArgs s__law_told) (defBody s__law_told) (defScope s__law_told) [] [] f fd
  f__law_times : ∃ f fd, mg "_law_times" = some (.ref f) ∧ FunD K "_law_times" "_law_times" (defArgs s__law_times) (defBody s__law_times) (defScope s__law_times) [] [] f fd
  f__law_right : ∃ f fd, mg "_law_right" = some (.ref f) ∧ FunD K "_law_right" "_law_right" (defArgs s__law_right) (defBody s__law_right) (defScope s__law_right) [] [] f fd
  f_law : ∃ f fd, mg "law" = some (.ref f) ∧ FunD K "law" "law" (defArgs s_law) (defBody s_law) (defScope s_law) [] [] f fd
section
variable {P : Program} {w : World} {K : PySem.W.Frag} {mg : Str → Option Value} {base : Heap}
theorem fok__law_well (h : Hd K mg) {f : Addr} {fd : FuncData} (F : FunD K "_law_well" "_law_well" (defArgs s__law_well) (defBody s__law_well) (defScope s__law_well) [] [] f fd) : FnG P w K mg base 1 f fd ["_law_cell"] (spF ⟨K, mg, w⟩ 1 F__law_well) := by
  have m_int := h.m_int
  refine fok_of F sc__law_well exitO_ok fun cdv A outer s H E hcdv hr => ?_
  have tk := takes_of (X := cxOf (L2.CX P w) P w K mg base ["_law_cell"] "_law_well" (defScope s__law_well) f cdv A outer s H E) (E := E) rfl rfl rfl rfl
  have hp := passes_of (X := cxOf (L2.CX P w) P w K mg base ["_law_cell"] "_law_well" (defScope s__law_well) f cdv A outer s H E) rfl
  exact (jb_one (js_ret (je_own (ja_cons (je_bin jo_mul (je_var 0) (je_callTy jc_int (by rfl) m_int (by decide +kernel) (ja_cons (je_cmp jo_ge (je_var 0) (je_bin jo_pow je_int je_int)) ja_nil))) (ja_cons (je_bin jo_mod (je_callTy jc_int (by rfl) m_int (by decide +kernel) (ja_cons (je_var 0) ja_nil)) je_int) (ja_cons je_int ja_nil))))))
theorem cal__law_well (h : Hd K mg) : Cal P w K mg base 1 "_law_well" ["_law_cell"] F__law_well := by
  obtain ⟨f, fd, hm, F⟩ := h.f__law_well
  exact cal_of F hm (F.bindsN fun _ _ _ _ _ _ us hl => match us, hl with | [_], _ => rfl) (fok__law_well h F)
theorem fok_is_row (h : Hd K mg) {f : Addr} {fd : FuncData} (F : FunD K "is_row" "is_row" (defArgs s_is_row) (defBody s_is_row) (defScope s_is_row) [] [] f fd) : FnG P w K mg base 1 f fd ["value", "least", "most"] (spF ⟨K, mg, w⟩ 3 F_is_row) := by
  have m_isinstance := h.m_isinstance
  have m_len := h.m_len
  have m_list := h.m_list
  have m_tuple := h.m_tuple
  refine fok_of F sc_is_row exitV_ok fun cdv A outer s H E hcdv hr => ?_
  have tk := takes_of (X := cxOf (L2.CX P w) P w K mg base ["value", "least", "most"] "is_row" (defScope s_is_row) f cdv A outer s H E) (E := E) rfl rfl rfl rfl
  have hp := passes_of (X := cxOf (L2.CX P w) P w K mg base ["value", "least", "most"] "is_row" (defScope s_is_row) f cdv A outer s H E) rfl
  exact (jb_one (js_ret (je_and (je_isi2 tab_list tab_tuple (by rfl) m_isinstance (by rfl) m_list (by decide +kernel) (by rfl) m_tuple (by decide +kernel) (je_var 0)) (je_one (je_chain jo_le jo_le (je_var 1) (je_callB jc_len (by rfl) m_len (by decide +kernel) (ja_cons (je_var 0) ja_nil)) (je_var 2))))))
theorem cal_is_row (h : Hd K mg) : Cal P w K mg base 1 "is_row" ["value", "least", "most"] F_is_row := by
  obtain ⟨f, fd, hm, F⟩ := h.f_is_row
  exact cal_of F hm (F.bindsN fun _ _ _ _ _ _ us hl => match us, hl with | [_, _, _], _ => rfl) (fok_is_row h F)
theorem fok_is_whole (h : Hd K mg) {f : Addr} {fd : FuncData} (F : FunD K "is_whole" "is_whole" (defArgs s_is_whole) (defBody s_is_whole) (defScope s_is_whole) [] [] f fd) : FnG P w K mg base 1 f fd ["value"] (spF ⟨K, mg, w⟩ 1 F_is_whole) := by
  have m_bool := h.m_bool
  have m_int := h.m_int
  have m_isinstance := h.m_isinstance
  refine fok_of F sc_is_whole exitV_ok fun cdv A outer s H E hcdv hr => ?_
  have tk := takes_of (X := cxOf (L2.CX P w) P w K mg base ["value"] "is_whole" (defScope s_is_whole) f cdv A outer s H E) (E := E) rfl rfl rfl rfl
  have hp := passes_of (X := cxOf (L2.CX P w) P w K mg base ["value"] "is_whole" (defScope s_is_whole) f cdv A outer s H E) rfl
  exact (jb_one (js_ret (je_and (je_isi tab_int (by rfl) m_isinstance (by rfl) m_int (by decide +kernel) (je_var 0)) (je_one (je_not (je_isi tab_bool (by rfl) m_isinstance (by rfl) m_bool (by decide +kernel) (je_var 0)))))))
theorem cal_is_whole (h : Hd K mg) : Cal P w K mg base 1 "is_whole" ["value"] F_is_whole := by
  obtain ⟨f, fd, hm, F⟩ := h.f_is_whole
  exact cal_of F hm (F.bindsN fun _ _ _ _ _ _ us hl => match us, hl with | [_], _ => rfl) (fok_is_whole h F)
theorem fok_is_between (h : Hd K mg) (c_is_whole : Cal P w K mg base 1 "is_whole" ["value"] F_is_whole) {f : Addr} {fd : FuncData} (F : FunD K "is_between" "is_between" (defArgs s_is_between) (defBody s_is_between) (defScope s_is_between) [] [] f fd) : FnG P w K mg base 2 f fd ["value", "low", "high"] (spF ⟨K, mg, w⟩ 3 F_is_between) := by
  refine fok_of F sc_is_between exitV_ok fun cdv A outer s H E hcdv hr => ?_
  have tk := takes_of (X := cxOf (L2.CX P w) P w K mg base ["value", "low", "high"] "is_between" (defScope s_is_between) f cdv A outer s H E) (E := E) rfl rfl rfl rfl
  have hp := passes_of (X := cxOf (L2.CX P w) P w K mg base ["value", "low", "high"] "is_between" (defScope s_is_between) f cdv A outer s H E) rfl
  exact (jb_one (js_ret (je_and (je_call c_is_whole (hr.mono (by decide)) tk (by rfl) (ja_cons (je_var 0) ja_nil)) (je_one (je_chain jo_le jo_le (je_var 1) (je_var 0) (je_var 2))))))
theorem cal_is_between (h : Hd K mg) (c_is_whole : Cal P w K mg base 1 "is_whole" ["value"] F_is_whole) : Cal P w K mg base 2 "is_between" ["value", "low", "high"] F_is_between := by
  obtain ⟨f, fd, hm, F⟩ := h.f_is_between
  exact cal_of F hm (F.bindsN fun _ _ _ _ _ _ us hl => match us, hl with | [_, _, _], _ => rfl) (fok_is_between h c_is_whole F)
theorem fok_is_name (h : Hd K mg) {f : Addr} {fd : FuncData} (F : FunD K "is_name" "is_name" (defArgs s_is_name) (defBody s_is_name) (defScope s_is_name) [] [] f fd) : FnG P w K mg base 1 f fd ["value"] (spF ⟨K, mg, w⟩ 1 F_is_name) := by
  have m_all := h.m_all
  have m_isinstance := h.m_isinstance
  have m_len := h.m_len
  have m_str := h.m_str
  have z_LETTERS := h.z_LETTERS
  refine fok_of F sc_is_name exitV_ok fun cdv A outer s H E hcdv hr => ?_
  have tk := takes_of (X := cxOf (L2.CX P w) P w K mg base ["value", "sign"] "is_name" (defScope s_is_name) f cdv A outer s H E) (E := E) rfl rfl rfl rfl
  have hp := passes_of (X := cxOf (L2.CX P w) P w K mg base ["value", "sign"] "is_name" (defScope s_is_name) f cdv A outer s H E) rfl
  exact (jb_one (js_ret (je_and (je_isi tab_str (by rfl) m_isinstance (by rfl) m_str (by decide +kernel) (je_var 0)) (je_and (je_chain jo_le jo_le je_int (je_callB jc_len (by rfl) m_len (by decide +kernel) (ja_cons (je_var 0) ja_nil)) je_int) (je_one (je_callB (jc_all rfl) (by rfl) m_all (by decide +kernel) (ja_cons (je_lc [("sign", 1)] rfl sc_is_name.nd (ji_str (je_var 0)) (blkOk_by (by kernel_rfl)) (fun _ _ _ _ _ => (jg_name (i := 1) sc_is_name.nd)) (by decide) test_no (fun _ _ _ _ _ => (je_cmp jo_inStr (je_var 1) (je_gstr (by rfl) z_LETTERS) (by rfl)))) ja_nil)))))))
theorem cal_is_name (h : Hd K mg) : Cal P w K mg base 1 "is_name" ["value"] F_is_name := by
  obtain ⟨f, fd, hm, F⟩ := h.f_is_name
  exact cal_of F hm (F.bindsN fun _ _ _ _ _ _ us hl => match us, hl with | [_], _ => rfl) (fok_is_name h F)
theorem fok_is_bounds (h : Hd K mg) (c_is_between : Cal P w K mg base 2 "is_between" ["value", "low", "high"] F_is_between) {f : Addr} {fd : FuncData} (F : FunD K "is_bounds" "is_bounds" (defArgs s_is_bounds) (defBody s_is_bounds) (defScope s_is_bounds) [] [] f fd) : FnG P w K mg base 3 f fd ["value"] (spF ⟨K, mg, w⟩ 1 F_is_bounds) := by
  have m_all := h.m_all
  have m_isinstance := h.m_isinstance
  have m_len := h.m_len
  have m_tuple := h.m_tuple
  have h_FAR := h.h_FAR
  have h_MOST_DIMENSIONS := h.h_MOST_DIMENSIONS
  refine fok_of F sc_is_bounds exitV_ok fun cdv A outer s H E hcdv hr => ?_
  have tk := takes_of (X := cxOf (L2.CX P w) P w K mg base ["value", "pair", "low", "high", "one"] "is_bounds" (defScope s_is_bounds) f cdv A outer s H E) (E := E) rfl rfl rfl rfl
  have hp := passes_of (X := cxOf (L2.CX P w) P w K mg base ["value", "pair", "low", "high", "one"] "is_bounds" (defScope s_is_bounds) f cdv A outer s H E) rfl
  exact (jb_cons (js_if (JW.pt (jw_or (jt_not (jt_val (je_isi tab_tuple (by rfl) m_isinstance (by rfl) m_tuple (by decide +kernel) (je_var 0)))) (jw_or1 (jt_cmp jo_gt (je_callB jc_len (by rfl) m_len (by decide +kernel) (ja_cons (je_var 0) ja_nil)) (je_gint (by rfl) h_MOST_DIMENSIONS))))) (jb_one (js_ret je_bl)) jb_nil) (jb_cons (js_for hp rfl (ji_seq (je_var 0)) (jg_name (i := 1) sc_is_bounds.nd) (jb_one (js_if (JW.pt (jw_or (jt_not (jt_val (je_isi tab_tuple (by rfl) m_isinstance (by rfl) m_tuple (by decide +kernel) (je_var 1)))) (jw_or (jt_cmp (jo_ne hr.units) (je_callB jc_len (by rfl) m_len (by decide +kernel) (ja_cons (je_var 1) ja_nil)) je_int) (jw_or1 (jt_not (jt_val (je_callB (jc_all rfl) (by rfl) m_all (by decide +kernel) (ja_cons (je_lc [("one", 4)] rfl sc_is_bounds.nd (ji_seq (je_var 1)) (blkOk_by (by kernel_rfl)) (fun _ _ _ _ _ => (jg_name (i := 4) sc_is_bounds.nd)) (by decide) test_no (fun _ _ _ _ _ => (je_call c_is_between (hr.mono (by decide)) takes0 (by rfl) (ja_cons (je_var 4) (ja_cons (je_neg (je_gint (by rfl) h_FAR)) (ja_cons (je_gint (by rfl) h_FAR) ja_nil)))))) ja_nil)))))))) (jb_one (js_ret je_bl)) jb_nil))) (jb_one (js_ret (je_callB (jc_all rfl) (by rfl) m_all (by decide +kernel) (ja_cons (je_lc [("low", 2), ("high", 3)] rfl sc_is_bounds.nd (ji_seq (je_var 0)) (blkOk_by (by kernel_rfl)) (fun _ _ _ _ _ => (jg_tup rfl (jgs_cons (jg_name (i := 2) sc_is_bounds.nd) (jgs_cons (jg_name (i := 3) sc_is_bounds.nd) jgs_nil)))) (by decide) test_no (fun _ _ _ _ _ => (je_cmp jo_le (je_var 2) (je_var 3)))) ja_nil))))))
theorem cal_is_bounds (h : Hd K mg) (c_is_between : Cal P w K mg base 2 "is_between" ["value", "low", "high"] F_is_between) : Cal P w K mg base 3 "is_bounds" ["value"] F_is_bounds := by
  obtain ⟨f, fd, hm, F⟩ := h.f_is_bounds
  exact cal_of F hm (F.bindsN fun _ _ _ _ _ _ us hl => match us, hl with | [_], _ => rfl) (fok_is_bounds h c_is_between F)
theorem fok_is_variable (h : Hd K mg) (c_is_between : Cal P w K mg base 2 "is_between" ["value", "low", "high"] F_is_between) (c_is_name : Cal P w K mg base 1 "is_name" ["value"] F_is_name) (c_is_bounds : Cal P w K mg base 3 "is_bounds" ["value"] F_is_bounds) {f : Addr} {fd : FuncData} (F : FunD K "is_variable" "is_variable" (defArgs s_is_variable) (defBody s_is_variable) (defScope s_is_variable) [] [] f fd) : FnG P w K mg base 4 f fd ["value"] (spF ⟨K, mg, w⟩ 1 F_is_variable) := by
  have m_isinstance := h.m_isinstance
  have m_len := h.m_len
  have m_tuple := h.m_tuple
  have h_MOST_SIZE := h.h_MOST_SIZE
  refine fok_of F sc_is_variable exitV_ok fun cdv A outer s H E hcdv hr => ?_
  have tk := takes_of (X := cxOf (L2.CX P w) P w K mg base ["value"] "is_variable" (defScope s_is_variable) f cdv A outer s H E) (E := E) rfl rfl rfl rfl
  have hp := passes_of (X := cxOf (L2.CX P w) P w K mg base ["value"] "is_variable" (defScope s_is_variable) f cdv A outer s H E) rfl
  exact (jb_cons (js_if (JW.pt (jw_or (jt_not (jt_val (je_isi tab_tuple (by rfl) m_isinstance (by rfl) m_tuple (by decide +kernel) (je_var 0)))) (jw_or1 (jt_cmp (jo_ne hr.units) (je_callB jc_len (by rfl) m_len (by decide +kernel) (ja_cons (je_var 0) ja_nil)) je_int)))) (jb_one (js_ret je_bl)) jb_nil) (jb_one (js_ret (je_and (je_call c_is_name (hr.mono (by decide)) tk (by rfl) (ja_cons (je_ix (je_var 0) je_int) ja_nil)) (je_and (je_call c_is_between (hr.mono (by decide)) tk (by rfl) (ja_cons (je_ix (je_var 0) je_int) (ja_cons je_int (ja_cons (je_gint (by rfl) h_MOST_SIZE) ja_nil)))) (je_one (je_call c_is_bounds (hr.mono (by decide)) tk (by rfl) (ja_cons (je_ix (je_var 0) je_int) ja_nil))))))))
theorem cal_is_variable (h : Hd K mg) (c_is_between : Cal P w K mg base 2 "is_between" ["value", "low", "high"] F_is_between) (c_is_name : Cal P w K mg base 1 "is_name" ["value"] F_is_name) (c_is_bounds : Cal P w K mg base 3 "is_bounds" ["value"] F_is_bounds) : Cal P w K mg base 4 "is_variable" ["value"] F_is_variable := by
  obtain ⟨f, fd, hm, F⟩ := h.f_is_variable
  exact cal_of F hm (F.bindsN fun _ _ _ _ _ _ us hl => match us, hl with | [_], _ => rfl) (fok_is_variable h c_is_between c_is_name c_is_bounds F)
theorem fok_check_variables (h : Hd K mg) (c_is_row : Cal P w K mg base 1 "is_row" ["value", "least", "most"] F_is_row) (c_is_variable : Cal P w K mg base 4 "is_variable" ["value"] F_is_variable) {f : Addr} {fd : FuncData} (F : FunD K "check_variables" "check_variables" (defArgs s_check_variables) (defBody s_check_variables) (defScope s_check_variables) [] [] f fd) : FnG P w K mg base 5 f fd ["variables"] (spF ⟨K, mg, w⟩ 1 F_check_variables) := by
  have m_all := h.m_all
  have m_len := h.m_len
  have m_set := h.m_set
  have h_MOST_VARIABLES := h.h_MOST_VARIABLES
  refine fok_of F sc_check_variables exitV_ok fun cdv A outer s H E hcdv hr => ?_
  have tk := takes_of (X := cxOf (L2.CX P w) P w K mg base ["variables", "one"] "check_variables" (defScope s_check_variables) f cdv A outer s H E) (E := E) rfl rfl rfl rfl
  have hp := passes_of (X := cxOf (L2.CX P w) P w K mg base ["variables", "one"] "check_variables" (defScope s_check_variables) f cdv A outer s H E) rfl
  exact (jb_cons (js_if (JW.pt (jw_or (jt_not (jt_val (je_call c_is_row (hr.mono (by decide)) tk (by rfl) (ja_cons (je_var 0) (ja_cons je_int (ja_cons (je_gint (by rfl) h_MOST_VARIABLES) ja_nil)))))) (jw_or1 (jt_not (jt_val (je_callB (jc_all rfl) (by rfl) m_all (by decide +kernel) (ja_cons (je_lc [("one", 1)] rfl sc_check_variables.nd (ji_seq (je_var 0)) (blkOk_by (by kernel_rfl)) (fun _ _ _ _ _ => (jg_name (i := 1) sc_check_variables.nd)) (by decide) test_no (fun _ _ _ _ _ => (je_call c_is_variable (hr.mono (by decide)) takes0 (by rfl) (ja_cons (je_var 1) ja_nil)))) ja_nil))))))) (jb_one js_never) jb_nil) (jb_one (js_if (jt_cmp (jo_ne hr.units) (je_lenSetX (by rfl) m_len (by rfl) m_set rfl hr.units (je_lc [("one", 1)] rfl sc_check_variables.nd (ji_seq (je_var 0)) (blkOk_by (by kernel_rfl)) (fun _ _ _ _ _ => (jg_name (i := 1) sc_check_variables.nd)) (by decide) test_no (fun _ _ _ _ _ => (je_ix (je_var 1) je_int)))) (je_callB jc_len (by rfl) m_len (by decide +kernel) (ja_cons (je_var 0) ja_nil))) (jb_one js_never) jb_nil)))
theorem cal_check_variables (h : Hd K mg) (c_is_row : Cal P w K mg base 1 "is_row" ["value", "least", "most"] F_is_row) (c_is_variable : Cal P w K mg base 4 "is_variable" ["value"] F_is_variable) : Cal P w K mg base 5 "check_variables" ["variables"] F_check_variables := by
  obtain ⟨f, fd, hm, F⟩ := h.f_check_variables
  exact cal_of F hm (F.bindsN fun _ _ _ _ _ _ us hl => match us, hl with | [_], _ => rfl) (fok_check_variables h c_is_row c_is_variable F)
theorem fok_place_in (h : Hd K mg) {f : Addr} {fd : FuncData} (F : FunD K "place_in" "place_in" (defArgs s_place_in) (defBody s_place_in) (defScope s_place_in) [] [] f fd) : FnG P w K mg base 1 f fd ["bounds", "subscripts"] (spF ⟨K, mg, w⟩ 2 F_place_in) := by
  have m_zip := h.m_zip
  refine fok_of F sc_place_in exitV_ok fun cdv A outer s H E hcdv hr => ?_
  have tk := takes_of (X := cxOf (L2.CX P w) P w K mg base ["bounds", "subscripts", "found", "wide", "low", "high", "at"] "place_in" (defScope s_place_in) f cdv A outer s H E) (E := E) rfl rfl rfl rfl
  have hp := passes_of (X := cxOf (L2.CX P w) P w K mg base ["bounds", "subscripts", "found", "wide", "low", "high", "at"] "place_in" (defScope s_place_in) f cdv A outer s H E) rfl
  exact (jb_cons (js_parT rfl (ja_cons je_int (ja_cons je_int ja_nil)) (jn_cons (i := 2) sc_place_in.nd (jn_cons (i := 3) sc_place_in.nd jn_nil))) (jb_cons (js_for hp rfl (ji_zip2 (by rfl) m_zip (ja_cons (je_var 0) (ja_cons (je_var 1) ja_nil))) (jg_tup rfl (jgs_cons (jg_tup rfl (jgs_cons (jg_name (i := 4) sc_place_in.nd) (jgs_cons (jg_name (i := 5) sc_place_in.nd) jgs_nil))) (jgs_cons (jg_name (i := 6) sc_place_in.nd) jgs_nil))) (jb_cons (js_set 2 sc_place_in.nd (je_bin jo_add (je_var 2) (je_bin jo_mul (je_var 3) (je_bin jo_sub (je_var 6) (je_var 4))))) (jb_one (js_set 3 sc_place_in.nd (je_bin jo_mul (je_var 3) (je_bin jo_add (je_bin jo_sub (je_var 5) (je_var 4)) je_int)))))) (jb_one (js_ret (je_var 2)))))
theorem cal_place_in (h : Hd K mg) : Cal P w K mg base 1 "place_in" ["bounds", "subscripts"] F_place_in := by
  obtain ⟨f, fd, hm, F⟩ := h.f_place_in
  exact cal_of F hm (F.bindsN fun _ _ _ _ _ _ us hl => match us, hl with | [_, _], _ => rfl) (fok_place_in h F)
theorem fok_is_member (h : Hd K mg) (c_is_between : Cal P w K mg base 2 "is_between" ["value", "low", "high"] F_is_between) {f : Addr} {fd : FuncData} (F : FunD K "is_member" "is_member" (defArgs s_is_member) (defBody s_is_member) (defScope s_is_member) [] [] f fd) : FnG P w K mg base 3 f fd ["value", "table"] (spF ⟨K, mg, w⟩ 2 F_is_member) := by
  have m_all := h.m_all
  have m_isinstance := h.m_isinstance
  have m_len := h.m_len
  have m_str := h.m_str
  have m_tuple := h.m_tuple
  have m_zip := h.m_zip
  refine fok_of F sc_is_member exitV_ok fun cdv A outer s H E hcdv hr => ?_
  have tk := takes_of (X := cxOf (L2.CX P w) P w K mg base ["value", "table", "bounds", "subscripts", "at", "low", "high"] "is_member" (defScope s_is_member) f cdv A outer s H E) (E := E) rfl rfl rfl rfl
  have hp := passes_of (X := cxOf (L2.CX P w) P w K mg base ["value", "table", "bounds", "subscripts", "at", "low", "high"] "is_member" (defScope s_is_member) f cdv A outer s H E) rfl
  exact (jb_cons (js_if (JW.pt (jw_or (jt_not (jt_val (je_isi tab_tuple (by rfl) m_isinstance (by rfl) m_tuple (by decide +kernel) (je_var 0)))) (jw_or (jt_cmp (jo_ne hr.units) (je_callB jc_len (by rfl) m_len (by decide +kernel) (ja_cons (je_var 0) ja_nil)) je_int) (jw_or (jt_not (jt_val (je_isi tab_str (by rfl) m_isinstance (by rfl) m_str (by decide +kernel) (je_ix (je_var 0) je_int)))) (jw_or1 (jt_cmp (jo_notInK hr.units1) (je_ix (je_var 0) je_int) (je_var 1) (by rfl))))))) (jb_one (js_ret je_bl)) jb_nil) (jb_cons (js_par 2 3 rfl sc_is_member.nd (ja_cons (je_ix (je_dix hr.units1 (je_var 1) (je_ix (je_var 0) je_int)) je_int) (ja_cons (je_ix (je_var 0) je_int) ja_nil))) (jb_cons (js_if (JW.pt (jw_or (jt_not (jt_val (je_isi tab_tuple (by rfl) m_isinstance (by rfl) m_tuple (by decide +kernel) (je_var 3)))) (jw_or1 (jt_cmp jo_notIn (je_callB jc_len (by rfl) m_len (by decide +kernel) (ja_cons (je_var 3) ja_nil)) (je_tup (ja_cons je_int (ja_cons (je_callB jc_len (by rfl) m_len (by decide +kernel) (ja_cons (je_var 2) ja_nil)) ja_nil))) (by rfl))))) (jb_one (js_ret je_bl)) jb_nil) (jb_one (js_ret (je_callB (jc_all rfl) (by rfl) m_all (by decide +kernel) (ja_cons (je_lc [("at", 4), ("low", 5), ("high", 6)] rfl sc_is_member.nd (ji_zip2 (by rfl) m_zip (ja_cons (je_var 2) (ja_cons (je_var 3) ja_nil))) (blkOk_by (by kernel_rfl)) (fun _ _ _ _ _ => (jg_tup rfl (jgs_cons (jg_tup rfl (jgs_cons (jg_name (i := 5) sc_is_member.nd) (jgs_cons (jg_name (i := 6) sc_is_member.nd) jgs_nil))) (jgs_cons (jg_name (i := 4) sc_is_member.nd) jgs_nil)))) (by decide) test_no (fun _ _ _ _ _ => (je_call c_is_between (hr.mono (by decide)) takes0 (by rfl) (ja_cons (je_var 4) (ja_cons (je_var 5) (ja_cons (je_var 6) ja_nil)))))) ja_nil)))))))
theorem cal_is_member (h : Hd K mg) (c_is_between : Cal P w K mg base 2 "is_between" ["value", "low", "high"] F_is_between) : Cal P w K mg base 3 "is_member" ["value", "table"] F_is_member := by
  obtain ⟨f, fd, hm, F⟩ := h.f_is_member
  exact cal_of F hm (F.bindsN fun _ _ _ _ _ _ us hl => match us, hl with | [_, _], _ => rfl) (fok_is_member h c_is_between F)
theorem fok_lines_of (h : Hd K mg) (c_is_row : Cal P w K mg base 1 "is_row" ["value", "least", "most"] F_is_row) (c_place_in : Cal P w K mg base 1 "place_in" ["bounds", "subscripts"] F_place_in) (c_is_member : Cal P w K mg base 3 "is_member" ["value", "table"] F_is_member) {f : Addr} {fd : FuncData} (F : FunD K "lines_of" "lines_of" (defArgs s_lines_of) (defBody s_lines_of) (defScope s_lines_of) [] [] f fd) : FnG P w K mg base 4 f fd ["variables", "rows"] (spF ⟨K, mg, w⟩ 2 F_lines_of) := by
  have m_all := h.m_all
  have m_enumerate := h.m_enumerate
  have h_MOST_MEMBERS := h.h_MOST_MEMBERS
  have h_MOST_ROWS := h.h_MOST_ROWS
  refine fok_of F sc_lines_of exitV_ok fun cdv A outer s H E hcdv hr => ?_
  have tk := takes_of (X := cxOf (L2.CX P w) P w K mg base ["variables", "rows", "table", "numbers", "number", "variable", "found", "row", "name", "at", "one"] "lines_of" (defScope s_lines_of) f cdv A outer s H E) (E := E) rfl rfl rfl rfl
  have hp := passes_of (X := cxOf (L2.CX P w) P w K mg base ["variables", "rows", "table", "numbers", "number", "variable", "found", "row", "name", "at", "one"] "lines_of" (defScope s_lines_of) f cdv A outer s H E) rfl
  exact (jb_cons (js_parT rfl (ja_cons je_dnew (ja_cons je_dnew ja_nil)) (jn_cons (i := 2) sc_lines_of.nd (jn_cons (i := 3) sc_lines_of.nd jn_nil))) (jb_cons (js_for hp rfl (ji_enum (by rfl) m_enumerate (ja_cons (je_var 0) ja_nil)) (jg_tup rfl (jgs_cons (jg_name (i := 4) sc_lines_of.nd) (jgs_cons (jg_name (i := 5) sc_lines_of.nd) jgs_nil))) (jb_one (js_parP (n := 2) rfl (ja_cons (je_var 5) (ja_cons (je_var 4) ja_nil)) (jps_cons (jp_sub hr.units1 (je_var 2) (je_ix (je_var 5) je_int)) (jps_cons (jp_sub hr.units1 (je_var 3) (je_ix (je_var 5) je_int)) jps_nil))))) (jb_cons (js_if (JW.pt (jw_or (jt_not (jt_val (je_call c_is_row (hr.mono (by decide)) tk (by rfl) (ja_cons (je_var 1) (ja_cons je_int (ja_cons (je_gint (by rfl) h_MOST_ROWS) ja_nil)))))) (jw_or1 (jt_not (jt_val (je_callB (jc_all rfl) (by rfl) m_all (by decide +kernel) (ja_cons (je_lc [("row", 7)] rfl sc_lines_of.nd (ji_seq (je_var 1)) (blkOk_by (by kernel_rfl)) (fun _ _ _ _ _ => (jg_name (i := 7) sc_lines_of.nd)) (by decide) test_no (fun _ _ _ _ _ => (je_call c_is_row (hr.mono (by decide)) takes0 (by rfl) (ja_cons (je_var 7) (ja_cons je_int (ja_cons (je_gint (by rfl) h_MOST_MEMBERS) ja_nil)))))) ja_nil))))))) (jb_one js_never) jb_nil) (jb_cons (js_set 6 sc_lines_of.nd (je_own ja_nil)) (jb_cons (js_for hp rfl (ji_seq (je_var 1)) (jg_name (i := 7) sc_lines_of.nd) (jb_cons (js_if (jt_not (jt_val (je_callB (jc_all rfl) (by rfl) m_all (by decide +kernel) (ja_cons (je_lc [("one", 10)] rfl sc_lines_of.nd (ji_seq (je_var 7)) (blkOk_by (by kernel_rfl)) (fun _ _ _ _ _ => (jg_name (i := 10) sc_lines_of.nd)) (by decide) test_no (fun _ _ _ _ _ => (je_call c_is_member (hr.mono (by decide)) takes0 (by rfl) (ja_cons (je_var 10) (ja_cons (je_var 2) ja_nil))))) ja_nil)))) (jb_one js_never) jb_nil) (jb_one (js_append (je_var 6) (je_lc [("name", 8), ("at", 9)] rfl sc_lines_of.nd (ji_seq (je_var 7)) (blkOk_by (by kernel_rfl)) (fun _ _ _ _ _ => (jg_tup rfl (jgs_cons (jg_name (i := 8) sc_lines_of.nd) (jgs_cons (jg_name (i := 9) sc_lines_of.nd) jgs_nil)))) (by decide) test_no (fun _ _ _ _ _ => (je_tup (ja_cons (je_dix hr.units1 (je_var 3) (je_var 8)) (ja_cons (je_bin jo_mul (je_ix (je_dix hr.units1 (je_var 2) (je_var 8)) je_int) (je_call c_place_in (hr.mono (by decide)) takes0 (by rfl) (ja_cons (je_ix (je_dix hr.units1 (je_var 2) (je_var 8)) je_int) (ja_cons (je_var 9) ja_nil)))) ja_nil))))))))) (jb_one (js_ret (je_var 6))))))))
theorem cal_lines_of (h : Hd K mg) (c_is_row : Cal P w K mg base 1 "is_row" ["value", "least", "most"] F_is_row) (c_place_in : Cal P w K mg base 1 "place_in" ["bounds", "subscripts"] F_place_in) (c_is_member : Cal P w K mg base 3 "is_member" ["value", "table"] F_is_member) : Cal P w K mg base 4 "lines_of" ["variables", "rows"] F_lines_of := by
  obtain ⟨f, fd, hm, F⟩ := h.f_lines_of
  exact cal_of F hm (F.bindsN fun _ _ _ _ _ _ us hl => match us, hl with | [_, _], _ => rfl) (fok_lines_of h c_is_row c_place_in c_is_member F)
theorem fok_Reach_go_on (h : Hd K mg) {f : Addr} {fd : FuncData} (F : FunD K "go_on" "Reach.go_on" (defArgs s_Reach_go_on) (defBody s_Reach_go_on) (defScope s_Reach_go_on) [] [] f fd) : FnG P w K mg base 1 f fd ["self", "number", "at"] (spF ⟨K, mg, w⟩ 3 F_Reach_go_on) := by
  have m_enumerate := h.m_enumerate
  have k_bases : ∀ cls ∈ (["Reach"] : List Str), Kls K mg cls "bases" := fun cls hc => by
    simp only [List.mem_cons, List.not_mem_nil, or_false] at hc
    rcases hc with rfl
    · exact ⟨_, h.o_Reach.1, h.o_Reach.2, h.n_Reach_bases⟩
  have k_lines : ∀ cls ∈ (["Reach"] : List Str), Kls K mg cls "lines" := fun cls hc => by
    simp only [List.mem_cons, List.not_mem_nil, or_false] at hc
    rcases hc with rfl
    · exact ⟨_, h.o_Reach.1, h.o_Reach.2, h.n_Reach_lines⟩
  have k_order : ∀ cls ∈ (["Reach"] : List Str), Kls K mg cls "order" := fun cls hc => by
    simp only [List.mem_cons, List.not_mem_nil, or_false] at hc
    rcases hc with rfl
    · exact ⟨_, h.o_Reach.1, h.o_Reach.2, h.n_Reach_order⟩
  have k_steps : ∀ cls ∈ (["Reach"] : List Str), Kls K mg cls "steps" := fun cls hc => by
    simp only [List.mem_cons, List.not_mem_nil, or_false] at hc
    rcases hc with rfl
    · exact ⟨_, h.o_Reach.1, h.o_Reach.2, h.n_Reach_steps⟩
  refine fokQ_of F sc_Reach_go_on exitV_ok fun cdv A outer s H E hcdv hr => ?_
  have tk := takes_of (X := cxOf (L2.CX P w) P w K mg base ["self", "number", "at", "one", "place", "to", "variable", "other"] "Reach.go_on" (defScope s_Reach_go_on) f cdv A outer s H E) (E := E) rfl rfl rfl rfl
  have hp := passes_of (X := cxOf (L2.CX P w) P w K mg base ["self", "number", "at", "one", "place", "to", "variable", "other"] "Reach.go_on" (defScope s_Reach_go_on) f cdv A outer s H E) rfl
  exact (jb_cons (js_asg (je_ix (je_ix (je_fld k_lines (je_var 0)) (je_var 1)) (je_var 2)) (jg_tup rfl (jgs_cons (jg_name (i := 3) sc_Reach_go_on.nd) (jgs_cons (jg_name (i := 4) sc_Reach_go_on.nd) jgs_nil)))) (jb_one (js_for hp rfl (ji_enum (by rfl) m_enumerate (ja_cons (je_ix (je_fld k_lines (je_var 0)) (je_var 1)) ja_nil)) (jg_tup rfl (jgs_cons (jg_name (i := 5) sc_Reach_go_on.nd) (jgs_cons (jg_tup rfl (jgs_cons (jg_name (i := 6) sc_Reach_go_on.nd) (jgs_cons (jg_name (i := 7) sc_Reach_go_on.nd) jgs_nil))) jgs_nil))) (jb_one (js_if (jt_cmp (jo_notInK hr.units1) (je_var 6) (je_fld k_bases (je_var 0)) (by rfl)) (jb_cons (js_dput hr.units1 (je_fld k_bases (je_var 0)) (je_var 6) (je_bin jo_sub (je_bin jo_add (je_dix hr.units1 (je_fld k_bases (je_var 0)) (je_var 3)) (je_var 4)) (je_var 7))) (jb_cons (js_dput hr.units1 (je_fld k_steps (je_var 0)) (je_var 6) (je_bin jo_add (je_dix hr.units1 (je_fld k_steps (je_var 0)) (je_var 3)) (je_lst (ja_cons (je_tup (ja_cons (je_var 1) (ja_cons (je_var 2) (ja_cons (je_var 5) ja_nil)))) ja_nil)))) (jb_one (js_append (je_fld k_order (je_var 0)) (je_var 6))))) jb_nil)))))
theorem cal_Reach_go_on (h : Hd K mg) : MCal P w K mg base 1 "Reach" "go_on" ["self", "number", "at"] F_Reach_go_on := by
  obtain ⟨fd, F⟩ := h.f_Reach_go_on
  exact ⟨_, _, fd, h.o_Reach.1, h.o_Reach.2, h.e_Reach_go_on, (F.bindsN fun _ _ _ _ _ _ us hl => match us, hl with | [_, _, _], _ => rfl), fok_Reach_go_on h F⟩
theorem fok_Reach___init__ (h : Hd K mg) (c_Reach_go_on : MCal P w K mg base 1 "Reach" "go_on" ["self", "number", "at"] F_Reach_go_on) {f : Addr} {fd : FuncData} (F : FunD K "__init__" "Reach.__init__" (defArgs s_Reach___init__) (defBody s_Reach___init__) (defScope s_Reach___init__) [] [] f fd) : FnG P w K mg base 2 f fd ["self", "start", "lines"] (spF ⟨K, mg, w⟩ 3 F_Reach___init__) := by
  have m_enumerate := h.m_enumerate
  have m_len := h.m_len
  have k_bases : ∀ cls ∈ (["Reach"] : List Str), Kls K mg cls "bases" := fun cls hc => by
    simp only [List.mem_cons, List.not_mem_nil, or_false] at hc
    rcases hc with rfl
    · exact ⟨_, h.o_Reach.1, h.o_Reach.2, h.n_Reach_bases⟩
  have k_lines : ∀ cls ∈ (["Reach"] : List Str), Kls K mg cls "lines" := fun cls hc => by
    simp only [List.mem_cons, List.not_mem_nil, or_false] at hc
    rcases hc with rfl
    · exact ⟨_, h.o_Reach.1, h.o_Reach.2, h.n_Reach_lines⟩
  have k_order : ∀ cls ∈ (["Reach"] : List Str), Kls K mg cls "order" := fun cls hc => by
    simp only [List.mem_cons, List.not_mem_nil, or_false] at hc
    rcases hc with rfl
    · exact ⟨_, h.o_Reach.1, h.o_Reach.2, h.n_Reach_order⟩
  have k_steps : ∀ cls ∈ (["Reach"] : List Str), Kls K mg cls "steps" := fun cls hc => by
    simp only [List.mem_cons, List.not_mem_nil, or_false] at hc
    rcases hc with rfl
    · exact ⟨_, h.o_Reach.1, h.o_Reach.2, h.n_Reach_steps⟩
  refine fokK_of F sc_Reach___init__ fun cdv A outer s H E hcdv hr => ?_
  have tk := takes_of (X := cxOf (L2.CX P w) P w K mg base ["self", "start", "lines", "done", "number", "line", "at", "variable", "place"] "Reach.__init__" (defScope s_Reach___init__) f cdv A outer s H E) (E := E) rfl rfl rfl rfl
  have hp := passes_of (X := cxOf (L2.CX P w) P w K mg base ["self", "start", "lines", "done", "number", "line", "at", "variable", "place"] "Reach.__init__" (defScope s_Reach___init__) f cdv A outer s H E) rfl
  exact (jb_cons (js_setF k_lines (je_var 0) (je_var 2)) (jb_cons (js_setF k_bases (je_var 0) (je_disp (jkp_cons (je_var 1) je_int jkp_nil))) (jb_cons (js_setF k_steps (je_var 0) (je_disp (jkp_cons (je_var 1) (je_lst ja_nil) jkp_nil))) (jb_cons (js_setF k_order (je_var 0) (je_own (ja_cons (je_var 1) ja_nil))) (jb_cons (js_set 3 sc_Reach___init__.nd je_int) (jb_one (js_while hp (jt_cmp jo_lt (je_var 3) (je_callB jc_len (by rfl) m_len (by decide +kernel) (ja_cons (je_fld k_order (je_var 0)) ja_nil))) (jb_cons (js_for hp rfl (ji_enum (by rfl) m_enumerate (ja_cons (je_var 2) ja_nil)) (jg_tup rfl (jgs_cons (jg_name (i := 4) sc_Reach___init__.nd) (jgs_cons (jg_name (i := 5) sc_Reach___init__.nd) jgs_nil))) (jb_one (js_for hp rfl (ji_enum (by rfl) m_enumerate (ja_cons (je_var 5) ja_nil)) (jg_tup rfl (jgs_cons (jg_name (i := 6) sc_Reach___init__.nd) (jgs_cons (jg_tup rfl (jgs_cons (jg_name (i := 7) sc_Reach___init__.nd) (jgs_cons (jg_name (i := 8) sc_Reach___init__.nd) jgs_nil))) jgs_nil))) (jb_one (js_if (jt_cmp (jo_eq hr.units) (je_var 7) (je_ix (je_fld k_order (je_var 0)) (je_var 3))) (jb_one (js_expr (je_meth c_Reach_go_on (hr.mono (by decide)) tk (je_var 0) (ja_cons (je_var 4) (ja_cons (je_var 6) ja_nil))))) jb_nil))))) (jb_one (js_set 3 sc_Reach___init__.nd (je_bin jo_add (je_var 3) je_int)))))))))))
theorem cal_Reach___init__ (h : Hd K mg) (c_Reach_go_on : MCal P w K mg base 1 "Reach" "go_on" ["self", "number", "at"] F_Reach_go_on) : ICal P w K mg base 2 "Reach" ["self", "start", "lines"] F_Reach___init__ := by
  obtain ⟨fd, F⟩ := h.f_Reach___init__
  exact ⟨_, _, fd, h.o_Reach.1, h.i_Reach, (F.bindsN fun _ _ _ _ _ _ us hl => match us, hl with | [_, _, _], _ => rfl), fok_Reach___init__ h c_Reach_go_on F⟩
theorem fok_groups_of (h : Hd K mg) (c_Reach___init__ : ICal P w K mg base 2 "Reach" ["self", "start", "lines"] F_Reach___init__) {f : Addr} {fd : FuncData} (F : FunD K "groups_of" "groups_of" (defArgs s_groups_of) (defBody s_groups_of) (defScope s_groups_of) [] [] f fd) : FnG P w K mg base 4 f fd ["many", "lines"] (spF ⟨K, mg, w⟩ 2 F_groups_of) := by
  have m_range := h.m_range
  have k_bases : ∀ cls ∈ (["Reach"] : List Str), Kls K mg cls "bases" := fun cls hc => by
    simp only [List.mem_cons, List.not_mem_nil, or_false] at hc
    rcases hc with rfl
    · exact ⟨_, h.o_Reach.1, h.o_Reach.2, h.n_Reach_bases⟩
  refine fok_of F sc_groups_of exitV_ok fun cdv A outer s H E hcdv hr => ?_
  have tk := takes_of (X := cxOf (L2.CX P w) P w K mg base ["many", "lines", "found", "start", "reach", "variable", "base"] "groups_of" (defScope s_groups_of) f cdv A outer s H E) (E := E) rfl rfl rfl rfl
  have hp := passes_of (X := cxOf (L2.CX P w) P w K mg base ["many", "lines", "found", "start", "reach", "variable", "base"] "groups_of" (defScope s_groups_of) f cdv A outer s H E) rfl
  exact (jb_cons (js_set 2 sc_groups_of.nd je_dnew) (jb_cons (js_for hp rfl (ji_rng1 (by rfl) m_range (ja_cons (je_var 0) ja_nil)) (jg_name (i := 3) sc_groups_of.nd) (jb_one (js_if (jt_cmp (jo_notInK hr.units1) (je_var 3) (je_var 2) (by rfl)) (jb_cons (js_set 4 sc_groups_of.nd (je_make c_Reach___init__ (hr.mono (by decide)) tk (by rfl) (ja_cons (je_var 3) (ja_cons (je_var 1) ja_nil)))) (jb_one (js_expr (je_dupd (je_var 2) (je_dc [("variable", 5), ("base", 6)] rfl sc_groups_of.nd (ji_items (je_fzK (je_fld k_bases (je_var 4)))) (blkOk_by (by kernel_rfl)) (fun _ _ _ _ _ => (jg_tup rfl (jgs_cons (jg_name (i := 5) sc_groups_of.nd) (jgs_cons (jg_name (i := 6) sc_groups_of.nd) jgs_nil)))) (by decide) test_no (fun _ _ _ _ _ => (je_var 5)) (fun _ _ _ _ _ => (je_tup (ja_cons (je_var 3) (ja_cons (je_var 6) ja_nil))))))))) jb_nil))) (jb_one (js_ret (je_lc [("variable", 5)] rfl sc_groups_of.nd (ji_rng1 (by rfl) m_range (ja_cons (je_var 0) ja_nil)) (blkOk_by (by kernel_rfl)) (fun _ _ _ _ _ => (jg_name (i := 5) sc_groups_of.nd)) (by decide) test_no (fun _ _ _ _ _ => (je_dix hr.units1 (je_var 2) (je_var 5))))))))
theorem cal_groups_of (h : Hd K mg) (c_Reach___init__ : ICal P w K mg base 2 "Reach" ["self", "start", "lines"] F_Reach___init__) : Cal P w K mg base 4 "groups_of" ["many", "lines"] F_groups_of := by
  obtain ⟨f, fd, hm, F⟩ := h.f_groups_of
  exact cal_of F hm (F.bindsN fun _ _ _ _ _ _ us hl => match us, hl with | [_, _], _ => rfl) (fok_groups_of h c_Reach___init__ F)
theorem fok_do_hold (h : Hd K mg) {f : Addr} {fd : FuncData} (F : FunD K "do_hold" "do_hold" (defArgs s_do_hold) (defBody s_do_hold) (defScope s_do_hold) [] [] f fd) : FnG P w K mg base 1 f fd ["groups", "lines"] (spF ⟨K, mg, w⟩ 2 F_do_hold) := by
  have m_len := h.m_len
  have m_set := h.m_set
  refine fok_of F sc_do_hold exitV_ok fun cdv A outer s H E hcdv hr => ?_
  have tk := takes_of (X := cxOf (L2.CX P w) P w K mg base ["groups", "lines", "line", "spots", "variable", "place"] "do_hold" (defScope s_do_hold) f cdv A outer s H E) (E := E) rfl rfl rfl rfl
  have hp := passes_of (X := cxOf (L2.CX P w) P w K mg base ["groups", "lines", "line", "spots", "variable", "place"] "do_hold" (defScope s_do_hold) f cdv A outer s H E) rfl
  exact (jb_cons (js_for hp rfl (ji_seq (je_var 1)) (jg_name (i := 2) sc_do_hold.nd) (jb_cons (js_setLc 3 [("variable", 4), ("place", 5)] rfl sc_do_hold.nd (ji_seq (je_var 2)) (blkOk_by (by kernel_rfl)) (fun _ _ _ _ _ => (jg_tup rfl (jgs_cons (jg_name (i := 4) sc_do_hold.nd) (jgs_cons (jg_name (i := 5) sc_do_hold.nd) jgs_nil)))) (by decide) test_no (fun _ _ _ _ _ => (je_tup (ja_cons (je_ix (je_ix (je_var 0) (je_var 4)) je_int) (ja_cons (je_bin jo_add (je_ix (je_ix (je_var 0) (je_var 4)) je_int) (je_var 5)) ja_nil)))) (sw_true rfl rfl rfl (by decide +kernel))) (jb_one (js_if (jt_cmp jo_gt (je_lenSetX (by rfl) m_len (by rfl) m_set rfl hr.units (je_var 3)) je_int) (jb_one (js_ret je_bl)) jb_nil)))) (jb_one (js_ret je_bl)))
theorem cal_do_hold (h : Hd K mg) : Cal P w K mg base 1 "do_hold" ["groups", "lines"] F_do_hold := by
  obtain ⟨f, fd, hm, F⟩ := h.f_do_hold
  exact cal_of F hm (F.bindsN fun _ _ _ _ _ _ us hl => match us, hl with | [_, _], _ => rfl) (fok_do_hold h F)
theorem fok_risen (h : Hd K mg) {f : Addr} {fd : FuncData} (F : FunD K "risen" "risen" (defArgs s_risen) (defBody s_risen) (defScope s_risen) [] [] f fd) : FnG P w K mg base 1 f fd ["groups"] (spF ⟨K, mg, w⟩ 1 F_risen) := by
  have m_min := h.m_min
  refine fok_of F sc_risen exitV_ok fun cdv A outer s H E hcdv hr => ?_
  have tk := takes_of (X := cxOf (L2.CX P w) P w K mg base ["groups", "least", "first", "base"] "risen" (defScope s_risen) f cdv A outer s H E) (E := E) rfl rfl rfl rfl
  have hp := passes_of (X := cxOf (L2.CX P w) P w K mg base ["groups", "least", "first", "base"] "risen" (defScope s_risen) f cdv A outer s H E) rfl
  exact (jb_cons (js_set 1 sc_risen.nd je_dnew) (jb_cons (js_for hp rfl (ji_seq (je_var 0)) (jg_tup rfl (jgs_cons (jg_name (i := 2) sc_risen.nd) (jgs_cons (jg_name (i := 3) sc_risen.nd) jgs_nil))) (jb_one (js_dput hr.units1 (je_var 1) (je_var 2) (je_callB (jc_min2 rfl) (by rfl) m_min (by decide +kernel) (ja_cons (je_var 3) (ja_cons (je_dget2 hr.units1 (je_var 1) (je_var 2) (je_var 3)) ja_nil)))))) (jb_one (js_ret (je_lc [("first", 2), ("base", 3)] rfl sc_risen.nd (ji_seq (je_var 0)) (blkOk_by (by kernel_rfl)) (fun _ _ _ _ _ => (jg_tup rfl (jgs_cons (jg_name (i := 2) sc_risen.nd) (jgs_cons (jg_name (i := 3) sc_risen.nd) jgs_nil)))) (by decide) test_no (fun _ _ _ _ _ => (je_tup (ja_cons (je_var 2) (ja_cons (je_bin jo_sub (je_var 3) (je_dix hr.units1 (je_var 1) (je_var 2))) ja_nil)))))))))
theorem cal_risen (h : Hd K mg) : Cal P w K mg base 1 "risen" ["groups"] F_risen := by
  obtain ⟨f, fd, hm, F⟩ := h.f_risen
  exact cal_of F hm (F.bindsN fun _ _ _ _ _ _ us hl => match us, hl with | [_], _ => rfl) (fok_risen h F)
theorem fok_offsets (h : Hd K mg) (c_check_variables : Cal P w K mg base 5 "check_variables" ["variables"] F_check_variables) (c_lines_of : Cal P w K mg base 4 "lines_of" ["variables", "rows"] F_lines_of) (c_groups_of : Cal P w K mg base 4 "groups_of" ["many", "lines"] F_groups_of) (c_do_hold : Cal P w K mg base 1 "do_hold" ["groups", "lines"] F_do_hold) (c_risen : Cal P w K mg base 1 "risen" ["groups"] F_risen) {f : Addr} {fd : FuncData} (F : FunD K "offsets" "offsets" (defArgs s_offsets) (defBody s_offsets) (defScope s_offsets) [] [] f fd) : FnG P w K mg base 6 f fd ["variables", "rows"] (spF ⟨K, mg, w⟩ 2 F_offsets) := by
  have m_len := h.m_len
  have m_zip := h.m_zip
  refine fok_of F sc_offsets exitM_ok fun cdv A outer s H E hcdv hr => ?_
  have tk := takes_of (X := cxOf (L2.CX P w) P w K mg base ["variables", "rows", "lines", "groups", "one", "first", "at"] "offsets" (defScope s_offsets) f cdv A outer s H E) (E := E) rfl rfl rfl rfl
  have hp := passes_of (X := cxOf (L2.CX P w) P w K mg base ["variables", "rows", "lines", "groups", "one", "first", "at"] "offsets" (defScope s_offsets) f cdv A outer s H E) rfl
  exact (jb_cons (js_expr (je_call c_check_variables (hr.mono (by decide)) tk (by rfl) (ja_cons (je_var 0) ja_nil))) (jb_cons (js_set 2 sc_offsets.nd (je_call c_lines_of (hr.mono (by decide)) tk (by rfl) (ja_cons (je_var 0) (ja_cons (je_var 1) ja_nil)))) (jb_cons (js_set 3 sc_offsets.nd (je_call c_groups_of (hr.mono (by decide)) tk (by rfl) (ja_cons (je_callB jc_len (by rfl) m_len (by decide +kernel) (ja_cons (je_var 0) ja_nil)) (ja_cons (je_var 2) ja_nil)))) (jb_cons (js_if (jt_not (jt_val (je_call c_do_hold (hr.mono (by decide)) tk (by rfl) (ja_cons (je_var 3) (ja_cons (je_var 2) ja_nil))))) (jb_one (js_ret je_non)) jb_nil) (jb_one (js_ret (je_lcO [("one", 4), ("first", 5), ("at", 6)] rfl sc_offsets.nd (ji_zip2 (by rfl) m_zip (ja_cons (je_var 0) (ja_cons (je_call c_risen (hr.mono (by decide)) tk (by rfl) (ja_cons (je_var 3) ja_nil)) ja_nil))) (blkOk_by (by kernel_rfl)) (fun _ _ _ _ _ => (jg_tup rfl (jgs_cons (jg_name (i := 4) sc_offsets.nd) (jgs_cons (jg_tup rfl (jgs_cons (jg_name (i := 5) sc_offsets.nd) (jgs_cons (jg_name (i := 6) sc_offsets.nd) jgs_nil))) jgs_nil)))) (by decide) test_no (fun _ _ _ _ _ => (je_tup (ja_cons (je_ix (je_var 4) je_int) (ja_cons (je_ix (je_ix (je_var 0) (je_var 5)) je_int) (ja_cons (je_var 6) ja_nil))))))))))))
theorem cal_offsets (h : Hd K mg) (c_check_variables : Cal P w K mg base 5 "check_variables" ["variables"] F_check_variables) (c_lines_of : Cal P w K mg base 4 "lines_of" ["variables", "rows"] F_lines_of) (c_groups_of : Cal P w K mg base 4 "groups_of" ["many", "lines"] F_groups_of) (c_do_hold : Cal P w K mg base 1 "do_hold" ["groups", "lines"] F_do_hold) (c_risen : Cal P w K mg base 1 "risen" ["groups"] F_risen) : Cal P w K mg base 6 "offsets" ["variables", "rows"] F_offsets := by
  obtain ⟨f, fd, hm, F⟩ := h.f_offsets
  exact cal_of F hm (F.bindsN fun _ _ _ _ _ _ us hl => match us, hl with | [_, _], _ => rfl) (fok_offsets h c_check_variables c_lines_of c_groups_of c_do_hold c_risen F)
theorem fok_Reach_wrong (h : Hd K mg) {f : Addr} {fd : FuncData} (F : FunD K "wrong" "Reach.wrong" (defArgs s_Reach_wrong) (defBody s_Reach_wrong) (defScope s_Reach_wrong) [] [] f fd) : FnG P w K mg base 1 f fd ["self"] (spF ⟨K, mg, w⟩ 1 F_Reach_wrong) := by
  have m_enumerate := h.m_enumerate
  have m_len := h.m_len
  have k_bases : ∀ cls ∈ (["Reach"] : List Str), Kls K mg cls "bases" := fun cls hc => by
    simp only [List.mem_cons, List.not_mem_nil, or_false] at hc
    rcases hc with rfl
    · exact ⟨_, h.o_Reach.1, h.o_Reach.2, h.n_Reach_bases⟩
  have k_lines : ∀ cls ∈ (["Reach"] : List Str), Kls K mg cls "lines" := fun cls hc => by
    simp only [List.mem_cons, List.not_mem_nil, or_false] at hc
    rcases hc with rfl
    · exact ⟨_, h.o_Reach.1, h.o_Reach.2, h.n_Reach_lines⟩
  have k_steps : ∀ cls ∈ (["Reach"] : List Str), Kls K mg cls "steps" := fun cls hc => by
    simp only [List.mem_cons, List.not_mem_nil, or_false] at hc
    rcases hc with rfl
    · exact ⟨_, h.o_Reach.1, h.o_Reach.2, h.n_Reach_steps⟩
  refine fokQ_of F sc_Reach_wrong exitV_ok fun cdv A outer s H E hcdv hr => ?_
  have tk := takes_of (X := cxOf (L2.CX P w) P w K mg base ["self", "found", "number", "line", "at", "one", "place", "to", "other", "behind", "back", "steps", "step"] "Reach.wrong" (defScope s_Reach_wrong) f cdv A outer s H E) (E := E) rfl rfl rfl rfl
  have hp := passes_of (X := cxOf (L2.CX P w) P w K mg base ["self", "found", "number", "line", "at", "one", "place", "to", "other", "behind", "back", "steps", "step"] "Reach.wrong" (defScope s_Reach_wrong) f cdv A outer s H E) rfl
  exact (jb_cons (js_set 1 sc_Reach_wrong.nd je_non) (jb_cons (js_for hp rfl (ji_enum (by rfl) m_enumerate (ja_cons (je_fld k_lines (je_var 0)) ja_nil)) (jg_tup rfl (jgs_cons (jg_name (i := 2) sc_Reach_wrong.nd) (jgs_cons (jg_name (i := 3) sc_Reach_wrong.nd) jgs_nil))) (jb_one (js_for hp rfl (ji_enum (by rfl) m_enumerate (ja_cons (je_var 3) ja_nil)) (jg_tup rfl (jgs_cons (jg_name (i := 4) sc_Reach_wrong.nd) (jgs_cons (jg_tup rfl (jgs_cons (jg_name (i := 5) sc_Reach_wrong.nd) (jgs_cons (jg_name (i := 6) sc_Reach_wrong.nd) jgs_nil))) jgs_nil))) (jb_one (js_for hp rfl (ji_enum (by rfl) m_enumerate (ja_cons (je_var 3) ja_nil)) (jg_tup rfl (jgs_cons (jg_name (i := 7) sc_Reach_wrong.nd) (jgs_cons (jg_tup rfl (jgs_cons (jg_name (i := 8) sc_Reach_wrong.nd) (jgs_cons (jg_name (i := 9) sc_Reach_wrong.nd) jgs_nil))) jgs_nil))) (jb_one (js_if (JW.pt (jw_and (jt_cmp (jo_inK hr.units1) (je_var 5) (je_fld k_bases (je_var 0)) (by rfl)) (jw_and (jt_cmp jo_lt (je_var 4) (je_var 7)) (jw_and1 (jt_cmp (jo_ne hr.units) (je_bin jo_add (je_dix hr.units1 (je_fld k_bases (je_var 0)) (je_var 5)) (je_var 6)) (je_bin jo_add (je_dix hr.units1 (je_fld k_bases (je_var 0)) (je_var 8)) (je_var 9))))))) (jb_cons (js_setLc 10 [("step", 12)] rfl sc_Reach_wrong.nd (ji_seq (je_rev (je_dix hr.units1 (je_fld k_steps (je_var 0)) (je_var 8)))) (blkOk_by (by kernel_rfl)) (fun _ _ _ _ _ => (jg_name (i := 12) sc_Reach_wrong.nd)) (by decide) test_no (fun _ _ _ _ _ => (je_tup (ja_cons (je_ix (je_var 12) je_int) (ja_cons (je_ix (je_var 12) je_int) (ja_cons (je_ix (je_var 12) je_int) ja_nil))))) (sw_true rfl rfl rfl (by decide +kernel))) (jb_cons (js_set 11 sc_Reach_wrong.nd (je_bin jo_add (je_bin jo_add (je_dix hr.units1 (je_fld k_steps (je_var 0)) (je_var 5)) (je_lst (ja_cons (je_tup (ja_cons (je_var 2) (ja_cons (je_var 4) (ja_cons (je_var 7) ja_nil)))) ja_nil))) (je_var 10))) (jb_one (js_set 1 sc_Reach_wrong.nd (je_if (JW.pt (jw_or (jt_cmp jo_isN (je_var 1) je_non) (jw_or1 (jt_cmp jo_lt (je_callB jc_len (by rfl) m_len (by decide +kernel) (ja_cons (je_var 11) ja_nil)) (je_callB jc_len (by rfl) m_len (by decide +kernel) (ja_cons (je_var 1) ja_nil)))))) (je_var 11) (je_var 1)))))) jb_nil))))))) (jb_one (js_ret (je_var 1)))))
theorem cal_Reach_wrong (h : Hd K mg) : MCal P w K mg base 1 "Reach" "wrong" ["self"] F_Reach_wrong := by
  obtain ⟨fd, F⟩ := h.f_Reach_wrong
  exact ⟨_, _, fd, h.o_Reach.1, h.o_Reach.2, h.e_Reach_wrong, (F.bindsN fun _ _ _ _ _ _ us hl => match us, hl with | [_], _ => rfl), fok_Reach_wrong h F⟩
theorem fok_ring_of (h : Hd K mg) (c_Reach_wrong : MCal P w K mg base 1 "Reach" "wrong" ["self"] F_Reach_wrong) (c_Reach___init__ : ICal P w K mg base 2 "Reach" ["self", "start", "lines"] F_Reach___init__) (c_groups_of : Cal P w K mg base 4 "groups_of" ["many", "lines"] F_groups_of) (c_do_hold : Cal P w K mg base 1 "do_hold" ["groups", "lines"] F_do_hold) {f : Addr} {fd : FuncData} (F : FunD K "ring_of" "ring_of" (defArgs s_ring_of) (defBody s_ring_of) (defScope s_ring_of) [] [] f fd) : FnG P w K mg base 5 f fd ["many", "lines"] (spF ⟨K, mg, w⟩ 2 F_ring_of) := by
  have m_len := h.m_len
  have m_min := h.m_min
  have m_range := h.m_range
  have m_tuple := h.m_tuple
  refine fok_of F sc_ring_of exitV_ok fun cdv A outer s H E hcdv hr => ?_
  have tk := takes_of (X := cxOf (L2.CX P w) P w K mg base ["many", "lines", "rings", "start", "steps"] "ring_of" (defScope s_ring_of) f cdv A outer s H E) (E := E) rfl rfl rfl rfl
  have hp := passes_of (X := cxOf (L2.CX P w) P w K mg base ["many", "lines", "rings", "start", "steps"] "ring_of" (defScope s_ring_of) f cdv A outer s H E) rfl
  exact (jb_cons (js_if (jt_val (je_call c_do_hold (hr.mono (by decide)) tk (by rfl) (ja_cons (je_call c_groups_of (hr.mono (by decide)) tk (by rfl) (ja_cons (je_var 0) (ja_cons (je_var 1) ja_nil))) (ja_cons (je_var 1) ja_nil)))) (jb_one (js_ret je_non)) jb_nil) (jb_cons (js_setLc 2 [("start", 3)] rfl sc_ring_of.nd (ji_rng1 (by rfl) m_range (ja_cons (je_var 0) ja_nil)) (blkOk_by (by kernel_rfl)) (fun _ _ _ _ _ => (jg_name (i := 3) sc_ring_of.nd)) (by decide) test_no (fun _ _ _ _ _ => (je_meth0 c_Reach_wrong (hr.mono (by decide)) takes0 (je_make c_Reach___init__ (hr.mono (by decide)) takes0 (by rfl) (ja_cons (je_var 3) (ja_cons (je_var 1) ja_nil))))) (sw_true rfl rfl rfl (by decide +kernel))) (jb_one (js_ret (je_callTy jc_tuple (by rfl) m_tuple (by decide +kernel) (ja_cons (je_minLen (by rfl) m_min (by rfl) m_len rfl (je_lc [("steps", 4)] rfl sc_ring_of.nd (ji_seq (je_var 2)) (blkOk_by (by kernel_rfl)) (fun _ _ _ _ _ => (jg_name (i := 4) sc_ring_of.nd)) (by decide) (test_one fun _ _ _ _ _ => (jt_cmp jo_notN (je_var 4) je_non)) (fun _ _ _ _ _ => (je_var 4)))) ja_nil))))))
theorem cal_ring_of (h : Hd K mg) (c_Reach_wrong : MCal P w K mg base 1 "Reach" "wrong" ["self"] F_Reach_wrong) (c_Reach___init__ : ICal P w K mg base 2 "Reach" ["self", "start", "lines"] F_Reach___init__) (c_groups_of : Cal P w K mg base 4 "groups_of" ["many", "lines"] F_groups_of) (c_do_hold : Cal P w K mg base 1 "do_hold" ["groups", "lines"] F_do_hold) : Cal P w K mg base 5 "ring_of" ["many", "lines"] F_ring_of := by
  obtain ⟨f, fd, hm, F⟩ := h.f_ring_of
  exact cal_of F hm (F.bindsN fun _ _ _ _ _ _ us hl => match us, hl with | [_, _], _ => rfl) (fok_ring_of h c_Reach_wrong c_Reach___init__ c_groups_of c_do_hold F)
theorem fok_ring (h : Hd K mg) (c_check_variables : Cal P w K mg base 5 "check_variables" ["variables"] F_check_variables) (c_lines_of : Cal P w K mg base 4 "lines_of" ["variables", "rows"] F_lines_of) (c_ring_of : Cal P w K mg base 5 "ring_of" ["many", "lines"] F_ring_of) {f : Addr} {fd : FuncData} (F : FunD K "ring" "ring" (defArgs s_ring) (defBody s_ring) (defScope s_ring) [] [] f fd) : FnG P w K mg base 6 f fd ["variables", "rows"] (spF ⟨K, mg, w⟩ 2 F_ring) := by
  have m_len := h.m_len
  refine fok_of F sc_ring exitV_ok fun cdv A outer s H E hcdv hr => ?_
  have tk := takes_of (X := cxOf (L2.CX P w) P w K mg base ["variables", "rows"] "ring" (defScope s_ring) f cdv A outer s H E) (E := E) rfl rfl rfl rfl
  have hp := passes_of (X := cxOf (L2.CX P w) P w K mg base ["variables", "rows"] "ring" (defScope s_ring) f cdv A outer s H E) rfl
  exact (jb_cons (js_expr (je_call c_check_variables (hr.mono (by decide)) tk (by rfl) (ja_cons (je_var 0) ja_nil))) (jb_one (js_ret (je_call c_ring_of (hr.mono (by decide)) tk (by rfl) (ja_cons (je_callB jc_len (by rfl) m_len (by decide +kernel) (ja_cons (je_var 0) ja_nil)) (ja_cons (je_call c_lines_of (hr.mono (by decide)) tk (by rfl) (ja_cons (je_var 0) (ja_cons (je_var 1) ja_nil))) ja_nil))))))
theorem cal_ring (h : Hd K mg) (c_check_variables : Cal P w K mg base 5 "check_variables" ["variables"] F_check_variables) (c_lines_of : Cal P w K mg base 4 "lines_of" ["variables", "rows"] F_lines_of) (c_ring_of : Cal P w K mg base 5 "ring_of" ["many", "lines"] F_ring_of) : Cal P w K mg base 6 "ring" ["variables", "rows"] F_ring := by
  obtain ⟨f, fd, hm, F⟩ := h.f_ring
  exact cal_of F hm (F.bindsN fun _ _ _ _ _ _ us hl => match us, hl with | [_, _], _ => rfl) (fok_ring h c_check_variables c_lines_of c_ring_of F)
theorem fok__law_draw (h : Hd K mg) {f : Addr} {fd : FuncData} (F : FunD K "_law_draw" "_law_draw" (defArgs s__law_draw) (defBody s__law_draw) (defScope s__law_draw) [] [] f fd) : FnG P w K mg base 1 f fd ["_law_well_here", "_law_many"] (spF ⟨K, mg, w⟩ 2 F__law_draw) := by
  have m_int := h.m_int
  refine fok_of F sc__law_draw exitV_ok fun cdv A outer s H E hcdv hr => ?_
  have tk := takes_of (X := cxOf (L2.CX P w) P w K mg base ["_law_well_here", "_law_many", "_law_drawn", "_law_mixed"] "_law_draw" (defScope s__law_draw) f cdv A outer s H E) (E := E) rfl rfl rfl rfl
  have hp := passes_of (X := cxOf (L2.CX P w) P w K mg base ["_law_well_here", "_law_many", "_law_drawn", "_law_mixed"] "_law_draw" (defScope s__law_draw) f cdv A outer s H E) rfl
  exact (jb_cons (js_if (jt_cmp jo_gt (je_ix (je_var 0) je_int) je_int) (jb_cons (js_set 2 sc__law_draw.nd (je_bin jo_mod (je_callTy jc_int (by rfl) m_int (by decide +kernel) (ja_cons (je_ix (je_var 0) je_int) ja_nil)) (je_var 1))) (jb_cons (js_setIx (je_var 0) je_int (je_bin jo_fdiv (je_ix (je_var 0) je_int) (je_var 1))) (jb_one (js_ret (je_var 2))))) jb_nil) (jb_cons (js_setIx (je_var 0) je_int (je_bin jo_add (je_ix (je_var 0) je_int) je_int)) (jb_cons (js_set 3 sc__law_draw.nd (je_bin jo_mod (je_callTy jc_int (by rfl) m_int (by decide +kernel) (ja_cons (je_bin jo_mul (je_bin jo_add (je_bin jo_add (je_ix (je_var 0) je_int) (je_bin jo_mul je_int (je_ix (je_var 0) je_int))) je_int) je_int) ja_nil)) je_int)) (jb_cons (js_set 3 sc__law_draw.nd (je_bin jo_mod (je_callTy jc_int (by rfl) m_int (by decide +kernel) (ja_cons (je_bin jo_mul (je_var 3) (je_bin jo_add (je_bin jo_fdiv (je_var 3) je_int) je_int)) ja_nil)) je_int)) (jb_one (js_ret (je_bin jo_mod (je_callTy jc_int (by rfl) m_int (by decide +kernel) (ja_cons (je_bin jo_fdiv (je_bin jo_mod (je_callTy jc_int (by rfl) m_int (by decide +kernel) (ja_cons (je_bin jo_mul (je_var 3) (je_bin jo_add (je_bin jo_fdiv (je_var 3) je_int) je_int)) ja_nil)) je_int) je_int) ja_nil)) (je_var 1))))))))
theorem cal__law_draw (h : Hd K mg) : Cal P w K mg base 1 "_law_draw" ["_law_well_here", "_law_many"] F__law_draw := by
  obtain ⟨f, fd, hm, F⟩ := h.f__law_draw
  exact cal_of F hm (F.bindsN fun _ _ _ _ _ _ us hl => match us, hl with | [_, _], _ => rfl) (fok__law_draw h F)
theorem fok__law_pick (h : Hd K mg) (c__law_draw : Cal P w K mg base 1 "_law_draw" ["_law_well_here", "_law_many"] F__law_draw) {f : Addr} {fd : FuncData} (F : FunD K "_law_pick" "_law_pick" (defArgs s__law_pick) (defBody s__law_pick) (defScope s__law_pick) [] [] f fd) : FnG P w K mg base 2 f fd ["_law_well_here", "_law_some"] (spF ⟨K, mg, w⟩ 2 F__law_pick) := by
  have m_len := h.m_len
  refine fok_of F sc__law_pick exitV_ok fun cdv A outer s H E hcdv hr => ?_
  have tk := takes_of (X := cxOf (L2.CX P w) P w K mg base ["_law_well_here", "_law_some"] "_law_pick" (defScope s__law_pick) f cdv A outer s H E) (E := E) rfl rfl rfl rfl
  have hp := passes_of (X := cxOf (L2.CX P w) P w K mg base ["_law_well_here", "_law_some"] "_law_pick" (defScope s__law_pick) f cdv A outer s H E) rfl
  exact (jb_one (js_ret (je_ix (je_var 1) (je_call c__law_draw (hr.mono (by decide)) tk (by rfl) (ja_cons (je_var 0) (ja_cons (je_callB jc_len (by rfl) m_len (by decide +kernel) (ja_cons (je_var 1) ja_nil)) ja_nil))))))
theorem cal__law_pick (h : Hd K mg) (c__law_draw : Cal P w K mg base 1 "_law_draw" ["_law_well_here", "_law_many"] F__law_draw) : Cal P w K mg base 2 "_law_pick" ["_law_well_here", "_law_some"] F__law_pick := by
  obtain ⟨f, fd, hm, F⟩ := h.f__law_pick
  exact cal_of F hm (F.bindsN fun _ _ _ _ _ _ us hl => match us, hl with | [_, _], _ => rfl) (fok__law_pick h c__law_draw F)
theorem fok__law_bounds (h : Hd K mg) (c__law_draw : Cal P w K mg base 1 "_law_draw" ["_law_well_here", "_law_many"] F__law_draw) (c__law_pick : Cal P w K mg base 2 "_law_pick" ["_law_well_here", "_law_some"] F__law_pick) {f : Addr} {fd : FuncData} (F : FunD K "_law_bounds" "_law_bounds" (defArgs s__law_bounds) (defBody s__law_bounds) (defScope s__law_bounds) [] [] f fd) : FnG P w K mg base 3 f fd ["_law_well_here", "_law_most"] (spF ⟨K, mg, w⟩ 2 F__law_bounds) := by
  have m_range := h.m_range
  have m_tuple := h.m_tuple
  refine fok_of F sc__law_bounds exitV_ok fun cdv A outer s H E hcdv hr => ?_
  have tk := takes_of (X := cxOf (L2.CX P w) P w K mg base ["_law_well_here", "_law_most", "_law_found", "_law_turn", "_law_low"] "_law_bounds" (defScope s__law_bounds) f cdv A outer s H E) (E := E) rfl rfl rfl rfl
  have hp := passes_of (X := cxOf (L2.CX P w) P w K mg base ["_law_well_here", "_law_most", "_law_found", "_law_turn", "_law_low"] "_law_bounds" (defScope s__law_bounds) f cdv A outer s H E) rfl
  exact (jb_cons (js_set 2 sc__law_bounds.nd (je_own ja_nil)) (jb_cons (js_for hp rfl (ji_rng1 (by rfl) m_range (ja_cons (je_call c__law_pick (hr.mono (by decide)) tk (by rfl) (ja_cons (je_var 0) (ja_cons (je_lst (ja_cons je_int (ja_cons je_int (ja_cons je_int (ja_cons je_int (ja_cons je_int (ja_cons je_int ja_nil))))))) ja_nil))) ja_nil)) (jg_name (i := 3) sc__law_bounds.nd) (jb_cons (js_set 4 sc__law_bounds.nd (je_bin jo_sub (je_call c__law_draw (hr.mono (by decide)) tk (by rfl) (ja_cons (je_var 0) (ja_cons je_int ja_nil))) je_int)) (jb_one (js_append (je_var 2) (je_tup (ja_cons (je_var 4) (ja_cons (je_bin jo_add (je_var 4) (je_call c__law_draw (hr.mono (by decide)) tk (by rfl) (ja_cons (je_var 0) (ja_cons (je_var 1) ja_nil)))) ja_nil))))))) (jb_one (js_ret (je_callTy jc_tuple (by rfl) m_tuple (by decide +kernel) (ja_cons (je_var 2) ja_nil))))))
theorem cal__law_bounds (h : Hd K mg) (c__law_draw : Cal P w K mg base 1 "_law_draw" ["_law_well_here", "_law_many"] F__law_draw) (c__law_pick : Cal P w K mg base 2 "_law_pick" ["_law_well_here", "_law_some"] F__law_pick) : Cal P w K mg base 3 "_law_bounds" ["_law_well_here", "_law_most"] F__law_bounds := by
  obtain ⟨f, fd, hm, F⟩ := h.f__law_bounds
  exact cal_of F hm (F.bindsN fun _ _ _ _ _ _ us hl => match us, hl with | [_, _], _ => rfl) (fok__law_bounds h c__law_draw c__law_pick F)
theorem fok__law_parts (h : Hd K mg) (c__law_pick : Cal P w K mg base 2 "_law_pick" ["_law_well_here", "_law_some"] F__law_pick) (c__law_bounds : Cal P w K mg base 3 "_law_bounds" ["_law_well_here", "_law_most"] F__law_bounds) {f : Addr} {fd : FuncData} (F : FunD K "_law_parts" "_law_parts" (defArgs s__law_parts) (defBody s__law_parts) (defScope s__law_parts) [] [] f fd) : FnG P w K mg base 4 f fd ["_law_well_here", "_law_many", "_law_most"] (spF ⟨K, mg, w⟩ 3 F__law_parts) := by
  refine fok_of F sc__law_parts exitV_ok fun cdv A outer s H E hcdv hr => ?_
  have tk := takes_of (X := cxOf (L2.CX P w) P w K mg base ["_law_well_here", "_law_many", "_law_most", "_law_names", "_law_name"] "_law_parts" (defScope s__law_parts) f cdv A outer s H E) (E := E) rfl rfl rfl rfl
  have hp := passes_of (X := cxOf (L2.CX P w) P w K mg base ["_law_well_here", "_law_many", "_law_most", "_law_names", "_law_name"] "_law_parts" (defScope s__law_parts) f cdv A outer s H E) rfl
  exact (jb_cons (js_set 3 sc__law_parts.nd (je_slice (je_lst (ja_cons je_str (ja_cons je_str (ja_cons je_str (ja_cons je_str (ja_cons je_str (ja_cons je_str (ja_cons je_str (ja_cons je_str ja_nil))))))))) jp_none (jp_some (je_var 1)))) (jb_one (js_ret (je_lc [("_law_name", 4)] rfl sc__law_parts.nd (ji_seq (je_var 3)) (blkOk_by (by kernel_rfl)) (fun _ _ _ _ _ => (jg_name (i := 4) sc__law_parts.nd)) (by decide) test_no (fun _ _ _ _ _ => (je_tup (ja_cons (je_var 4) (ja_cons (je_call c__law_pick (hr.mono (by decide)) takes0 (by rfl) (ja_cons (je_var 0) (ja_cons (je_lst (ja_cons je_int (ja_cons je_int (ja_cons je_int (ja_cons je_int (ja_cons je_int (ja_cons je_int ja_nil))))))) ja_nil))) (ja_cons (je_call c__law_bounds (hr.mono (by decide)) takes0 (by rfl) (ja_cons (je_var 0) (ja_cons (je_var 2) ja_nil))) ja_nil)))))))))
theorem cal__law_parts (h : Hd K mg) (c__law_pick : Cal P w K mg base 2 "_law_pick" ["_law_well_here", "_law_some"] F__law_pick) (c__law_bounds : Cal P w K mg base 3 "_law_bounds" ["_law_well_here", "_law_most"] F__law_bounds) : Cal P w K mg base 4 "_law_parts" ["_law_well_here", "_law_many", "_law_most"] F__law_parts := by
  obtain ⟨f, fd, hm, F⟩ := h.f__law_parts
  exact cal_of F hm (F.bindsN fun _ _ _ _ _ _ us hl => match us, hl with | [_, _, _], _ => rfl) (fok__law_parts h c__law_pick c__law_bounds F)
theorem fok__law_wide (h : Hd K mg) {f : Addr} {fd : FuncData} (F : FunD K "_law_wide" "_law_wide" (defArgs s__law_wide) (defBody s__law_wide) (defScope s__law_wide) [] [] f fd) : FnG P w K mg base 1 f fd ["_law_bounds_here"] (spF ⟨K, mg, w⟩ 1 F__law_wide) := by
  refine fok_of F sc__law_wide exitV_ok fun cdv A outer s H E hcdv hr => ?_
  have tk := takes_of (X := cxOf (L2.CX P w) P w K mg base ["_law_bounds_here", "_law_found", "_law_low", "_law_high"] "_law_wide" (defScope s__law_wide) f cdv A outer s H E) (E := E) rfl rfl rfl rfl
  have hp := passes_of (X := cxOf (L2.CX P w) P w K mg base ["_law_bounds_here", "_law_found", "_law_low", "_law_high"] "_law_wide" (defScope s__law_wide) f cdv A outer s H E) rfl
  exact (jb_cons (js_set 1 sc__law_wide.nd je_int) (jb_cons (js_for hp rfl (ji_seq (je_var 0)) (jg_tup rfl (jgs_cons (jg_name (i := 2) sc__law_wide.nd) (jgs_cons (jg_name (i := 3) sc__law_wide.nd) jgs_nil))) (jb_one (js_set 1 sc__law_wide.nd (je_bin jo_mul (je_var 1) (je_bin jo_add (je_bin jo_sub (je_var 3) (je_var 2)) je_int))))) (jb_one (js_ret (je_var 1)))))
theorem cal__law_wide (h : Hd K mg) : Cal P w K mg base 1 "_law_wide" ["_law_bounds_here"] F__law_wide := by
  obtain ⟨f, fd, hm, F⟩ := h.f__law_wide
  exact cal_of F hm (F.bindsN fun _ _ _ _ _ _ us hl => match us, hl with | [_], _ => rfl) (fok__law_wide h F)
theorem fok__law_at (h : Hd K mg) {f : Addr} {fd : FuncData} (F : FunD K "_law_at" "_law_at" (defArgs s__law_at) (defBody s__law_at) (defScope s__law_at) [] [] f fd) : FnG P w K mg base 1 f fd ["_law_bounds_here", "_law_number"] (spF ⟨K, mg, w⟩ 2 F__law_at) := by
  have m_int := h.m_int
  have m_tuple := h.m_tuple
  refine fok_of F sc__law_at exitV_ok fun cdv A outer s H E hcdv hr => ?_
  have tk := takes_of (X := cxOf (L2.CX P w) P w K mg base ["_law_bounds_here", "_law_number", "_law_found", "_law_low", "_law_high"] "_law_at" (defScope s__law_at) f cdv A outer s H E) (E := E) rfl rfl rfl rfl
  have hp := passes_of (X := cxOf (L2.CX P w) P w K mg base ["_law_bounds_here", "_law_number", "_law_found", "_law_low", "_law_high"] "_law_at" (defScope s__law_at) f cdv A outer s H E) rfl
  exact (jb_cons (js_set 2 sc__law_at.nd (je_own ja_nil)) (jb_cons (js_for hp rfl (ji_seq (je_var 0)) (jg_tup rfl (jgs_cons (jg_name (i := 3) sc__law_at.nd) (jgs_cons (jg_name (i := 4) sc__law_at.nd) jgs_nil))) (jb_cons (js_append (je_var 2) (je_bin jo_add (je_var 3) (je_bin jo_mod (je_callTy jc_int (by rfl) m_int (by decide +kernel) (ja_cons (je_var 1) ja_nil)) (je_bin jo_add (je_bin jo_sub (je_var 4) (je_var 3)) je_int)))) (jb_one (js_set 1 sc__law_at.nd (je_bin jo_fdiv (je_callTy jc_int (by rfl) m_int (by decide +kernel) (ja_cons (je_var 1) ja_nil)) (je_bin jo_add (je_bin jo_sub (je_var 4) (je_var 3)) je_int)))))) (jb_one (js_ret (je_callTy jc_tuple (by rfl) m_tuple (by decide +kernel) (ja_cons (je_var 2) ja_nil))))))
theorem cal__law_at (h : Hd K mg) : Cal P w K mg base 1 "_law_at" ["_law_bounds_here", "_law_number"] F__law_at := by
  obtain ⟨f, fd, hm, F⟩ := h.f__law_at
  exact cal_of F hm (F.bindsN fun _ _ _ _ _ _ us hl => match us, hl with | [_, _], _ => rfl) (fok__law_at h F)
theorem fok__law_member (h : Hd K mg) (c__law_draw : Cal P w K mg base 1 "_law_draw" ["_law_well_here", "_law_many"] F__law_draw) (c__law_at : Cal P w K mg base 1 "_law_at" ["_law_bounds_here", "_law_number"] F__law_at) {f : Addr} {fd : FuncData} (F : FunD K "_law_member" "_law_member" (defArgs s__law_member) (defBody s__law_member) (defScope s__law_member) [] [] f fd) : FnG P w K mg base 2 f fd ["_law_well_here", "_law_part", "_law_spot"] (spF ⟨K, mg, w⟩ 3 F__law_member) := by
  refine fok_of F sc__law_member exitV_ok fun cdv A outer s H E hcdv hr => ?_
  have tk := takes_of (X := cxOf (L2.CX P w) P w K mg base ["_law_well_here", "_law_part", "_law_spot"] "_law_member" (defScope s__law_member) f cdv A outer s H E) (E := E) rfl rfl rfl rfl
  have hp := passes_of (X := cxOf (L2.CX P w) P w K mg base ["_law_well_here", "_law_part", "_law_spot"] "_law_member" (defScope s__law_member) f cdv A outer s H E) rfl
  exact (jb_cons (js_if (JW.pt (jw_and (jt_cmp (jo_eq hr.units) (je_var 2) je_int) (jw_and1 (jt_cmp (jo_eq hr.units) (je_call c__law_draw (hr.mono (by decide)) tk (by rfl) (ja_cons (je_var 0) (ja_cons je_int ja_nil))) je_int)))) (jb_one (js_ret (je_tup (ja_cons (je_ix (je_var 1) je_int) (ja_cons (je_tup ja_nil) ja_nil))))) jb_nil) (jb_one (js_ret (je_tup (ja_cons (je_ix (je_var 1) je_int) (ja_cons (je_call c__law_at (hr.mono (by decide)) tk (by rfl) (ja_cons (je_ix (je_var 1) je_int) (ja_cons (je_var 2) ja_nil))) ja_nil))))))
theorem cal__law_member (h : Hd K mg) (c__law_draw : Cal P w K mg base 1 "_law_draw" ["_law_well_here", "_law_many"] F__law_draw) (c__law_at : Cal P w K mg base 1 "_law_at" ["_law_bounds_here", "_law_number"] F__law_at) : Cal P w K mg base 2 "_law_member" ["_law_well_here", "_law_part", "_law_spot"] F__law_member := by
  obtain ⟨f, fd, hm, F⟩ := h.f__law_member
  exact cal_of F hm (F.bindsN fun _ _ _ _ _ _ us hl => match us, hl with | [_, _, _], _ => rfl) (fok__law_member h c__law_draw c__law_at F)
theorem fok__law_row (h : Hd K mg) (c__law_draw : Cal P w K mg base 1 "_law_draw" ["_law_well_here", "_law_many"] F__law_draw) (c__law_pick : Cal P w K mg base 2 "_law_pick" ["_law_well_here", "_law_some"] F__law_pick) (c__law_wide : Cal P w K mg base 1 "_law_wide" ["_law_bounds_here"] F__law_wide) (c__law_member : Cal P w K mg base 2 "_law_member" ["_law_well_here", "_law_part", "_law_spot"] F__law_member) {f : Addr} {fd : FuncData} (F : FunD K "_law_row" "_law_row" (defArgs s__law_row) (defBody s__law_row) (defScope s__law_row) [] [] f fd) : FnG P w K mg base 3 f fd ["_law_well_here", "_law_parts_so", "_law_bases_here"] (spF ⟨K, mg, w⟩ 3 F__law_row) := by
  have m_enumerate := h.m_enumerate
  have m_int := h.m_int
  have m_len := h.m_len
  have m_tuple := h.m_tuple
  refine fok_of F sc__law_row exitV_ok fun cdv A outer s H E hcdv hr => ?_
  have tk := takes_of (X := cxOf (L2.CX P w) P w K mg base ["_law_well_here", "_law_parts_so", "_law_bases_here", "_law_k", "_law_spot", "_law_unit", "_law_found", "_law_at_here", "_law_part", "_law_far", "_law_fits"] "_law_row" (defScope s__law_row) f cdv A outer s H E) (E := E) rfl rfl rfl rfl
  have hp := passes_of (X := cxOf (L2.CX P w) P w K mg base ["_law_well_here", "_law_parts_so", "_law_bases_here", "_law_k", "_law_spot", "_law_unit", "_law_found", "_law_at_here", "_law_part", "_law_far", "_law_fits"] "_law_row" (defScope s__law_row) f cdv A outer s H E) rfl
  exact (jb_cons (js_set 3 sc__law_row.nd (je_call c__law_draw (hr.mono (by decide)) tk (by rfl) (ja_cons (je_var 0) (ja_cons (je_callB jc_len (by rfl) m_len (by decide +kernel) (ja_cons (je_var 1) ja_nil)) ja_nil)))) (jb_cons (js_set 4 sc__law_row.nd (je_call c__law_draw (hr.mono (by decide)) tk (by rfl) (ja_cons (je_var 0) (ja_cons (je_call c__law_wide (hr.mono (by decide)) tk (by rfl) (ja_cons (je_ix (je_ix (je_var 1) (je_var 3)) je_int) ja_nil)) ja_nil)))) (jb_cons (js_set 5 sc__law_row.nd (je_bin jo_add (je_ix (je_var 2) (je_var 3)) (je_bin jo_mul (je_ix (je_ix (je_var 1) (je_var 3)) je_int) (je_var 4)))) (jb_cons (js_set 6 sc__law_row.nd (je_own (ja_cons (je_call c__law_member (hr.mono (by decide)) tk (by rfl) (ja_cons (je_var 0) (ja_cons (je_ix (je_var 1) (je_var 3)) (ja_cons (je_var 4) ja_nil)))) ja_nil))) (jb_cons (js_for hp rfl (ji_enum (by rfl) m_enumerate (ja_cons (je_var 1) ja_nil)) (jg_tup rfl (jgs_cons (jg_name (i := 7) sc__law_row.nd) (jgs_cons (jg_name (i := 8) sc__law_row.nd) jgs_nil))) (jb_cons (js_set 9 sc__law_row.nd (je_bin jo_sub (je_var 5) (je_ix (je_var 2) (je_var 7)))) (jb_cons (js_set 10 sc__law_row.nd (je_and (je_cmp jo_ge (je_var 9) je_int) (je_and (je_cmp (jo_eq hr.units) (je_bin jo_mod (je_callTy jc_int (by rfl) m_int (by decide +kernel) (ja_cons (je_var 9) ja_nil)) (je_ix (je_var 8) je_int)) je_int) (je_one (je_cmp jo_lt (je_bin jo_fdiv (je_var 9) (je_ix (je_var 8) je_int)) (je_call c__law_wide (hr.mono (by decide)) tk (by rfl) (ja_cons (je_ix (je_var 8) je_int) ja_nil))))))) (jb_one (js_if (JW.pt (jw_and (jt_cmp (jo_ne hr.units) (je_var 7) (je_var 3)) (jw_and (jt_val (je_var 10)) (jw_and1 (jt_cmp (jo_eq hr.units) (je_call c__law_draw (hr.mono (by decide)) tk (by rfl) (ja_cons (je_var 0) (ja_cons je_int ja_nil))) je_int))))) (jb_one (js_append (je_var 6) (je_call c__law_member (hr.mono (by decide)) tk (by rfl) (ja_cons (je_var 0) (ja_cons (je_var 8) (ja_cons (je_bin jo_fdiv (je_var 9) (je_ix (je_var 8) je_int)) ja_nil)))))) jb_nil))))) (jb_cons (js_if (JW.pt (jw_or (jt_cmp jo_lt (je_callB jc_len (by rfl) m_len (by decide +kernel) (ja_cons (je_var 6) ja_nil)) je_int) (jw_or1 (jt_cmp (jo_eq hr.units) (je_call c__law_draw (hr.mono (by decide)) tk (by rfl) (ja_cons (je_var 0) (ja_cons je_int ja_nil))) je_int)))) (jb_cons (js_set 8 sc__law_row.nd (je_call c__law_pick (hr.mono (by decide)) tk (by rfl) (ja_cons (je_var 0) (ja_cons (je_var 1) ja_nil)))) (jb_one (js_append (je_var 6) (je_call c__law_member (hr.mono (by decide)) tk (by rfl) (ja_cons (je_var 0) (ja_cons (je_var 8) (ja_cons (je_call c__law_draw (hr.mono (by decide)) tk (by rfl) (ja_cons (je_var 0) (ja_cons (je_call c__law_wide (hr.mono (by decide)) tk (by rfl) (ja_cons (je_ix (je_var 8) je_int) ja_nil)) ja_nil))) ja_nil))))))) jb_nil) (jb_one (js_ret (je_callTy jc_tuple (by rfl) m_tuple (by decide +kernel) (ja_cons (je_slice (je_var 6) jp_none (jp_some je_int)) ja_nil))))))))))
theorem cal__law_row (h : Hd K mg) (c__law_draw : Cal P w K mg base 1 "_law_draw" ["_law_well_here", "_law_many"] F__law_draw) (c__law_pick : Cal P w K mg base 2 "_law_pick" ["_law_well_here", "_law_some"] F__law_pick) (c__law_wide : Cal P w K mg base 1 "_law_wide" ["_law_bounds_here"] F__law_wide) (c__law_member : Cal P w K mg base 2 "_law_member" ["_law_well_here", "_law_part", "_law_spot"] F__law_member) : Cal P w K mg base 3 "_law_row" ["_law_well_here", "_law_parts_so", "_law_bases_here"] F__law_row := by
  obtain ⟨f, fd, hm, F⟩ := h.f__law_row
  exact cal_of F hm (F.bindsN fun _ _ _ _ _ _ us hl => match us, hl with | [_, _, _], _ => rfl) (fok__law_row h c__law_draw c__law_pick c__law_wide c__law_member F)
theorem fok__law_rows (h : Hd K mg) (c__law_draw : Cal P w K mg base 1 "_law_draw" ["_law_well_here", "_law_many"] F__law_draw) (c__law_row : Cal P w K mg base 3 "_law_row" ["_law_well_here", "_law_parts_so", "_law_bases_here"] F__law_row) {f : Addr} {fd : FuncData} (F : FunD K "_law_rows" "_law_rows" (defArgs s__law_rows) (defBody s__law_rows) (defScope s__law_rows) [] [] f fd) : FnG P w K mg base 4 f fd ["_law_well_here", "_law_parts_so", "_law_most"] (spF ⟨K, mg, w⟩ 3 F__law_rows) := by
  have m_range := h.m_range
  refine fok_of F sc__law_rows exitV_ok fun cdv A outer s H E hcdv hr => ?_
  have tk := takes_of (X := cxOf (L2.CX P w) P w K mg base ["_law_well_here", "_law_parts_so", "_law_most", "_law_bases_here", "_law_part", "_law_turn"] "_law_rows" (defScope s__law_rows) f cdv A outer s H E) (E := E) rfl rfl rfl rfl
  have hp := passes_of (X := cxOf (L2.CX P w) P w K mg base ["_law_well_here", "_law_parts_so", "_law_most", "_law_bases_here", "_law_part", "_law_turn"] "_law_rows" (defScope s__law_rows) f cdv A outer s H E) rfl
  exact (jb_cons (js_set 3 sc__law_rows.nd (je_lc [("_law_part", 4)] rfl sc__law_rows.nd (ji_seq (je_var 1)) (blkOk_by (by kernel_rfl)) (fun _ _ _ _ _ => (jg_name (i := 4) sc__law_rows.nd)) (by decide) test_no (fun _ _ _ _ _ => (je_call c__law_draw (hr.mono (by decide)) takes0 (by rfl) (ja_cons (je_var 0) (ja_cons je_int ja_nil)))))) (jb_one (js_ret (je_lc [("_law_turn", 5)] rfl sc__law_rows.nd (ji_rng1 (by rfl) m_range (ja_cons (je_call c__law_draw (hr.mono (by decide)) tk (by rfl) (ja_cons (je_var 0) (ja_cons (je_bin jo_add (je_var 2) je_int) ja_nil))) ja_nil)) (blkOk_by (by kernel_rfl)) (fun _ _ _ _ _ => (jg_name (i := 5) sc__law_rows.nd)) (by decide) test_no (fun _ _ _ _ _ => (je_call c__law_row (hr.mono (by decide)) takes0 (by rfl) (ja_cons (je_var 0) (ja_cons (je_var 1) (ja_cons (je_var 3) ja_nil)))))))))
theorem cal__law_rows (h : Hd K mg) (c__law_draw : Cal P w K mg base 1 "_law_draw" ["_law_well_here", "_law_many"] F__law_draw) (c__law_row : Cal P w K mg base 3 "_law_row" ["_law_well_here", "_law_parts_so", "_law_bases_here"] F__law_row) : Cal P w K mg base 4 "_law_rows" ["_law_well_here", "_law_parts_so", "_law_most"] F__law_rows := by
  obtain ⟨f, fd, hm, F⟩ := h.f__law_rows
  exact cal_of F hm (F.bindsN fun _ _ _ _ _ _ us hl => match us, hl with | [_, _, _], _ => rfl) (fok__law_rows h c__law_draw c__law_row F)
theorem fok__law_renamed (h : Hd K mg) {f : Addr} {fd : FuncData} (F : FunD K "_law_renamed" "_law_renamed" (defArgs s__law_renamed) (defBody s__law_renamed) (defScope s__law_renamed) [] [] f fd) : FnG P w K mg base 1 f fd ["_law_parts_so", "_law_rows_so", "_law_moves", "_law_by"] (spF ⟨K, mg, w⟩ 4 F__law_renamed) := by
  have m_dict := h.m_dict
  have m_tuple := h.m_tuple
  have m_zip := h.m_zip
  refine fok_of F sc__law_renamed exitV_ok fun cdv A outer s H E hcdv hr => ?_
  have tk := takes_of (X := cxOf (L2.CX P w) P w K mg base ["_law_parts_so", "_law_rows_so", "_law_moves", "_law_by", "_law_table", "_law_news", "_law_name", "_law_size", "_law_bounds_here", "_law_told_here", "_law_lines_here", "_law_row_here", "_law_far", "_law_low", "_law_high", "_law_part", "_law_at_here", "_law_one"] "_law_renamed" (defScope s__law_renamed) f cdv A outer s H E) (E := E) rfl rfl rfl rfl
  have hp := passes_of (X := cxOf (L2.CX P w) P w K mg base ["_law_parts_so", "_law_rows_so", "_law_moves", "_law_by", "_law_table", "_law_news", "_law_name", "_law_size", "_law_bounds_here", "_law_told_here", "_law_lines_here", "_law_row_here", "_law_far", "_law_low", "_law_high", "_law_part", "_law_at_here", "_law_one"] "_law_renamed" (defScope s__law_renamed) f cdv A outer s H E) rfl
  exact (jb_cons (js_parT rfl (ja_cons (je_callTy (jc_dictD rfl) (by rfl) m_dict (by decide +kernel) (ja_cons (je_lc [("_law_part", 15)] rfl sc__law_renamed.nd (ji_seq (je_var 0)) (blkOk_by (by kernel_rfl)) (fun _ _ _ _ _ => (jg_name (i := 15) sc__law_renamed.nd)) (by decide) test_no (fun _ _ _ _ _ => (je_tup (ja_cons (je_ix (je_var 15) je_int) (ja_cons (je_bin jo_add je_str (je_ix (je_var 15) je_int)) ja_nil))))) ja_nil)) (ja_cons (je_own ja_nil) ja_nil)) (jn_cons (i := 4) sc__law_renamed.nd (jn_cons (i := 5) sc__law_renamed.nd jn_nil))) (jb_cons (js_for hp rfl (ji_seq (je_var 0)) (jg_tup rfl (jgs_cons (jg_name (i := 6) sc__law_renamed.nd) (jgs_cons (jg_name (i := 7) sc__law_renamed.nd) (jgs_cons (jg_name (i := 8) sc__law_renamed.nd) jgs_nil)))) (jb_cons (js_setLc 9 [("_law_far", 12), ("_law_low", 13), ("_law_high", 14)] rfl sc__law_renamed.nd (ji_zip2 (by rfl) m_zip (ja_cons (je_var 8) (ja_cons (je_var 2) ja_nil))) (blkOk_by (by kernel_rfl)) (fun _ _ _ _ _ => (jg_tup rfl (jgs_cons (jg_tup rfl (jgs_cons (jg_name (i := 13) sc__law_renamed.nd) (jgs_cons (jg_name (i := 14) sc__law_renamed.nd) jgs_nil))) (jgs_cons (jg_name (i := 12) sc__law_renamed.nd) jgs_nil)))) (by decide) test_no (fun _ _ _ _ _ => (je_tup (ja_cons (je_bin jo_add (je_var 13) (je_var 12)) (ja_cons (je_bin jo_add (je_var 14) (je_var 12)) ja_nil)))) (sw_true rfl rfl rfl (by decide +kernel))) (jb_one (js_append (je_var 5) (je_tup (ja_cons (je_dixK hr.units1 (je_var 4) (je_var 6)) (ja_cons (je_bin jo_mul (je_var 3) (je_var 7)) (ja_cons (je_callTy jc_tuple (by rfl) m_tuple (by decide +kernel) (ja_cons (je_var 9) ja_nil)) ja_nil)))))))) (jb_cons (js_set 10 sc__law_renamed.nd (je_own ja_nil)) (jb_cons (js_for hp rfl (ji_seq (je_var 1)) (jg_name (i := 11) sc__law_renamed.nd) (jb_one (js_append (je_var 10) (je_lc [("_law_name", 6), ("_law_at_here", 16)] rfl sc__law_renamed.nd (ji_seq (je_var 11)) (blkOk_by (by kernel_rfl)) (fun _ _ _ _ _ => (jg_tup rfl (jgs_cons (jg_name (i := 6) sc__law_renamed.nd) (jgs_cons (jg_name (i := 16) sc__law_renamed.nd) jgs_nil)))) (by decide) test_no (fun _ _ _ _ _ => (je_tup (ja_cons (je_dixK hr.units1 (je_var 4) (je_var 6)) (ja_cons (je_callTy jc_tuple (by rfl) m_tuple (by decide +kernel) (ja_cons (je_lc [("_law_one", 17), ("_law_far", 12)] rfl sc__law_renamed.nd (ji_zip2 (by rfl) m_zip (ja_cons (je_var 16) (ja_cons (je_var 2) ja_nil))) (blkOk_by (by kernel_rfl)) (fun _ _ _ _ _ => (jg_tup rfl (jgs_cons (jg_name (i := 17) sc__law_renamed.nd) (jgs_cons (jg_name (i := 12) sc__law_renamed.nd) jgs_nil)))) (by decide) test_no (fun _ _ _ _ _ => (je_bin jo_add (je_var 17) (je_var 12)))) ja_nil)) ja_nil)))))))) (jb_frz 10 (jb_frz 5 (jb_one (js_ret (je_tup (ja_cons (je_var 5) (ja_cons (je_var 10) ja_nil)))))))))))
theorem cal__law_renamed (h : Hd K mg) : Cal P w K mg base 1 "_law_renamed" ["_law_parts_so", "_law_rows_so", "_law_moves", "_law_by"] F__law_renamed := by
  obtain ⟨f, fd, hm, F⟩ := h.f__law_renamed
  exact cal_of F hm (F.bindsN fun _ _ _ _ _ _ us hl => match us, hl with | [_, _, _, _], _ => rfl) (fok__law_renamed h F)
theorem fok_many_elements (h : Hd K mg) {f : Addr} {fd : FuncData} (F : FunD K "many_elements" "many_elements" (defArgs s_many_elements) (defBody s_many_elements) (defScope s_many_elements) [] [] f fd) : FnG P w K mg base 1 f fd ["bounds"] (spF ⟨K, mg, w⟩ 1 F_many_elements) := by
  refine fok_of F sc_many_elements exitV_ok fun cdv A outer s H E hcdv hr => ?_
  have tk := takes_of (X := cxOf (L2.CX P w) P w K mg base ["bounds", "found", "low", "high"] "many_elements" (defScope s_many_elements) f cdv A outer s H E) (E := E) rfl rfl rfl rfl
  have hp := passes_of (X := cxOf (L2.CX P w) P w K mg base ["bounds", "found", "low", "high"] "many_elements" (defScope s_many_elements) f cdv A outer s H E) rfl
  exact (jb_cons (js_set 1 sc_many_elements.nd je_int) (jb_cons (js_for hp rfl (ji_seq (je_var 0)) (jg_tup rfl (jgs_cons (jg_name (i := 2) sc_many_elements.nd) (jgs_cons (jg_name (i := 3) sc_many_elements.nd) jgs_nil))) (jb_one (js_set 1 sc_many_elements.nd (je_bin jo_mul (je_var 1) (je_bin jo_add (je_bin jo_sub (je_var 3) (je_var 2)) je_int))))) (jb_one (js_ret (je_var 1)))))
theorem cal_many_elements (h : Hd K mg) : Cal P w K mg base 1 "many_elements" ["bounds"] F_many_elements := by
  obtain ⟨f, fd, hm, F⟩ := h.f_many_elements
  exact cal_of F hm (F.bindsN fun _ _ _ _ _ _ us hl => match us, hl with | [_], _ => rfl) (fok_many_elements h F)
theorem fok_units_of (h : Hd K mg) (c_many_elements : Cal P w K mg base 1 "many_elements" ["bounds"] F_many_elements) {f : Addr} {fd : FuncData} (F : FunD K "units_of" "units_of" (defArgs s_units_of) (defBody s_units_of) (defScope s_units_of) [] [] f fd) : FnG P w K mg base 2 f fd ["variable"] (spF ⟨K, mg, w⟩ 1 F_units_of) := by
  refine fok_of F sc_units_of exitV_ok fun cdv A outer s H E hcdv hr => ?_
  have tk := takes_of (X := cxOf (L2.CX P w) P w K mg base ["variable"] "units_of" (defScope s_units_of) f cdv A outer s H E) (E := E) rfl rfl rfl rfl
  have hp := passes_of (X := cxOf (L2.CX P w) P w K mg base ["variable"] "units_of" (defScope s_units_of) f cdv A outer s H E) rfl
  exact (jb_one (js_ret (je_bin jo_mul (je_ix (je_var 0) je_int) (je_call c_many_elements (hr.mono (by decide)) tk (by rfl) (ja_cons (je_ix (je_var 0) je_int) ja_nil)))))
theorem cal_units_of (h : Hd K mg) (c_many_elements : Cal P w K mg base 1 "many_elements" ["bounds"] F_many_elements) : Cal P w K mg base 2 "units_of" ["variable"] F_units_of := by
  obtain ⟨f, fd, hm, F⟩ := h.f_units_of
  exact cal_of F hm (F.bindsN fun _ _ _ _ _ _ us hl => match us, hl with | [_], _ => rfl) (fok_units_of h c_many_elements F)
theorem fok_sight_of (h : Hd K mg) (c_check_variables : Cal P w K mg base 5 "check_variables" ["variables"] F_check_variables) (c_units_of : Cal P w K mg base 2 "units_of" ["variable"] F_units_of) (c_lines_of : Cal P w K mg base 4 "lines_of" ["variables", "rows"] F_lines_of) (c_groups_of : Cal P w K mg base 4 "groups_of" ["many", "lines"] F_groups_of) (c_do_hold : Cal P w K mg base 1 "do_hold" ["groups", "lines"] F_do_hold) {f : Addr} {fd : FuncData} (F : FunD K "sight_of" "sight_of" (defArgs s_sight_of) (defBody s_sight_of) (defScope s_sight_of) [] [] f fd) : FnG P w K mg base 6 f fd ["variables", "rows", "one", "other"] (spF ⟨K, mg, w⟩ 4 F_sight_of) := by
  have m_isinstance := h.m_isinstance
  have m_len := h.m_len
  have m_max := h.m_max
  have m_min := h.m_min
  have m_str := h.m_str
  refine fok_of F sc_sight_of exitV_ok fun cdv A outer s H E hcdv hr => ?_
  have tk := takes_of (X := cxOf (L2.CX P w) P w K mg base ["variables", "rows", "one", "other", "lines", "groups", "names", "left", "right", "begins", "low", "high", "is_none", "variable", "at"] "sight_of" (defScope s_sight_of) f cdv A outer s H E) (E := E) rfl rfl rfl rfl
  have hp := passes_of (X := cxOf (L2.CX P w) P w K mg base ["variables", "rows", "one", "other", "lines", "groups", "names", "left", "right", "begins", "low", "high", "is_none", "variable", "at"] "sight_of" (defScope s_sight_of) f cdv A outer s H E) rfl
  exact (jb_cons (js_expr (je_call c_check_variables (hr.mono (by decide)) tk (by rfl) (ja_cons (je_var 0) ja_nil))) (jb_cons (js_set 4 sc_sight_of.nd (je_call c_lines_of (hr.mono (by decide)) tk (by rfl) (ja_cons (je_var 0) (ja_cons (je_var 1) ja_nil)))) (jb_cons (js_set 5 sc_sight_of.nd (je_call c_groups_of (hr.mono (by decide)) tk (by rfl) (ja_cons (je_callB jc_len (by rfl) m_len (by decide +kernel) (ja_cons (je_var 0) ja_nil)) (ja_cons (je_var 4) ja_nil)))) (jb_cons (js_if (jt_not (jt_val (je_call c_do_hold (hr.mono (by decide)) tk (by rfl) (ja_cons (je_var 5) (ja_cons (je_var 4) ja_nil))))) (jb_one js_never) jb_nil) (jb_cons (js_setLc 6 [("variable", 13)] rfl sc_sight_of.nd (ji_seq (je_var 0)) (blkOk_by (by kernel_rfl)) (fun _ _ _ _ _ => (jg_name (i := 13) sc_sight_of.nd)) (by decide) test_no (fun _ _ _ _ _ => (je_ix (je_var 13) je_int)) (sw_true rfl rfl rfl (by decide +kernel))) (jb_cons (js_if (JW.pt (jw_or (jt_not (jt_val (je_isi tab_str (by rfl) m_isinstance (by rfl) m_str (by decide +kernel) (je_var 2)))) (jw_or1 (jt_cmp jo_notIn (je_var 2) (je_var 6) (by rfl))))) (jb_one js_never) jb_nil) (jb_cons (js_if (JW.pt (jw_or (jt_not (jt_val (je_isi tab_str (by rfl) m_isinstance (by rfl) m_str (by decide +kernel) (je_var 3)))) (jw_or1 (jt_cmp jo_notIn (je_var 3) (je_var 6) (by rfl))))) (jb_one js_never) jb_nil) (jb_cons (js_par 7 8 rfl sc_sight_of.nd (ja_cons (je_index (je_var 6) (je_var 2)) (ja_cons (je_index (je_var 6) (je_var 3)) ja_nil))) (jb_cons (js_setLc 9 [("at", 14)] rfl sc_sight_of.nd (ji_seq (je_tup (ja_cons (je_var 7) (ja_cons (je_var 8) ja_nil)))) (blkOk_by (by kernel_rfl)) (fun _ _ _ _ _ => (jg_name (i := 14) sc_sight_of.nd)) (by decide) test_no (fun _ _ _ _ _ => (je_tup (ja_cons (je_ix (je_ix (je_var 5) (je_var 14)) je_int) (ja_cons (je_ix (je_ix (je_var 0) (je_var 14)) je_int) (ja_cons (je_bin jo_add (je_ix (je_ix (je_var 5) (je_var 14)) je_int) (je_call c_units_of (hr.mono (by decide)) takes0 (by rfl) (ja_cons (je_ix (je_var 0) (je_var 14)) ja_nil))) ja_nil))))) (sw_true rfl rfl rfl (by decide +kernel))) (jb_cons (js_par 10 11 rfl sc_sight_of.nd (ja_cons (je_callB (jc_max2 rfl) (by rfl) m_max (by decide +kernel) (ja_cons (je_ix (je_ix (je_var 9) je_int) je_int) (ja_cons (je_ix (je_ix (je_var 9) je_int) je_int) ja_nil))) (ja_cons (je_callB (jc_min2 rfl) (by rfl) m_min (by decide +kernel) (ja_cons (je_ix (je_ix (je_var 9) je_int) je_int) (ja_cons (je_ix (je_ix (je_var 9) je_int) je_int) ja_nil))) ja_nil))) (jb_cons (js_set 12 sc_sight_of.nd (je_or (je_cmp (jo_ne hr.units) (je_ix (je_ix (je_var 5) (je_var 7)) je_int) (je_ix (je_ix (je_var 5) (je_var 8)) je_int)) (je_one (je_cmp jo_ge (je_var 10) (je_var 11))))) (jb_one (js_ret (je_tup (ja_cons (je_ix (je_var 9) je_int) (ja_cons (je_ix (je_var 9) je_int) (ja_cons (je_if (jt_val (je_var 12)) je_non (je_tup (ja_cons (je_var 10) (ja_cons (je_var 11) ja_nil)))) ja_nil)))))))))))))))))
theorem cal_sight_of (h : Hd K mg) (c_check_variables : Cal P w K mg base 5 "check_variables" ["variables"] F_check_variables) (c_units_of : Cal P w K mg base 2 "units_of" ["variable"] F_units_of) (c_lines_of : Cal P w K mg base 4 "lines_of" ["variables", "rows"] F_lines_of) (c_groups_of : Cal P w K mg base 4 "groups_of" ["many", "lines"] F_groups_of) (c_do_hold : Cal P w K mg base 1 "do_hold" ["groups", "lines"] F_do_hold) : Cal P w K mg base 6 "sight_of" ["variables", "rows", "one", "other"] F_sight_of := by
  obtain ⟨f, fd, hm, F⟩ := h.f_sight_of
  exact cal_of F hm (F.bindsN fun _ _ _ _ _ _ us hl => match us, hl with | [_, _, _, _], _ => rfl) (fok_sight_of h c_check_variables c_units_of c_lines_of c_groups_of c_do_hold F)
theorem fok_shared (h : Hd K mg) (c_sight_of : Cal P w K mg base 6 "sight_of" ["variables", "rows", "one", "other"] F_sight_of) {f : Addr} {fd : FuncData} (F : FunD K "shared" "shared" (defArgs s_shared) (defBody s_shared) (defScope s_shared) [] [] f fd) : FnG P w K mg base 7 f fd ["variables", "rows", "one", "other"] (spF ⟨K, mg, w⟩ 4 F_shared) := by
  refine fok_of F sc_shared exitV_ok fun cdv A outer s H E hcdv hr => ?_
  have tk := takes_of (X := cxOf (L2.CX P w) P w K mg base ["variables", "rows", "one", "other", "mine", "its", "both"] "shared" (defScope s_shared) f cdv A outer s H E) (E := E) rfl rfl rfl rfl
  have hp := passes_of (X := cxOf (L2.CX P w) P w K mg base ["variables", "rows", "one", "other", "mine", "its", "both"] "shared" (defScope s_shared) f cdv A outer s H E) rfl
  exact (jb_cons (js_asg (je_call c_sight_of (hr.mono (by decide)) tk (by rfl) (ja_cons (je_var 0) (ja_cons (je_var 1) (ja_cons (je_var 2) (ja_cons (je_var 3) ja_nil))))) (jg_tup rfl (jgs_cons (jg_name (i := 4) sc_shared.nd) (jgs_cons (jg_name (i := 5) sc_shared.nd) (jgs_cons (jg_name (i := 6) sc_shared.nd) jgs_nil))))) (jb_one (js_ret (je_if (jt_cmp jo_isN (je_var 6) je_non) je_non (je_tup (ja_cons (je_bin jo_sub (je_ix (je_var 6) je_int) (je_ix (je_var 4) je_int)) (ja_cons (je_bin jo_sub (je_ix (je_var 6) je_int) (je_ix (je_var 6) je_int)) ja_nil)))))))
theorem cal_shared (h : Hd K mg) (c_sight_of : Cal P w K mg base 6 "sight_of" ["variables", "rows", "one", "other"] F_sight_of) : Cal P w K mg base 7 "shared" ["variables", "rows", "one", "other"] F_shared := by
  obtain ⟨f, fd, hm, F⟩ := h.f_shared
  exact cal_of F hm (F.bindsN fun _ _ _ _ _ _ us hl => match us, hl with | [_, _, _, _], _ => rfl) (fok_shared h c_sight_of F)
theorem fok_stretch (h : Hd K mg) {f : Addr} {fd : FuncData} (F : FunD K "stretch" "stretch" (defArgs s_stretch) (defBody s_stretch) (defScope s_stretch) [] [] f fd) : FnG P w K mg base 1 f fd ["begin", "size", "low", "high"] (spF ⟨K, mg, w⟩ 4 F_stretch) := by
  refine fok_of F sc_stretch exitV_ok fun cdv A outer s H E hcdv hr => ?_
  have tk := takes_of (X := cxOf (L2.CX P w) P w K mg base ["begin", "size", "low", "high"] "stretch" (defScope s_stretch) f cdv A outer s H E) (E := E) rfl rfl rfl rfl
  have hp := passes_of (X := cxOf (L2.CX P w) P w K mg base ["begin", "size", "low", "high"] "stretch" (defScope s_stretch) f cdv A outer s H E) rfl
  exact (jb_one (js_ret (je_tup (ja_cons (je_bin jo_fdiv (je_bin jo_sub (je_var 2) (je_var 0)) (je_var 1)) (ja_cons (je_bin jo_fdiv (je_bin jo_sub (je_bin jo_sub (je_var 3) je_int) (je_var 0)) (je_var 1)) ja_nil)))))
theorem cal_stretch (h : Hd K mg) : Cal P w K mg base 1 "stretch" ["begin", "size", "low", "high"] F_stretch := by
  obtain ⟨f, fd, hm, F⟩ := h.f_stretch
  exact cal_of F hm (F.bindsN fun _ _ _ _ _ _ us hl => match us, hl with | [_, _, _, _], _ => rfl) (fok_stretch h F)
theorem fok_touched (h : Hd K mg) (c_is_between : Cal P w K mg base 2 "is_between" ["value", "low", "high"] F_is_between) (c_stretch : Cal P w K mg base 1 "stretch" ["begin", "size", "low", "high"] F_stretch) (c_sight_of : Cal P w K mg base 6 "sight_of" ["variables", "rows", "one", "other"] F_sight_of) {f : Addr} {fd : FuncData} (F : FunD K "touched" "touched" (defArgs s_touched) (defBody s_touched) (defScope s_touched) [] [] f fd) : FnG P w K mg base 7 f fd ["variables", "rows", "one", "number", "other"] (spF ⟨K, mg, w⟩ 5 F_touched) := by
  have m_max := h.m_max
  have m_min := h.m_min
  refine fok_of F sc_touched exitV_ok fun cdv A outer s H E hcdv hr => ?_
  have tk := takes_of (X := cxOf (L2.CX P w) P w K mg base ["variables", "rows", "one", "number", "other", "mine", "its", "both", "low"] "touched" (defScope s_touched) f cdv A outer s H E) (E := E) rfl rfl rfl rfl
  have hp := passes_of (X := cxOf (L2.CX P w) P w K mg base ["variables", "rows", "one", "number", "other", "mine", "its", "both", "low"] "touched" (defScope s_touched) f cdv A outer s H E) rfl
  exact (jb_cons (js_asg (je_call c_sight_of (hr.mono (by decide)) tk (by rfl) (ja_cons (je_var 0) (ja_cons (je_var 1) (ja_cons (je_var 2) (ja_cons (je_var 4) ja_nil))))) (jg_tup rfl (jgs_cons (jg_name (i := 5) sc_touched.nd) (jgs_cons (jg_name (i := 6) sc_touched.nd) (jgs_cons (jg_name (i := 7) sc_touched.nd) jgs_nil))))) (jb_cons (js_if (jt_not (jt_val (je_call c_is_between (hr.mono (by decide)) tk (by rfl) (ja_cons (je_var 3) (ja_cons je_int (ja_cons (je_bin jo_sub (je_bin jo_fdiv (je_bin jo_sub (je_ix (je_var 5) je_int) (je_ix (je_var 5) je_int)) (je_ix (je_var 5) je_int)) je_int) ja_nil)))))) (jb_one js_never) jb_nil) (jb_cons (js_set 8 sc_touched.nd (je_bin jo_add (je_ix (je_var 5) je_int) (je_bin jo_mul (je_var 3) (je_ix (je_var 5) je_int)))) (jb_cons (js_if (JW.pt (jw_or (jt_cmp jo_isN (je_var 7) je_non) (jw_or (jt_cmp jo_ge (je_var 8) (je_ix (je_var 7) je_int)) (jw_or1 (jt_cmp jo_le (je_bin jo_add (je_var 8) (je_ix (je_var 5) je_int)) (je_ix (je_var 7) je_int)))))) (jb_one (js_ret je_non)) jb_nil) (jb_one (js_ret (je_call c_stretch (hr.mono (by decide)) tk (by rfl) (ja_cons (je_ix (je_var 6) je_int) (ja_cons (je_ix (je_var 6) je_int) (ja_cons (je_callB (jc_max2 rfl) (by rfl) m_max (by decide +kernel) (ja_cons (je_var 8) (ja_cons (je_ix (je_var 7) je_int) ja_nil))) (ja_cons (je_callB (jc_min2 rfl) (by rfl) m_min (by decide +kernel) (ja_cons (je_bin jo_add (je_var 8) (je_ix (je_var 5) je_int)) (ja_cons (je_ix (je_var 7) je_int) ja_nil))) ja_nil)))))))))))
theorem cal_touched (h : Hd K mg) (c_is_between : Cal P w K mg base 2 "is_between" ["value", "low", "high"] F_is_between) (c_stretch : Cal P w K mg base 1 "stretch" ["begin", "size", "low", "high"] F_stretch) (c_sight_of : Cal P w K mg base 6 "sight_of" ["variables", "rows", "one", "other"] F_sight_of) : Cal P w K mg base 7 "touched" ["variables", "rows", "one", "number", "other"] F_touched := by
  obtain ⟨f, fd, hm, F⟩ := h.f_touched
  exact cal_of F hm (F.bindsN fun _ _ _ _ _ _ us hl => match us, hl with | [_, _, _, _, _], _ => rfl) (fok_touched h c_is_between c_stretch c_sight_of F)
theorem fok_cuts (h : Hd K mg) {f : Addr} {fd : FuncData} (F : FunD K "cuts" "cuts" (defArgs s_cuts) (defBody s_cuts) (defScope s_cuts) [] [] f fd) : FnG P w K mg base 1 f fd ["begin", "size", "low", "high"] (spF ⟨K, mg, w⟩ 4 F_cuts) := by
  refine fok_of F sc_cuts exitV_ok fun cdv A outer s H E hcdv hr => ?_
  have tk := takes_of (X := cxOf (L2.CX P w) P w K mg base ["begin", "size", "low", "high"] "cuts" (defScope s_cuts) f cdv A outer s H E) (E := E) rfl rfl rfl rfl
  have hp := passes_of (X := cxOf (L2.CX P w) P w K mg base ["begin", "size", "low", "high"] "cuts" (defScope s_cuts) f cdv A outer s H E) rfl
  exact (jb_one (js_ret (je_bin jo_sub (je_bin jo_fdiv (je_bin jo_sub (je_bin jo_sub (je_var 3) je_int) (je_var 0)) (je_var 1)) (je_bin jo_fdiv (je_bin jo_sub (je_var 2) (je_var 0)) (je_var 1)))))
theorem cal_cuts (h : Hd K mg) : Cal P w K mg base 1 "cuts" ["begin", "size", "low", "high"] F_cuts := by
  obtain ⟨f, fd, hm, F⟩ := h.f_cuts
  exact cal_of F hm (F.bindsN fun _ _ _ _ _ _ us hl => match us, hl with | [_, _, _, _], _ => rfl) (fok_cuts h F)
theorem fok_gcd (h : Hd K mg) {f : Addr} {fd : FuncData} (F : FunD K "gcd" "gcd" (defArgs s_gcd) (defBody s_gcd) (defScope s_gcd) [] [] f fd) : FnG P w K mg base 1 f fd ["one", "other"] (spF ⟨K, mg, w⟩ 2 F_gcd) := by
  have m_abs := h.m_abs
  refine fok_of F sc_gcd exitV_ok fun cdv A outer s H E hcdv hr => ?_
  have tk := takes_of (X := cxOf (L2.CX P w) P w K mg base ["one", "other"] "gcd" (defScope s_gcd) f cdv A outer s H E) (E := E) rfl rfl rfl rfl
  have hp := passes_of (X := cxOf (L2.CX P w) P w K mg base ["one", "other"] "gcd" (defScope s_gcd) f cdv A outer s H E) rfl
  exact (jb_cons (js_while hp (jt_cmp (jo_ne hr.units) (je_var 1) je_int) (jb_one (js_par 0 1 rfl sc_gcd.nd (ja_cons (je_var 1) (ja_cons (je_bin jo_mod (je_var 0) (je_var 1)) ja_nil))))) (jb_one (js_ret (je_callB jc_abs (by rfl) m_abs (by decide +kernel) (ja_cons (je_var 0) ja_nil)))))
theorem cal_gcd (h : Hd K mg) : Cal P w K mg base 1 "gcd" ["one", "other"] F_gcd := by
  obtain ⟨f, fd, hm, F⟩ := h.f_gcd
  exact cal_of F hm (F.bindsN fun _ _ _ _ _ _ us hl => match us, hl with | [_, _], _ => rfl) (fok_gcd h F)
theorem fok_lcm (h : Hd K mg) (c_gcd : Cal P w K mg base 1 "gcd" ["one", "other"] F_gcd) {f : Addr} {fd : FuncData} (F : FunD K "lcm" "lcm" (defArgs s_lcm) (defBody s_lcm) (defScope s_lcm) [] [] f fd) : FnG P w K mg base 2 f fd ["one", "other"] (spF ⟨K, mg, w⟩ 2 F_lcm) := by
  have m_abs := h.m_abs
  refine fok_of F sc_lcm exitV_ok fun cdv A outer s H E hcdv hr => ?_
  have tk := takes_of (X := cxOf (L2.CX P w) P w K mg base ["one", "other"] "lcm" (defScope s_lcm) f cdv A outer s H E) (E := E) rfl rfl rfl rfl
  have hp := passes_of (X := cxOf (L2.CX P w) P w K mg base ["one", "other"] "lcm" (defScope s_lcm) f cdv A outer s H E) rfl
  exact (jb_one (js_ret (je_bin jo_fdiv (je_callB jc_abs (by rfl) m_abs (by decide +kernel) (ja_cons (je_bin jo_mul (je_var 0) (je_var 1)) ja_nil)) (je_call c_gcd (hr.mono (by decide)) tk (by rfl) (ja_cons (je_var 0) (ja_cons (je_var 1) ja_nil))))))
theorem cal_lcm (h : Hd K mg) (c_gcd : Cal P w K mg base 1 "gcd" ["one", "other"] F_gcd) : Cal P w K mg base 2 "lcm" ["one", "other"] F_lcm := by
  obtain ⟨f, fd, hm, F⟩ := h.f_lcm
  exact cal_of F hm (F.bindsN fun _ _ _ _ _ _ us hl => match us, hl with | [_, _], _ => rfl) (fok_lcm h c_gcd F)
theorem fok_inverse (h : Hd K mg) {f : Addr} {fd : FuncData} (F : FunD K "inverse" "inverse" (defArgs s_inverse) (defBody s_inverse) (defScope s_inverse) [] [] f fd) : FnG P w K mg base 1 f fd ["number", "modulus"] (spF ⟨K, mg, w⟩ 2 F_inverse) := by
  refine fok_of F sc_inverse exitV_ok fun cdv A outer s H E hcdv hr => ?_
  have tk := takes_of (X := cxOf (L2.CX P w) P w K mg base ["number", "modulus", "one", "other", "first", "last", "times"] "inverse" (defScope s_inverse) f cdv A outer s H E) (E := E) rfl rfl rfl rfl
  have hp := passes_of (X := cxOf (L2.CX P w) P w K mg base ["number", "modulus", "one", "other", "first", "last", "times"] "inverse" (defScope s_inverse) f cdv A outer s H E) rfl
  exact (jb_cons (js_parT rfl (ja_cons (je_bin jo_mod (je_var 0) (je_var 1)) (ja_cons (je_var 1) (ja_cons je_int (ja_cons je_int ja_nil)))) (jn_cons (i := 2) sc_inverse.nd (jn_cons (i := 3) sc_inverse.nd (jn_cons (i := 4) sc_inverse.nd (jn_cons (i := 5) sc_inverse.nd jn_nil))))) (jb_cons (js_while hp (jt_cmp (jo_ne hr.units) (je_var 3) je_int) (jb_cons (js_set 6 sc_inverse.nd (je_bin jo_fdiv (je_var 2) (je_var 3))) (jb_cons (js_par 2 3 rfl sc_inverse.nd (ja_cons (je_var 3) (ja_cons (je_bin jo_sub (je_var 2) (je_bin jo_mul (je_var 6) (je_var 3))) ja_nil))) (jb_one (js_par 4 5 rfl sc_inverse.nd (ja_cons (je_var 5) (ja_cons (je_bin jo_sub (je_var 4) (je_bin jo_mul (je_var 6) (je_var 5))) ja_nil))))))) (jb_one (js_ret (je_bin jo_mod (je_var 4) (je_var 1))))))
theorem cal_inverse (h : Hd K mg) : Cal P w K mg base 1 "inverse" ["number", "modulus"] F_inverse := by
  obtain ⟨f, fd, hm, F⟩ := h.f_inverse
  exact cal_of F hm (F.bindsN fun _ _ _ _ _ _ us hl => match us, hl with | [_, _], _ => rfl) (fok_inverse h F)
theorem fok_meeting (h : Hd K mg) (c_gcd : Cal P w K mg base 1 "gcd" ["one", "other"] F_gcd) (c_lcm : Cal P w K mg base 2 "lcm" ["one", "other"] F_lcm) (c_inverse : Cal P w K mg base 1 "inverse" ["number", "modulus"] F_inverse) {f : Addr} {fd : FuncData} (F : FunD K "meeting" "meeting" (defArgs s_meeting) (defBody s_meeting) (defScope s_meeting) [] [] f fd) : FnG P w K mg base 3 f fd ["first", "step", "other", "stride"] (spF ⟨K, mg, w⟩ 4 F_meeting) := by
  refine fok_of F sc_meeting exitV_ok fun cdv A outer s H E hcdv hr => ?_
  have tk := takes_of (X := cxOf (L2.CX P w) P w K mg base ["first", "step", "other", "stride", "shared", "whole", "part", "times"] "meeting" (defScope s_meeting) f cdv A outer s H E) (E := E) rfl rfl rfl rfl
  have hp := passes_of (X := cxOf (L2.CX P w) P w K mg base ["first", "step", "other", "stride", "shared", "whole", "part", "times"] "meeting" (defScope s_meeting) f cdv A outer s H E) rfl
  exact (jb_cons (js_set 4 sc_meeting.nd (je_call c_gcd (hr.mono (by decide)) tk (by rfl) (ja_cons (je_var 1) (ja_cons (je_var 3) ja_nil)))) (jb_cons (js_if (jt_cmp (jo_ne hr.units) (je_bin jo_mod (je_bin jo_sub (je_var 2) (je_var 0)) (je_var 4)) je_int) (jb_one (js_ret je_non)) jb_nil) (jb_cons (js_set 5 sc_meeting.nd (je_call c_lcm (hr.mono (by decide)) tk (by rfl) (ja_cons (je_var 1) (ja_cons (je_var 3) ja_nil)))) (jb_cons (js_set 6 sc_meeting.nd (je_bin jo_fdiv (je_var 3) (je_var 4))) (jb_cons (js_set 7 sc_meeting.nd (je_if (jt_cmp jo_gt (je_var 6) je_int) (je_bin jo_mod (je_bin jo_mul (je_bin jo_fdiv (je_bin jo_sub (je_var 2) (je_var 0)) (je_var 4)) (je_call c_inverse (hr.mono (by decide)) tk (by rfl) (ja_cons (je_bin jo_fdiv (je_var 1) (je_var 4)) (ja_cons (je_var 6) ja_nil)))) (je_var 6)) je_int)) (jb_one (js_ret (je_tup (ja_cons (je_bin jo_mod (je_bin jo_add (je_var 0) (je_bin jo_mul (je_var 7) (je_var 1))) (je_var 5)) (ja_cons (je_var 5) ja_nil))))))))))
theorem cal_meeting (h : Hd K mg) (c_gcd : Cal P w K mg base 1 "gcd" ["one", "other"] F_gcd) (c_lcm : Cal P w K mg base 2 "lcm" ["one", "other"] F_lcm) (c_inverse : Cal P w K mg base 1 "inverse" ["number", "modulus"] F_inverse) : Cal P w K mg base 3 "meeting" ["first", "step", "other", "stride"] F_meeting := by
  obtain ⟨f, fd, hm, F⟩ := h.f_meeting
  exact cal_of F hm (F.bindsN fun _ _ _ _ _ _ us hl => match us, hl with | [_, _, _, _], _ => rfl) (fok_meeting h c_gcd c_lcm c_inverse F)
theorem fok_common_cuts (h : Hd K mg) (c_meeting : Cal P w K mg base 3 "meeting" ["first", "step", "other", "stride"] F_meeting) (c_cuts : Cal P w K mg base 1 "cuts" ["begin", "size", "low", "high"] F_cuts) {f : Addr} {fd : FuncData} (F : FunD K "common_cuts" "common_cuts" (defArgs s_common_cuts) (defBody s_common_cuts) (defScope s_common_cuts) [] [] f fd) : FnG P w K mg base 4 f fd ["one", "other", "low", "high"] (spF ⟨K, mg, w⟩ 4 F_common_cuts) := by
  refine fok_of F sc_common_cuts exitV_ok fun cdv A outer s H E hcdv hr => ?_
  have tk := takes_of (X := cxOf (L2.CX P w) P w K mg base ["one", "other", "low", "high", "found"] "common_cuts" (defScope s_common_cuts) f cdv A outer s H E) (E := E) rfl rfl rfl rfl
  have hp := passes_of (X := cxOf (L2.CX P w) P w K mg base ["one", "other", "low", "high", "found"] "common_cuts" (defScope s_common_cuts) f cdv A outer s H E) rfl
  exact (jb_cons (js_set 4 sc_common_cuts.nd (je_call c_meeting (hr.mono (by decide)) tk (by rfl) (ja_cons (je_bin jo_mod (je_ix (je_var 0) je_int) (je_ix (je_var 0) je_int)) (ja_cons (je_ix (je_var 0) je_int) (ja_cons (je_bin jo_mod (je_ix (je_var 1) je_int) (je_ix (je_var 1) je_int)) (ja_cons (je_ix (je_var 1) je_int) ja_nil)))))) (jb_one (js_ret (je_if (jt_cmp jo_isN (je_var 4) je_non) je_int (je_call c_cuts (hr.mono (by decide)) tk (by rfl) (ja_cons (je_ix (je_var 4) je_int) (ja_cons (je_ix (je_var 4) je_int) (ja_cons (je_var 2) (ja_cons (je_var 3) ja_nil)))))))))
theorem cal_common_cuts (h : Hd K mg) (c_meeting : Cal P w K mg base 3 "meeting" ["first", "step", "other", "stride"] F_meeting) (c_cuts : Cal P w K mg base 1 "cuts" ["begin", "size", "low", "high"] F_cuts) : Cal P w K mg base 4 "common_cuts" ["one", "other", "low", "high"] F_common_cuts := by
  obtain ⟨f, fd, hm, F⟩ := h.f_common_cuts
  exact cal_of F hm (F.bindsN fun _ _ _ _ _ _ us hl => match us, hl with | [_, _, _, _], _ => rfl) (fok_common_cuts h c_meeting c_cuts F)
theorem fok_pairs_number (h : Hd K mg) (c_cuts : Cal P w K mg base 1 "cuts" ["begin", "size", "low", "high"] F_cuts) (c_common_cuts : Cal P w K mg base 4 "common_cuts" ["one", "other", "low", "high"] F_common_cuts) (c_sight_of : Cal P w K mg base 6 "sight_of" ["variables", "rows", "one", "other"] F_sight_of) {f : Addr} {fd : FuncData} (F : FunD K "pairs_number" "pairs_number" (defArgs s_pairs_number) (defBody s_pairs_number) (defScope s_pairs_number) [] [] f fd) : FnG P w K mg base 7 f fd ["variables", "rows", "one", "other"] (spF ⟨K, mg, w⟩ 4 F_pairs_number) := by
  refine fok_of F sc_pairs_number exitV_ok fun cdv A outer s H E hcdv hr => ?_
  have tk := takes_of (X := cxOf (L2.CX P w) P w K mg base ["variables", "rows", "one", "other", "mine", "its", "both", "low", "high", "apart"] "pairs_number" (defScope s_pairs_number) f cdv A outer s H E) (E := E) rfl rfl rfl rfl
  have hp := passes_of (X := cxOf (L2.CX P w) P w K mg base ["variables", "rows", "one", "other", "mine", "its", "both", "low", "high", "apart"] "pairs_number" (defScope s_pairs_number) f cdv A outer s H E) rfl
  exact (jb_cons (js_asg (je_call c_sight_of (hr.mono (by decide)) tk (by rfl) (ja_cons (je_var 0) (ja_cons (je_var 1) (ja_cons (je_var 2) (ja_cons (je_var 3) ja_nil))))) (jg_tup rfl (jgs_cons (jg_name (i := 4) sc_pairs_number.nd) (jgs_cons (jg_name (i := 5) sc_pairs_number.nd) (jgs_cons (jg_name (i := 6) sc_pairs_number.nd) jgs_nil))))) (jb_cons (js_if (jt_cmp jo_isN (je_var 6) je_non) (jb_one (js_ret je_int)) jb_nil) (jb_cons (js_asg (je_var 6) (jg_tup rfl (jgs_cons (jg_name (i := 7) sc_pairs_number.nd) (jgs_cons (jg_name (i := 8) sc_pairs_number.nd) jgs_nil)))) (jb_cons (js_set 9 sc_pairs_number.nd (je_bin jo_add (je_call c_cuts (hr.mono (by decide)) tk (by rfl) (ja_cons (je_ix (je_var 4) je_int) (ja_cons (je_ix (je_var 4) je_int) (ja_cons (je_var 7) (ja_cons (je_var 8) ja_nil))))) (je_call c_cuts (hr.mono (by decide)) tk (by rfl) (ja_cons (je_ix (je_var 5) je_int) (ja_cons (je_ix (je_var 5) je_int) (ja_cons (je_var 7) (ja_cons (je_var 8) ja_nil))))))) (jb_one (js_ret (je_bin jo_sub (je_bin jo_add je_int (je_var 9)) (je_call c_common_cuts (hr.mono (by decide)) tk (by rfl) (ja_cons (je_var 4) (ja_cons (je_var 5) (ja_cons (je_var 7) (ja_cons (je_var 8) ja_nil))))))))))))
theorem cal_pairs_number (h : Hd K mg) (c_cuts : Cal P w K mg base 1 "cuts" ["begin", "size", "low", "high"] F_cuts) (c_common_cuts : Cal P w K mg base 4 "common_cuts" ["one", "other", "low", "high"] F_common_cuts) (c_sight_of : Cal P w K mg base 6 "sight_of" ["variables", "rows", "one", "other"] F_sight_of) : Cal P w K mg base 7 "pairs_number" ["variables", "rows", "one", "other"] F_pairs_number := by
  obtain ⟨f, fd, hm, F⟩ := h.f_pairs_number
  exact cal_of F hm (F.bindsN fun _ _ _ _ _ _ us hl => match us, hl with | [_, _, _, _], _ => rfl) (fok_pairs_number h c_cuts c_common_cuts c_sight_of F)
theorem fok_twins_number (h : Hd K mg) (c_sight_of : Cal P w K mg base 6 "sight_of" ["variables", "rows", "one", "other"] F_sight_of) {f : Addr} {fd : FuncData} (F : FunD K "twins_number" "twins_number" (defArgs s_twins_number) (defBody s_twins_number) (defScope s_twins_number) [] [] f fd) : FnG P w K mg base 7 f fd ["variables", "rows", "one", "other"] (spF ⟨K, mg, w⟩ 4 F_twins_number) := by
  refine fok_of F sc_twins_number exitV_ok fun cdv A outer s H E hcdv hr => ?_
  have tk := takes_of (X := cxOf (L2.CX P w) P w K mg base ["variables", "rows", "one", "other", "mine", "its", "both"] "twins_number" (defScope s_twins_number) f cdv A outer s H E) (E := E) rfl rfl rfl rfl
  have hp := passes_of (X := cxOf (L2.CX P w) P w K mg base ["variables", "rows", "one", "other", "mine", "its", "both"] "twins_number" (defScope s_twins_number) f cdv A outer s H E) rfl
  exact (jb_cons (js_asg (je_call c_sight_of (hr.mono (by decide)) tk (by rfl) (ja_cons (je_var 0) (ja_cons (je_var 1) (ja_cons (je_var 2) (ja_cons (je_var 3) ja_nil))))) (jg_tup rfl (jgs_cons (jg_name (i := 4) sc_twins_number.nd) (jgs_cons (jg_name (i := 5) sc_twins_number.nd) (jgs_cons (jg_name (i := 6) sc_twins_number.nd) jgs_nil))))) (jb_cons (js_if (JW.pt (jw_or (jt_cmp jo_isN (je_var 6) je_non) (jw_or (jt_cmp (jo_ne hr.units) (je_ix (je_var 4) je_int) (je_ix (je_var 5) je_int)) (jw_or1 (jt_cmp (jo_ne hr.units) (je_bin jo_mod (je_bin jo_sub (je_ix (je_var 4) je_int) (je_ix (je_var 5) je_int)) (je_ix (je_var 4) je_int)) je_int))))) (jb_one (js_ret je_int)) jb_nil) (jb_one (js_ret (je_bin jo_fdiv (je_bin jo_sub (je_ix (je_var 6) je_int) (je_ix (je_var 6) je_int)) (je_ix (je_var 4) je_int))))))
theorem cal_twins_number (h : Hd K mg) (c_sight_of : Cal P w K mg base 6 "sight_of" ["variables", "rows", "one", "other"] F_sight_of) : Cal P w K mg base 7 "twins_number" ["variables", "rows", "one", "other"] F_twins_number := by
  obtain ⟨f, fd, hm, F⟩ := h.f_twins_number
  exact cal_of F hm (F.bindsN fun _ _ _ _ _ _ us hl => match us, hl with | [_, _, _, _], _ => rfl) (fok_twins_number h c_sight_of F)
theorem fok__law_told (h : Hd K mg) (c_shared : Cal P w K mg base 7 "shared" ["variables", "rows", "one", "other"] F_shared) (c_touched : Cal P w K mg base 7 "touched" ["variables", "rows", "one", "number", "other"] F_touched) (c_pairs_number : Cal P w K mg base 7 "pairs_number" ["variables", "rows", "one", "other"] F_pairs_number) (c_twins_number : Cal P w K mg base 7 "twins_number" ["variables", "rows", "one", "other"] F_twins_number) (c__law_wide : Cal P w K mg base 1 "_law_wide" ["_law_bounds_here"] F__law_wide) {f : Addr} {fd : FuncData} (F : FunD K "_law_told" "_law_told" (defArgs s__law_told) (defBody s__law_told) (defScope s__law_told) [] [] f fd) : FnG P w K mg base 8 f fd ["_law_parts_so", "_law_rows_so", "_law_one", "_law_other"] (spF ⟨K, mg, w⟩ 4 F__law_told) := by
  have m_range := h.m_range
  refine fok_of F sc__law_told exitV_ok fun cdv A outer s H E hcdv hr => ?_
  have tk := takes_of (X := cxOf (L2.CX P w) P w K mg base ["_law_parts_so", "_law_rows_so", "_law_one", "_law_other", "_law_many", "_law_found", "_law_more", "_law_k", "_law_part"] "_law_told" (defScope s__law_told) f cdv A outer s H E) (E := E) rfl rfl rfl rfl
  have hp := passes_of (X := cxOf (L2.CX P w) P w K mg base ["_law_parts_so", "_law_rows_so", "_law_one", "_law_other", "_law_many", "_law_found", "_law_more", "_law_k", "_law_part"] "_law_told" (defScope s__law_told) f cdv A outer s H E) rfl
  exact (jb_cons (js_set 4 sc__law_told.nd (je_call c__law_wide (hr.mono (by decide)) tk (by rfl) (ja_cons (je_ix (je_ix (je_lc [("_law_part", 8)] rfl sc__law_told.nd (ji_seq (je_var 0)) (blkOk_by (by kernel_rfl)) (fun _ _ _ _ _ => (jg_name (i := 8) sc__law_told.nd)) (by decide) (test_one fun _ _ _ _ _ => (jt_cmp (jo_eq hr.units) (je_ix (je_var 8) je_int) (je_var 2))) (fun _ _ _ _ _ => (je_var 8))) je_int) je_int) ja_nil))) (jb_cons (js_setLc 5 [("_law_k", 7)] rfl sc__law_told.nd (ji_rng1 (by rfl) m_range (ja_cons (je_var 4) ja_nil)) (blkOk_by (by kernel_rfl)) (fun _ _ _ _ _ => (jg_name (i := 7) sc__law_told.nd)) (by decide) test_no (fun _ _ _ _ _ => (je_call c_touched (hr.mono (by decide)) takes0 (by rfl) (ja_cons (je_var 0) (ja_cons (je_var 1) (ja_cons (je_var 2) (ja_cons (je_var 7) (ja_cons (je_var 3) ja_nil))))))) (sw_true rfl rfl rfl (by decide +kernel))) (jb_cons (js_set 6 sc__law_told.nd (je_lst (ja_cons (je_call c_pairs_number (hr.mono (by decide)) tk (by rfl) (ja_cons (je_var 0) (ja_cons (je_var 1) (ja_cons (je_var 2) (ja_cons (je_var 3) ja_nil))))) (ja_cons (je_call c_twins_number (hr.mono (by decide)) tk (by rfl) (ja_cons (je_var 0) (ja_cons (je_var 1) (ja_cons (je_var 2) (ja_cons (je_var 3) ja_nil))))) ja_nil)))) (jb_one (js_ret (je_tup (ja_cons (je_call c_shared (hr.mono (by decide)) tk (by rfl) (ja_cons (je_var 0) (ja_cons (je_var 1) (ja_cons (je_var 2) (ja_cons (je_var 3) ja_nil))))) (ja_cons (je_bin jo_add (je_var 5) (je_var 6)) ja_nil))))))))
theorem cal__law_told (h : Hd K mg) (c_shared : Cal P w K mg base 7 "shared" ["variables", "rows", "one", "other"] F_shared) (c_touched : Cal P w K mg base 7 "touched" ["variables", "rows", "one", "number", "other"] F_touched) (c_pairs_number : Cal P w K mg base 7 "pairs_number" ["variables", "rows", "one", "other"] F_pairs_number) (c_twins_number : Cal P w K mg base 7 "twins_number" ["variables", "rows", "one", "other"] F_twins_number) (c__law_wide : Cal P w K mg base 1 "_law_wide" ["_law_bounds_here"] F__law_wide) : Cal P w K mg base 8 "_law_told" ["_law_parts_so", "_law_rows_so", "_law_one", "_law_other"] F__law_told := by
  obtain ⟨f, fd, hm, F⟩ := h.f__law_told
  exact cal_of F hm (F.bindsN fun _ _ _ _ _ _ us hl => match us, hl with | [_, _, _, _], _ => rfl) (fok__law_told h c_shared c_touched c_pairs_number c_twins_number c__law_wide F)
theorem fok__law_times (h : Hd K mg) {f : Addr} {fd : FuncData} (F : FunD K "_law_times" "_law_times" (defArgs s__law_times) (defBody s__law_times) (defScope s__law_times) [] [] f fd) : FnG P w K mg base 1 f fd ["_law_pair", "_law_by"] (spF ⟨K, mg, w⟩ 2 F__law_times) := by
  refine fok_of F sc__law_times exitV_ok fun cdv A outer s H E hcdv hr => ?_
  have tk := takes_of (X := cxOf (L2.CX P w) P w K mg base ["_law_pair", "_law_by"] "_law_times" (defScope s__law_times) f cdv A outer s H E) (E := E) rfl rfl rfl rfl
  have hp := passes_of (X := cxOf (L2.CX P w) P w K mg base ["_law_pair", "_law_by"] "_law_times" (defScope s__law_times) f cdv A outer s H E) rfl
  exact (jb_one (js_ret (je_if (jt_cmp jo_isN (je_var 0) je_non) je_non (je_tup (ja_cons (je_bin jo_mul (je_var 1) (je_ix (je_var 0) je_int)) (ja_cons (je_bin jo_mul (je_var 1) (je_ix (je_var 0) je_int)) ja_nil))))))
theorem cal__law_times (h : Hd K mg) : Cal P w K mg base 1 "_law_times" ["_law_pair", "_law_by"] F__law_times := by
  obtain ⟨f, fd, hm, F⟩ := h.f__law_times
  exact cal_of F hm (F.bindsN fun _ _ _ _ _ _ us hl => match us, hl with | [_, _], _ => rfl) (fok__law_times h F)
theorem fok__law_right (h : Hd K mg) (c_offsets : Cal P w K mg base 6 "offsets" ["variables", "rows"] F_offsets) (c_ring : Cal P w K mg base 6 "ring" ["variables", "rows"] F_ring) (c__law_draw : Cal P w K mg base 1 "_law_draw" ["_law_well_here", "_law_many"] F__law_draw) (c__law_pick : Cal P w K mg base 2 "_law_pick" ["_law_well_here", "_law_some"] F__law_pick) (c__law_parts : Cal P w K mg base 4 "_law_parts" ["_law_well_here", "_law_many", "_law_most"] F__law_parts) (c__law_rows : Cal P w K mg base 4 "_law_rows" ["_law_well_here", "_law_parts_so", "_law_most"] F__law_rows) (c__law_renamed : Cal P w K mg base 1 "_law_renamed" ["_law_parts_so", "_law_rows_so", "_law_moves", "_law_by"] F__law_renamed) (c__law_told : Cal P w K mg base 8 "_law_told" ["_law_parts_so", "_law_rows_so", "_law_one", "_law_other"] F__law_told) (c__law_times : Cal P w K mg base 1 "_law_times" ["_law_pair", "_law_by"] F__law_times) {f : Addr} {fd : FuncData} (F : FunD K "_law_right" "_law_right" (defArgs s__law_right) (defBody s__law_right) (defScope s__law_right) [] [] f fd) : FnG P w K mg base 9 f fd ["_law_well_here"] (spF ⟨K, mg, w⟩ 1 F__law_right) := by
  have m_len := h.m_len
  have m_range := h.m_range
  refine fok_of F sc__law_right exitV_ok fun cdv A outer s H E hcdv hr => ?_
  have tk := takes_of (X := cxOf (L2.CX P w) P w K mg base ["_law_well_here", "_law_parts_so", "_law_by", "_law_rows_so", "_law_moves", "_law_news", "_law_lines_here", "_law_here", "_law_there", "_law_due", "_law_turn", "_law_one", "_law_other", "_law_both", "_law_rest", "_law_name", "_law_group", "_law_far"] "_law_right" (defScope s__law_right) f cdv A outer s H E) (E := E) rfl rfl rfl rfl
  have hp := passes_of (X := cxOf (L2.CX P w) P w K mg base ["_law_well_here", "_law_parts_so", "_law_by", "_law_rows_so", "_law_moves", "_law_news", "_law_lines_here", "_law_here", "_law_there", "_law_due", "_law_turn", "_law_one", "_law_other", "_law_both", "_law_rest", "_law_name", "_law_group", "_law_far"] "_law_right" (defScope s__law_right) f cdv A outer s H E) rfl
  exact (jb_cons (js_parT rfl (ja_cons (je_call c__law_parts (hr.mono (by decide)) tk (by rfl) (ja_cons (je_var 0) (ja_cons (je_bin jo_add je_int (je_call c__law_draw (hr.mono (by decide)) tk (by rfl) (ja_cons (je_var 0) (ja_cons je_int ja_nil)))) (ja_cons je_int ja_nil)))) (ja_cons (je_bin jo_add je_int (je_call c__law_draw (hr.mono (by decide)) tk (by rfl) (ja_cons (je_var 0) (ja_cons je_int ja_nil)))) ja_nil)) (jn_cons (i := 1) sc__law_right.nd (jn_cons (i := 2) sc__law_right.nd jn_nil))) (jb_cons (js_par 3 4 rfl sc__law_right.nd (ja_cons (je_call c__law_rows (hr.mono (by decide)) tk (by rfl) (ja_cons (je_var 0) (ja_cons (je_var 1) (ja_cons je_int ja_nil)))) (ja_cons (je_lst (ja_cons (je_bin jo_sub (je_call c__law_draw (hr.mono (by decide)) tk (by rfl) (ja_cons (je_var 0) (ja_cons je_int ja_nil))) je_int) (ja_cons (je_bin jo_pow je_int je_int) (ja_cons (je_call c__law_draw (hr.mono (by decide)) tk (by rfl) (ja_cons (je_var 0) (ja_cons je_int ja_nil))) ja_nil)))) ja_nil))) (jb_cons (js_asg (je_call c__law_renamed (hr.mono (by decide)) tk (by rfl) (ja_cons (je_var 1) (ja_cons (je_var 3) (ja_cons (je_var 4) (ja_cons (je_var 2) ja_nil))))) (jg_tup rfl (jgs_cons (jg_name (i := 5) sc__law_right.nd) (jgs_cons (jg_name (i := 6) sc__law_right.nd) jgs_nil)))) (jb_cons (js_par 7 8 rfl sc__law_right.nd (ja_cons (je_call c_ring (hr.mono (by decide)) tk (by rfl) (ja_cons (je_var 1) (ja_cons (je_var 3) ja_nil))) (ja_cons (je_call c_ring (hr.mono (by decide)) tk (by rfl) (ja_cons (je_var 5) (ja_cons (je_var 6) ja_nil))) ja_nil))) (jb_cons (js_if (JW.pt (jw_or (jt_cmp jo_notN (je_var 7) je_non) (jw_or1 (jt_cmp jo_notN (je_var 8) je_non)))) (jb_one (js_ret (je_and (je_cmp jo_notN (je_var 7) je_non) (je_and (je_cmp jo_notN (je_var 8) je_non) (je_one (je_cmp (jo_eq hr.units) (je_callB jc_len (by rfl) m_len (by decide +kernel) (ja_cons (je_var 7) ja_nil)) (je_callB jc_len (by rfl) m_len (by decide +kernel) (ja_cons (je_var 8) ja_nil)))))))) jb_nil) (jb_cons (js_setLc 9 [("_law_name", 15), ("_law_group", 16), ("_law_far", 17)] rfl sc__law_right.nd (ji_seq (je_fz (je_call c_offsets (hr.mono (by decide)) tk (by rfl) (ja_cons (je_var 1) (ja_cons (je_var 3) ja_nil))))) (blkOk_by (by kernel_rfl)) (fun _ _ _ _ _ => (jg_tup rfl (jgs_cons (jg_name (i := 15) sc__law_right.nd) (jgs_cons (jg_name (i := 16) sc__law_right.nd) (jgs_cons (jg_name (i := 17) sc__law_right.nd) jgs_nil))))) (by decide) test_no (fun _ _ _ _ _ => (je_tup (ja_cons (je_bin jo_add je_str (je_var 15)) (ja_cons (je_bin jo_add je_str (je_var 16)) (ja_cons (je_bin jo_mul (je_var 2) (je_var 17)) ja_nil))))) (sw_true rfl rfl rfl (by decide +kernel))) (jb_cons (js_if (jt_cmp (jo_ne hr.units) (je_fz (je_call c_offsets (hr.mono (by decide)) tk (by rfl) (ja_cons (je_var 5) (ja_cons (je_var 6) ja_nil)))) (je_var 9)) (jb_one (js_ret je_bl)) jb_nil) (jb_cons (js_for hp rfl (ji_rng1 (by rfl) m_range (ja_cons je_int ja_nil)) (jg_name (i := 10) sc__law_right.nd) (jb_cons (js_par 11 12 rfl sc__law_right.nd (ja_cons (je_ix (je_call c__law_pick (hr.mono (by decide)) tk (by rfl) (ja_cons (je_var 0) (ja_cons (je_var 1) ja_nil))) je_int) (ja_cons (je_ix (je_call c__law_pick (hr.mono (by decide)) tk (by rfl) (ja_cons (je_var 0) (ja_cons (je_var 1) ja_nil))) je_int) ja_nil))) (jb_cons (js_asg (je_call c__law_told (hr.mono (by decide)) tk (by rfl) (ja_cons (je_var 1) (ja_cons (je_var 3) (ja_cons (je_var 11) (ja_cons (je_var 12) ja_nil))))) (jg_tup rfl (jgs_cons (jg_name (i := 13) sc__law_right.nd) (jgs_cons (jg_name (i := 14) sc__law_right.nd) jgs_nil)))) (jb_cons (js_if (jt_cmp (jo_ne hr.units) (je_call c__law_told (hr.mono (by decide)) tk (by rfl) (ja_cons (je_var 5) (ja_cons (je_var 6) (ja_cons (je_bin jo_add je_str (je_var 11)) (ja_cons (je_bin jo_add je_str (je_var 12)) ja_nil))))) (je_tup (ja_cons (je_call c__law_times (hr.mono (by decide)) tk (by rfl) (ja_cons (je_var 13) (ja_cons (je_var 2) ja_nil))) (ja_cons (je_var 14) ja_nil)))) (jb_one (js_ret je_bl)) jb_nil) (jb_one (js_if (jt_cmp (jo_ne hr.units) (je_call c__law_told (hr.mono (by decide)) tk (by rfl) (ja_cons (je_rev (je_var 1)) (ja_cons (je_rev (je_var 3)) (ja_cons (je_var 11) (ja_cons (je_var 12) ja_nil))))) (je_tup (ja_cons (je_var 13) (ja_cons (je_var 14) ja_nil)))) (jb_one (js_ret je_bl)) jb_nil)))))) (jb_one (js_ret je_bl))))))))))
theorem cal__law_right (h : Hd K mg) (c_offsets : Cal P w K mg base 6 "offsets" ["variables", "rows"] F_offsets) (c_ring : Cal P w K mg base 6 "ring" ["variables", "rows"] F_ring) (c__law_draw : Cal P w K mg base 1 "_law_draw" ["_law_well_here", "_law_many"] F__law_draw) (c__law_pick : Cal P w K mg base 2 "_law_pick" ["_law_well_here", "_law_some"] F__law_pick) (c__law_parts : Cal P w K mg base 4 "_law_parts" ["_law_well_here", "_law_many", "_law_most"] F__law_parts) (c__law_rows : Cal P w K mg base 4 "_law_rows" ["_law_well_here", "_law_parts_so", "_law_most"] F__law_rows) (c__law_renamed : Cal P w K mg base 1 "_law_renamed" ["_law_parts_so", "_law_rows_so", "_law_moves", "_law_by"] F__law_renamed) (c__law_told : Cal P w K mg base 8 "_law_told" ["_law_parts_so", "_law_rows_so", "_law_one", "_law_other"] F__law_told) (c__law_times : Cal P w K mg base 1 "_law_times" ["_law_pair", "_law_by"] F__law_times) : Cal P w K mg base 9 "_law_right" ["_law_well_here"] F__law_right := by
  obtain ⟨f, fd, hm, F⟩ := h.f__law_right
  exact cal_of F hm (F.bindsN fun _ _ _ _ _ _ us hl => match us, hl with | [_], _ => rfl) (fok__law_right h c_offsets c_ring c__law_draw c__law_pick c__law_parts c__law_rows c__law_renamed c__law_told c__law_times F)
theorem fok_law (h : Hd K mg) (c__law_well : Cal P w K mg base 1 "_law_well" ["_law_cell"] F__law_well) (c__law_right : Cal P w K mg base 9 "_law_right" ["_law_well_here"] F__law_right) {f : Addr} {fd : FuncData} (F : FunD K "law" "law" (defArgs s_law) (defBody s_law) (defScope s_law) [] [] f fd) : FnG P w K mg base 10 f fd ["_law_script"] (spF ⟨K, mg, w⟩ 1 F_law) := by
  have m_range := h.m_range
  refine fok_of F sc_law exitV_ok fun cdv A outer s H E hcdv hr => ?_
  have tk := takes_of (X := cxOf (L2.CX P w) P w K mg base ["_law_script", "_law_cell", "_law_well_here", "_law_turn"] "law" (defScope s_law) f cdv A outer s H E) (E := E) rfl rfl rfl rfl
  have hp := passes_of (X := cxOf (L2.CX P w) P w K mg base ["_law_script", "_law_cell", "_law_well_here", "_law_turn"] "law" (defScope s_law) f cdv A outer s H E) rfl
  exact (jb_cons (js_for hp rfl (ji_seq (je_bin jo_add (je_slice (je_var 0) jp_none (jp_some je_int)) (je_lst (ja_cons je_int ja_nil)))) (jg_name (i := 1) sc_law.nd) (jb_cons (js_set 2 sc_law.nd (je_call c__law_well (hr.mono (by decide)) tk (by rfl) (ja_cons (je_var 1) ja_nil))) (jb_one (js_for hp rfl (ji_rng1 (by rfl) m_range (ja_cons je_int ja_nil)) (jg_name (i := 3) sc_law.nd) (jb_one (js_if (jt_not (jt_val (je_call c__law_right (hr.mono (by decide)) tk (by rfl) (ja_cons (je_var 2) ja_nil)))) (jb_one (js_ret je_bl)) jb_nil)))))) (jb_one (js_ret je_bl)))
theorem cal_all (h : Hd K mg) {f : Addr} {fd : FuncData} (F : FunD K "law" "law" (defArgs s_law) (defBody s_law) (defScope s_law) [] [] f fd) : FnG P w K mg base 10 f fd ["_law_script"] (spF ⟨K, mg, w⟩ 1 F_law) := by
  have c__law_well := cal__law_well (P := P) (w := w) (base := base) h
  have c_is_row := cal_is_row (P := P) (w := w) (base := base) h
  have c_is_whole := cal_is_whole (P := P) (w := w) (base := base) h
  have c_is_between := cal_is_between (P := P) (w := w) (base := base) h c_is_whole
  have c_is_name := cal_is_name (P := P) (w := w) (base := base) h
  have c_is_bounds := cal_is_bounds (P := P) (w := w) (base := base) h c_is_between
  have c_is_variable := cal_is_variable (P := P) (w := w) (base := base) h c_is_between c_is_name c_is_bounds
  have c_check_variables := cal_check_variables (P := P) (w := w) (base := base) h c_is_row c_is_variable
  have c_place_in := cal_place_in (P := P) (w := w) (base := base) h
  have c_is_member := cal_is_member (P := P) (w := w) (base := base) h c_is_between
  have c_lines_of := cal_lines_of (P := P) (w := w) (base := base) h c_is_row c_place_in c_is_member
  have c_Reach_go_on := cal_Reach_go_on (P := P) (w := w) (base := base) h
  have c_Reach___init__ := cal_Reach___init__ (P := P) (w := w) (base := base) h c_Reach_go_on
  have c_groups_of := cal_groups_of (P := P) (w := w) (base := base) h c_Reach___init__
  have c_do_hold := cal_do_hold (P := P) (w := w) (base := base) h
  have c_risen := cal_risen (P := P) (w := w) (base := base) h
  have c_offsets := cal_offsets (P := P) (w := w) (base := base) h c_check_variables c_lines_of c_groups_of c_do_hold c_risen
  have c_Reach_wrong := cal_Reach_wrong (P := P) (w := w) (base := base) h
  have c_ring_of := cal_ring_of (P := P) (w := w) (base := base) h c_Reach_wrong c_Reach___init__ c_groups_of c_do_hold
  have c_ring := cal_ring (P := P) (w := w) (base := base) h c_check_variables c_lines_of c_ring_of
  have c__law_draw := cal__law_draw (P := P) (w := w) (base := base) h
  have c__law_pick := cal__law_pick (P := P) (w := w) (base := base) h c__law_draw
  have c__law_bounds := cal__law_bounds (P := P) (w := w) (base := base) h c__law_draw c__law_pick
  have c__law_parts := cal__law_parts (P := P) (w := w) (base := base) h c__law_pick c__law_bounds
  have c__law_wide := cal__law_wide (P := P) (w := w) (base := base) h
  have c__law_at := cal__law_at (P := P) (w := w) (base := base) h
  have c__law_member := cal__law_member (P := P) (w := w) (base := base) h c__law_draw c__law_at
  have c__law_row := cal__law_row (P := P) (w := w) (base := base) h c__law_draw c__law_pick c__law_wide c__law_member
  have c__law_rows := cal__law_rows (P := P) (w := w) (base := base) h c__law_draw c__law_row
  have c__law_renamed := cal__law_renamed (P := P) (w := w) (base := base) h
  have c_many_elements := cal_many_elements (P := P) (w := w) (base := base) h
  have c_units_of := cal_units_of (P := P) (w := w) (base := base) h c_many_elements
  have c_sight_of := cal_sight_of (P := P) (w := w) (base := base) h c_check_variables c_units_of c_lines_of c_groups_of c_do_hold
  have c_shared := cal_shared (P := P) (w := w) (base := base) h c_sight_of
  have c_stretch := cal_stretch (P := P) (w := w) (base := base) h
  have c_touched := cal_touched (P := P) (w := w) (base := base) h c_is_between c_stretch c_sight_of
  have c_cuts := cal_cuts (P := P) (w := w) (base := base) h
  have c_gcd := cal_gcd (P := P) (w := w) (base := base) h
  have c_lcm := cal_lcm (P := P) (w := w) (base := base) h c_gcd
  have c_inverse := cal_inverse (P := P) (w := w) (base := base) h
  have c_meeting := cal_meeting (P := P) (w := w) (base := base) h c_gcd c_lcm c_inverse
  have c_common_cuts := cal_common_cuts (P := P) (w := w) (base := base) h c_meeting c_cuts
  have c_pairs_number := cal_pairs_number (P := P) (w := w) (base := base) h c_cuts c_common_cuts c_sight_of
  have c_twins_number := cal_twins_number (P := P) (w := w) (base := base) h c_sight_of
  have c__law_told := cal__law_told (P := P) (w := w) (base := base) h c_shared c_touched c_pairs_number c_twins_number c__law_wide
  have c__law_times := cal__law_times (P := P) (w := w) (base := base) h
  have c__law_right := cal__law_right (P := P) (w := w) (base := base) h c_offsets c_ring c__law_draw c__law_pick c__law_parts c__law_rows c__law_renamed c__law_told c__law_times
  exact fok_law h c__law_well c__law_right F
end
def d__law_well : He.DefD := ⟨("_law_well", none), "_law_well", "_law_well", defArgs s__law_well, defBody s__law_well, defScope s__law_well, [], []⟩
def d_is_row : He.DefD := ⟨("is_row", none), "is_row", "is_row", defArgs s_is_row, defBody s_is_row, defScope s_is_row, [], []⟩
def d_is_whole : He.DefD := ⟨("is_whole", none), "is_whole", "is_whole", defArgs s_is_whole, defBody s_is_whole, defScope s_is_whole, [], []⟩
def d_is_between : He.DefD := ⟨("is_between", none), "is_between", "is_between", defArgs s_is_between, defBody s_is_between, defScope s_is_between, [], []⟩
def d_is_name : He.DefD := ⟨("is_name", none), "is_name", "is_name", defArgs s_is_name, defBody s_is_name, defScope s_is_name, [], []⟩
def d_is_bounds : He.DefD := ⟨("is_bounds", none), "is_bounds", "is_bounds", defArgs s_is_bounds, defBody s_is_bounds, defScope s_is_bounds, [], []⟩
def d_is_variable : He.DefD := ⟨("is_variable", none), "is_variable", "is_variable", defArgs s_is_variable, defBody s_is_variable, defScope s_is_variable, [], []⟩
def d_check_variables : He.DefD := ⟨("check_variables", none), "check_variables", "check_variables", defArgs s_check_variables, defBody s_check_variables, defScope s_check_variables, [], []⟩
def d_place_in : He.DefD := ⟨("place_in", none), "place_in", "place_in", defArgs s_place_in, defBody s_place_in, defScope s_place_in, [], []⟩
def d_is_member : He.DefD := ⟨("is_member", none), "is_member", "is_member", defArgs s_is_member, defBody s_is_member, defScope s_is_member, [], []⟩
def d_lines_of : He.DefD := ⟨("lines_of", none), "lines_of", "lines_of", defArgs s_lines_of, defBody s_lines_of, defScope s_lines_of, [], []⟩
def d_Reach_go_on : He.DefD := ⟨("Reach", some "go_on"), "go_on", "Reach.go_on", defArgs s_Reach_go_on, defBody s_Reach_go_on, defScope s_Reach_go_on, [], []⟩
def d_Reach___init__ : He.DefD := ⟨("Reach", some "__init__"), "__init__", "Reach.__init__", defArgs s_Reach___init__, defBody s_Reach___init__, defScope s_Reach___init__, [], []⟩
def d_groups_of : He.DefD := ⟨("groups_of", none), "groups_of", "groups_of", defArgs s_groups_of, defBody s_groups_of, defScope s_groups_of, [], []⟩
def d_do_hold : He.DefD := ⟨("do_hold", none), "do_hold", "do_hold", defArgs s_do_hold, defBody s_do_hold, defScope s_do_hold, [], []⟩
def d_risen : He.DefD := ⟨("risen", none), "risen", "risen", defArgs s_risen, defBody s_risen, defScope s_risen, [], []⟩
def d_offsets : He.DefD := ⟨("offsets", none), "offsets", "offsets", defArgs s_offsets, defBody s_offsets, defScope s_offsets, [], []⟩
def d_Reach_wrong : He.DefD := ⟨("Reach", some "wrong"), "wrong", "Reach.wrong", defArgs s_Reach_wrong, defBody s_Reach_wrong, defScope s_Reach_wrong, [], []⟩
def d_ring_of : He.DefD := ⟨("ring_of", none), "ring_of", "ring_of", defArgs s_ring_of, defBody s_ring_of, defScope s_ring_of, [], []⟩
def d_ring : He.DefD := ⟨("ring", none), "ring", "ring", defArgs s_ring, defBody s_ring, defScope s_ring, [], []⟩
def d__law_draw : He.DefD := ⟨("_law_draw", none), "_law_draw", "_law_draw", defArgs s__law_draw, defBody s__law_draw, defScope s__law_draw, [], []⟩
def d__law_pick : He.DefD := ⟨("_law_pick", none), "_law_pick", "_law_pick", defArgs s__law_pick, defBody s__law_pick, defScope s__law_pick, [], []⟩
def d__law_bounds : He.DefD := ⟨("_law_bounds", none), "_law_bounds", "_law_bounds", defArgs s__law_bounds, defBody s__law_bounds, defScope s__law_bounds, [], []⟩
def d__law_parts : He.DefD := ⟨("_law_parts", none), "_law_parts", "_law_parts", defArgs s__law_parts, defBody s__law_parts, defScope s__law_parts, [], []⟩
def d__law_wide : He.DefD := ⟨("_law_wide", none), "_law_wide", "_law_wide", defArgs s__law_wide, defBody s__law_wide, defScope s__law_wide, [], []⟩
def d__law_at : He.DefD := ⟨("_law_at", none), "_law_at", "_law_at", defArgs s__law_at, defBody s__law_at, defScope s__law_at, [], []⟩
def d__law_member : He.DefD := ⟨("_law_member", none), "_law_member", "_law_member", defArgs s__law_member, defBody s__law_member, defScope s__law_member, [], []⟩
def d__law_row : He.DefD := ⟨("_law_row", none), "_law_row", "_law_row", defArgs s__law_row, defBody s__law_row, defScope s__law_row, [], []⟩
def d__law_rows : He.DefD := ⟨("_law_rows", none), "_law_rows", "_law_rows", defArgs s__law_rows, defBody s__law_rows, defScope s__law_rows, [], []⟩
def d__law_renamed : He.DefD := ⟨("_law_renamed", none), "_law_renamed", "_law_renamed", defArgs s__law_renamed, defBody s__law_renamed, defScope s__law_renamed, [], []⟩
def d_many_elements : He.DefD := ⟨("many_elements", none), "many_elements", "many_elements", defArgs s_many_elements, defBody s_many_elements, defScope s_many_elements, [], []⟩
def d_units_of : He.DefD := ⟨("units_of", none), "units_of", "units_of", defArgs s_units_of, defBody s_units_of, defScope s_units_of, [], []⟩
def d_sight_of : He.DefD := ⟨("sight_of", none), "sight_of", "sight_of", defArgs s_sight_of, defBody s_sight_of, defScope s_sight_of, [], []⟩
def d_shared : He.DefD := ⟨("shared", none), "shared", "shared", defArgs s_shared, defBody s_shared, defScope s_shared, [], []⟩
def d_stretch : He.DefD := ⟨("stretch", none), "stretch", "stretch", defArgs s_stretch, defBody s_stretch, defScope s_stretch, [], []⟩
def d_touched : He.DefD := ⟨("touched", none), "touched", "touched", defArgs s_touched, defBody s_touched, defScope s_touched, [], []⟩
def d_cuts : He.DefD := ⟨("cuts", none), "cuts", "cuts", defArgs s_cuts, defBody s_cuts, defScope s_cuts, [], []⟩
def d_gcd : He.DefD := ⟨("gcd", none), "gcd", "gcd", defArgs s_gcd, defBody s_gcd, defScope s_gcd, [], []⟩
def d_lcm : He.DefD := ⟨("lcm", none), "lcm", "lcm", defArgs s_lcm, defBody s_lcm, defScope s_lcm, [], []⟩
def d_inverse : He.DefD := ⟨("inverse", none), "inverse", "inverse", defArgs s_inverse, defBody s_inverse, defScope s_inverse, [], []⟩
def d_meeting : He.DefD := ⟨("meeting", none), "meeting", "meeting", defArgs s_meeting, defBody s_meeting, defScope s_meeting, [], []⟩
def d_common_cuts : He.DefD := ⟨("common_cuts", none), "common_cuts", "common_cuts", defArgs s_common_cuts, defBody s_common_cuts, defScope s_common_cuts, [], []⟩
def d_pairs_number : He.DefD := ⟨("pairs_number", none), "pairs_number", "pairs_number", defArgs s_pairs_number, defBody s_pairs_number, defScope s_pairs_number, [], []⟩
def d_twins_number : He.DefD := ⟨("twins_number", none), "twins_number", "twins_number", defArgs s_twins_number, defBody s_twins_number, defScope s_twins_number, [], []⟩
def d__law_told : He.DefD := ⟨("_law_told", none), "_law_told", "_law_told", defArgs s__law_told, defBody s__law_told, defScope s__law_told, [], []⟩
def d__law_times : He.DefD := ⟨("_law_times", none), "_law_times", "_law_times", defArgs s__law_times, defBody s__law_times, defScope s__law_times, [], []⟩
def d__law_right : He.DefD := ⟨("_law_right", none), "_law_right", "_law_right", defArgs s__law_right, defBody s__law_right, defScope s__law_right, [], []⟩
def d_law : He.DefD := ⟨("law", none), "law", "law", defArgs s_law, defBody s_law, defScope s_law, [], []⟩
def fn : List He.DefD := [d__law_well, d_is_row, d_is_whole, d_is_between, d_is_name, d_is_bounds, d_is_variable, d_check_variables, d_place_in, d_is_member, d_lines_of, d_Reach_go_on, d_Reach___init__, d_groups_of, d_do_hold, d_risen, d_offsets, d_Reach_wrong, d_ring_of, d_ring, d__law_draw, d__law_pick, d__law_bounds, d__law_parts, d__law_wide, d__law_at, d__law_member, d__law_row, d__law_rows, d__law_renamed, d_many_elements, d_units_of, d_sight_of, d_shared, d_stretch, d_touched, d_cuts, d_gcd, d_lcm, d_inverse, d_meeting, d_common_cuts, d_pairs_number, d_twins_number, d__law_told, d__law_times, d__law_right, d_law]
def fa0 : List He.Fa := [.glo "_law_well", .glo "is_row", .glo "is_whole", .glo "is_between", .glo "is_name", .glo "is_bounds", .glo "is_variable", .glo "check_variables", .glo "place_in", .glo "is_member", .glo "lines_of", .glo "Reach", .glo "Reach", .glo "groups_of", .glo "do_hold", .glo "risen", .glo "offsets", .glo "Reach", .glo "ring_of", .glo "ring", .glo "_law_draw", .glo "_law_pick", .glo "_law_bounds", .glo "_law_parts", .glo "_law_wide", .glo "_law_at", .glo "_law_member", .glo "_law_row", .glo "_law_rows", .glo "_law_renamed"]
def fa1 : List He.Fa := [.glo "many_elements", .glo "units_of", .glo "sight_of", .glo "shared", .glo "stretch", .glo "touched", .glo "cuts", .glo "gcd", .glo "lcm", .glo "inverse", .glo "meeting", .glo "common_cuts", .glo "pairs_number", .glo "twins_number", .glo "_law_told", .glo "_law_times", .glo "_law_right", .glo "law", .free "abs", .free "all", .free "bool", .free "dict", .free "enumerate", .free "int", .free "isinstance", .free "len", .free "list", .free "max", .free "min", .free "range"]
def fa2 : List He.Fa := [.free "set", .free "str", .free "tuple", .free "zip", .int "FAR" 1000000000000000000000000000000, .int "MOST_DIMENSIONS" 7, .int "MOST_MEMBERS" 10, .int "MOST_ROWS" 40, .int "MOST_SIZE" 16, .int "MOST_VARIABLES" 40, .str "LETTERS" "abcdefghijklmnopqrstuvwxyz", .glo "Reach", .cls "Reach", .noat "Reach" "bases", .noat "Reach" "lines", .noat "Reach" "order", .noat "Reach" "steps", .meth "Reach" "go_on", .mkr "Reach", .meth "Reach" "wrong"]
def fa : List He.Fa := fa0 ++ fa1 ++ fa2
abbrev TheRow : PySem.W.OpenRow := PySem.W.OpenLaw.row PySem.Challenge.rw_sectionwise_k55_whole_variables_told_oth
def exs : List (Str × List PL.D) := []
def exc (K : PySem.W.Frag) : List Bool := []
def ex (K : PySem.W.Frag) : Bool := (exs.all fun q => He.tupB K q.1 (q.2.map gvD)) && (exc K).all id
abbrev hk : PySem.W.Hook := PL.hookX 4 fa fn ex
def ob (s : PySem.W.SharedT) : He.AlD × Bool := PL.exG 4 fa fn ex (HandSHeadRun.getT s)
theorem ob_eq (s : PySem.W.SharedT) : ob s = hk.obs s.abs := PL.exG_eq (HandSHeadRun.getT_eq s)
def loose0 : List PySem.Str := ["SectionError", "InvalidLayout", "InvalidArgument", "FAR", "is_whole", "is_between", "is_row", "gcd", "lcm", "inverse", "meeting", "LETTERS", "MOST_VARIABLES", "MOST_ROWS", "MOST_MEMBERS", "MOST_SIZE", "MOST_DIMENSIONS", "is_name", "is_bounds", "is_variable", "check_variables", "many_elements", "units_of", "place_in", "is_member", "lines_of", "Reach", "groups_of", "do_hold", "ring_of"]
def loose1 : List PySem.Str := ["risen", "offsets", "ring", "stretch", "cuts", "common_cuts", "sight_of", "shared", "touched", "pairs_number", "twins_number", "_law_well", "_law_draw", "_law_pick", "_law_bounds", "_law_parts", "_law_wide", "_law_at", "_law_member", "_law_row", "_law_rows", "_law_ahead", "_law_lines", "_law_begin", "_law_bases", "_law_renamed", "_law_told", "_law_times", "_law_right"]
def loose : List PySem.Str := loose0 ++ loose1
theorem run (w : World) : HandSHeadRun.RunEq TheRow (PySem.W.view TheRow.prog [63]) hk ob 4000 loose w := by
  intro os
  kernel_rfl
theorem hd_of {K : PySem.W.Frag} {h : Heap} {mg : Str → Option Value} (X : K.In h) (G : h.Ns mainGlobals mg) (c : He.SaysD fa fn K) (cx : ex K = true) : Hd K mg := by
  have cx1 := (Bool.and_eq_true_iff.mp cx).1
  have cx2 := (Bool.and_eq_true_iff.mp cx).2
  refine ⟨He.free_ok X G (c.fact 48 (f := .free "abs") rfl), He.free_ok X G (c.fact 49 (f := .free "all") rfl), He.free_ok X G (c.fact 50 (f := .free "bool") rfl), He.free_ok X G (c.fact 51 (f := .free "dict") rfl), He.free_ok X G (c.fact 52 (f := .free "enumerate") rfl), He.free_ok X G (c.fact 53 (f := .free "int") rfl), He.free_ok X G (c.fact 54 (f := .free "isinstance") rfl), He.free_ok X G (c.fact 55 (f := .free "len") rfl), He.free_ok X G (c.fact 56 (f := .free "list") rfl), He.free_ok X G (c.fact 57 (f := .free "max") rfl), He.free_ok X G (c.fact 58 (f := .free "min") rfl), He.free_ok X G (c.fact 59 (f := .free "range") rfl), He.free_ok X G (c.fact 60 (f := .free "set") rfl), He.free_ok X G (c.fact 61 (f := .free "str") rfl), He.free_ok X G (c.fact 62 (f := .free "tuple") rfl), He.free_ok X G (c.fact 63 (f := .free "zip") rfl), He.int_ok X G (c.fact 64 (f := .int "FAR" 1000000000000000000000000000000) rfl), He.int_ok X G (c.fact 65 (f := .int "MOST_DIMENSIONS" 7) rfl), He.int_ok X G (c.fact 66 (f := .int "MOST_MEMBERS" 10) rfl), He.int_ok X G (c.fact 67 (f := .int "MOST_ROWS" 40) rfl), He.int_ok X G (c.fact 68 (f := .int "MOST_SIZE" 16) rfl), He.int_ok X G (c.fact 69 (f := .int "MOST_VARIABLES" 40) rfl), He.str_ok X G (c.fact 70 (f := .str "LETTERS" "abcdefghijklmnopqrstuvwxyz") rfl), ⟨He.glo_ok X G (c.fact 71 (f := .glo "Reach") rfl), He.cls_ok (c.fact 72 (f := .cls "Reach") rfl)⟩, He.noat_ok (c.fact 73 (f := .noat "Reach" "bases") rfl), He.noat_ok (c.fact 74 (f := .noat "Reach" "lines") rfl), He.noat_ok (c.fact 75 (f := .noat "Reach" "order") rfl), He.noat_ok (c.fact 76 (f := .noat "Reach" "steps") rfl), He.meth_ok (c.fact 77 (f := .meth "Reach" "go_on") rfl), (let ⟨fd, F⟩ := c.def_ 11 (d := d_Reach_go_on) rfl; ⟨fd, F⟩), He.mkr_ok (c.fact 78 (f := .mkr "Reach") rfl), (let ⟨fd, F⟩ := c.def_ 12 (d := d_Reach___init__) rfl; ⟨fd, F⟩), He.meth_ok (c.fact 79 (f := .meth "Reach" "wrong") rfl), (let ⟨fd, F⟩ := c.def_ 17 (d := d_Reach_wrong) rfl; ⟨fd, F⟩), (let ⟨fd, F⟩ := c.def_ 0 (d := d__law_well) rfl; ⟨_, fd, He.glo_ok X G (c.fact 0 (f := .glo "_law_well") rfl), F⟩), (let ⟨fd, F⟩ := c.def_ 1 (d := d_is_row) rfl; ⟨_, fd, He.glo_ok X G (c.fact 1 (f := .glo "is_row") rfl), F⟩), (let ⟨fd, F⟩ := c.def_ 2 (d := d_is_whole) rfl; ⟨_, fd, He.glo_ok X G (c.fact 2 (f := .glo "is_whole") rfl), F⟩), (let ⟨fd, F⟩ := c.def_ 3 (d := d_is_between) rfl; ⟨_, fd, He.glo_ok X G (c.fact 3 (f := .glo "is_between") rfl), F⟩), (let ⟨fd, F⟩ := c.def_ 4 (d := d_is_name) rfl; ⟨_, fd, He.glo_ok X G (c.fact 4 (f := .glo "is_name") rfl), F⟩), (let ⟨fd, F⟩ := c.def_ 5 (d := d_is_bounds) rfl; ⟨_, fd, He.glo_ok X G (c.fact 5 (f := .glo "is_bounds") rfl), F⟩), (let ⟨fd, F⟩ := c.def_ 6 (d := d_is_variable) rfl; ⟨_, fd, He.glo_ok X G (c.fact 6 (f := .glo "is_variable") rfl), F⟩), (let ⟨fd, F⟩ := c.def_ 7 (d := d_check_variables) rfl; ⟨_, fd, He.glo_ok X G (c.fact 7 (f := .glo "check_variables") rfl), F⟩), (let ⟨fd, F⟩ := c.def_ 8 (d := d_place_in) rfl; ⟨_, fd, He.glo_ok X G (c.fact 8 (f := .glo "place_in") rfl), F⟩), (let ⟨fd, F⟩ := c.def_ 9 (d := d_is_member) rfl; ⟨_, fd, He.glo_ok X G (c.fact 9 (f := .glo "is_member") rfl), F⟩), (let ⟨fd, F⟩ := c.def_ 10 (d := d_lines_of) rfl; ⟨_, fd, He.glo_ok X G (c.fact 10 (f := .glo "lines_of") rfl), F⟩), (let ⟨fd, F⟩ := c.def_ 13 (d := d_groups_of) rfl; ⟨_, fd, He.glo_ok X G (c.fact 13 (f := .glo "groups_of") rfl), F⟩), (let ⟨fd, F⟩ := c.def_ 14 (d := d_do_hold) rfl; ⟨_, fd, He.glo_ok X G (c.fact 14 (f := .glo "do_hold") rfl), F⟩), (let ⟨fd, F⟩ := c.def_ 15 (d := d_risen) rfl; ⟨_, fd, He.glo_ok X G (c.fact 15 (f := .glo "risen") rfl), F⟩), (let ⟨fd, F⟩ := c.def_ 16 (d := d_offsets) rfl; ⟨_, fd, He.glo_ok X G (c.fact 16 (f := .glo "offsets") rfl), F⟩), (let ⟨fd, F⟩ := c.def_ 18 (d := d_ring_of) rfl; ⟨_, fd, He.glo_ok X G (c.fact 18 (f := .glo "ring_of") rfl), F⟩), (let ⟨fd, F⟩ := c.def_ 19 (d := d_ring) rfl; ⟨_, fd, He.glo_ok X G (c.fact 19 (f := .glo "ring") rfl), F⟩), (let ⟨fd, F⟩ := c.def_ 20 (d := d__law_draw) rfl; ⟨_, fd, He.glo_ok X G (c.fact 20 (f := .glo "_law_draw") rfl), F⟩), (let ⟨fd, F⟩ := c.def_ 21 (d := d__law_pick) rfl; ⟨_, fd, He.glo_ok X G (c.fact 21 (f := .glo "_law_pick") rfl), F⟩), (let ⟨fd, F⟩ := c.def_ 22 (d := d__law_bounds) rfl; ⟨_, fd, He.glo_ok X G (c.fact 22 (f := .glo "_law_bounds") rfl), F⟩), (let ⟨fd, F⟩ := c.def_ 23 (d := d__law_parts) rfl; ⟨_, fd, He.glo_ok X G (c.fact 23 (f := .glo "_law_parts") rfl), F⟩), (let ⟨fd, F⟩ := c.def_ 24 (d := d__law_wide) rfl; ⟨_, fd, He.glo_ok X G (c.fact 24 (f := .glo "_law_wide") rfl), F⟩), (let ⟨fd, F⟩ := c.def_ 25 (d := d__law_at) rfl; ⟨_, fd, He.glo_ok X G (c.fact 25 (f := .glo "_law_at") rfl), F⟩), (let ⟨fd, F⟩ := c.def_ 26 (d := d__law_member) rfl; ⟨_, fd, He.glo_ok X G (c.fact 26 (f := .glo "_law_member") rfl), F⟩), (let ⟨fd, F⟩ := c.def_ 27 (d := d__law_row) rfl; ⟨_, fd, He.glo_ok X G (c.fact 27 (f := .glo "_law_row") rfl), F⟩), (let ⟨fd, F⟩ := c.def_ 28 (d := d__law_rows) rfl; ⟨_, fd, He.glo_ok X G (c.fact 28 (f := .glo "_law_rows") rfl), F⟩), (let ⟨fd, F⟩ := c.def_ 29 (d := d__law_renamed) rfl; ⟨_, fd, He.glo_ok X G (c.fact 29 (f := .glo "_law_renamed") rfl), F⟩), (let ⟨fd, F⟩ := c.def_ 30 (d := d_many_elements) rfl; ⟨_, fd, He.glo_ok X G (c.fact 30 (f := .glo "many_elements") rfl), F⟩), (let ⟨fd, F⟩ := c.def_ 31 (d := d_units_of) rfl; ⟨_, fd, He.glo_ok X G (c.fact 31 (f := .glo "units_of") rfl), F⟩), (let ⟨fd, F⟩ := c.def_ 32 (d := d_sight_of) rfl; ⟨_, fd, He.glo_ok X G (c.fact 32 (f := .glo "sight_of") rfl), F⟩), (let ⟨fd, F⟩ := c.def_ 33 (d := d_shared) rfl; ⟨_, fd, He.glo_ok X G (c.fact 33 (f := .glo "shared") rfl), F⟩), (let ⟨fd, F⟩ := c.def_ 34 (d := d_stretch) rfl; ⟨_, fd, He.glo_ok X G (c.fact 34 (f := .glo "stretch") rfl), F⟩), (let ⟨fd, F⟩ := c.def_ 35 (d := d_touched) rfl; ⟨_, fd, He.glo_ok X G (c.fact 35 (f := .glo "touched") rfl), F⟩), (let ⟨fd, F⟩ := c.def_ 36 (d := d_cuts) rfl; ⟨_, fd, He.glo_ok X G (c.fact 36 (f := .glo "cuts") rfl), F⟩), (let ⟨fd, F⟩ := c.def_ 37 (d := d_gcd) rfl; ⟨_, fd, He.glo_ok X G (c.fact 37 (f := .glo "gcd") rfl), F⟩), (let ⟨fd, F⟩ := c.def_ 38 (d := d_lcm) rfl; ⟨_, fd, He.glo_ok X G (c.fact 38 (f := .glo "lcm") rfl), F⟩), (let ⟨fd, F⟩ := c.def_ 39 (d := d_inverse) rfl; ⟨_, fd, He.glo_ok X G (c.fact 39 (f := .glo "inverse") rfl), F⟩), (let ⟨fd, F⟩ := c.def_ 40 (d := d_meeting) rfl; ⟨_, fd, He.glo_ok X G (c.fact 40 (f := .glo "meeting") rfl), F⟩), (let ⟨fd, F⟩ := c.def_ 41 (d := d_common_cuts) rfl; ⟨_, fd, He.glo_ok X G (c.fact 41 (f := .glo "common_cuts") rfl), F⟩), (let ⟨fd, F⟩ := c.def_ 42 (d := d_pairs_number) rfl; ⟨_, fd, He.glo_ok X G (c.fact 42 (f := .glo "pairs_number") rfl), F⟩), (let ⟨fd, F⟩ := c.def_ 43 (d := d_twins_number) rfl; ⟨_, fd, He.glo_ok X G (c.fact 43 (f := .glo "twins_number") rfl), F⟩), (let ⟨fd, F⟩ := c.def_ 44 (d := d__law_told) rfl; ⟨_, fd, He.glo_ok X G (c.fact 44 (f := .glo "_law_told") rfl), F⟩), (let ⟨fd, F⟩ := c.def_ 45 (d := d__law_times) rfl; ⟨_, fd, He.glo_ok X G (c.fact 45 (f := .glo "_law_times") rfl), F⟩), (let ⟨fd, F⟩ := c.def_ 46 (d := d__law_right) rfl; ⟨_, fd, He.glo_ok X G (c.fact 46 (f := .glo "_law_right") rfl), F⟩), (let ⟨fd, F⟩ := c.def_ 47 (d := d_law) rfl; ⟨_, fd, He.glo_ok X G (c.fact 47 (f := .glo "law") rfl), F⟩)⟩
end G
open PySem PySem.W PySem.Calls PyProof.Rows
set_option maxRecDepth 100000 in
set_option maxHeartbeats 0 in
theorem PySem.Challenge.cw_sectionwise_k55_whole_variables_told_oth_holds : PySem.Challenge.rw_sectionwise_k55_whole_variables_told_oth.Holds := by
  w_on; o_law
  refine HandSHeadRun.head_any (r := OpenLaw.row PySem.Challenge.rw_sectionwise_k55_whole_variables_told_oth) (q := view (OpenLaw.row PySem.Challenge.rw_sectionwise_k55_whole_variables_told_oth).prog [63]) (H := G.hk) (ob := G.ob) (M := 4000) (loose := G.loose) (d := HandSHeadRun.topDef (OpenLaw.row PySem.Challenge.rw_sectionwise_k55_whole_variables_told_oth).prog 63) (kwd := []) G.ob_eq
    (by kernel_rfl) (fun s => by kernel_rfl) G.run (by kernel_rfl) (by kernel_rfl) (by kernel_rfl) (by rfl) (by first | assumption | decide +kernel) (by decide +kernel) ⟨rfl, rfl, rfl, rfl, rfl, by decide +kernel⟩ ?hw ?hc
  case hw => w_witness2
  case hc =>
    refine PL.walk_law (l := PySem.Challenge.rw_sectionwise_k55_whole_variables_told_oth) (n := 63) (k := 10) (x := "_law_script") (F := G.F_law) rfl rfl (by decide) (by kernel_rfl) ⟨rfl, by decide, by decide⟩ ?F G.law_true
    intro w mg h Y G'
    obtain ⟨K, KX, c, cx⟩ := Y
    have hd := G.hd_of KX G' c cx
    obtain ⟨f, fd, hm, F⟩ := hd.f_law
    have b := L2.FunD.bindsA (ps := ["_law_script"]) F fun _ _ _ _ _ _ us hl => match us, hl with | [_], _ => rfl
    refine ⟨K, f, fd, KX, ?_, fun s u => b s [u] rfl, fun base => G.cal_all hd F⟩
    have e : (HandSHeadRun.topDef (OpenLaw.row PySem.Challenge.rw_sectionwise_k55_whole_variables_told_oth).prog 63).name = ("law" : PySem.Str) := by kernel_rfl
    rw [e]
    exact hm
