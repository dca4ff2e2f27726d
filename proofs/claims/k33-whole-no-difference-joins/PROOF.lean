import PyProof.Rows.All
import Wide.All
import OpenK.AllK
import Wide.FinOn
import HandS.ForMost
import HandS.Walk
import HandS.EndTab
import HandS.Deep
import HandS.Style
import HandS.TupLe
import HandS.TupAny
import HandS.IsInst
import HandS.Conv
import HandS.Flt
import HandS.SortKw
import HandS.SetKeys
import KE.SortData
import KE.SortKeyHeap
import KE.DataMinMax
import HandS.Defaults
import HandS.More
import KE.GoesMore
import PyProof.Draws
import HandS.DictSubView
import HandS.Lambda
import HandS.HeadHook1
import HandS.HeadHook2
import HandS.HeadHook3
import HandS.HeadHook4
import KE.KNestM
import PySem.Challenge.RW_ringorders_k33_whole_no_difference_joins
set_option Elab.async false
set_option linter.all false
set_option maxRecDepth 100000
set_option maxHeartbeats 4000000
/-! Da: plain data over the hand layer's abstract heap: what stands still (S), what may change (M), the rest. -/
namespace DL
open PySem PySem.Spec PyProof.Rows L2

/-! ### data that stands still -/
mutual
inductive Tr (S : Hp) : V → PyData → Prop
  | non : Tr S .non .none
  | bl (b : Bool) : Tr S (.bl b) (.bool b)
  | int (i : Int) : Tr S (.int i) (.int i)
  | str (x : Str) : Tr S (.str x) (.str x)
  | lst {a : Addr} {xs : List V} {ds : List PyData} : S a = some (.lst xs) → TrAll S xs ds → Tr S (.ref a) (.list ds)
  | tup {a : Addr} {xs : List V} {ds : List PyData} : S a = some (.tup xs) → TrAll S xs ds → Tr S (.ref a) (.tuple ds)
inductive TrAll (S : Hp) : List V → List PyData → Prop
  | nil : TrAll S [] []
  | cons {v : V} {vs : List V} {d : PyData} {ds : List PyData} : Tr S v d → TrAll S vs ds → TrAll S (v :: vs) (d :: ds)
end
/-- lists and tuples stay -/
def Stay (S S' : Hp) : Prop := ∀ a xs, (S a = some (.lst xs) → S' a = some (.lst xs)) ∧ (S a = some (.tup xs) → S' a = some (.tup xs))
theorem Stay.of {S S' : Hp} (e : Same S S') : Stay S S' := fun a xs => ⟨e a _, e a _⟩
mutual
theorem Tr.stay {S S' : Hp} (e : Stay S S') : ∀ {d : PyData} {v : V}, Tr S v d → Tr S' v d
  | _, _, .non => .non
  | _, _, .bl b => .bl b
  | _, _, .int i => .int i
  | _, _, .str x => .str x
  | _, _, .lst h t => .lst ((e _ _).1 h) (TrAll.stay e t)
  | _, _, .tup h t => .tup ((e _ _).2 h) (TrAll.stay e t)
theorem TrAll.stay {S S' : Hp} (e : Stay S S') : ∀ {ds : List PyData} {vs : List V}, TrAll S vs ds → TrAll S' vs ds
  | _, _, .nil => .nil
  | _, _, .cons h t => .cons (Tr.stay e h) (TrAll.stay e t)
end
theorem Tr.mono {S S' : Hp} (e : Same S S') {d : PyData} {v : V} (h : Tr S v d) : Tr S' v d := h.stay (.of e)
theorem TrAll.mono {S S' : Hp} (e : Same S S') {ds : List PyData} {vs : List V} (h : TrAll S vs ds) : TrAll S' vs ds := h.stay (.of e)
mutual
theorem Tr.dp {K : PySem.W.Frag} {S : Hp} : ∀ {d : PyData} {v : V}, Tr S v d → Dp K S v d
  | _, _, .non => .non
  | _, _, .bl b => .bl b
  | _, _, .int i => .int i
  | _, _, .str x => .str x
  | _, _, .lst h t => .lst (SqL.of h) (TrAll.dp t)
  | _, _, .tup h t => .tup (SqT.of h) (TrAll.dp t)
theorem TrAll.dp {K : PySem.W.Frag} {S : Hp} : ∀ {ds : List PyData} {vs : List V}, TrAll S vs ds → DpAll K S vs ds
  | _, _, .nil => .nil
  | _, _, .cons h t => .cons (Tr.dp h) (TrAll.dp t)
end
theorem TrAll.length {S : Hp} : ∀ {ds : List PyData} {vs : List V}, TrAll S vs ds → vs.length = ds.length
  | _, _, .nil => rfl
  | _, _, .cons _ t => congrArg (· + 1) t.length
theorem TrAll.get {S : Hp} : ∀ {ds : List PyData} {vs : List V} {i : Nat} {d : PyData}, TrAll S vs ds → ds[i]? = some d → ∃ v, vs[i]? = some v ∧ Tr S v d
  | _, _, _, _, .nil, e => by simp at e
  | _, _, 0, _, .cons h _, e => by simp at e; subst e; exact ⟨_, rfl, h⟩
  | _, _, i + 1, d, .cons _ t, e => by
    obtain ⟨v, h1, h2⟩ := TrAll.get (i := i) t (by simpa using e)
    exact ⟨v, by simpa using h1, h2⟩
theorem TrAll.append {S : Hp} : ∀ {ds es : List PyData} {vs us : List V}, TrAll S vs ds → TrAll S us es → TrAll S (vs ++ us) (ds ++ es)
  | _, _, _, _, .nil, q => q
  | _, _, _, _, .cons h t, q => .cons h (t.append q)
theorem TrAll.take {S : Hp} : ∀ {ds : List PyData} {vs : List V} (n : Nat), TrAll S vs ds → TrAll S (vs.take n) (ds.take n)
  | _, _, 0, _ => .nil
  | _, _, _ + 1, .nil => .nil
  | _, _, n + 1, .cons h t => .cons h (t.take n)
theorem TrAll.drop {S : Hp} : ∀ {ds : List PyData} {vs : List V} (n : Nat), TrAll S vs ds → TrAll S (vs.drop n) (ds.drop n)
  | _, _, 0, h => h
  | _, _, _ + 1, .nil => .nil
  | _, _, n + 1, .cons _ t => t.drop n
theorem TrAll.reverse {S : Hp} : ∀ {ds : List PyData} {vs : List V}, TrAll S vs ds → TrAll S vs.reverse ds.reverse
  | _, _, .nil => .nil
  | _, _, .cons h t => by
    rw [List.reverse_cons, List.reverse_cons]
    exact t.reverse.append (.cons h .nil)
theorem TrAll.ints {S : Hp} : ∀ {is : List Int}, TrAll S (is.map V.int) (is.map PyData.int)
  | [] => .nil
  | i :: r => .cons (.int i) TrAll.ints
theorem TrAll.to_ints {S : Hp} : ∀ {is : List Int} {vs : List V}, TrAll S vs (is.map PyData.int) → vs = is.map V.int
  | [], _, h => by cases h; rfl
  | i :: r, _, h => by
    cases h with
    | cons h t => cases h; rw [TrAll.to_ints t]; rfl
theorem TrAll.to_bools {S : Hp} : ∀ {is : List Bool} {vs : List V}, TrAll S vs (is.map PyData.bool) → vs = is.map V.bl
  | [], _, h => by cases h; rfl
  | i :: r, _, h => by
    cases h with
    | cons h t => cases h; rw [TrAll.to_bools t]; rfl

/-! ### data, what may change, and how the heap bears them -/
inductive Dat where
  | py (d : PyData)
  | own (a : Addr)
  | dK (kvs : List (Key × PyData))
  | dT (kvs : List (List Key × PyData))
  | scr (ns : List Int)
  | ty (n : String)
inductive MO where
  | lst (ds : List Dat)
  | dK (kvs : List (Key × Dat))
  | dT (kvs : List (List Key × Dat))
  /-- a dict of ints, while it is walked -/
  | fK (od : Obj) (kvs : List (Key × Int))
abbrev Mem := Addr → Option MO
abbrev DEnv := List (Option Dat)
def putM (M : Mem) (a : Addr) (o : MO) : Mem := fun b => if b = a then some o else M b
def delM (M : Mem) (a : Addr) : Mem := fun b => if b = a then none else M b
theorem putM_same {M : Mem} {a : Addr} {o : MO} : putM M a o a = some o := by unfold putM; rw [if_pos rfl]
theorem putM_ne {M : Mem} {a b : Addr} {o : MO} (h : b ≠ a) : putM M a o b = M b := by unfold putM; rw [if_neg h]
theorem delM_same {M : Mem} {a : Addr} : delM M a a = none := by unfold delM; rw [if_pos rfl]
theorem delM_ne {M : Mem} {a b : Addr} (h : b ≠ a) : delM M a b = M b := by unfold delM; rw [if_neg h]
theorem putM_putM {M : Mem} {a : Addr} {o u : MO} : putM (putM M a o) a u = putM M a u := by
  funext b; unfold putM; split <;> rfl
theorem delM_putM {M : Mem} {a : Addr} {o : MO} (h : M a = none) : delM (putM M a o) a = M := by
  funext b; unfold delM putM
  by_cases e : b = a
  · rw [if_pos e, e, h]
  · rw [if_neg e, if_neg e]

def KVs {κ : Type} (S : Hp) : List (κ × V) → List (κ × PyData) → Prop := Paired fun p q => p.1 = q.1 ∧ Tr S p.2 q.2
def Rp (K : PySem.W.Frag) (S : Hp) (v : V) : Dat → Prop
  | .py d => Tr S v d
  | .own a => v = .ref a
  | .dK kvs => ∃ a kv, v = .ref a ∧ S a = some (.dK kv) ∧ KVs S kv kvs
  | .dT kvs => ∃ a kv, v = .ref a ∧ S a = some (.dT kv) ∧ KVs S kv kvs
  | .scr ns => ∃ a, v = .ref a ∧ SqL K S a (ns.map V.int)
  | .ty n => v = .ty n
def RpAll (K : PySem.W.Frag) (S : Hp) : List V → List Dat → Prop := Paired (Rp K S)
def RKV {κ : Type} (K : PySem.W.Frag) (S : Hp) : List (κ × V) → List (κ × Dat) → Prop := Paired fun p q => p.1 = q.1 ∧ Rp K S p.2 q.2
inductive MRep (K : PySem.W.Frag) (S : Hp) : HO → MO → Prop
  | lst {vs : List V} {ds : List Dat} : RpAll K S vs ds → MRep K S (.lst vs) (.lst ds)
  | dK {kv : List (Key × V)} {kvs : List (Key × Dat)} : RKV K S kv kvs → MRep K S (.dK kv) (.dK kvs)
  | dT {kv : List (List Key × V)} {kvs : List (List Key × Dat)} : RKV K S kv kvs → MRep K S (.dT kv) (.dT kvs)
  | fK (od : Obj) (kvs : List (Key × Int)) : MRep K S (.frz od (.dK (kvs.map fun p => (p.1, V.int p.2)))) (.fK od kvs)
section
variable {K : PySem.W.Frag} {S S' : Hp}
theorem KVs.mono {κ : Type} (e : Same S S') {kv : List (κ × V)} {kvs : List (κ × PyData)} (h : KVs S kv kvs) : KVs S' kv kvs := Paired.mapP h fun _ _ q => ⟨q.1, q.2.mono e⟩
theorem Rp.mono (e : Same S S') {v : V} : ∀ {d : Dat}, Rp K S v d → Rp K S' v d
  | .py _, h => Tr.mono e h
  | .own _, h => h
  | .dK _, ⟨a, kv, h1, h2, h3⟩ => ⟨a, kv, h1, e _ _ h2, h3.mono e⟩
  | .dT _, ⟨a, kv, h1, h2, h3⟩ => ⟨a, kv, h1, e _ _ h2, h3.mono e⟩
  | .scr _, ⟨a, h1, h2⟩ => ⟨a, h1, e.seq h2⟩
  | .ty _, h => h
theorem RpAll.mono (e : Same S S') {vs : List V} {ds : List Dat} (h : RpAll K S vs ds) : RpAll K S' vs ds := Paired.mapP h fun _ _ q => q.mono e
theorem RKV.mono {κ : Type} (e : Same S S') {kv : List (κ × V)} {kvs : List (κ × Dat)} (h : RKV K S kv kvs) : RKV K S' kv kvs := Paired.mapP h fun _ _ q => ⟨q.1, q.2.mono e⟩
theorem MRep.mono (e : Same S S') {h : HO} {o : MO} (r : MRep K S h o) : MRep K S' h o := by
  cases r with
  | lst r => exact .lst (RpAll.mono e r)
  | dK r => exact .dK (RKV.mono e r)
  | dT r => exact .dT (RKV.mono e r)
  | fK od kvs => exact .fK od kvs
theorem MRep.notbl {h : HO} {o : MO} (r : MRep K S h o) : ∀ ps, h ≠ .tbl ps := fun ps z => by
  subst z
  cases r
theorem MRep.noext {h : HO} {o : MO} (r : MRep K S h o) : ∀ φ, h ≠ .ext φ := fun ps z => by
  subst z
  cases r
theorem RpAll.of : ∀ {vs : List V} {ds : List PyData}, TrAll S vs ds → RpAll K S vs (ds.map .py)
  | _, _, .nil => .nil
  | _, _, .cons h t => .cons h (RpAll.of t)
theorem RpAll.tr : ∀ {ds : List PyData} {vs : List V}, RpAll K S vs (ds.map .py) → TrAll S vs ds
  | [], _, h => by cases h; exact .nil
  | _ :: _, _, h => by
    cases h with
    | cons h t => exact .cons h (RpAll.tr t)
theorem RpAll.length {vs : List V} {ds : List Dat} (h : RpAll K S vs ds) : vs.length = ds.length := Paired.length h
theorem RpAll.append : ∀ {ds es : List Dat} {vs us : List V}, RpAll K S vs ds → RpAll K S us es → RpAll K S (vs ++ us) (ds ++ es)
  | _, _, _, _, .nil, q => q
  | _, _, _, _, .cons h t, q => .cons h (RpAll.append t q)
theorem RpAll.get : ∀ {ds : List Dat} {vs : List V} {i : Nat} {d : Dat}, RpAll K S vs ds → ds[i]? = some d → ∃ v, vs[i]? = some v ∧ Rp K S v d
  | _, _, _, _, .nil, e => by simp at e
  | _, _, 0, _, .cons h _, e => by simp at e; subst e; exact ⟨_, rfl, h⟩
  | _, _, i + 1, d, .cons _ t, e => by
    obtain ⟨v, h1, h2⟩ := RpAll.get (i := i) t (by simpa using e)
    exact ⟨v, by simpa using h1, h2⟩
theorem RpAll.set {v : V} {d : Dat} (r : Rp K S v d) : ∀ {vs : List V} {ds : List Dat} (i : Nat), RpAll K S vs ds → RpAll K S (vs.set i v) (ds.set i d)
  | _, _, _, .nil => .nil
  | _, _, 0, .cons _ t => .cons r t
  | _, _, i + 1, .cons q t => .cons q (RpAll.set r i t)
theorem RpAll.eraseIdx : ∀ {vs : List V} {ds : List Dat} (i : Nat), RpAll K S vs ds → RpAll K S (vs.eraseIdx i) (ds.eraseIdx i)
  | _, _, _, .nil => .nil
  | _, _, 0, .cons _ t => t
  | _, _, i + 1, .cons q t => .cons q (RpAll.eraseIdx i t)
end

/-- S stands still, M may change, the rest of H is not asked; T: the tables of code objects -/
structure Split (K : PySem.W.Frag) (T : List (Addr × Str)) (S : Hp) (M : Mem) (H : Hp) : Prop where
  ex : Same S H
  dis : ∀ a o, M a = some o → S a = none
  rep : ∀ a o, M a = some o → ∃ h, H a = some h ∧ MRep K S h o
  tab : LamX.Tabs T H
  tbS : ∀ p ∈ T, S p.1 = none
  noT : ∀ b ps, S b ≠ some (.tbl ps)
/-- what stood and was not M's stands -/
structure Post (S : Hp) (M : Mem) (H S' : Hp) (M' : Mem) (H' : Hp) : Prop where
  st : Same S S'
  frame : ∀ a o, H a = some o → M a = none → (∀ ps, o ≠ .tbl ps) → H' a = some o
  hid : ∀ a o, H a = some o → (∀ ps, o ≠ .tbl ps) → M a = none → S a = none → S' a = none ∧ M' a = none
/-- less to change -/
def MLe (M' M : Mem) : Prop := ∀ a o, M' a = some o → M a = some o
theorem MLe.refl (M : Mem) : MLe M M := fun _ _ h => h
theorem MLe.trans {M1 M2 M3 : Mem} (a : MLe M1 M2) (b : MLe M2 M3) : MLe M1 M3 := fun x o h => b x o (a x o h)
theorem MLe.none {M' M : Mem} (e : MLe M' M) {a : Addr} (h : M a = none) : M' a = none := by
  cases q : M' a with
  | none => rfl
  | some o => rw [e a o q] at h; cases h
section
variable {K : PySem.W.Frag} {T : List (Addr × Str)} {S H S1 H1 S2 H2 : Hp} {M M1 M2 M' : Mem} {p a : Addr} {o h : HO} {mo mo' : MO}
theorem Post.refl : Post S M H S M H := ⟨Same.refl S, fun _ _ h _ _ => h, fun _ _ _ _ h1 h2 => ⟨h2, h1⟩⟩
theorem Post.trans (x : Post S M H S1 M1 H1) (sp : Split K T S1 M1 H1) (y : Post S1 M1 H1 S2 M2 H2) : Post S M H S2 M2 H2 := by
  have m1 : ∀ a o, H a = some o → (∀ ps, o ≠ .tbl ps) → M a = none → M1 a = none := fun a o h nt hm => by
    cases q : S a with
    | none => exact (x.hid a o h nt hm q).2
    | some u =>
      cases r : M1 a with
      | none => rfl
      | some w =>
        have := sp.dis a w r
        rw [x.st a u q] at this
        cases this
  refine ⟨x.st.trans y.st, fun a o h hm nt => y.frame a o (x.frame a o h hm nt) (m1 a o h nt hm) nt, fun a o h nt hm hs => ?_⟩
  obtain ⟨h1, h2⟩ := x.hid a o h nt hm hs
  exact y.hid a o (x.frame a o h hm nt) nt h2 h1
theorem Split.free (sp : Split K T S M H) (hp : H p = none) : S p = none ∧ M p = none := by
  refine ⟨sp.ex.free hp, ?_⟩
  cases q : M p with
  | none => rfl
  | some w =>
    obtain ⟨h, e, _⟩ := sp.rep p w q
    rw [hp] at e
    cases e
theorem same_new {S : Hp} {p : Addr} {o : HO} (h : S p = none) : Same S (upd S p o) := fun b x e => by
  rw [upd_ne (ne_of_none e h)]
  exact e
theorem Split.tabne (sp : Split K T S M H) {q : Addr × Str} (hq : q ∈ T) (ha : H a = some h) (nt : ∀ ps, h ≠ .tbl ps) : q.1 ≠ a := fun z => by
  obtain ⟨ps, e, _⟩ := sp.tab q hq
  rw [z, ha] at e
  exact nt ps (Option.some.inj e)
theorem noT_new {S : Hp} {p : Addr} {o : HO} (h : ∀ b ps, S b ≠ some (.tbl ps)) (nt : ∀ ps, o ≠ .tbl ps) : ∀ b ps, upd S p o b ≠ some (.tbl ps) := fun b ps e => by
  by_cases hb : b = p
  · rw [hb, upd_same] at e
    exact nt ps (Option.some.inj e)
  · rw [upd_ne hb] at e
    exact h b ps e
theorem Split.newS (sp : Split K T S M H) (hp : H p = none) (nt : ∀ ps, o ≠ .tbl ps := by intro _ z; cases z) : Split K T (upd S p o) M (upd H p o) := by
  have hs := (sp.free hp).1
  refine ⟨fun b u e => ?_, fun b u e => ?_, fun b u e => ?_, sp.tab.ext fun b u e => same_new hp b u e, fun q hq => ?_, noT_new sp.noT nt⟩
  · by_cases hb : b = p
    · rw [hb, upd_same] at e ⊢
      exact e
    · rw [upd_ne hb] at e ⊢
      exact sp.ex b u e
  · have hb : b ≠ p := fun z => by
      rw [z, (sp.free hp).2] at e
      cases e
    rw [upd_ne hb]
    exact sp.dis b u e
  · obtain ⟨h, e1, e2⟩ := sp.rep b u e
    exact ⟨h, same_new hp b h e1, e2.mono (same_new hs)⟩
  · obtain ⟨ps, e, _⟩ := sp.tab q hq
    rw [upd_ne (ne_of_none e hp)]
    exact sp.tbS q hq
theorem Post.newS (sp : Split K T S M H) (hp : H p = none) : Post S M H (upd S p o) M (upd H p o) :=
  ⟨same_new (sp.free hp).1, fun b u e _ _ => same_new hp b u e, fun b u e _ hm hs => ⟨by rw [upd_ne (ne_of_none e hp)]; exact hs, hm⟩⟩
theorem Split.newM (sp : Split K T S M H) (hp : H p = none) (r : MRep K S o mo) : Split K T S (putM M p mo) (upd H p o) := by
  have hs := (sp.free hp).1
  refine ⟨sp.ex.trans (same_new hp), fun b u e => ?_, fun b u e => ?_, sp.tab.ext fun b u e => same_new hp b u e, sp.tbS, sp.noT⟩
  · by_cases hb : b = p
    · rw [hb]; exact hs
    · rw [putM_ne hb] at e
      exact sp.dis b u e
  · by_cases hb : b = p
    · rw [hb, putM_same] at e
      cases e
      exact ⟨o, by rw [hb, upd_same], r⟩
    · rw [putM_ne hb] at e
      obtain ⟨h, e1, e2⟩ := sp.rep b u e
      exact ⟨h, same_new hp b h e1, e2⟩
theorem Post.newM (sp : Split K T S M H) (hp : H p = none) : Post S M H S (putM M p mo) (upd H p o) :=
  ⟨Same.refl S, fun b u e _ _ => same_new hp b u e, fun b u e _ hm hs => ⟨hs, by rw [putM_ne (ne_of_none e hp)]; exact hm⟩⟩
theorem tabs_mut (ht : LamX.Tabs T H) (ha : H a = some h) (nt : ∀ ps, h ≠ .tbl ps) (ne : ∀ φ, h ≠ .ext φ) : LamX.Tabs T (upd H a o) := fun q hq => by
  obtain ⟨ps, e1, e2, e3⟩ := ht q hq
  refine ⟨ps, ?_, e2, fun pos cv hc => ?_⟩
  · rw [upd_ne fun z => nt ps (by rw [z, ha] at e1; exact Option.some.inj e1)]
    exact e1
  · obtain ⟨c, z1, z2⟩ := e3 pos cv hc
    refine ⟨c, z1, ?_⟩
    rw [upd_ne fun z => ?_]
    · exact z2
    · rw [z, ha] at z2
      exact ne _ (Option.some.inj z2)
theorem Split.setM (sp : Split K T S M H) (hm : M a = some mo) (r : MRep K S o mo') : Split K T S (putM M a mo') (upd H a o) := by
  obtain ⟨h, ha, hr⟩ := sp.rep a mo hm
  have hs := sp.dis a mo hm
  refine ⟨fun b u e => ?_, fun b u e => ?_, fun b u e => ?_, tabs_mut sp.tab ha hr.notbl hr.noext, sp.tbS, sp.noT⟩
  · rw [upd_ne (ne_of_none e hs)]
    exact sp.ex b u e
  · by_cases hb : b = a
    · rw [hb]; exact hs
    · rw [putM_ne hb] at e
      exact sp.dis b u e
  · by_cases hb : b = a
    · rw [hb, putM_same] at e
      cases e
      exact ⟨o, by rw [hb, upd_same], r⟩
    · rw [putM_ne hb] at e
      obtain ⟨h, e1, e2⟩ := sp.rep b u e
      exact ⟨h, by rw [upd_ne hb]; exact e1, e2⟩
theorem Post.setM (hm : M a = some mo) : Post S M H S (putM M a mo') (upd H a o) := by
  have na : ∀ b, M b = none → b ≠ a := fun b e z => by
    rw [z, hm] at e
    cases e
  exact ⟨Same.refl S, fun b u e h1 _ => by rw [upd_ne (na b h1)]; exact e, fun b u e _ h1 hs => ⟨hs, by rw [putM_ne (na b h1)]; exact h1⟩⟩
theorem Split.le (sp : Split K T S M H) (e : MLe M' M) : Split K T S M' H := ⟨sp.ex, fun a o h => sp.dis a o (e a o h), fun a o h => sp.rep a o (e a o h), sp.tab, sp.tbS, sp.noT⟩
theorem Post.le (e : MLe M' M) : Post S M H S M' H := ⟨Same.refl S, fun _ _ h _ _ => h, fun _ _ _ _ h1 h2 => ⟨h2, e.none h1⟩⟩
/-- what might change stands still from now on -/
theorem Split.still (sp : Split K T S M H) (hm : M a = some mo) (ha : H a = some h) : Split K T (upd S a h) (delM M a) H ∧ Post S M H (upd S a h) (delM M a) H := by
  obtain ⟨h', ha', hr⟩ := sp.rep a mo hm
  rw [ha] at ha'
  cases ha'
  have hs := sp.dis a mo hm
  have hS : Same S (upd S a h) := same_new hs
  have dm : ∀ b u, delM M a b = some u → b ≠ a ∧ M b = some u := fun b u e => by
    by_cases hb : b = a
    · rw [hb, delM_same] at e
      cases e
    · rw [delM_ne hb] at e
      exact ⟨hb, e⟩
  have na : ∀ b, M b = none → b ≠ a := fun b e z => by
    rw [z, hm] at e
    cases e
  refine ⟨⟨fun b u e => ?_, fun b u e => ?_, fun b u e => ?_, sp.tab, fun q hq => ?_, noT_new sp.noT hr.notbl⟩, hS, fun b u e _ _ => e, fun b u e _ h1 h2 => ⟨by rw [upd_ne (na b h1)]; exact h2, by rw [delM_ne (na b h1)]; exact h1⟩⟩
  · by_cases hb : b = a
    · rw [hb, upd_same] at e
      rw [hb]
      exact ha.trans e
    · rw [upd_ne hb] at e
      exact sp.ex b u e
  · obtain ⟨hb, e⟩ := dm b u e
    rw [upd_ne hb]
    exact sp.dis b u e
  · obtain ⟨hb, e⟩ := dm b u e
    obtain ⟨h1, e1, e2⟩ := sp.rep b u e
    exact ⟨h1, e1, e2.mono hS⟩
  · rw [upd_ne (sp.tabne hq ha hr.notbl)]
    exact sp.tbS q hq
end

section
variable {K : PySem.W.Frag} {T : List (Addr × Str)} {S H H2 : Hp} {M : Mem}
/-- tables grow, code objects are new -/
theorem Split.extN (sp : Split K T S M H) (e : LamX.ExtN H H2) (ht : LamX.Tabs T H2) : Split K T S M H2 :=
  ⟨fun b u h => e b u (sp.ex b u h) fun ps z => sp.noT b ps (by rw [h, z]), sp.dis, fun b u h => by
    obtain ⟨o, h1, h2⟩ := sp.rep b u h
    exact ⟨o, e b o h1 h2.notbl, h2⟩, ht, sp.tbS, sp.noT⟩
theorem Post.extN (e : LamX.ExtN H H2) : Post S M H S M H2 := ⟨Same.refl S, fun b u h _ nt => e b u h nt, fun _ _ _ _ h1 h2 => ⟨h2, h1⟩⟩
end

/-! ### the slots -/
def REnv (K : PySem.W.Frag) (S : Hp) (σ : L2.St) (δ : DEnv) : Prop := δ.length = σ.length ∧ ∀ (i : Nat) (d : Dat), δ[i]? = some (some d) → ∃ v, σ[i]? = some (some v) ∧ Rp K S v d
def wipeD (δ : DEnv) : List Nat → DEnv
  | [] => δ
  | v :: vs => (wipeD δ vs).set v none
section
variable {K : PySem.W.Frag} {S S' : Hp} {σ : L2.St} {δ : DEnv}
theorem REnv.mono (e : Same S S') (r : REnv K S σ δ) : REnv K S' σ δ := ⟨r.1, fun i d h => by
  obtain ⟨v, h1, h2⟩ := r.2 i d h
  exact ⟨v, h1, h2.mono e⟩⟩
theorem REnv.set {i : Nat} {v : V} {d : Dat} (r : REnv K S σ δ) (q : Rp K S v d) : REnv K S (σ.set i (some v)) (δ.set i (some d)) := by
  refine ⟨by rw [List.length_set, List.length_set]; exact r.1, fun j e h => ?_⟩
  by_cases hj : i = j
  · subst hj
    by_cases hl : i < δ.length
    · rw [List.getElem?_set_self hl] at h
      cases h
      exact ⟨v, by rw [List.getElem?_set_self (by rw [← r.1]; exact hl)], q⟩
    · rw [List.getElem?_eq_none (by simpa using hl)] at h
      cases h
  · rw [List.getElem?_set_ne hj] at h ⊢
    exact r.2 j e h
theorem REnv.unset {i : Nat} (r : REnv K S σ δ) : REnv K S (σ.set i none) (δ.set i none) := by
  refine ⟨by rw [List.length_set, List.length_set]; exact r.1, fun j e h => ?_⟩
  by_cases hj : i = j
  · subst hj
    by_cases hl : i < δ.length
    · rw [List.getElem?_set_self hl] at h
      cases h
    · rw [List.getElem?_eq_none (by simpa using hl)] at h
      cases h
  · rw [List.getElem?_set_ne hj] at h ⊢
    exact r.2 j e h
theorem REnv.wipe (r : REnv K S σ δ) : ∀ vs : List Nat, REnv K S (L2.wipe σ vs) (wipeD δ vs)
  | [] => r
  | _ :: vs => (REnv.wipe r vs).unset
end
def startD (n : Nat) (ds : List Dat) : DEnv := ds.map some ++ List.replicate (n - ds.length) none
theorem REnv.start {K : PySem.W.Frag} {S : Hp} {N : List Str} {vs : List V} {ds : List Dat} (r : RpAll K S vs ds) : REnv K S (L2.start N vs) (startD N.length ds) := by
  have hl := r.length
  unfold L2.start startD
  refine ⟨by simp [hl], fun i d h => ?_⟩
  by_cases hi : i < ds.length
  · rw [List.getElem?_append_left (by simpa using hi), List.getElem?_map] at h
    cases q : ds[i]? with
    | none => rw [q] at h; cases h
    | some e =>
      rw [q] at h
      cases h
      obtain ⟨v, h1, h2⟩ := r.get q
      exact ⟨v, by rw [List.getElem?_append_left (by simpa [hl] using hi), List.getElem?_map, h1]; rfl, h2⟩
  · rw [List.getElem?_append_right (by simpa using hi), List.getElem?_replicate] at h
    split at h <;> cases h

/-! ### readings over data -/
abbrev WP (α : Type) := Mem → (α → Mem → Prop) → Prop
abbrev WE := DEnv → WP Dat
abbrev WT := DEnv → WP Bool
abbrev WA := DEnv → WP (List Dat)
structure DEnds where
  nx : DEnv → Mem → Prop
  rt : Dat → Mem → Prop
  bk : DEnv → Mem → Prop := fun _ _ => False
  ct : DEnv → Mem → Prop := fun _ _ => False
abbrev WS := DEnds → DEnv → Mem → Prop
section
variable (K : PySem.W.Frag) (T : List (Addr × Str))
def tD (g : WE) : TE := fun σ H Q => ∃ S M δ P, Split K T S M H ∧ REnv K S σ δ ∧ g δ M P ∧
  ∀ d M' v S' H', P d M' → Split K T S' M' H' → Post S M H S' M' H' → Rp K S' v d → Q v H'
def tDT (g : WT) : TT := fun σ H Q => ∃ S M δ P, Split K T S M H ∧ REnv K S σ δ ∧ g δ M P ∧
  ∀ b M' S' H', P b M' → Split K T S' M' H' → Post S M H S' M' H' → Q b H'
def tDA (g : WA) : TA := fun σ H Q => ∃ S M δ P, Split K T S M H ∧ REnv K S σ δ ∧ g δ M P ∧
  ∀ ds M' vs S' H', P ds M' → Split K T S' M' H' → Post S M H S' M' H' → RpAll K S' vs ds → Q vs H'
def tDS (G : WS) : TS := fun D σ H => ∃ S M δ E, Split K T S M H ∧ REnv K S σ δ ∧ G E δ M ∧
  (∀ δ' M' σ' S' H', E.nx δ' M' → Split K T S' M' H' → Post S M H S' M' H' → REnv K S' σ' δ' → D.nx σ' H') ∧
  (∀ d M' v S' H', E.rt d M' → Split K T S' M' H' → Post S M H S' M' H' → Rp K S' v d → D.rt v H') ∧
  (∀ δ' M' σ' S' H', E.bk δ' M' → Split K T S' M' H' → Post S M H S' M' H' → REnv K S' σ' δ' → D.bk σ' H') ∧
  (∀ δ' M' σ' S' H', E.ct δ' M' → Split K T S' M' H' → Post S M H S' M' H' → REnv K S' σ' δ' → D.ct σ' H')
/-- a def's promise over data -/
abbrev WF := List Dat → WP Dat
def dSp (f : WF) : Sp := fun vs H Q _ => ∃ S M ds P, Split K T S M H ∧ RpAll K S vs ds ∧ f ds M P ∧
  ∀ d M' v S' H', P d M' → Split K T S' M' H' → Post S M H S' M' H' → Rp K S' v d → Q v H'
end
end DL
/-! Db: rules over data: expressions, tests, calls, statements. -/
namespace DL
open PySem PySem.Spec PyProof.Rows L2

section
variable {X : Cx}
theorem PE_weak {e : Expr} {t t' : TE} (h : PE X e t) (w : ∀ σ H Q, t' σ H Q → t σ H Q) : PE X e t' := ⟨fun pins s σ H Q I q => h.run pins s σ H Q I (w σ H Q q)⟩
theorem PT_weak {e : Expr} {t t' : TT} (h : PT X e t) (w : ∀ σ H Q, t' σ H Q → t σ H Q) : PT X e t' := ⟨fun pins s σ H Q I q => h.run pins s σ H Q I (w σ H Q q)⟩
theorem PA_weak {es : List Expr} {t t' : TA} (h : PA X es t) (w : ∀ σ H Q, t' σ H Q → t σ H Q) : PA X es t' := ⟨fun pos pins s σ H Q I q => h.run pos pins s σ H Q I (w σ H Q q)⟩
theorem PS_weak {st : Stmt} {t t' : TS} (h : PS X st t) (w : ∀ D σ H, t' D σ H → t D σ H) : PS X st t' := ⟨fun pins s σ H D I q => h.run pins s σ H D I (w D σ H q)⟩
theorem PSs_weak {st : List Stmt} {t t' : TS} (h : PSs X st t) (w : ∀ D σ H, t' D σ H → t D σ H) : PSs X st t' := ⟨fun pins s σ H D I q => h.run pins s σ H D I (w D σ H q)⟩
end

section
variable {K : PySem.W.Frag} {T : List (Addr × Str)} {X : Cx}

/-! ### ends -/
/-- what is wanted behind: k, from S M H -/
abbrev Kont (K : PySem.W.Frag) (T : List (Addr × Str)) (P : Dat → Mem → Prop) (S : Hp) (M : Mem) (H : Hp) (Q : VK) : Prop :=
  ∀ d M' v S' H', P d M' → Split K T S' M' H' → Post S M H S' M' H' → Rp K S' v d → Q v H'
theorem Kont.same {P : Dat → Mem → Prop} {S : Hp} {M : Mem} {H : Hp} {Q : VK} (k : Kont K T P S M H Q) (sp : Split K T S M H) {d : Dat} {v : V} (p : P d M) (r : Rp K S v d) : Q v H := k d M v S H p sp Post.refl r
theorem Kont.newS {P : Dat → Mem → Prop} {S : Hp} {M : Mem} {H : Hp} {Q : VK} (k : Kont K T P S M H Q) (sp : Split K T S M H) {d : Dat} {a : Addr} {o : HO} (ha : H a = none) (p : P d M) (r : Rp K (upd S a o) (.ref a) d) (nt : ∀ ps, o ≠ .tbl ps := by intro _ z; cases z) : Q (.ref a) (upd H a o) :=
  k d M _ _ _ p (sp.newS ha nt) (Post.newS sp ha) r
theorem Kont.newM {P : Dat → Mem → Prop} {S : Hp} {M : Mem} {H : Hp} {Q : VK} (k : Kont K T P S M H Q) (sp : Split K T S M H) {a : Addr} {o : HO} {mo : MO} (ha : H a = none) (p : P (.own a) (putM M a mo)) (r : MRep K S o mo) : Q (.ref a) (upd H a o) :=
  k (.own a) _ _ _ _ p (sp.newM ha r) (Post.newM sp ha) rfl
theorem Kont.after {P : Dat → Mem → Prop} {S S1 : Hp} {M M1 : Mem} {H H1 : Hp} {Q : VK} (k : Kont K T P S M H Q) (po : Post S M H S1 M1 H1) (sp1 : Split K T S1 M1 H1) : Kont K T P S1 M1 H1 Q :=
  fun d M' v S' H' p sp' po' r => k d M' v S' H' p sp' (po.trans sp1 po') r

/-! ### names and constants -/
def wVar (i : Nat) : WE := fun δ M P => ∃ d, δ[i]? = some (some d) ∧ P d M
def wC (d : Dat) : WE := fun _ M P => P d M
theorem pd_var {i : Nat} {e : Expr} (h : PE X e (tVar i)) : PE X e (tD K T (wVar i)) := PE_weak h fun σ H Q ⟨S, M, δ, P, sp, re, ⟨d, hd, p⟩, k⟩ => by
  obtain ⟨v, h1, h2⟩ := re.2 i d hd
  exact ⟨v, h1, Kont.same k sp p h2⟩
/-- the name in slot i -/
theorem dv (i : Nat) {x : Str} {pos : Pos} (hN : X.N[i]? = some x := by rfl) (hv : Vis X.env.scope x := by first | exact Or.inl rfl | exact Or.inr (Or.inl rfl) | exact Or.inr (Or.inr rfl)) (hd : (x == ("__debug__" : Str)) = false := by decide)
    (hcd : (x == ("__classdict__" : Str)) = false := by decide) : PE X (.Name x pos) (tD K T (wVar i)) := pd_var (pe_var hN hv hd hcd)
/-- what might change stands still when it is named -/
def wVarF (i : Nat) : WE := fun δ M P => ∃ a ds, δ[i]? = some (some (.own a)) ∧ M a = some (.lst (ds.map .py)) ∧ P (.py (.list ds)) (delM M a)
theorem pd_varF {i : Nat} {e : Expr} (h : PE X e (tVar i)) : PE X e (tD K T (wVarF i)) := PE_weak h fun σ H Q ⟨S, M, δ, P, sp, re, ⟨a, ds, hd, hm, p⟩, k⟩ => by
  obtain ⟨v, h1, h2⟩ := re.2 i _ hd
  obtain rfl : v = .ref a := h2
  obtain ⟨h, ha, r⟩ := sp.rep a _ hm
  cases r with
  | lst r =>
    obtain ⟨sp', po⟩ := sp.still hm ha
    exact ⟨.ref a, h1, k _ _ _ _ _ p sp' po (.lst upd_same (r.tr.mono (same_new (sp.dis a _ hm))))⟩
theorem dvF (i : Nat) {x : Str} {pos : Pos} (hN : X.N[i]? = some x := by rfl) (hv : Vis X.env.scope x := by first | exact Or.inl rfl | exact Or.inr (Or.inl rfl) | exact Or.inr (Or.inr rfl)) (hd : (x == ("__debug__" : Str)) = false := by decide)
    (hcd : (x == ("__classdict__" : Str)) = false := by decide) : PE X (.Name x pos) (tD K T (wVarF i)) := pd_varF (pe_var hN hv hd hcd)
theorem pd_c {e : Expr} {v : V} {d : Dat} (h : PE X e (tC v)) (r : ∀ S, Rp K S v d) : PE X e (tD K T (wC d)) := PE_weak h fun σ H Q ⟨S, M, δ, P, sp, re, p, k⟩ => Kont.same k sp p (r S)
theorem d_int {i j pos} : PE X (.Constant (.int i) j pos) (tD K T (wC (.py (.int i)))) := pd_c pe_int fun _ => .int i
theorem d_bl {b j pos} : PE X (.Constant (.bool b) j pos) (tD K T (wC (.py (.bool b)))) := pd_c pe_bl fun _ => .bl b
theorem d_non {j pos} : PE X (.Constant .none j pos) (tD K T (wC (.py .none))) := pd_c pe_non fun _ => .non
theorem d_str {x j pos} : PE X (.Constant (.str x) j pos) (tD K T (wC (.py (.str x)))) := pd_c pe_str fun _ => .str x

/-! ### operators by values -/
abbrev F2 := Dat → Dat → WP Dat
def OpD (K : PySem.W.Frag) (T : List (Addr × Str)) (r : R2) (f : F2) : Prop :=
  ∀ S M H x y d e P Q, Split K T S M H → Rp K S x d → Rp K S y e → f d e M P → Kont K T P S M H Q → r x y H Q
def wOp (f : F2) (ga gb : WE) : WE := fun δ M P => ga δ M fun x M1 => gb δ M1 fun y M2 => f x y M2 P
theorem weak_op {r : R2} {f : F2} {ga gb : WE} (hr : OpD K T r f) {σ : L2.St} {H : Hp} {Q : VK} (h : tD K T (wOp f ga gb) σ H Q) : tOp r (tD K T ga) (tD K T gb) σ H Q := by
  obtain ⟨S, M, δ, P, sp, re, g, k⟩ := h
  refine ⟨S, M, δ, _, sp, re, g, fun d1 M1 v1 S1 H1 g1 sp1 po1 r1 => ⟨S1, M1, δ, _, sp1, re.mono po1.st, g1, fun d2 M2 v2 S2 H2 g2 sp2 po2 r2 => ?_⟩⟩
  exact hr S2 M2 H2 v1 v2 d1 d2 P Q sp2 (r1.mono po2.st) r2 g2 (Kont.after k (po1.trans sp1 po2) sp2)
theorem pd_op {op : Operator} {r : R2} {f : F2} {ga gb : WE} {a b : Expr} {pos : Pos} (ho : OpR X (binaryOp op) r) (hr : OpD K T r f) (ha : PE X a (tD K T ga)) (hb : PE X b (tD K T gb)) : PE X (.BinOp a op b pos) (tD K T (wOp f ga gb)) :=
  PE_weak (pe_op ho ha hb) fun _ _ _ h => weak_op hr h
theorem pd_cmp {op : CmpOp} {r : R2} {f : F2} {ga gb : WE} {a b : Expr} {pos : Pos} (ho : OpR X (compareOp op) r) (hr : OpD K T r f) (ha : PE X a (tD K T ga)) (hb : PE X b (tD K T gb)) (hm : behindInMarks op b = false) : PE X (.Compare a [op] [b] pos) (tD K T (wOp f ga gb)) :=
  PE_weak (pe_cmpR ho ha hb hm) fun _ _ _ h => weak_op hr h
/-- a value that is True or False, as a test -/
def wB (g : WE) : WT := fun δ M P => g δ M fun d M1 => ∃ b, d = .py (.bool b) ∧ P b M1
theorem weak_B {g : WE} {σ : L2.St} {H : Hp} {Q : Bool → Hp → Prop} (h : tDT K T (wB g) σ H Q) : tD K T g σ H (fun x H' => ∃ c, x = .bl c ∧ Q c H') := by
  obtain ⟨S, M, δ, P, sp, re, g1, k⟩ := h
  refine ⟨S, M, δ, _, sp, re, g1, fun d M' v S' H' ⟨b, hb, p⟩ sp' po' r' => ?_⟩
  subst hb
  cases (show Tr S' v (.bool b) from r')
  exact ⟨b, rfl, k b M' S' H' p sp' po'⟩
theorem pdt_cmp {op : CmpOp} {r : R2} {f : F2} {ga gb : WE} {a b : Expr} {pos : Pos} (ho : OpR X (compareOp op) r) (hr : OpD K T r f) (ha : PE X a (tD K T ga)) (hb : PE X b (tD K T gb)) (hm : behindInMarks op b = false) : PT X (.Compare a [op] [b] pos) (tDT K T (wB (wOp f ga gb))) :=
  PT_weak (pt_cmpR ho ha hb hm) fun _ _ _ h => weak_op hr (weak_B h)
theorem pdt_val {e : Expr} {g : WE} (h : PE X e (tD K T g)) (he : ∀ whole, isTrue e X.env whole = (do let v ← whole; standAt e.pos; holding [v] (truthy v)) := by intro _; rfl) : PT X e (tDT K T (wB g)) :=
  PT_weak (pt_val h he) fun _ _ _ h => weak_B h
/-- a op b op c -/
def wChain (f f' : F2) (ga gb gc : WE) : WE := fun δ M P => ga δ M fun x M1 => gb δ M1 fun y M2 => f x y M2 fun z M3 => ∃ c, z = .py (.bool c) ∧ (if c = true then gc δ M3 fun u M4 => f' y u M4 P else P (.py (.bool false)) M3)
theorem weak_chain {r r' : R2} {f f' : F2} {ga gb gc : WE} (hr : OpD K T r f) (hr' : OpD K T r' f') {σ : L2.St} {H : Hp} {Q : VK} (h : tD K T (wChain f f' ga gb gc) σ H Q) : tChain r r' (tD K T ga) (tD K T gb) (tD K T gc) σ H Q := by
  obtain ⟨S, M, δ, P, sp, re, g, k⟩ := h
  refine ⟨S, M, δ, _, sp, re, g, fun d1 M1 v1 S1 H1 g1 sp1 po1 r1 => ⟨S1, M1, δ, _, sp1, re.mono po1.st, g1, fun d2 M2 v2 S2 H2 g2 sp2 po2 r2 => ?_⟩⟩
  have po12 := po1.trans sp1 po2
  refine hr S2 M2 H2 v1 v2 d1 d2 _ _ sp2 (r1.mono po2.st) r2 g2 fun z M3 v3 S3 H3 ⟨c, hz, q⟩ sp3 po3 r3 => ?_
  subst hz
  cases (show Tr S3 v3 (.bool c) from r3)
  refine ⟨c, rfl, ?_⟩
  have po123 := po12.trans sp2 po3
  cases c with
  | false =>
    rw [if_neg Bool.false_ne_true] at q ⊢
    exact k _ _ _ _ _ q sp3 po123 (.bl false)
  | true =>
    rw [if_pos rfl] at q ⊢
    refine ⟨S3, M3, δ, _, sp3, re.mono po123.st, q, fun d4 M4 v4 S4 H4 g4 sp4 po4 r4 => ?_⟩
    exact hr' S4 M4 H4 v2 v4 d2 d4 P Q sp4 ((r2.mono po3.st).mono po4.st) r4 g4 (Kont.after k (po123.trans sp3 po4) sp4)
theorem pd_chain {op op' : CmpOp} {r r' : R2} {f f' : F2} {ga gb gc : WE} {a b c : Expr} {pos : Pos} (ho : OpR X (compareOp op) r) (hr : OpD K T r f) (ho' : OpR X (compareOp op') r') (hr' : OpD K T r' f') (ha : PE X a (tD K T ga)) (hb : PE X b (tD K T gb)) (hc : PE X c (tD K T gc))
    (hm : lastMarks [op, op'] [b, c] = false := by with_unfolding_all rfl) : PE X (.Compare a [op, op'] [b, c] pos) (tD K T (wChain f f' ga gb gc)) :=
  PE_weak (pe_chain ho ho' ha hb hc hm) fun _ _ _ h => weak_chain hr hr' h
theorem pdt_chain {op op' : CmpOp} {r r' : R2} {f f' : F2} {ga gb gc : WE} {a b c : Expr} {pos : Pos} (ho : OpR X (compareOp op) r) (hr : OpD K T r f) (ho' : OpR X (compareOp op') r') (hr' : OpD K T r' f') (ha : PE X a (tD K T ga)) (hb : PE X b (tD K T gb)) (hc : PE X c (tD K T gc))
    (hm : lastMarks [op, op'] [b, c] = false := by with_unfolding_all rfl) : PT X (.Compare a [op, op'] [b, c] pos) (tDT K T (wB (wChain f f' ga gb gc))) :=
  PT_weak (pt_chain ho ho' ha hb hc hm) fun _ _ _ h => weak_chain hr hr' (weak_B h)
/-- one operand -/
abbrev F1 := Dat → WP Dat
def wUn (f : F1) (g : WE) : WE := fun δ M P => g δ M fun x M1 => f x M1 P
def UnD (K : PySem.W.Frag) (T : List (Addr × Str)) (r : V → Hp → VK → Prop) (f : F1) : Prop :=
  ∀ S M H x d P Q, Split K T S M H → Rp K S x d → f d M P → Kont K T P S M H Q → r x H Q
theorem weak_un {r : V → Hp → VK → Prop} {f : F1} {ga : WE} (hr : UnD K T r f) {σ : L2.St} {H : Hp} {Q : VK} (h : tD K T (wUn f ga) σ H Q) : tUn r (tD K T ga) σ H Q := by
  obtain ⟨S, M, δ, P, sp, re, g, k⟩ := h
  exact ⟨S, M, δ, _, sp, re, g, fun d1 M1 v1 S1 H1 g1 sp1 po1 r1 => hr S1 M1 H1 v1 d1 P Q sp1 r1 g1 (Kont.after k po1 sp1)⟩
def fNeg : F1 := fun d M P => ∃ i, d = .py (.int i) ∧ P (.py (.int (-i))) M
theorem d_neg {ga : WE} {a : Expr} {pos : Pos} (ha : PE X a (tD K T ga)) : PE X (.UnaryOp .USub a pos) (tD K T (wUn fNeg ga)) :=
  PE_weak (pe_un un_neg ha) fun _ _ _ h => weak_un (fun S M H x d P Q sp r ⟨i, hd, p⟩ k => by
    subst hd
    cases (show Tr S x (.int i) from r)
    exact ⟨i, rfl, Kont.same k sp p (.int _)⟩) h

/-! ### ints -/
def fI (C : Int → Int → Prop) (g : Int → Int → Int) : F2 := fun d e M P => ∃ i j, d = .py (.int i) ∧ e = .py (.int j) ∧ C i j ∧ P (.py (.int (g i j))) M
theorem opd_I {C : Int → Int → Prop} {g : Int → Int → Int} : OpD K T (rI C fun i j => .int (g i j)) (fI C g) := fun S M H x y d e P Q sp rx ry ⟨i, j, hd, he, hc, p⟩ k => by
  subst hd he
  cases (show Tr S x (.int i) from rx)
  cases (show Tr S y (.int j) from ry)
  exact ⟨i, j, rfl, rfl, hc, Kont.same k sp p (.int _)⟩
def fI0 (g : Int → Int → Int) : F2 := fun d e M P => ∃ i j, d = .py (.int i) ∧ e = .py (.int j) ∧ P (.py (.int (g i j))) M
theorem opd_I0 {g : Int → Int → Int} : OpD K T (rI0 fun i j => .int (g i j)) (fI0 g) := fun S M H x y d e P Q sp rx ry ⟨i, j, hd, he, p⟩ k => by
  subst hd he
  cases (show Tr S x (.int i) from rx)
  cases (show Tr S y (.int j) from ry)
  exact ⟨i, j, rfl, rfl, Kont.same k sp p (.int _)⟩
def fIB (g : Int → Int → Bool) : F2 := fun d e M P => ∃ i j, d = .py (.int i) ∧ e = .py (.int j) ∧ P (.py (.bool (g i j))) M
theorem opd_IB {g : Int → Int → Bool} : OpD K T (rI0 fun i j => .bl (g i j)) (fIB g) := fun S M H x y d e P Q sp rx ry ⟨i, j, hd, he, p⟩ k => by
  subst hd he
  cases (show Tr S x (.int i) from rx)
  cases (show Tr S y (.int j) from ry)
  exact ⟨i, j, rfl, rfl, Kont.same k sp p (.bl _)⟩
variable {ga gb gc : WE} {a b c : Expr} {pos : Pos}
theorem d_sub (ha : PE X a (tD K T ga)) (hb : PE X b (tD K T gb)) : PE X (.BinOp a .Sub b pos) (tD K T (wOp (fI0 fun i j => i - j) ga gb)) := pd_op op_sub opd_I0 ha hb
theorem d_mul (ha : PE X a (tD K T ga)) (hb : PE X b (tD K T gb)) : PE X (.BinOp a .Mult b pos) (tD K T (wOp (fI CMul fun i j => i * j) ga gb)) := pd_op op_mul opd_I ha hb
theorem d_div (ha : PE X a (tD K T ga)) (hb : PE X b (tD K T gb)) : PE X (.BinOp a .FloorDiv b pos) (tD K T (wOp (fI CDiv fun i j => i / j) ga gb)) := pd_op op_fdiv opd_I ha hb
theorem d_mod (ha : PE X a (tD K T ga)) (hb : PE X b (tD K T gb)) : PE X (.BinOp a .Mod b pos) (tD K T (wOp (fI (fun _ j => 0 < j) fun i j => i % j) ga gb)) := pd_op op_mod opd_I ha hb
theorem d_pow (ha : PE X a (tD K T ga)) (hb : PE X b (tD K T gb)) : PE X (.BinOp a .Pow b pos) (tD K T (wOp (fI CPow fun i j => i ^ j.toNat) ga gb)) := pd_op op_pow opd_I ha hb

/-! ### what is read as plain data -/
def AsD (M : Mem) : Dat → PyData → Prop
  | .py d, x => x = d
  | .own a, x => ∃ ds, x = .list ds ∧ M a = some (.lst (ds.map .py))
  | _, _ => False
/-- a list that stands still, or may change: its items stand still -/
def AsL (M : Mem) (d : Dat) (ds : List PyData) : Prop := AsD M d (.list ds)
theorem AsD.tr {S H : Hp} {M : Mem} {v : V} {x : PyData} (sp : Split K T S M H) {d : Dat} (r : Rp K S v d) (e : AsD M d x) : Tr H v x := by
  cases d with
  | py d =>
    have e : x = d := e
    subst e
    exact Tr.mono sp.ex r
  | own a =>
    obtain ⟨ds, e, hm⟩ : ∃ ds, x = .list ds ∧ M a = some (.lst (ds.map .py)) := e
    subst e
    obtain rfl : v = .ref a := r
    obtain ⟨h, ha, r⟩ := sp.rep a _ hm
    cases r with
    | lst r => exact .lst ha (r.tr.mono sp.ex)
  | dK _ => exact False.elim e
  | dT _ => exact False.elim e
  | scr _ => exact False.elim e
  | ty _ => exact False.elim e
theorem AsL.sq {S H : Hp} {M : Mem} {v : V} {ds : List PyData} (sp : Split K T S M H) {d : Dat} (r : Rp K S v d) (e : AsL M d ds) : ∃ a vs, v = .ref a ∧ H a = some (.lst vs) ∧ TrAll S vs ds := by
  cases d with
  | py d =>
    have e : PyData.list ds = d := e
    subst e
    cases (show Tr S v (.list ds) from r) with
    | lst h t => exact ⟨_, _, rfl, sp.ex _ _ h, t⟩
  | own a =>
    obtain ⟨ds', e, hm⟩ : ∃ ds', PyData.list ds = .list ds' ∧ M a = some (.lst (ds'.map .py)) := e
    cases e
    obtain rfl : v = .ref a := r
    obtain ⟨h, ha, r⟩ := sp.rep a _ hm
    cases r with
    | lst r => exact ⟨a, _, rfl, ha, r.tr⟩
  | dK _ => exact False.elim e
  | dT _ => exact False.elim e
  | scr _ => exact False.elim e
  | ty _ => exact False.elim e
theorem tup_at {S H : Hp} {M : Mem} {v : V} {ds : List PyData} (sp : Split K T S M H) (r : Rp K S v (.py (.tuple ds))) : ∃ a vs, v = .ref a ∧ S a = some (.tup vs) ∧ H a = some (.tup vs) ∧ TrAll S vs ds := by
  cases (show Tr S v (.tuple ds) from r) with
  | tup h t => exact ⟨_, _, rfl, h, sp.ex _ _ h, t⟩

/-! ### + -/
def addD : Dat → Dat → Option PyData
  | .py (.int i), .py (.int j) => some (.int (i + j))
  | .py (.list ds), .py (.list es) => some (.list (ds ++ es))
  | .py (.tuple (d :: ds)), .py (.tuple (e :: es)) => some (.tuple (d :: ds ++ e :: es))
  | _, _ => none
def addOk : Dat → Dat → Prop
  | .py (.list ds), .py (.list es) => ds.length + es.length ≤ sizeLine
  | .py (.tuple ds), .py (.tuple es) => ds.length + es.length ≤ sizeLine
  | _, _ => True
def fAdd : F2 := fun d e M P => ∃ z, addD d e = some z ∧ addOk d e ∧ P (.py z) M
theorem opd_add : OpD K T (fun x y H Q => rI0 (fun i j => .int (i + j)) x y H Q ∨ rCat x y H Q ∨ rCatA K x y H Q) fAdd := fun S M H x y d e P Q sp rx ry ⟨z, hz, ok, p⟩ k => by
  unfold addD at hz
  split at hz
  · cases hz
    cases (show Tr S x (.int _) from rx)
    cases (show Tr S y (.int _) from ry)
    exact .inl ⟨_, _, rfl, rfl, Kont.same k sp p (.int _)⟩
  · cases hz
    cases (show Tr S x (.list _) from rx) with
    | lst h1 t1 =>
      cases (show Tr S y (.list _) from ry) with
      | lst h2 t2 =>
        have ok : _ + _ ≤ sizeLine := ok
        refine .inr (.inl ⟨_, _, _, _, rfl, rfl, sp.ex _ _ h1, sp.ex _ _ h2, by rw [t1.length, t2.length]; exact ok, fun q hq => Kont.newS k sp hq p ?_⟩)
        exact .lst upd_same ((t1.append t2).mono (same_new (sp.free hq).1))
  · cases hz
    cases (show Tr S x (.tuple _) from rx) with
    | tup h1 t1 =>
      cases (show Tr S y (.tuple _) from ry) with
      | tup h2 t2 =>
        have ok : _ + _ ≤ sizeLine := ok
        refine .inr (.inr ⟨_, _, _, _, rfl, rfl, SqT.of (sp.ex _ _ h1), SqT.of (sp.ex _ _ h2), by rw [t1.length, t2.length]; exact ok, ?_⟩)
        refine ⟨fun e1 => ?_, fun _ e2 => ?_, fun _ _ q hq => Kont.newS k sp hq p (.tup upd_same ((t1.append t2).mono (same_new (sp.free hq).1)))⟩
        · subst e1
          cases t1
        · subst e2
          cases t2
  · cases hz
theorem d_add (ha : PE X a (tD X.K T ga)) (hb : PE X b (tD X.K T gb)) : PE X (.BinOp a .Add b pos) (tD X.K T (wOp fAdd ga gb)) := pd_op (op_add.or (op_cat.or op_catA)) opd_add ha hb
end
end DL
namespace DL
open PySem PySem.Spec PyProof.Rows L2
section
variable {K : PySem.W.Frag} {T : List (Addr × Str)} {X : Cx} {ga gb gc : WE} {a b c : Expr} {pos : Pos}

/-! ### == -/
def EqR (M : Mem) : Dat → Dat → Bool → Prop
  | .py (.int i), .py (.int j), b => b = decide (i = j)
  | .py (.str i), .py (.str j), b => b = decide (i = j)
  | .py (.bool i), .py (.bool j), b => b = decide (i = j)
  | d, e, b => ∃ x y, AsD M d x ∧ AsD M e y ∧ SeqAt.shaped x = true ∧ SeqAt.shaped y = true ∧ b = PyData.eqv x y
def fEq : F2 := fun d e M P => ∃ b, EqR M d e b ∧ P (.py (.bool b)) M
def fNe : F2 := fun d e M P => ∃ b, EqR M d e b ∧ P (.py (.bool (!b))) M
theorem dec_V {α : Type} [DecidableEq α] {f : α → V} (hf : ∀ x y, f x = f y → x = y) (i j : α) : decide (f i = f j) = decide (i = j) := by
  by_cases h : i = j
  · subst h; simp
  · rw [decide_eq_false h, decide_eq_false fun z => h (hf _ _ z)]
theorem opd_eqG {g : Bool → Bool} : OpD K T (fun x y H Q => (scal x y = true ∧ Q (.bl (g (decide (x = y)))) H) ∨ ∃ d e, Dp K H x d ∧ Dp K H y e ∧ SeqAt.shaped d = true ∧ SeqAt.shaped e = true ∧ Q (.bl (g (PyData.eqv d e))) H) (fun d e M P => ∃ b, EqR M d e b ∧ P (.py (.bool (g b))) M) := fun S M H x y d e P Q sp rx ry ⟨b, hb, p⟩ k => by
  unfold EqR at hb
  split at hb
  · subst hb
    cases (show Tr S x (.int _) from rx)
    cases (show Tr S y (.int _) from ry)
    exact .inl ⟨rfl, by rw [dec_V (f := V.int) fun _ _ z => V.int.inj z]; exact Kont.same k sp p (.bl _)⟩
  · subst hb
    cases (show Tr S x (.str _) from rx)
    cases (show Tr S y (.str _) from ry)
    exact .inl ⟨rfl, by rw [dec_V (f := V.str) fun _ _ z => V.str.inj z]; exact Kont.same k sp p (.bl _)⟩
  · subst hb
    cases (show Tr S x (.bool _) from rx)
    cases (show Tr S y (.bool _) from ry)
    exact .inl ⟨rfl, by rw [dec_V (f := V.bl) fun _ _ z => V.bl.inj z]; exact Kont.same k sp p (.bl _)⟩
  · obtain ⟨u, w, h1, h2, h3, h4, e⟩ := hb
    subst e
    exact .inr ⟨u, w, (AsD.tr sp rx h1).dp, (AsD.tr sp ry h2).dp, h3, h4, Kont.same k sp p (.bl _)⟩
theorem d_eq (hu : X.A.units + 64 < cLine) (ha : PE X a (tD X.K T ga)) (hb : PE X b (tD X.K T gb)) : PE X (.Compare a [.Eq] [b] pos) (tD X.K T (wOp fEq ga gb)) := pd_cmp (op_eq.or (op_eqD hu)) (opd_eqG (g := id)) ha hb (nomark _)
theorem d_ne (hu : X.A.units + 64 < cLine) (ha : PE X a (tD X.K T ga)) (hb : PE X b (tD X.K T gb)) : PE X (.Compare a [.NotEq] [b] pos) (tD X.K T (wOp fNe ga gb)) := pd_cmp (op_ne.or (op_neD hu)) (opd_eqG (g := not)) ha hb (nomark _)
theorem dt_eq (hu : X.A.units + 64 < cLine) (ha : PE X a (tD X.K T ga)) (hb : PE X b (tD X.K T gb)) : PT X (.Compare a [.Eq] [b] pos) (tDT X.K T (wB (wOp fEq ga gb))) := pdt_cmp (op_eq.or (op_eqD hu)) (opd_eqG (g := id)) ha hb (nomark _)
theorem dt_ne (hu : X.A.units + 64 < cLine) (ha : PE X a (tD X.K T ga)) (hb : PE X b (tD X.K T gb)) : PT X (.Compare a [.NotEq] [b] pos) (tDT X.K T (wB (wOp fNe ga gb))) := pdt_cmp (op_ne.or (op_neD hu)) (opd_eqG (g := not)) ha hb (nomark _)

/-! ### < <= > >= -/
abbrev fLt : F2 := fIB fun i j => decide (i < j)
abbrev fGt : F2 := fIB fun i j => decide (j < i)
abbrev fGe : F2 := fIB fun i j => decide (j ≤ i)
def pairLe (p q : Int × Int) : Bool := decide (p.1 < q.1 ∨ (p.1 = q.1 ∧ p.2 ≤ q.2))
def LeR : Dat → Dat → Bool → Prop
  | .py (.int i), .py (.int j), b => b = decide (i ≤ j)
  | .py (.tuple [.int i, .int j]), .py (.tuple [.int k, .int l]), b => b = pairLe (i, j) (k, l)
  | _, _, _ => False
def fLe : F2 := fun d e M P => ∃ b, LeR d e b ∧ P (.py (.bool b)) M
theorem pairLe_at (i j k l : Int) : Ob.lexAt (fun m => decide (([i, j] : List Int).getD m 0 = ([k, l] : List Int).getD m 0)) (fun m => decide (([i, j] : List Int).getD m 0 ≤ ([k, l] : List Int).getD m 0)) (decide (([i, j] : List Int).length ≤ ([k, l] : List Int).length)) 0 (min ([i, j] : List Int).length ([k, l] : List Int).length) = pairLe (i, j) (k, l) := by
  show (if decide (i = k) = true then (if decide (j = l) = true then decide (2 ≤ 2) else decide (j ≤ l)) else decide (i ≤ k)) = decide (i < k ∨ (i = k ∧ j ≤ l))
  by_cases h1 : i = k
  · by_cases h2 : j = l
    · simp [h1, h2]
    · rw [if_pos (by simp [h1]), if_neg (by simp [h2])]
      congr 1
      simp [h1]
  · rw [if_neg (by simp [h1])]
    congr 1
    simp only [eq_iff_iff]
    omega
theorem opd_le : OpD K T (fun x y H Q => rI0 (fun i j => .bl (decide (i ≤ j))) x y H Q ∨ rLeT K x y H Q) fLe := fun S M H x y d e P Q sp rx ry ⟨b, hb, p⟩ k => by
  unfold LeR at hb
  split at hb
  · subst hb
    cases (show Tr S x (.int _) from rx)
    cases (show Tr S y (.int _) from ry)
    exact .inl ⟨_, _, rfl, rfl, Kont.same k sp p (.bl _)⟩
  · rename_i i j k' l _
    subst hb
    obtain ⟨a1, v1, rfl, _, h1, t1⟩ := tup_at sp rx
    obtain ⟨a2, v2, rfl, _, h2, t2⟩ := tup_at sp ry
    have e1 := TrAll.to_ints (is := [i, j]) t1
    have e2 := TrAll.to_ints (is := [k', l]) t2
    subst e1 e2
    refine .inr ⟨a1, a2, [i, j], [k', l], rfl, rfl, SqT.of h1, SqT.of h2, ?_⟩
    rw [pairLe_at]
    exact Kont.same k sp p (.bl _)
  · exact hb.elim
theorem d_lt (ha : PE X a (tD K T ga)) (hb : PE X b (tD K T gb)) : PE X (.Compare a [.Lt] [b] pos) (tD K T (wOp fLt ga gb)) := pd_cmp op_lt opd_IB ha hb (nomark _)
theorem dt_lt (ha : PE X a (tD K T ga)) (hb : PE X b (tD K T gb)) : PT X (.Compare a [.Lt] [b] pos) (tDT K T (wB (wOp fLt ga gb))) := pdt_cmp op_lt opd_IB ha hb (nomark _)
theorem d_gt (ha : PE X a (tD K T ga)) (hb : PE X b (tD K T gb)) : PE X (.Compare a [.Gt] [b] pos) (tD K T (wOp fGt ga gb)) := pd_cmp op_gt opd_IB ha hb (nomark _)
theorem dt_gt (ha : PE X a (tD K T ga)) (hb : PE X b (tD K T gb)) : PT X (.Compare a [.Gt] [b] pos) (tDT K T (wB (wOp fGt ga gb))) := pdt_cmp op_gt opd_IB ha hb (nomark _)
theorem d_ge (ha : PE X a (tD K T ga)) (hb : PE X b (tD K T gb)) : PE X (.Compare a [.GtE] [b] pos) (tD K T (wOp fGe ga gb)) := pd_cmp op_ge opd_IB ha hb (nomark _)
theorem dt_ge (ha : PE X a (tD K T ga)) (hb : PE X b (tD K T gb)) : PT X (.Compare a [.GtE] [b] pos) (tDT K T (wB (wOp fGe ga gb))) := pdt_cmp op_ge opd_IB ha hb (nomark _)
theorem d_le (hu : X.A.units < cLine) (ha : PE X a (tD X.K T ga)) (hb : PE X b (tD X.K T gb)) : PE X (.Compare a [.LtE] [b] pos) (tD X.K T (wOp fLe ga gb)) := pd_cmp (op_le.or (op_leT hu)) opd_le ha hb (nomark _)
theorem dt_le (hu : X.A.units < cLine) (ha : PE X a (tD X.K T ga)) (hb : PE X b (tD X.K T gb)) : PT X (.Compare a [.LtE] [b] pos) (tDT X.K T (wB (wOp fLe ga gb))) := pdt_cmp (op_le.or (op_leT hu)) opd_le ha hb (nomark _)
/-- a <= b <= c of ints -/
abbrev fLeI : F2 := fIB fun i j => decide (i ≤ j)
theorem d_lele (ha : PE X a (tD K T ga)) (hb : PE X b (tD K T gb)) (hc : PE X c (tD K T gc)) (hm : lastMarks [.LtE, .LtE] [b, c] = false := by with_unfolding_all rfl) : PE X (.Compare a [.LtE, .LtE] [b, c] pos) (tD K T (wChain fLeI fLeI ga gb gc)) := pd_chain op_le opd_IB op_le opd_IB ha hb hc hm
theorem dt_lele (ha : PE X a (tD K T ga)) (hb : PE X b (tD K T gb)) (hc : PE X c (tD K T gc)) (hm : lastMarks [.LtE, .LtE] [b, c] = false := by with_unfolding_all rfl) : PT X (.Compare a [.LtE, .LtE] [b, c] pos) (tDT K T (wB (wChain fLeI fLeI ga gb gc))) := pdt_chain op_le opd_IB op_le opd_IB ha hb hc hm

/-! ### is -/
def isNoneD : Dat → Option Bool
  | .py .none => some true
  | .py (.str _) => some false
  | _ => none
def fIsN : F2 := fun d e M P => e = .py .none ∧ ∃ b, isNoneD d = some b ∧ P (.py (.bool b)) M
theorem opd_isN : OpD K T (fun x y H Q => y = .non ∧ Q (.bl (decide (x = .non))) H) fIsN := fun S M H x y d e P Q sp rx ry ⟨he, b, hb, p⟩ k => by
  subst he
  cases (show Tr S y .none from ry)
  refine ⟨rfl, ?_⟩
  unfold isNoneD at hb
  split at hb
  · cases hb
    cases (show Tr S x .none from rx)
    exact Kont.same k sp p (.bl _)
  · cases hb
    cases (show Tr S x (.str _) from rx)
    exact Kont.same k sp p (.bl _)
  · cases hb
theorem d_isN (ha : PE X a (tD K T ga)) (hb : PE X b (tD K T gb)) : PE X (.Compare a [.Is] [b] pos) (tD K T (wOp fIsN ga gb)) := pd_cmp op_isN opd_isN ha hb (nomark _)
theorem dt_isN (ha : PE X a (tD K T ga)) (hb : PE X b (tD K T gb)) : PT X (.Compare a [.Is] [b] pos) (tDT K T (wB (wOp fIsN ga gb))) := pdt_cmp op_isN opd_isN ha hb (nomark _)
def fNotIs : F2 := fun d e M P => ∃ x y, d = .py (.bool x) ∧ e = .py (.bool y) ∧ P (.py (.bool (!decide (x = y)))) M
theorem opd_notIs : OpD K T (fun x y H Q => ∃ a b, x = .bl a ∧ y = .bl b ∧ Q (.bl (!decide (a = b))) H) fNotIs := fun S M H x y d e P Q sp rx ry ⟨u, w, hd, he, p⟩ k => by
  subst hd he
  cases (show Tr S x (.bool _) from rx)
  cases (show Tr S y (.bool _) from ry)
  exact ⟨_, _, rfl, rfl, Kont.same k sp p (.bl _)⟩
theorem d_notIs (ha : PE X a (tD K T ga)) (hb : PE X b (tD K T gb)) : PE X (.Compare a [.IsNot] [b] pos) (tD K T (wOp fNotIs ga gb)) := pd_cmp op_isnot_bl opd_notIs ha hb (nomark _)
theorem dt_notIs (ha : PE X a (tD K T ga)) (hb : PE X b (tD K T gb)) : PT X (.Compare a [.IsNot] [b] pos) (tDT K T (wB (wOp fNotIs ga gb))) := pdt_cmp op_isnot_bl opd_notIs ha hb (nomark _)

/-! ### in -/
/-- a text among texts -/
def fInS : F2 := fun d e M P => ∃ s ss, d = .py (.str s) ∧ e = .py (.tuple ss) ∧ ∃ ts : List Str, ss = ts.map .str ∧ P (.py (.bool (decide (s ∈ ts)))) M
theorem TrAll.to_strs {S : Hp} : ∀ {is : List Str} {vs : List V}, TrAll S vs (is.map PyData.str) → vs = is.map V.str
  | [], _, h => by cases h; rfl
  | i :: r, _, h => by
    cases h with
    | cons h t => cases h; rw [TrAll.to_strs t]; rfl
theorem flat_strs : ∀ ts : List Str, (ts.map V.str).all flatV = true
  | [] => rfl
  | _ :: r => by rw [List.map_cons, List.all_cons, flat_strs r] <;> rfl
theorem inV_strs (s : Str) : ∀ ts : List Str, inV (.str s) (ts.map V.str) = decide (s ∈ ts)
  | [] => by simp [inV]
  | t :: r => by
    have ih := inV_strs s r
    unfold inV at ih ⊢
    rw [List.map_cons, List.any_cons, ih]
    by_cases h : s = t
    · subst h
      simp [eqV]
    · have h' : ¬ t = s := fun z => h z.symm
      simp [eqV, h, h']
theorem opd_inS : OpD K T (rIn K false) fInS := fun S M H x y d e P Q sp rx ry ⟨s, ss, hd, he, ts, hts, p⟩ k => by
  subst hd he hts
  cases (show Tr S x (.str _) from rx)
  obtain ⟨a1, v1, rfl, _, h1, t1⟩ := tup_at sp ry
  have e1 := TrAll.to_strs t1
  subst e1
  refine ⟨a1, _, rfl, .inr (SqT.of h1), rfl, flat_strs ts, ?_⟩
  rw [if_neg Bool.false_ne_true, inV_strs]
  exact Kont.same k sp p (.bl _)
theorem d_inS (ha : PE X a (tD X.K T ga)) (hb : PE X b (tD X.K T gb)) (hm : behindInMarks .In b = false := by first | rfl | with_unfolding_all rfl) : PE X (.Compare a [.In] [b] pos) (tD X.K T (wOp fInS ga gb)) := pd_cmp op_in_seq opd_inS ha hb hm
theorem dt_inS (ha : PE X a (tD X.K T ga)) (hb : PE X b (tD X.K T gb)) (hm : behindInMarks .In b = false := by first | rfl | with_unfolding_all rfl) : PT X (.Compare a [.In] [b] pos) (tDT X.K T (wB (wOp fInS ga gb))) := pdt_cmp op_in_seq opd_inS ha hb hm
/-- data in a list -/
def fInD : F2 := fun d e M P => ∃ x ds, AsD M d x ∧ AsL M e ds ∧ SeqAt.shaped x = true ∧ SeqAt.shaped (.list ds) = true ∧ P (.py (.bool (ds.any fun z => PyData.eqv z x))) M
theorem opd_inD : OpD K T (rInD K) fInD := fun S M H x y d e P Q sp rx ry ⟨u, ds, h1, h2, h3, h4, p⟩ k =>
  ⟨u, ds, (AsD.tr sp rx h1).dp, (AsD.tr sp ry h2).dp, h3, h4, Kont.same k sp p (.bl _)⟩
theorem d_inD (hu : X.A.units + 65 < cLine) (ha : PE X a (tD X.K T ga)) (hb : PE X b (tD X.K T gb)) (hm : behindInMarks .In b = false := by first | rfl | with_unfolding_all rfl) : PE X (.Compare a [.In] [b] pos) (tD X.K T (wOp fInD ga gb)) := pd_cmp (op_inD hu) opd_inD ha hb hm

/-! ### subscripts -/
def ixD (M : Mem) : Dat → Dat → Option Dat
  | .py (.list ds), .py (.int i) => (atI ds i).map .py
  | .py (.tuple ds), .py (.int i) => (atI ds i).map .py
  | .own a, .py (.int i) => match M a with
    | some (.lst ds) => atI ds i
    | _ => none
  | _, _ => none
def fIx : F2 := fun d e M P => ∃ z, ixD M d e = some z ∧ P z M
theorem atI_some {α : Type} {xs : List α} {i : Int} {x : α} (h : atI xs i = some x) : ∃ j, ixN xs.length i = some j ∧ xs[j]? = some x := by
  unfold atI at h
  cases q : ixN xs.length i with
  | none => rw [q] at h; cases h
  | some j => rw [q] at h; exact ⟨j, rfl, h⟩
theorem atI_tr {S : Hp} {vs : List V} {ds : List PyData} {i : Int} {d : PyData} (t : TrAll S vs ds) (h : atI ds i = some d) : ∃ v, atI vs i = some v ∧ Tr S v d := by
  obtain ⟨j, h1, h2⟩ := atI_some h
  obtain ⟨v, h3, h4⟩ := t.get h2
  exact ⟨v, by unfold atI; rw [t.length, h1]; exact h3, h4⟩
theorem atI_rp {S : Hp} {vs : List V} {ds : List Dat} {i : Int} {d : Dat} (t : RpAll K S vs ds) (h : atI ds i = some d) : ∃ v, atI vs i = some v ∧ Rp K S v d := by
  obtain ⟨j, h1, h2⟩ := atI_some h
  obtain ⟨v, h3, h4⟩ := t.get h2
  exact ⟨v, by unfold atI; rw [t.length, h1]; exact h3, h4⟩
theorem ixD_own {M : Mem} {a : Addr} {ds : List Dat} {i : Int} {z : Dat} (h : M a = some (.lst ds)) (h2 : atI ds i = some z) : ixD M (.own a) (.py (.int i)) = some z := by
  show (match M a with
    | some (.lst ds) => atI ds i
    | _ => none) = some z
  rw [h]
  exact h2
theorem ixD_list {M : Mem} {ds : List PyData} {i : Int} {z : PyData} (h2 : atI ds i = some z) : ixD M (.py (.list ds)) (.py (.int i)) = some (.py z) := by
  show (atI ds i).map Dat.py = _
  rw [h2]
  rfl
theorem ixD_tup {M : Mem} {ds : List PyData} {i : Int} {z : PyData} (h2 : atI ds i = some z) : ixD M (.py (.tuple ds)) (.py (.int i)) = some (.py z) := by
  show (atI ds i).map Dat.py = _
  rw [h2]
  rfl
theorem opd_ix : OpD K T (fun x y H Q => rIxL K x y H Q ∨ rIxT K x y H Q) fIx := fun S M H x y d e P Q sp rx ry ⟨z, hz, p⟩ k => by
  unfold ixD at hz
  split at hz
  · cases (show Tr S y (.int _) from ry)
    cases (show Tr S x (.list _) from rx) with
    | lst h t =>
      obtain ⟨w, h1, h2⟩ := Option.map_eq_some_iff.mp hz
      subst h2
      obtain ⟨v, h3, h4⟩ := atI_tr t h1
      exact .inl ⟨_, _, _, v, rfl, rfl, SqL.of (sp.ex _ _ h), h3, Kont.same k sp p h4⟩
  · cases (show Tr S y (.int _) from ry)
    cases (show Tr S x (.tuple _) from rx) with
    | tup h t =>
      obtain ⟨w, h1, h2⟩ := Option.map_eq_some_iff.mp hz
      subst h2
      obtain ⟨v, h3, h4⟩ := atI_tr t h1
      exact .inr ⟨_, _, _, v, rfl, rfl, SqT.of (sp.ex _ _ h), h3, Kont.same k sp p h4⟩
  · rename_i a _ _
    cases (show Tr S y (.int _) from ry)
    split at hz
    · rename_i ds hm
      obtain ⟨h, ha, r⟩ := sp.rep a _ hm
      obtain rfl : x = .ref a := rx
      cases r with
      | lst r =>
        obtain ⟨v, h3, h4⟩ := atI_rp r hz
        exact .inl ⟨a, _, _, v, rfl, rfl, SqL.of ha, h3, Kont.same k sp p h4⟩
    · cases hz
  · cases hz
theorem d_ix (ha : PE X a (tD X.K T ga)) (hb : PE X b (tD X.K T gb)) (hs : PlainIx b := by exact fun _ _ => rfl) : PE X (.Subscript a b pos) (tD X.K T (wOp fIx ga gb)) :=
  PE_weak (pe_ix (ix_list.or ix_tup) ha hb hs) fun _ _ _ h => weak_op opd_ix h

/-! ### slices -/
abbrev WO := DEnv → WP (Option Int)
def tDO (K : PySem.W.Frag) (T : List (Addr × Str)) (g : WO) : TO := fun σ H Q => ∃ S M δ P, Split K T S M H ∧ REnv K S σ δ ∧ g δ M P ∧
  ∀ o M' S' H', P o M' → Split K T S' M' H' → Post S M H S' M' H' → Q o H'
def wNo : WO := fun _ M P => P none M
def wPart (g : WE) : WO := fun δ M P => g δ M fun d M1 => ∃ i, d = .py (.int i) ∧ P (some i) M1
theorem PO_weak {o : Option Expr} {t t' : TO} (h : PO X o t) (w : ∀ σ H Q, t' σ H Q → t σ H Q) : PO X o t' := ⟨fun pins s σ H Q I q => h.run pins s σ H Q I (w σ H Q q)⟩
theorem do_none : PO X none (tDO K T wNo) := PO_weak po_none fun σ H Q ⟨S, M, δ, P, sp, re, g, k⟩ => k _ _ _ _ g sp Post.refl
theorem do_some {e : Expr} (h : PE X e (tD K T ga)) : PO X (some e) (tDO K T (wPart ga)) := PO_weak (po_some h) fun σ H Q ⟨S, M, δ, P, sp, re, g, k⟩ =>
  ⟨S, M, δ, _, sp, re, g, fun d M' v S' H' ⟨i, hd, p⟩ sp' po' r' => by
    subst hd
    cases (show Tr S' v (.int i) from r')
    exact ⟨i, rfl, k _ _ _ _ p sp' po'⟩⟩
def cutP {α : Type} (xs : List α) (lo hi : Option Int) : List α := (xs.drop (HT.sIx xs.length 0 lo)).take (HT.sIx xs.length xs.length hi - HT.sIx xs.length 0 lo)
theorem TrAll.cut {S : Hp} {vs : List V} {ds : List PyData} (lo hi : Option Int) (t : TrAll S vs ds) : TrAll S (cutV vs lo hi) (cutP ds lo hi) := by
  unfold cutV cutP
  rw [t.length]
  exact (t.drop _).take _
abbrev FS := Dat → Option Int → Option Int → WP Dat
def wSl (f : FS) (g : WE) (l h : WO) : WE := fun δ M P => g δ M fun x M1 => l δ M1 fun lo M2 => h δ M2 fun hi M3 => f x lo hi M3 P
/-- of a list -/
def fSlL : FS := fun d lo hi M P => ∃ ds, AsL M d ds ∧ P (.py (.list (cutP ds lo hi))) M
/-- of a tuple -/
def fSlT : FS := fun d lo hi M P => ∃ ds, d = .py (.tuple ds) ∧ P (.py (.tuple (cutP ds lo hi))) M
/-- of the script -/
def fSlS : FS := fun d lo hi M P => ∃ ns : List Int, d = .scr ns ∧ P (.py (.list ((cutP ns lo hi).map .int))) M
def SlD (K : PySem.W.Frag) (T : List (Addr × Str)) (r : V → Option Int → Option Int → Hp → VK → Prop) (f : FS) : Prop :=
  ∀ S M H x d lo hi P Q, Split K T S M H → Rp K S x d → f d lo hi M P → Kont K T P S M H Q → r x lo hi H Q
theorem pd_slice {r : V → Option Int → Option Int → Hp → VK → Prop} {f : FS} {lo hi : Option Expr} {gl gh : WO} {p2 : Pos} (hr : SlR X r) (hf : SlD K T r f) (ha : PE X a (tD K T ga)) (hl : PO X lo (tDO K T gl)) (hh : PO X hi (tDO K T gh)) :
    PE X (.Subscript a (.Slice lo hi none p2) pos) (tD K T (wSl f ga gl gh)) := PE_weak (pe_slice hr ha hl hh) fun σ H Q ⟨S, M, δ, P, sp, re, g, k⟩ =>
  ⟨S, M, δ, _, sp, re, g, fun d M1 v S1 H1 g1 sp1 po1 r1 => ⟨S1, M1, δ, _, sp1, re.mono po1.st, g1, fun l M2 S2 H2 g2 sp2 po2 => by
    have po12 := po1.trans sp1 po2
    refine ⟨S2, M2, δ, _, sp2, re.mono po12.st, g2, fun h M3 S3 H3 g3 sp3 po3 => ?_⟩
    exact hf S3 M3 H3 v d l h P Q sp3 ((r1.mono po2.st).mono po3.st) g3 (Kont.after k (po12.trans sp2 po3) sp3)⟩⟩
theorem sld_L : SlD K T (rSlL K) fSlL := fun S M H x d lo hi P Q sp rx ⟨ds, hd, p⟩ k => by
  obtain ⟨a, vs, rfl, ha, t⟩ := AsL.sq sp rx hd
  exact ⟨a, vs, rfl, SqL.of ha, fun q hq => Kont.newS k sp hq p (.lst upd_same ((t.cut lo hi).mono (same_new (sp.free hq).1)))⟩
theorem cut_whole {α : Type} {xs : List α} {lo hi : Option Int} (h : HT.sIx xs.length 0 lo = 0 ∧ HT.sIx xs.length xs.length hi = xs.length) : cutP xs lo hi = xs := by
  unfold cutP
  rw [h.1, h.2, List.drop_zero, Nat.sub_zero, List.take_length]
theorem sld_T : SlD K T (rSlA K) fSlT := fun S M H x d lo hi P Q sp rx ⟨ds, hd, p⟩ k => by
  subst hd
  obtain ⟨a, vs, rfl, hs, ha, t⟩ := tup_at sp rx
  refine ⟨a, vs, rfl, SqT.of ha, fun hw => ?_, fun _ q hq => Kont.newS k sp hq p (.tup upd_same ((t.cut lo hi).mono (same_new (sp.free hq).1)))⟩
  rw [t.length] at hw
  refine Kont.same k sp p ?_
  rw [cut_whole hw]
  exact rx
theorem cut_map {α β : Type} (f : α → β) (xs : List α) (lo hi : Option Int) : cutP (xs.map f) lo hi = (cutP xs lo hi).map f := by
  unfold cutP
  rw [List.length_map, List.map_take, List.map_drop]
theorem sld_S : SlD K T (rSlL K) fSlS := fun S M H x d lo hi P Q sp rx ⟨ns, hd, p⟩ k => by
  subst hd
  obtain ⟨a, rfl, ha⟩ := (show ∃ a, x = .ref a ∧ SqL K S a (ns.map V.int) from rx)
  refine ⟨a, _, rfl, sp.ex.seq ha, fun q hq => Kont.newS k sp hq p ?_⟩
  rw [show cutV (ns.map V.int) lo hi = (cutP ns lo hi).map V.int from cut_map V.int ns lo hi]
  exact .lst upd_same TrAll.ints
theorem d_slL {lo hi : Option Expr} {gl gh : WO} {p2 : Pos} (ha : PE X a (tD X.K T ga)) (hl : PO X lo (tDO X.K T gl)) (hh : PO X hi (tDO X.K T gh)) : PE X (.Subscript a (.Slice lo hi none p2) pos) (tD X.K T (wSl fSlL ga gl gh)) := pd_slice sl_list sld_L ha hl hh
theorem d_slT {lo hi : Option Expr} {gl gh : WO} {p2 : Pos} (ha : PE X a (tD X.K T ga)) (hl : PO X lo (tDO X.K T gl)) (hh : PO X hi (tDO X.K T gh)) : PE X (.Subscript a (.Slice lo hi none p2) pos) (tD X.K T (wSl fSlT ga gl gh)) := pd_slice sl_tupA sld_T ha hl hh
theorem d_slS {lo hi : Option Expr} {gl gh : WO} {p2 : Pos} (ha : PE X a (tD X.K T ga)) (hl : PO X lo (tDO X.K T gl)) (hh : PO X hi (tDO X.K T gh)) : PE X (.Subscript a (.Slice lo hi none p2) pos) (tD X.K T (wSl fSlS ga gl gh)) := pd_slice sl_list sld_S ha hl hh
/-- xs[::-1] -/
def fRev : F1 := fun d M P => ∃ ds, AsL M d ds ∧ P (.py (.list ds.reverse)) M
theorem d_rev {k : Nat} {p1 p2 p3 : Pos} (ha : PE X a (tD X.K T ga)) : PE X (.Subscript a (.Slice none none (some (.UnaryOp .USub (.Constant (.int 1) k p1) p2)) p3) pos) (tD X.K T (wUn fRev ga)) :=
  PE_weak (pe_revL ha) fun σ H Q ⟨S, M, δ, P, sp, re, g, k⟩ => ⟨S, M, δ, _, sp, re, g, fun d M' v S' H' ⟨ds, hd, p⟩ sp' po' r' => by
    obtain ⟨a, vs, rfl, ha, t⟩ := AsL.sq sp' r' hd
    exact ⟨a, vs, rfl, SqL.of ha, fun q hq => Kont.newS (Kont.after k po' sp') sp' hq p (.lst upd_same (t.reverse.mono (same_new (sp'.free hq).1)))⟩⟩

/-! ### arguments, displays -/
def wNil : WA := fun _ M P => P [] M
def wCons (g : WE) (r : WA) : WA := fun δ M P => g δ M fun x M1 => r δ M1 fun xs M2 => P (x :: xs) M2
theorem da_nil : PA X [] (tDA K T wNil) := PA_weak pa_nil fun σ H Q ⟨S, M, δ, P, sp, re, g, k⟩ => k _ _ _ _ _ g sp Post.refl .nil
theorem da_cons {e : Expr} {es : List Expr} {r : WA} (ha : PE X e (tD K T ga)) (hr : PA X es (tDA K T r)) (hs : starEach (e :: es) X.env = (false, eval e X.env) :: starEach es X.env := by rfl) : PA X (e :: es) (tDA K T (wCons ga r)) :=
  PA_weak (pa_cons ha hr hs) fun σ H Q ⟨S, M, δ, P, sp, re, g, k⟩ => ⟨S, M, δ, _, sp, re, g, fun d M1 v S1 H1 g1 sp1 po1 r1 => ⟨S1, M1, δ, _, sp1, re.mono po1.st, g1, fun ds M2 vs S2 H2 g2 sp2 po2 r2 =>
    k _ _ _ _ _ g2 sp2 (po1.trans sp1 po2) (.cons (r1.mono po2.st) r2)⟩⟩
def allPy : List Dat → Option (List PyData)
  | [] => some []
  | .py d :: r => (allPy r).map (d :: ·)
  | _ => none
theorem allPy_eq : ∀ {ds : List Dat} {ps : List PyData}, allPy ds = some ps → ds = ps.map .py
  | [], _, h => by cases h; rfl
  | .py d :: r, ps, h => by
    unfold allPy at h
    obtain ⟨q, h1, h2⟩ := Option.map_eq_some_iff.mp h
    subst h2
    rw [allPy_eq h1]
    rfl
  | .own _ :: _, _, h => by cases h
  | .dK _ :: _, _, h => by cases h
  | .dT _ :: _, _, h => by cases h
  | .scr _ :: _, _, h => by cases h
  | .ty _ :: _, _, h => by cases h
def wTup (r : WA) : WE := fun δ M P => r δ M fun ds M1 => ∃ ps, allPy ds = some ps ∧ ps.length ≤ sizeLine ∧ P (.py (.tuple ps)) M1
def wLst (r : WA) : WE := fun δ M P => r δ M fun ds M1 => ∃ ps, allPy ds = some ps ∧ ps.length ≤ sizeLine ∧ P (.py (.list ps)) M1
/-- a list that will change -/
def wLstM (r : WA) : WE := fun δ M P => r δ M fun ds M1 => ds.length ≤ sizeLine ∧ ∀ p, M1 p = none → P (.own p) (putM M1 p (.lst ds))
theorem d_tup {es : List Expr} {r : WA} {k : Nat} (h : PA X es (tDA K T r)) : PE X (.Tuple es k pos) (tD K T (wTup r)) :=
  PE_weak (pe_tup h) fun σ H Q ⟨S, M, δ, P, sp, re, g, k⟩ => ⟨S, M, δ, _, sp, re, g, fun ds M' vs S' H' ⟨ps, e, hz, p⟩ sp' po' r' => by
    have e := allPy_eq e
    subst e
    have t := r'.tr
    exact ⟨by rw [t.length]; exact hz, fun q hq => Kont.newS (Kont.after k po' sp') sp' hq p (.tup upd_same (t.mono (same_new (sp'.free hq).1)))⟩⟩
theorem d_lst {es : List Expr} {r : WA} (h : PA X es (tDA K T r)) : PE X (.List es pos) (tD K T (wLst r)) :=
  PE_weak (pe_lst h) fun σ H Q ⟨S, M, δ, P, sp, re, g, k⟩ => ⟨S, M, δ, _, sp, re, g, fun ds M' vs S' H' ⟨ps, e, hz, p⟩ sp' po' r' => by
    have e := allPy_eq e
    subst e
    have t := r'.tr
    exact ⟨by rw [t.length]; exact hz, fun q hq => Kont.newS (Kont.after k po' sp') sp' hq p (.lst upd_same (t.mono (same_new (sp'.free hq).1)))⟩⟩
theorem d_lstM {es : List Expr} {r : WA} (h : PA X es (tDA K T r)) : PE X (.List es pos) (tD K T (wLstM r)) :=
  PE_weak (pe_lst h) fun σ H Q ⟨S, M, δ, P, sp, re, g, k⟩ => ⟨S, M, δ, _, sp, re, g, fun ds M' vs S' H' ⟨hz, p⟩ sp' po' r' =>
    ⟨by rw [r'.length]; exact hz, fun q hq => Kont.newM (Kont.after k po' sp') sp' hq (p q (sp'.free hq).2) (.lst r')⟩⟩

/-! ### calls -/
def CallD (K : PySem.W.Frag) (T : List (Addr × Str)) (r : List V → Hp → VK → Prop) (f : WF) : Prop :=
  ∀ S M H vs ds P Q, Split K T S M H → RpAll K S vs ds → f ds M P → Kont K T P S M H Q → r vs H Q
def wCB (f : WF) (r : WA) : WE := fun δ M P => r δ M fun ds M1 => f ds M1 P
theorem weak_cb {r : List V → Hp → VK → Prop} {f : WF} {ra : WA} (hf : CallD K T r f) {σ : L2.St} {H : Hp} {Q : VK} (h : tD K T (wCB f ra) σ H Q) : tCB r (tDA K T ra) σ H Q := by
  obtain ⟨S, M, δ, P, sp, re, g, k⟩ := h
  exact ⟨S, M, δ, _, sp, re, g, fun ds M' vs S' H' p sp' po' r' => hf S' M' H' vs ds P Q sp' r' p (Kont.after k po' sp')⟩
theorem pd_callB {x : Str} {p : Pos} {e : Expr} {es : List Expr} {id : String} {r : List V → Hp → VK → Prop} {f : WF} {ra : WA} (hc : CallR X (.builtin id) r) (hf : CallD K T r f) (hg : Gl X x) (hm : X.mg x = none) (hv : bootBuiltins x = some (.builtin id)) (ha : PA X (e :: es) (tDA K T ra)) (hn : x ≠ "__name__" := by decide) (hdb : (x == ("__debug__" : Str)) = false := by decide)
    (he : starEach (e :: es) X.env = (false, eval e X.env) :: starEach es X.env := by rfl) (hpl : (backTo pos (starEach es X.env)).any (·.1) = false := by rfl) : PE X (.Call (.Name x p) (e :: es) [] pos) (tD K T (wCB f ra)) :=
  PE_weak (pe_callB hc hg hm hv ha hn hdb he hpl) fun _ _ _ h => weak_cb hf h
theorem pd_callTy {x : Str} {p : Pos} {e : Expr} {es : List Expr} {id : String} {r : List V → Hp → VK → Prop} {f : WF} {ra : WA} (hc : CallR X (.type id) r) (hf : CallD K T r f) (hg : Gl X x) (hm : X.mg x = none) (hv : bootBuiltins x = some (.type id)) (ha : PA X (e :: es) (tDA K T ra)) (hn : x ≠ "__name__" := by decide) (hdb : (x == ("__debug__" : Str)) = false := by decide)
    (he : starEach (e :: es) X.env = (false, eval e X.env) :: starEach es X.env := by rfl) (hpl : (backTo pos (starEach es X.env)).any (·.1) = false := by rfl) : PE X (.Call (.Name x p) (e :: es) [] pos) (tD K T (wCB f ra)) :=
  PE_weak (pe_callTy hc hg hm hv ha hn hdb he hpl) fun _ _ _ h => weak_cb hf h
theorem d_ty {x : Str} {n : String} {pos : Pos} (hg : Gl X x) (hm : X.mg x = none) (hv : bootBuiltins x = some (.type n)) (hn : x ≠ "__name__" := by decide) (hd : (x == ("__debug__" : Str)) = false := by decide) : PE X (.Name x pos) (tD K T (wC (.ty n))) :=
  pd_c (pe_bltn (v := .ty n) hg hm hv rfl hn hd) fun _ => rfl
theorem rpall1 {S : Hp} {vs : List V} {d : Dat} (r : RpAll K S vs [d]) : ∃ v, vs = [v] ∧ Rp K S v d := by
  cases r with
  | cons h t => cases t; exact ⟨_, rfl, h⟩
theorem rpall2 {S : Hp} {vs : List V} {d e : Dat} (r : RpAll K S vs [d, e]) : ∃ v u, vs = [v, u] ∧ Rp K S v d ∧ Rp K S u e := by
  cases r with
  | cons h t =>
    obtain ⟨u, rfl, q⟩ := rpall1 t
    exact ⟨_, u, rfl, h, q⟩
/-- a def of the program -/
def wCall (f : WF) (dds : List Dat) (r : WA) : WE := fun δ M P => r δ M fun ds M1 => f (ds ++ dds) M1 P
theorem d_call {CX : CXT} {k : Nat} {f : Addr} {fd : FuncData} {ps : List Str} {F : WF} {dvs : List V} {ds : List Value} {dds : List Dat} {E : XK} {x : Str} {p : Pos} {e : Expr} {es : List Expr} {ra : WA}
    (G : FnOk X.prog X.w X.K X.mg X.base CX k f fd ps (dSp X.K T F)) (hr : Room k X.A) (hg : Gl X x) (hm : X.mg x = some (.ref f)) (hk : PySem.W.keepIn X.K (.ref f) = true) (hb : Binds X.K fd ps ds) (hd : Vals dvs ds) (hdd : ∀ S, RpAll X.K S dvs dds) (hx : Passes CX X E)
    (ha : PA X (e :: es) (tDA X.K T ra)) (hdb : (x == ("__debug__" : Str)) = false := by decide) (he : starEach (e :: es) X.env = (false, eval e X.env) :: starEach es X.env := by rfl) (hpl : (backTo pos (starEach es X.env)).any (·.1) = false := by rfl) :
    PE X (.Call (.Name x p) (e :: es) [] pos) (tD X.K T (wCall F dds ra)) :=
  PE_weak (pe_call G hr hg hm hk hb hd hx ha hdb he hpl) fun σ H Q ⟨S, M, δ, P, sp, re, g, k⟩ =>
    ⟨S, M, δ, _, sp, re, g, fun ds' M' vs S' H' p sp' po' r' => ⟨S', M', ds' ++ dds, P, sp', RpAll.append r' (hdd S'), p, Kont.after k po' sp'⟩⟩
end
end DL
namespace DL
open PySem PySem.Spec PyProof.Rows L2
section
variable {K : PySem.W.Frag} {T : List (Addr × Str)} {X : Cx} {ga gb gc : WE} {a b c : Expr} {pos : Pos}

/-! ### len, all, sum, max, min, abs, int, list, tuple -/
def LenR (M : Mem) : Dat → Nat → Prop
  | .py (.list xs), n => n = xs.length
  | .py (.tuple xs), n => n = xs.length
  | .own a, n => ∃ ds, M a = some (.lst ds) ∧ n = ds.length
  | _, _ => False
def fLen : WF := fun ds M P => ∃ d n, ds = [d] ∧ LenR M d n ∧ P (.py (.int (n : Nat))) M
theorem cd_len : CallD K T (fun xs H Q => ∃ p ys, xs = [.ref p] ∧ (SqL K H p ys ∨ SqT K H p ys) ∧ Q (.int ys.length) H) fLen := fun S M H vs ds P Q sp r0 ⟨d, n, hd, hn, p⟩ k => by
  subst hd
  obtain ⟨v, rfl, r⟩ := rpall1 r0
  unfold LenR at hn
  split at hn
  · subst hn
    cases (show Tr S v (.list _) from r) with
    | lst h t => exact ⟨_, _, rfl, .inl (SqL.of (sp.ex _ _ h)), by rw [t.length]; exact Kont.same k sp p (.int _)⟩
  · subst hn
    cases (show Tr S v (.tuple _) from r) with
    | tup h t => exact ⟨_, _, rfl, .inr (SqT.of (sp.ex _ _ h)), by rw [t.length]; exact Kont.same k sp p (.int _)⟩
  · obtain ⟨ds, hm, hn⟩ := hn
    subst hn
    obtain rfl : v = .ref _ := r
    obtain ⟨h, ha, r⟩ := sp.rep _ _ hm
    cases r with
    | lst r => exact ⟨_, _, rfl, .inl (SqL.of ha), by rw [r.length]; exact Kont.same k sp p (.int _)⟩
  · exact hn.elim
def fAll : WF := fun ds M P => ∃ (d : Dat) (bs : List Bool), ds = [d] ∧ AsL M d (bs.map .bool) ∧ P (.py (.bool (bs.all id))) M
theorem cd_all : CallD K T (rAll K) fAll := fun S M H vs ds P Q sp r0 ⟨d, bs, hd, hb, p⟩ k => by
  subst hd
  obtain ⟨v, rfl, r⟩ := rpall1 r0
  obtain ⟨a, vs, rfl, ha, t⟩ := AsL.sq sp r hb
  have e := TrAll.to_bools t
  subst e
  exact ⟨a, bs, rfl, SqL.of ha, Kont.same k sp p (.bl _)⟩
def fSumI : WF := fun ds M P => ∃ (d : Dat) (ns : List Int), ds = [d] ∧ AsL M d (ns.map .int) ∧ P (.py (.int ns.sum)) M
theorem cd_sumI : CallD K T (rSum K) fSumI := fun S M H vs ds P Q sp r0 ⟨d, bs, hd, hb, p⟩ k => by
  subst hd
  obtain ⟨v, rfl, r⟩ := rpall1 r0
  obtain ⟨a, vs, rfl, ha, t⟩ := AsL.sq sp r hb
  have e := TrAll.to_ints t
  subst e
  exact ⟨a, bs, rfl, SqL.of ha, Kont.same k sp p (.int _)⟩
def fMaxL : WF := fun ds M P => ∃ (d : Dat) (ns : List Int), ds = [d] ∧ AsL M d (ns.map .int) ∧ 0 < ns.length ∧ ∀ m, m ∈ ns → (∀ y, y ∈ ns → y ≤ m) → P (.py (.int m)) M
def fMinL : WF := fun ds M P => ∃ (d : Dat) (ns : List Int), ds = [d] ∧ AsL M d (ns.map .int) ∧ 0 < ns.length ∧ ∀ m, m ∈ ns → (∀ y, y ∈ ns → m ≤ y) → P (.py (.int m)) M
theorem cd_maxL : CallD K T (rMax K) fMaxL := fun S M H vs ds P Q sp r0 ⟨d, bs, hd, hb, h0, p⟩ k => by
  subst hd
  obtain ⟨v, rfl, r⟩ := rpall1 r0
  obtain ⟨a, vs, rfl, ha, t⟩ := AsL.sq sp r hb
  have e := TrAll.to_ints t
  subst e
  exact ⟨a, bs, rfl, SqL.of ha, h0, fun m h1 h2 => Kont.same k sp (p m h1 h2) (.int _)⟩
theorem cd_minL : CallD K T (rMin K) fMinL := fun S M H vs ds P Q sp r0 ⟨d, bs, hd, hb, h0, p⟩ k => by
  subst hd
  obtain ⟨v, rfl, r⟩ := rpall1 r0
  obtain ⟨a, vs, rfl, ha, t⟩ := AsL.sq sp r hb
  have e := TrAll.to_ints t
  subst e
  exact ⟨a, bs, rfl, SqL.of ha, h0, fun m h1 h2 => Kont.same k sp (p m h1 h2) (.int _)⟩
def fMax2 : WF := fun ds M P => ∃ i j, ds = [.py (.int i), .py (.int j)] ∧ P (.py (.int (max i j))) M
def fMin2 : WF := fun ds M P => ∃ i j, ds = [.py (.int i), .py (.int j)] ∧ P (.py (.int (min i j))) M
theorem ints2 {S : Hp} {vs : List V} {i j : Int} (r : RpAll K S vs [.py (.int i), .py (.int j)]) : vs = [.int i, .int j] := by
  obtain ⟨v, u, rfl, h1, h2⟩ := rpall2 r
  cases (show Tr S v (.int i) from h1)
  cases (show Tr S u (.int j) from h2)
  rfl
theorem cd_max2 : CallD K T (fun xs H Q => ∃ i j, xs = [.int i, .int j] ∧ Q (.int (if j > i then j else i)) H) fMax2 := fun S M H vs ds P Q sp r0 ⟨i, j, hd, p⟩ k => by
  subst hd
  rw [ints2 r0]
  refine ⟨i, j, rfl, ?_⟩
  rw [show (if j > i then j else i) = max i j by split <;> omega]
  exact Kont.same k sp p (.int _)
theorem cd_min2 : CallD K T (fun xs H Q => ∃ i j, xs = [.int i, .int j] ∧ Q (.int (if j < i then j else i)) H) fMin2 := fun S M H vs ds P Q sp r0 ⟨i, j, hd, p⟩ k => by
  subst hd
  rw [ints2 r0]
  refine ⟨i, j, rfl, ?_⟩
  rw [show (if j < i then j else i) = min i j by split <;> omega]
  exact Kont.same k sp p (.int _)
def fMax3 : WF := fun ds M P => ∃ i j l, ds = [.py (.int i), .py (.int j), .py (.int l)] ∧ P (.py (.int (max i (max j l)))) M
def fMin3 : WF := fun ds M P => ∃ i j l, ds = [.py (.int i), .py (.int j), .py (.int l)] ∧ P (.py (.int (min i (min j l)))) M
theorem ints3 {S : Hp} {vs : List V} {i j l : Int} (r : RpAll K S vs [.py (.int i), .py (.int j), .py (.int l)]) : vs = [.int i, .int j, .int l] := by
  cases r with
  | cons h t =>
    rw [ints2 t]
    cases (show Tr S _ (.int i) from h)
    rfl
theorem vals3 {x y z : V} {us : List Value} (r : Vals [x, y, z] us) : ∃ u w t, us = [u, w, t] ∧ RelV x u ∧ RelV y w ∧ RelV z t := by
  cases r with
  | cons r1 r2 =>
    obtain ⟨w, t, rfl, h1, h2⟩ := vals2 r2
    exact ⟨_, w, t, rfl, r1, h1, h2⟩
theorem call_max3I (hc : X.calm = true) : CallR X (.builtin "max") (fun xs H Q => ∃ i j l, xs = [.int i, .int j, .int l] ∧ Q (.int (max i (max j l))) H) := by
  intro pins s σ H xs us Q I r h
  obtain ⟨i, j, l, rfl, q⟩ := h
  obtain ⟨u, w', x, rfl, ⟨t, rfl⟩, ⟨t', rfl⟩, ⟨t'', rfl⟩⟩ := vals3 r
  refine max_three_ints (I.ok.hd hc) fun h' tk k => ?_
  refine ⟨.int (max i (max j l)), H, I.kept k, ?_, q⟩
  by_cases h1 : j > i
  · rw [if_pos h1]
    by_cases h2 : l > j
    · rw [if_pos h2]; exact ⟨_, by rw [show max i (max j l) = l by omega]⟩
    · rw [if_neg h2]; exact ⟨_, by rw [show max i (max j l) = j by omega]⟩
  · rw [if_neg h1]
    by_cases h2 : l > i
    · rw [if_pos h2]; exact ⟨_, by rw [show max i (max j l) = l by omega]⟩
    · rw [if_neg h2]; exact ⟨_, by rw [show max i (max j l) = i by omega]⟩
theorem call_min3I (hc : X.calm = true) : CallR X (.builtin "min") (fun xs H Q => ∃ i j l, xs = [.int i, .int j, .int l] ∧ Q (.int (min i (min j l))) H) := by
  intro pins s σ H xs us Q I r h
  obtain ⟨i, j, l, rfl, q⟩ := h
  obtain ⟨u, w', x, rfl, ⟨t, rfl⟩, ⟨t', rfl⟩, ⟨t'', rfl⟩⟩ := vals3 r
  refine min_three_ints (I.ok.hd hc) fun h' tk k => ?_
  refine ⟨.int (min i (min j l)), H, I.kept k, ?_, q⟩
  by_cases h1 : j < i
  · rw [if_pos h1]
    by_cases h2 : l < j
    · rw [if_pos h2]; exact ⟨_, by rw [show min i (min j l) = l by omega]⟩
    · rw [if_neg h2]; exact ⟨_, by rw [show min i (min j l) = j by omega]⟩
  · rw [if_neg h1]
    by_cases h2 : l < i
    · rw [if_pos h2]; exact ⟨_, by rw [show min i (min j l) = l by omega]⟩
    · rw [if_neg h2]; exact ⟨_, by rw [show min i (min j l) = i by omega]⟩
theorem cd_max3 : CallD K T (fun xs H Q => ∃ i j l, xs = [.int i, .int j, .int l] ∧ Q (.int (max i (max j l))) H) fMax3 := fun S M H vs ds P Q sp r0 ⟨i, j, l, hd, p⟩ k => by
  subst hd
  rw [ints3 r0]
  exact ⟨i, j, l, rfl, Kont.same k sp p (.int _)⟩
theorem cd_min3 : CallD K T (fun xs H Q => ∃ i j l, xs = [.int i, .int j, .int l] ∧ Q (.int (min i (min j l))) H) fMin3 := fun S M H vs ds P Q sp r0 ⟨i, j, l, hd, p⟩ k => by
  subst hd
  rw [ints3 r0]
  exact ⟨i, j, l, rfl, Kont.same k sp p (.int _)⟩
def fAbs : WF := fun ds M P => ∃ i, ds = [.py (.int i)] ∧ P (.py (.int (if i < 0 then -i else i))) M
theorem cd_abs : CallD K T (fun xs H Q => ∃ i, xs = [.int i] ∧ Q (.int (if i < 0 then -i else i)) H) fAbs := fun S M H vs ds P Q sp r0 ⟨i, hd, p⟩ k => by
  subst hd
  obtain ⟨v, rfl, r⟩ := rpall1 r0
  cases (show Tr S v (.int i) from r)
  exact ⟨i, rfl, Kont.same k sp p (.int _)⟩
def fIntB : WF := fun ds M P => ∃ b : Bool, ds = [.py (.bool b)] ∧ P (.py (.int (if b then 1 else 0))) M
theorem cd_intB : CallD K T (fun xs H Q => (∃ i, xs = [.int i] ∧ Q (.int i) H) ∨ ∃ k, xs = [.bl k] ∧ Q (.int (if k then 1 else 0)) H) fIntB := fun S M H vs ds P Q sp r0 ⟨b, hd, p⟩ k => by
  subst hd
  obtain ⟨v, rfl, r⟩ := rpall1 r0
  cases (show Tr S v (.bool b) from r)
  exact .inr ⟨b, rfl, Kont.same k sp p (.int _)⟩
/-- list(xs), xs a list or a tuple -/
def ItemsR (M : Mem) (d : Dat) (xs : List PyData) : Prop := AsL M d xs ∨ d = .py (.tuple xs)
theorem ItemsR.sq {S H : Hp} {M : Mem} {v : V} {ds : List PyData} (sp : Split K T S M H) {d : Dat} (r : Rp K S v d) (e : ItemsR M d ds) : ∃ a vs, v = .ref a ∧ (SqL K H a vs ∨ SqT K H a vs) ∧ TrAll S vs ds := by
  rcases e with e | e
  · obtain ⟨a, vs, h1, h2, h3⟩ := AsL.sq sp r e
    exact ⟨a, vs, h1, .inl (SqL.of h2), h3⟩
  · subst e
    obtain ⟨a, vs, h1, _, h2, h3⟩ := tup_at sp r
    exact ⟨a, vs, h1, .inr (SqT.of h2), h3⟩
def fList : WF := fun ds M P => ∃ (d : Dat) (xs : List PyData), ds = [d] ∧ ItemsR M d xs ∧ P (.py (.list xs)) M
def fListM : WF := fun ds M P => ∃ (d : Dat) (xs : List PyData), ds = [d] ∧ ItemsR M d xs ∧ ∀ p, M p = none → P (.own p) (putM M p (.lst (xs.map .py)))
theorem cd_list : CallD K T (fun xs H Q => ∃ p ys, xs = [.ref p] ∧ (SqL K H p ys ∨ SqT K H p ys) ∧ ∀ l, H l = none → Q (.ref l) (upd H l (.lst ys))) fList := fun S M H vs ds P Q sp r0 ⟨d, xs, hd, hx, p⟩ k => by
  subst hd
  obtain ⟨v, rfl, r⟩ := rpall1 r0
  obtain ⟨a, vs, rfl, ha, t⟩ := ItemsR.sq sp r hx
  exact ⟨a, vs, rfl, ha, fun q hq => Kont.newS k sp hq p (.lst upd_same (t.mono (same_new (sp.free hq).1)))⟩
theorem cd_listM : CallD K T (fun xs H Q => ∃ p ys, xs = [.ref p] ∧ (SqL K H p ys ∨ SqT K H p ys) ∧ ∀ l, H l = none → Q (.ref l) (upd H l (.lst ys))) fListM := fun S M H vs ds P Q sp r0 ⟨d, xs, hd, hx, p⟩ k => by
  subst hd
  obtain ⟨v, rfl, r⟩ := rpall1 r0
  obtain ⟨a, vs, rfl, ha, t⟩ := ItemsR.sq sp r hx
  exact ⟨a, vs, rfl, ha, fun q hq => Kont.newM k sp hq (p q (sp.free hq).2) (.lst (RpAll.of t))⟩
def fTuple : WF := fun ds M P => ∃ (d : Dat) (xs : List PyData), ds = [d] ∧ AsL M d xs ∧ P (.py (.tuple xs)) M
theorem cd_tuple : CallD K T (fun xs H Q => ∃ p ys, xs = [.ref p] ∧ ((SqL K H p ys ∧ ∀ l, H l = none → Q (.ref l) (upd H l (.tup ys))) ∨ (SqT K H p ys ∧ Q (.ref p) H))) fTuple := fun S M H vs ds P Q sp r0 ⟨d, xs, hd, hx, p⟩ k => by
  subst hd
  obtain ⟨v, rfl, r⟩ := rpall1 r0
  obtain ⟨a, vs, rfl, ha, t⟩ := AsL.sq sp r hx
  exact ⟨a, vs, rfl, .inl ⟨SqL.of ha, fun q hq => Kont.newS k sp hq p (.tup upd_same (t.mono (same_new (sp.free hq).1)))⟩⟩
/-- list(range(a, b)) -/
def rgI (a b : Int) : List Int := (List.range (b - a).toNat).map fun i => a + (i : Nat)
def wLstRg (ga gb : WE) : WE := fun δ M P => ga δ M fun x M1 => gb δ M1 fun y M2 => ∃ i j, x = .py (.int i) ∧ y = .py (.int j) ∧ RgOk i j ∧ P (.py (.list ((rgI i j).map .int))) M2
theorem rgV_eq (i j : Int) : rgV i j = (rgI i j).map V.int := by
  unfold rgV rgI
  rw [List.map_map]
  rfl
theorem pd_listRg {e : Expr} {p pos : Pos} (h : PE X e (tLstRg (tRg2 (tD K T ga) (tD K T gb)))) : PE X e (tD K T (wLstRg ga gb)) := PE_weak h fun σ H Q ⟨S, M, δ, P, sp, re, g, k⟩ =>
  ⟨S, M, δ, _, sp, re, g, fun d1 M1 v1 S1 H1 g1 sp1 po1 r1 => ⟨S1, M1, δ, _, sp1, re.mono po1.st, g1, fun d2 M2 v2 S2 H2 ⟨i, j, e1, e2, ok, p⟩ sp2 po2 r2 => by
    subst e1 e2
    cases (show Tr S1 v1 (.int i) from r1)
    cases (show Tr S2 v2 (.int j) from r2)
    refine ⟨i, j, rfl, rfl, ok, fun q hq => Kont.newS (Kont.after k (po1.trans sp1 po2) sp2) sp2 hq p ?_⟩
    rw [rgV_eq]
    exact .lst upd_same TrAll.ints⟩⟩

/-! ### isinstance -/
def tyN : Dat → Option String
  | .py .none => some "NoneType"
  | .py (.bool _) => some "bool"
  | .py (.int _) => some "int"
  | .py (.str _) => some "str"
  | .py (.list _) => some "list"
  | .py (.tuple _) => some "tuple"
  | _ => none
def fIsi : WF := fun ds M P => ∃ d n t b, ds = [d, .ty n] ∧ tyN d = some t ∧ kitB t n = some b ∧ P (.py (.bool b)) M
theorem cd_isi : CallD K T (rIsi K) fIsi := fun S M H vs ds P Q sp r0 ⟨d, n, t, b, hd, ht, hb, p⟩ k => by
  subst hd
  obtain ⟨v, u, rfl, h1, h2⟩ := rpall2 r0
  obtain rfl : u = .ty n := h2
  refine ⟨v, .ty n, .type t, .type n, b, rfl, .ty n, ?_, kit_ty hb, Kont.same k sp p (.bl _)⟩
  unfold tyN at ht
  split at ht
  · cases ht; cases (show Tr S v .none from h1); exact .base .non
  · cases ht; cases (show Tr S v (.bool _) from h1); exact .base (.bl _)
  · cases ht; cases (show Tr S v (.int _) from h1); exact .base (.int _)
  · cases ht; cases (show Tr S v (.str _) from h1); exact .base (.str _)
  · cases ht
    cases (show Tr S v (.list _) from h1) with
    | lst h _ => exact .base (.lst (sp.ex _ _ h))
  · cases ht
    cases (show Tr S v (.tuple _) from h1) with
    | tup h _ => exact .base (.tup (sp.ex _ _ h))
  · cases ht

/-! ### sorted -/
def prP (p : Int × Int) : PyData := .tuple [.int p.1, .int p.2]
/-- what a pair's object holds -/
def pairAt (H : Hp) (v : V) : Int × Int := match v with
  | .ref a => match H a with
    | some (.tup [.int i, .int j]) => (i, j)
    | _ => (0, 0)
  | _ => (0, 0)
theorem tr_pair {S : Hp} {v : V} {p : Int × Int} (r : Tr S v (prP p)) : ∃ a, v = .ref a ∧ S a = some (.tup [.int p.1, .int p.2]) := by
  cases r with
  | tup h t =>
    have e := TrAll.to_ints (is := [p.1, p.2]) t
    subst e
    exact ⟨_, rfl, h⟩
theorem pairAt_eq {S H : Hp} (e : Same S H) {v : V} {p : Int × Int} (r : Tr S v (prP p)) : pairAt H v = p := by
  obtain ⟨a, rfl, h⟩ := tr_pair r
  show (match H a with
    | some (.tup [.int i, .int j]) => (i, j)
    | _ => (0, 0)) = p
  rw [e _ _ h]
theorem pairs_at' {S H : Hp} (e : Same S H) : ∀ {ps : List (Int × Int)} {vs : List V}, TrAll S vs (ps.map prP) → vs.map (pairAt H) = ps ∧ ∀ v ∈ vs, Tr S v (prP (pairAt H v))
  | [], _, t => by cases t; exact ⟨rfl, fun v h => absurd h (by simp)⟩
  | p :: r, _, t => by
    cases t with
    | cons h t =>
      obtain ⟨h1, h2⟩ := pairs_at' e t
      have q := pairAt_eq e h
      refine ⟨by rw [List.map_cons, h1, q], fun v hv => ?_⟩
      rcases List.mem_cons.mp hv with rfl | hv
      · rw [q]; exact h
      · exact h2 v hv
theorem trall_of {S : Hp} {f : V → Int × Int} : ∀ {vs : List V}, (∀ v ∈ vs, Tr S v (prP (f v))) → TrAll S vs ((vs.map f).map prP)
  | [], _ => .nil
  | v :: r, h => .cons (h v List.mem_cons_self) (trall_of fun u hu => h u (List.mem_cons_of_mem _ hu))
theorem pairLe_iff {p q : Int × Int} : pairLe p q = true ↔ p.1 < q.1 ∨ (p.1 = q.1 ∧ p.2 ≤ q.2) := by
  unfold pairLe
  exact decide_eq_true_iff
/-- sorted(ps), pairs of ints -/
def fSorted : WF := fun ds M P => ∃ (d : Dat) (ps : List (Int × Int)), ds = [d] ∧ AsL M d (ps.map prP) ∧ ∀ qs : List (Int × Int), qs.Perm ps → qs.Pairwise (fun p q => pairLe p q = true) → P (.py (.list (qs.map prP))) M
theorem cd_sorted : CallD K T (rSortedPO K) fSorted := fun S M H vs ds P Q sp r0 ⟨d, ps, hd, hx, p⟩ k => by
  subst hd
  obtain ⟨v, rfl, r⟩ := rpall1 r0
  obtain ⟨a, vs, rfl, ha, t⟩ := AsL.sq sp r hx
  obtain ⟨h1, h2⟩ := pairs_at' sp.ex t
  refine ⟨a, vs, pairAt H, rfl, SqL.of ha, fun v hv => ?_, fun ys q srt stb hq => ?_⟩
  · obtain ⟨a, rfl, h⟩ := tr_pair (h2 v hv)
    exact ⟨a, rfl, sp.ex _ _ h⟩
  · have perm : (ys.map (pairAt H)).Perm ps := by
      rw [← h1]
      exact stb.perm.map _
    have pw : (ys.map (pairAt H)).Pairwise (fun p q => pairLe p q = true) := by
      rw [List.pairwise_map]
      refine srt.imp fun {x y} h => ?_
      have h := SrtO.lexB_no.mp h
      rw [pairLe_iff]
      omega
    refine Kont.newS k sp hq (p _ perm pw) (.lst upd_same ?_)
    exact (trall_of fun v hv => h2 v (stb.perm.mem_iff.mp hv)).mono (same_new (sp.free hq).1)
/-- sorted(ns), ints -/
def fSortedI : WF := fun ds M P => ∃ (d : Dat) (ns : List Int), ds = [d] ∧ AsL M d (ns.map .int) ∧ ∀ ms : List Int, ms.Perm ns → ms.Pairwise (· ≤ ·) → P (.py (.list (ms.map .int))) M
theorem cd_sortedI : CallD K T (rSortedI K) fSortedI := fun S M H vs ds P Q sp r0 ⟨d, ns, hd, hx, p⟩ k => by
  subst hd
  obtain ⟨v, rfl, r⟩ := rpall1 r0
  obtain ⟨a, vs, rfl, ha, t⟩ := AsL.sq sp r hx
  have e := TrAll.to_ints t
  subst e
  exact ⟨a, ns, rfl, SqL.of ha, fun ms q perm pw hq => Kont.newS k sp hq (p ms perm pw) (.lst upd_same TrAll.ints)⟩

/-! ### methods of a list that may change -/
/-- xs.append(e) -/
def wApp (go : WE) (r : WA) : WE := fun δ M P => go δ M fun x M1 => (∃ a ds, x = .own a ∧ M1 a = some (.lst ds)) ∧ r δ M1 fun es M2 => ∃ a e ds, x = .own a ∧ es = [e] ∧ M2 a = some (.lst ds) ∧ ds.length < sizeLine ∧ P (.py .none) (putM M2 a (.lst (ds ++ [e])))
theorem own_at {S H : Hp} {M : Mem} {v : V} {a : Addr} {ds : List Dat} (sp : Split K T S M H) (r : Rp K S v (.own a)) (hm : M a = some (.lst ds)) : v = .ref a ∧ ∃ vs, H a = some (.lst vs) ∧ RpAll K S vs ds := by
  obtain ⟨h, ha, r'⟩ := sp.rep a _ hm
  cases r' with
  | lst r' => exact ⟨r, _, ha, r'⟩
theorem pd_app {e : Expr} {go : WE} {r : WA} {Kx : PySem.W.Frag} (h : PE X e (tBM Kx "list" rAppend (tD K T go) (tDA K T r))) : PE X e (tD K T (wApp go r)) := PE_weak h fun σ H Q ⟨S, M, δ, P, sp, re, g, k⟩ =>
  ⟨S, M, δ, _, sp, re, g, fun d1 M1 v1 S1 H1 ⟨⟨a, ds, hd, hm⟩, q⟩ sp1 po1 r1 => by
    subst hd
    obtain ⟨rfl, vs, ha, rr⟩ := own_at sp1 r1 hm
    refine ⟨.inl ⟨rfl, _, SqL.of ha⟩, S1, M1, δ, _, sp1, re.mono po1.st, q, fun es M2 us S2 H2 ⟨a', e, ds', h1, h2, h3, h4, p⟩ sp2 po2 r2 => ?_⟩
    cases h1
    subst h2
    obtain ⟨u, rfl, ru⟩ := rpall1 r2
    obtain ⟨_, vs', ha', rr'⟩ := own_at sp2 (K := K) (v := .ref a) rfl h3
    exact ⟨a, vs', u, rfl, rfl, ha', by rw [rr'.length]; exact h4, k _ _ _ _ _ p (sp2.setM h3 (.lst (rr'.append (.cons ru .nil)))) ((po1.trans sp1 po2).trans sp2 (Post.setM h3)) .non⟩⟩
/-- xs.extend(ys) -/
def wExt (go : WE) (r : WA) : WE := fun δ M P => go δ M fun x M1 => (∃ a ds, x = .own a ∧ M1 a = some (.lst ds)) ∧ r δ M1 fun es M2 => ∃ a e ds ys, x = .own a ∧ es = [e] ∧ M2 a = some (.lst ds) ∧ AsL M2 e ys ∧ ds.length + ys.length ≤ sizeLine ∧ P (.py .none) (putM M2 a (.lst (ds ++ ys.map .py)))
theorem pd_ext {e : Expr} {go : WE} {r : WA} {Kx : PySem.W.Frag} (h : PE X e (tBM Kx "list" rExtend (tD K T go) (tDA K T r))) : PE X e (tD K T (wExt go r)) := PE_weak h fun σ H Q ⟨S, M, δ, P, sp, re, g, k⟩ =>
  ⟨S, M, δ, _, sp, re, g, fun d1 M1 v1 S1 H1 ⟨⟨a, ds, hd, hm⟩, q⟩ sp1 po1 r1 => by
    subst hd
    obtain ⟨rfl, vs, ha, rr⟩ := own_at sp1 r1 hm
    refine ⟨.inl ⟨rfl, _, SqL.of ha⟩, S1, M1, δ, _, sp1, re.mono po1.st, q, fun es M2 us S2 H2 ⟨a', e, ds', ys, h1, h2, h3, h5, h4, p⟩ sp2 po2 r2 => ?_⟩
    cases h1
    subst h2
    obtain ⟨u, rfl, ru⟩ := rpall1 r2
    obtain ⟨_, vs', ha', rr'⟩ := own_at sp2 (K := K) (v := .ref a) rfl h3
    obtain ⟨b, ws, rfl, hb, t⟩ := AsL.sq sp2 ru h5
    exact ⟨a, b, vs', ws, rfl, rfl, ha', hb, by rw [rr'.length, t.length]; exact h4, k _ _ _ _ _ p (sp2.setM h3 (.lst (rr'.append (RpAll.of t)))) ((po1.trans sp1 po2).trans sp2 (Post.setM h3)) .non⟩⟩
/-- xs.pop(i), 0 <= i -/
def wPop (go : WE) (r : WA) : WE := fun δ M P => go δ M fun x M1 => (∃ a ds, x = .own a ∧ M1 a = some (.lst ds)) ∧ r δ M1 fun es M2 => ∃ (a : Addr) (i : Nat) (ds : List Dat) (y : Dat), x = .own a ∧ es = [.py (.int (i : Nat))] ∧ M2 a = some (.lst ds) ∧ ds.length ≤ sizeLine ∧ ds[i]? = some y ∧ P y (putM M2 a (.lst (ds.eraseIdx i)))
theorem pd_pop {e : Expr} {go : WE} {r : WA} {Kx : PySem.W.Frag} (h : PE X e (tBM Kx "list" rPopAt (tD K T go) (tDA K T r))) : PE X e (tD K T (wPop go r)) := PE_weak h fun σ H Q ⟨S, M, δ, P, sp, re, g, k⟩ =>
  ⟨S, M, δ, _, sp, re, g, fun d1 M1 v1 S1 H1 ⟨⟨a, ds, hd, hm⟩, q⟩ sp1 po1 r1 => by
    subst hd
    obtain ⟨rfl, vs, ha, rr⟩ := own_at sp1 r1 hm
    refine ⟨.inl ⟨rfl, _, SqL.of ha⟩, S1, M1, δ, _, sp1, re.mono po1.st, q, fun es M2 us S2 H2 ⟨a', i, ds', y, h1, h2, h3, hz, h4, p⟩ sp2 po2 r2 => ?_⟩
    cases h1
    subst h2
    obtain ⟨u, rfl, ru⟩ := rpall1 r2
    cases (show Tr S2 u (.int (i : Nat)) from ru)
    obtain ⟨_, vs', ha', rr'⟩ := own_at sp2 (K := K) (v := .ref a) rfl h3
    obtain ⟨w, hw, rw'⟩ := rr'.get h4
    have hi : i < vs'.length := (List.getElem?_eq_some_iff.mp hw).1
    have hi2 : vs'.length ≤ sizeLine := by rw [rr'.length]; exact hz
    have hs : sizeLine = 16777216 := sizeLine_eq
    refine ⟨a, vs', (i : Nat), i, w, rfl, rfl, ha', by omega, by omega, ?_, hw, k _ _ _ _ _ p (sp2.setM h3 (.lst (RpAll.eraseIdx i rr'))) ((po1.trans sp1 po2).trans sp2 (Post.setM h3)) (rw'.mono (Same.refl _))⟩
    rw [PySem.StrLaws.seqIndex_nonneg (by omega) (by omega), Int.toNat_natCast]⟩
end
end DL
namespace DL
open PySem PySem.Spec PyProof.Rows L2
section
variable {K : PySem.W.Frag} {T : List (Addr × Str)} {X : Cx} {ga gb gc : WE} {ta tb : WT} {a b c : Expr} {pos : Pos} {rest : List Expr}

/-! ### and, or, not -/
theorem ifT {A B : Prop} (h : if true = true then A else B) : A := by rwa [if_pos rfl] at h
theorem ifF {A B : Prop} (h : if false = true then A else B) : B := by rwa [if_neg Bool.false_ne_true] at h
def wAnd (t u : WT) : WT := fun δ M P => t δ M fun c M1 => if c = true then u δ M1 P else P false M1
def wOr (t u : WT) : WT := fun δ M P => t δ M fun c M1 => if c = true then P true M1 else u δ M1 P
def wNot (t : WT) : WT := fun δ M P => t δ M fun c M1 => P (!c) M1
abbrev KontT (K : PySem.W.Frag) (T : List (Addr × Str)) (P : Bool → Mem → Prop) (S : Hp) (M : Mem) (H : Hp) (Q : Bool → Hp → Prop) : Prop :=
  ∀ b M' S' H', P b M' → Split K T S' M' H' → Post S M H S' M' H' → Q b H'
theorem KontT.after {P : Bool → Mem → Prop} {S S1 : Hp} {M M1 : Mem} {H H1 : Hp} {Q : Bool → Hp → Prop} (k : KontT K T P S M H Q) (po : Post S M H S1 M1 H1) (sp1 : Split K T S1 M1 H1) : KontT K T P S1 M1 H1 Q :=
  fun d M' S' H' p sp' po' => k d M' S' H' p sp' (po.trans sp1 po')
theorem PW_weak {e : Expr} {t t' : TT} (h : PW X e t) (w : ∀ σ H Q, t' σ H Q → t σ H Q) : PW X e t' := ⟨fun wh pins s σ H Q I q => h.run wh pins s σ H Q I (w σ H Q q)⟩
theorem dw_and1 (ha : PT X a (tDT K T ta)) : PW X (.BoolOp .And [a] pos) (tDT K T ta) := pw_and1 ha
theorem dw_or1 (ha : PT X a (tDT K T ta)) : PW X (.BoolOp .Or [a] pos) (tDT K T ta) := pw_or1 ha
theorem dw_and (ha : PT X a (tDT K T ta)) (hb : PW X (.BoolOp .And (b :: rest) pos) (tDT K T tb)) : PW X (.BoolOp .And (a :: b :: rest) pos) (tDT K T (wAnd ta tb)) :=
  PW_weak (pw_and ha hb) fun σ H Q ⟨S, M, δ, P, sp, re, g, k⟩ => ⟨S, M, δ, _, sp, re, g, fun c M1 S1 H1 g1 sp1 po1 => by
    cases c with
    | true =>
      replace g1 := ifT g1
      refine iteT ?_
      exact ⟨S1, M1, δ, P, sp1, re.mono po1.st, g1, KontT.after k po1 sp1⟩
    | false =>
      replace g1 := ifF g1
      refine iteF ?_
      exact k _ _ _ _ g1 sp1 po1⟩
theorem dw_or (ha : PT X a (tDT K T ta)) (hb : PW X (.BoolOp .Or (b :: rest) pos) (tDT K T tb)) : PW X (.BoolOp .Or (a :: b :: rest) pos) (tDT K T (wOr ta tb)) :=
  PW_weak (pw_or ha hb) fun σ H Q ⟨S, M, δ, P, sp, re, g, k⟩ => ⟨S, M, δ, _, sp, re, g, fun c M1 S1 H1 g1 sp1 po1 => by
    cases c with
    | true =>
      replace g1 := ifT g1
      refine iteT ?_
      exact k _ _ _ _ g1 sp1 po1
    | false =>
      replace g1 := ifF g1
      refine iteF ?_
      exact ⟨S1, M1, δ, P, sp1, re.mono po1.st, g1, KontT.after k po1 sp1⟩⟩
theorem dt_not (ha : PT X a (tDT K T ta)) : PT X (.UnaryOp .Not a pos) (tDT K T (wNot ta)) :=
  PT_weak (pt_not ha) fun σ H Q ⟨S, M, δ, P, sp, re, g, k⟩ => ⟨S, M, δ, _, sp, re, g, fun c M1 S1 H1 g1 sp1 po1 => k _ _ _ _ g1 sp1 po1⟩
/-- .. as values -/
def wAndV (g h : WE) : WE := fun δ M P => g δ M fun d M1 => ∃ c, d = .py (.bool c) ∧ if c = true then h δ M1 P else P (.py (.bool false)) M1
def wOrV (g h : WE) : WE := fun δ M P => g δ M fun d M1 => ∃ c, d = .py (.bool c) ∧ if c = true then P (.py (.bool true)) M1 else h δ M1 P
def wNotV (g : WE) : WE := fun δ M P => g δ M fun d M1 => ∃ c, d = .py (.bool c) ∧ P (.py (.bool (!c))) M1
theorem d_one {op} (h : PE X a (tD K T ga)) : PE X (.BoolOp op [a] pos) (tD K T ga) := pe_one h
theorem d_and (ha : PE X a (tD K T ga)) (hb : PE X (.BoolOp .And (b :: rest) pos) (tD K T gb)) : PE X (.BoolOp .And (a :: b :: rest) pos) (tD K T (wAndV ga gb)) :=
  PE_weak (pe_and ha hb) fun σ H Q ⟨S, M, δ, P, sp, re, g, k⟩ => ⟨S, M, δ, _, sp, re, g, fun d M1 v S1 H1 ⟨c, hd, g1⟩ sp1 po1 r1 => by
    subst hd
    cases (show Tr S1 v (.bool c) from r1)
    refine ⟨c, rfl, ?_⟩
    cases c with
    | true =>
      replace g1 := ifT g1
      refine iteT ?_
      exact ⟨S1, M1, δ, P, sp1, re.mono po1.st, g1, Kont.after k po1 sp1⟩
    | false =>
      replace g1 := ifF g1
      refine iteF ?_
      exact k _ _ _ _ _ g1 sp1 po1 (.bl _)⟩
theorem d_or (ha : PE X a (tD K T ga)) (hb : PE X (.BoolOp .Or (b :: rest) pos) (tD K T gb)) : PE X (.BoolOp .Or (a :: b :: rest) pos) (tD K T (wOrV ga gb)) :=
  PE_weak (pe_or ha hb) fun σ H Q ⟨S, M, δ, P, sp, re, g, k⟩ => ⟨S, M, δ, _, sp, re, g, fun d M1 v S1 H1 ⟨c, hd, g1⟩ sp1 po1 r1 => by
    subst hd
    cases (show Tr S1 v (.bool c) from r1)
    refine ⟨c, rfl, ?_⟩
    cases c with
    | true =>
      replace g1 := ifT g1
      refine iteT ?_
      exact k _ _ _ _ _ g1 sp1 po1 (.bl _)
    | false =>
      replace g1 := ifF g1
      refine iteF ?_
      exact ⟨S1, M1, δ, P, sp1, re.mono po1.st, g1, Kont.after k po1 sp1⟩⟩
theorem d_not (ha : PE X a (tD K T ga)) : PE X (.UnaryOp .Not a pos) (tD K T (wNotV ga)) :=
  PE_weak (pe_not ha) fun σ H Q ⟨S, M, δ, P, sp, re, g, k⟩ => ⟨S, M, δ, _, sp, re, g, fun d M1 v S1 H1 ⟨c, hd, g1⟩ sp1 po1 r1 => by
    subst hd
    cases (show Tr S1 v (.bool c) from r1)
    exact ⟨c, rfl, k _ _ _ _ _ g1 sp1 po1 (.bl _)⟩⟩

/-! ### statements -/
variable {st : Stmt} {sts : List Stmt} {G G' : WS}
structure KontS (K : PySem.W.Frag) (T : List (Addr × Str)) (E : DEnds) (S : Hp) (M : Mem) (H : Hp) (D : Ends) : Prop where
  nx : ∀ δ' M' σ' S' H', E.nx δ' M' → Split K T S' M' H' → Post S M H S' M' H' → REnv K S' σ' δ' → D.nx σ' H'
  rt : ∀ d M' v S' H', E.rt d M' → Split K T S' M' H' → Post S M H S' M' H' → Rp K S' v d → D.rt v H'
  bk : ∀ δ' M' σ' S' H', E.bk δ' M' → Split K T S' M' H' → Post S M H S' M' H' → REnv K S' σ' δ' → D.bk σ' H'
  ct : ∀ δ' M' σ' S' H', E.ct δ' M' → Split K T S' M' H' → Post S M H S' M' H' → REnv K S' σ' δ' → D.ct σ' H'
theorem KontS.after {E : DEnds} {S S1 : Hp} {M M1 : Mem} {H H1 : Hp} {D : Ends} (k : KontS K T E S M H D) (po : Post S M H S1 M1 H1) (sp1 : Split K T S1 M1 H1) : KontS K T E S1 M1 H1 D :=
  ⟨fun δ' M' σ' S' H' p sp' po' r => k.nx δ' M' σ' S' H' p sp' (po.trans sp1 po') r, fun δ' M' σ' S' H' p sp' po' r => k.rt δ' M' σ' S' H' p sp' (po.trans sp1 po') r,
   fun δ' M' σ' S' H' p sp' po' r => k.bk δ' M' σ' S' H' p sp' (po.trans sp1 po') r, fun δ' M' σ' S' H' p sp' po' r => k.ct δ' M' σ' S' H' p sp' (po.trans sp1 po') r⟩
theorem tDS_of {G : WS} {D : Ends} {σ : L2.St} {H : Hp} (h : tDS K T G D σ H) : ∃ S M δ E, Split K T S M H ∧ REnv K S σ δ ∧ G E δ M ∧ KontS K T E S M H D := by
  obtain ⟨S, M, δ, E, sp, re, g, k1, k2, k3, k4⟩ := h
  exact ⟨S, M, δ, E, sp, re, g, k1, k2, k3, k4⟩
theorem tDS_mk {G : WS} {D : Ends} {σ : L2.St} {H S : Hp} {M : Mem} {δ : DEnv} {E : DEnds} (sp : Split K T S M H) (re : REnv K S σ δ) (g : G E δ M) (k : KontS K T E S M H D) : tDS K T G D σ H := ⟨S, M, δ, E, sp, re, g, k.nx, k.rt, k.bk, k.ct⟩
def wNext : WS := fun E δ M => E.nx δ M
def wSeq (G G' : WS) : WS := fun E δ M => G { E with nx := G' E } δ M
theorem dss_nil : PSs X [] (tDS K T wNext) := PSs_weak pss_nil fun D σ H h => by
  obtain ⟨S, M, δ, E, sp, re, g, k⟩ := tDS_of h
  exact k.nx _ _ _ _ _ g sp Post.refl re
theorem dss_one (h : PS X st (tDS K T G)) : PSs X [st] (tDS K T G) := pss_one h
theorem dss_cons (h : PS X st (tDS K T G)) (h2 : PSs X sts (tDS K T G')) : PSs X (st :: sts) (tDS K T (wSeq G G')) := PSs_weak (pss_cons h h2) fun D σ H h => by
  obtain ⟨S, M, δ, E, sp, re, g, k⟩ := tDS_of h
  refine tDS_mk sp re g ⟨fun δ' M' σ' S' H' p sp' po' r => ?_, k.rt, k.bk, k.ct⟩
  exact tDS_mk sp' r p (k.after po' sp')
def wRet (g : WE) : WS := fun E δ M => g δ M E.rt
theorem ds_ret (h : PE X a (tD K T ga)) : PS X (.Return (some a) pos) (tDS K T (wRet ga)) := PS_weak (ps_ret h) fun D σ H h => by
  obtain ⟨S, M, δ, E, sp, re, g, k⟩ := tDS_of h
  exact ⟨S, M, δ, _, sp, re, g, k.rt⟩
def wDrop (g : WE) : WS := fun E δ M => g δ M fun _ M1 => E.nx δ M1
theorem ds_expr (h : PE X a (tD K T ga)) (hs : swapsWith a none pos.line X.env = pure false := by rfl) : PS X (.Expr a pos) (tDS K T (wDrop ga)) := PS_weak (ps_expr h hs) fun D σ H h => by
  obtain ⟨S, M, δ, E, sp, re, g, k⟩ := tDS_of h
  exact ⟨S, M, δ, _, sp, re, g, fun d M' v S' H' p sp' po' r' => k.nx _ _ _ _ _ p sp' po' (re.mono po'.st)⟩
def wIf (t : WT) (G G' : WS) : WS := fun E δ M => t δ M fun c M1 => if c = true then G E δ M1 else G' E δ M1
theorem ds_if {xs ys : List Stmt} (hc : PT X a (tDT K T ta)) (h1 : PSs X xs (tDS K T G)) (h2 : PSs X ys (tDS K T G')) : PS X (.If a xs ys pos) (tDS K T (wIf ta G G')) := PS_weak (ps_if hc h1 h2) fun D σ H h => by
  obtain ⟨S, M, δ, E, sp, re, g, k⟩ := tDS_of h
  refine ⟨S, M, δ, _, sp, re, g, fun c M1 S1 H1 g1 sp1 po1 => ?_⟩
  cases c with
  | true =>
    replace g1 := ifT g1
    refine iteT ?_
    exact tDS_mk sp1 (re.mono po1.st) g1 (k.after po1 sp1)
  | false =>
    replace g1 := ifF g1
    refine iteF ?_
    exact tDS_mk sp1 (re.mono po1.st) g1 (k.after po1 sp1)
def wNever : WS := fun _ _ _ => False
theorem ds_never : PS X st (tDS K T wNever) := PS_weak ps_never fun D σ H h => by
  obtain ⟨S, M, δ, E, sp, re, g, k⟩ := tDS_of h
  exact g
theorem ds_pass : PS X (.Pass pos) (tDS K T wNext) := PS_weak ps_pass fun D σ H h => by
  obtain ⟨S, M, δ, E, sp, re, g, k⟩ := tDS_of h
  exact k.nx _ _ _ _ _ g sp Post.refl re

/-! ### targets -/
inductive Tgt where
  | nm (i : Nat)
  | tp (is : List Nat)
def setAll : List Nat → List PyData → DEnv → DEnv
  | i :: is, d :: ds, δ => setAll is ds (δ.set i (some (.py d)))
  | _, _, δ => δ
def bindD : Tgt → Dat → DEnv → Option DEnv
  | .nm i, d, δ => some (δ.set i (some d))
  | .tp is, .py (.tuple ds), δ => if ds.length = is.length then some (setAll is ds δ) else none
  | _, _, _ => none
def gNames : List Nat → TGs
  | [] => gNil
  | i :: is => gCons (gName i) (gNames is)
def gTgt (Kx : PySem.W.Frag) : Tgt → TG
  | .nm i => gName i
  | .tp is => gTup Kx is.length (gNames is)
theorem gNames_run {S : Hp} {Q : L2.St → Hp → Prop} {H : Hp} : ∀ {is : List Nat} {ds : List PyData} {vs : List V} {σ : L2.St} {δ : DEnv}, TrAll S vs ds → ds.length = is.length → REnv K S σ δ → (∀ σ', REnv K S σ' (setAll is ds δ) → (∀ ws : List Nat, (∀ i ∈ is, i ∈ ws) → wipe σ' ws = wipe σ ws) → Q σ' H) → gNames is vs σ H Q
  | [], _, _, σ, δ, t, hl, re, k => by
    cases t with
    | nil => exact ⟨rfl, k σ re fun _ _ => rfl⟩
    | cons h t => cases hl
  | i :: is, _, _, σ, δ, t, hl, re, k => by
    cases t with
    | nil => cases hl
    | @cons v vs d ds h t =>
      refine ⟨_, _, rfl, ?_⟩
      show gNames is vs (σ.set i (some v)) H Q
      refine gNames_run t (Nat.succ.inj hl) (re.set (d := .py d) h) fun σ' r' hw => k σ' r' fun ws hs => ?_
      rw [hw ws fun j hj => hs j (List.mem_cons_of_mem _ hj)]
      exact wipe_set (hs i List.mem_cons_self)
where
  wipe_set {σ : L2.St} {i : Nat} {v : Option V} : ∀ {ws : List Nat}, i ∈ ws → wipe (σ.set i v) ws = wipe σ ws := by
    intro ws
    induction ws with
    | nil => intro h; cases h
    | cons w ws ih =>
      intro h
      unfold wipe
      by_cases hw : i ∈ ws
      · rw [ih hw]
      · have e : i = w := by
          rcases List.mem_cons.mp h with e | e
          · exact e
          · exact absurd e hw
        subst e
        have : ∀ us : List Nat, i ∉ us → wipe (σ.set i v) us = (wipe σ us).set i v := by
          intro us
          induction us with
          | nil => intro _; rfl
          | cons u us ih2 =>
            intro h2
            unfold wipe
            rw [ih2 fun z => h2 (List.mem_cons_of_mem _ z)]
            rw [List.set_comm _ _ (fun z => h2 (by rw [z]; exact List.mem_cons_self))]
        rw [this ws hw, List.set_set]
theorem wipe_set' {σ : L2.St} {i : Nat} {v : Option V} {ws : List Nat} (h : i ∈ ws) : wipe (σ.set i v) ws = wipe σ ws := gNames_run.wipe_set h
/-- the slots that a target writes -/
def Tgt.slots : Tgt → List Nat
  | .nm i => [i]
  | .tp is => is
theorem tgt_run {S H : Hp} {M : Mem} {Q : L2.St → Hp → Prop} {v : V} {d : Dat} {σ : L2.St} {δ δ' : DEnv} (Kx : PySem.W.Frag) (sp : Split K T S M H) (r : Rp K S v d) (re : REnv K S σ δ) : ∀ {t : Tgt}, bindD t d δ = some δ' → (∀ σ', REnv K S σ' δ' → (∀ ws : List Nat, (∀ i ∈ t.slots, i ∈ ws) → wipe σ' ws = wipe σ ws) → Q σ' H) → gTgt Kx t v σ H Q
  | .nm i, h, k => by
    cases h
    exact k _ (re.set r) fun ws hs => wipe_set' (hs i (by simp [Tgt.slots]))
  | .tp is, h, k => by
    cases d with
    | py d =>
      cases d with
      | tuple ds =>
        have h : (if ds.length = is.length then some (setAll is ds δ) else none) = some δ' := h
        by_cases hl : ds.length = is.length
        · rw [if_pos hl] at h
          cases h
          obtain ⟨a, vs, rfl, _, ha, t⟩ := tup_at sp r
          exact ⟨a, vs, rfl, SqT.of ha, by rw [t.length]; exact hl, gNames_run t hl re fun σ' r' hw => k σ' r' hw⟩
        · rw [if_neg hl] at h
          cases h
      | _ => cases h
    | _ => cases h
/-- target = e -/
def wAsg (g : WE) (t : Tgt) : WS := fun E δ M => g δ M fun d M1 => ∃ δ', bindD t d δ = some δ' ∧ E.nx δ' M1
theorem weak_asg {g : WE} {t : Tgt} {Kx : PySem.W.Frag} {D : Ends} {σ : L2.St} {H : Hp} (h : tDS K T (wAsg g t) D σ H) : tAsg (tD K T g) (gTgt Kx t) D σ H := by
  obtain ⟨S, M, δ, E, sp, re, g, k⟩ := tDS_of h
  refine ⟨S, M, δ, _, sp, re, g, fun d M' v S' H' ⟨δ', hb, p⟩ sp' po' r' => ?_⟩
  exact tgt_run Kx sp' r' (re.mono po'.st) hb fun σ' r2 _ => k.nx _ _ _ _ _ p sp' po' r2
theorem ds_set {i : Nat} {x : Str} {e : Expr} {pos' : Pos} (hN : X.N.Nodup) (hi : X.N[i]? = some x) (hx : Loc X.env.scope x) (he : PE X e (tD K T ga)) (hs : swapsWith e (some (.Name x pos')) pos.line X.env = pure false := by rfl) (hf : X.fn x = true ∨ X.env.scope.names.lookup x = some .local := by first | exact .inl rfl | exact .inr rfl | assumption) :
    PS X (.Assign [.Name x pos'] e pos) (tDS K T (wAsg ga (.nm i))) := PS_weak (ps_set hN hi hx he hs hf) fun D σ H h => weak_asg (Kx := K) h
/-- for statements of any form whose reading is an assignment to a name -/
theorem ds_set' {i : Nat} (h : PS X st (tAsg (tD K T ga) (gName i))) : PS X st (tDS K T (wAsg ga (.nm i))) := PS_weak h fun D σ H h => weak_asg (Kx := K) h
theorem ds_asg {tg e : Expr} {t : Tgt} {Kx : PySem.W.Frag} (he : PE X e (tD K T ga)) (hg : PG X tg (gTgt Kx t)) (hs : swapsWithSole [tg] e pos.line X.env = pure false := by rfl) (hw : swappedStores [tg] e X.env = pure none := by rfl)
    (h1 : (assignEach [tg] X.env).map (·.2) = [assign tg X.env] := by rfl) : PS X (.Assign [tg] e pos) (tDS K T (wAsg ga t)) := PS_weak (ps_asg he hg hs hw h1) fun D σ H h => weak_asg h
/-- name -= e -/
def wAugS (i : Nat) (g : WE) (f : Int → Int → Int) : WS := fun E δ M => ∃ x, δ[i]? = some (some (.py (.int x))) ∧ g δ M fun d M1 => ∃ y, d = .py (.int y) ∧ E.nx (δ.set i (some (.py (.int (f x y))))) M1
theorem ds_aug {i : Nat} {x : Str} {e : Expr} {op : Operator} {f : Int → Int → Int} {pos' : Pos} (hN : X.N.Nodup) (hi : X.N[i]? = some x) (hx : Loc X.env.scope x) (he : PE X e (tD K T ga)) (ho : PIp X op (ipI f)) (hf : X.fn x = true ∨ X.env.scope.names.lookup x = some .local := by first | exact .inl rfl | exact .inr rfl | assumption) :
    PS X (.AugAssign (.Name x pos') op e pos) (tDS K T (wAugS i ga f)) := PS_weak (ps_aug hN hi hx he ho hf) fun D σ H h => by
  obtain ⟨S, M, δ, E, sp, re, ⟨z, hz, g⟩, k⟩ := tDS_of h
  obtain ⟨v, h1, h2⟩ := re.2 i _ hz
  cases (show Tr S v (.int z) from h2)
  refine ⟨.int z, h1, S, M, δ, _, sp, re, g, fun d M' v S' H' ⟨y, hd, p⟩ sp' po' r' => ?_⟩
  subst hd
  cases (show Tr S' v (.int y) from r')
  exact ⟨z, y, rfl, rfl, k.nx _ _ _ _ _ p sp' po' ((re.mono po'.st).set (d := .py (.int _)) (.int _))⟩
/-- xs[i] = e, xs may change -/
def wSetI (ge go gi : WE) : WS := fun E δ M => ge δ M fun d M1 => go δ M1 fun o M2 => gi δ M2 fun i M3 => ∃ a ds k j, o = .own a ∧ i = .py (.int k) ∧ M3 a = some (.lst ds) ∧ ixN ds.length k = some j ∧ E.nx δ (putM M3 a (.lst (ds.set j d)))
theorem ds_setI {o i e : Expr} {ge go gi : WE} {p2 : Pos} (he : PE X e (tD K T ge)) (ho : PE X o (tD K T go)) (hi : PE X i (tD K T gi))
    (ha : ∀ v, assign (.Subscript o i p2) X.env v = (do
      let ov ← holding [v] (eval o X.env)
      let iv ← holding [v, ov] (eval i X.env)
      standAt p2
      holding [v, ov, iv] (setItem ov iv v)
      release [v, ov, iv] []) := by intro _; rfl)
    (hs : swapsWithSole [.Subscript o i p2] e pos.line X.env = pure false := by rfl) (hw : swappedStores [.Subscript o i p2] e X.env = pure none := by rfl)
    (h1 : (assignEach [.Subscript o i p2] X.env).map (·.2) = [assign (.Subscript o i p2) X.env] := by rfl) : PS X (.Assign [.Subscript o i p2] e pos) (tDS K T (wSetI ge go gi)) :=
  PS_weak (ps_asg he (pg_sub ho hi set_list ha) hs hw h1) fun D σ H h => by
  obtain ⟨S, M, δ, E, sp, re, g, k⟩ := tDS_of h
  refine ⟨S, M, δ, _, sp, re, g, fun d M1 v S1 H1 g1 sp1 po1 r1 => ⟨S1, M1, δ, _, sp1, re.mono po1.st, g1, fun ob M2 u S2 H2 g2 sp2 po2 r2 => ?_⟩⟩
  have po12 := po1.trans sp1 po2
  refine ⟨S2, M2, δ, _, sp2, re.mono po12.st, g2, fun ib M3 w S3 H3 ⟨a, ds, kk, j, h3, h4, h5, h6, p⟩ sp3 po3 r3 => ?_⟩
  subst h3 h4
  cases (show Tr S3 w (.int kk) from r3)
  obtain ⟨rfl, vs, ha', rr⟩ := own_at sp3 (r2.mono po3.st) h5
  have po123 := po12.trans sp2 po3
  refine ⟨a, vs, kk, j, rfl, rfl, ha', by rw [rr.length]; exact h6, k.nx _ _ _ _ _ p (sp3.setM h5 (.lst (RpAll.set ((r1.mono po2.st).mono po3.st) j rr))) (po123.trans sp3 (Post.setM h5)) (re.mono po123.st)⟩

/-! ### what a loop walks -/
/-- the items, while G of what may change -/
structure DWalk (K : PySem.W.Frag) (T : List (Addr × Str)) (J : It) (S0 : Hp) (G : Mem → Prop) (its : List Dat) : Prop where
  go : ∀ i S M H, Same S0 S → Split K T S M H → G M → i < its.length → J.go i H
  stop : ∀ S M H, Same S0 S → Split K T S M H → G M → J.stop its.length H
  yld : ∀ i S M H x H', Same S0 S → Split K T S M H → G M → J.yld i H x H' → ∀ d, its[i]? = some d → ∃ S', Split K T S' M H' ∧ Post S M H S' M H' ∧ Rp K S' x d
abbrev WI := DEnv → Mem → (List Dat → (Mem → Prop) → Mem → Prop) → Prop
def tDI (K : PySem.W.Frag) (T : List (Addr × Str)) (gi : WI) : TI := fun σ H R => ∃ S M δ P, Split K T S M H ∧ REnv K S σ δ ∧ gi δ M P ∧
  ∀ its G M' J S' H', P its G M' → Split K T S' M' H' → Post S M H S' M' H' → DWalk K T J S' G its → R J H'
theorem PI_weak {tg it : Expr} {t t' : TI} (h : PI X tg it t) (w : ∀ σ H R, t' σ H R → t σ H R) : PI X tg it t' := ⟨fun pins s σ H R I q => h.run pins s σ H R I (w σ H R q)⟩
theorem DWalk.seq {J : It} {S0 : Hp} {its : List Dat} {G : Mem → Prop} {xs : List V} {Rd : Hp → Prop} (hl : xs.length = its.length) (hx : ∀ (i : Nat) (d : Dat), its[i]? = some d → ∃ v, xs[i]? = some v ∧ Rp K S0 v d) (w : Walk J xs.length Rd (YAt xs)) (rd : ∀ S M H, Same S0 S → Split K T S M H → G M → Rd H) : DWalk K T J S0 G its :=
  ⟨fun i S M H e sp g hi => w.goes i H (by rw [hl]; exact hi) (rd S M H e sp g), fun S M H e sp g => by rw [← hl]; exact w.stops H (rd S M H e sp g), fun i S M H x H' e sp g y d hd => by
    have hi : i < its.length := (List.getElem?_eq_some_iff.mp hd).1
    obtain ⟨e1, e2⟩ := w.yields i H x H' (by rw [hl]; exact hi) (rd S M H e sp g) y
    subst e1
    obtain ⟨v, h1, h2⟩ := hx i d hd
    rw [e2] at h1
    cases h1
    exact ⟨S, sp, Post.refl, h2.mono e⟩⟩
/-- a list -/
def wIL (g : WE) : WI := fun δ M P => g δ M fun d M1 => (∃ ds, d = .py (.list ds) ∧ P (ds.map .py) (fun _ => True) M1) ∨ ∃ a ds, d = .own a ∧ M1 a = some (.lst ds) ∧ P ds (fun M => M a = some (.lst ds)) M1
theorem di_list {tg l : Expr} (h : PE X l (tD X.K T ga)) : PI X tg l (tDI X.K T (wIL ga)) := PI_weak (pi_list h) fun σ H R ⟨S, M, δ, P, sp, re, g, k⟩ => ⟨S, M, δ, _, sp, re, g, fun d M' v S' H' q sp' po' r' => by
  rcases q with ⟨ds, hd, p⟩ | ⟨a, ds, hd, hm, p⟩
  · subst hd
    cases (show Tr S' v (.list ds) from r') with
    | @lst a xs _ h t =>
      refine ⟨a, rfl, ⟨xs, SqL.of (sp'.ex _ _ h)⟩, k _ _ _ _ _ _ p sp' po' (DWalk.seq (xs := xs) (by rw [List.length_map]; exact t.length) (fun i d hd => (RpAll.of t).get hd) walk_list fun S M H e sp _ => SqL.of (sp.ex _ _ (e _ _ h)))⟩
  · subst hd
    obtain ⟨rfl, vs, ha, rr⟩ := own_at sp' r' hm
    refine ⟨a, rfl, ⟨vs, SqL.of ha⟩, k _ _ _ _ _ _ p sp' po' ⟨fun i S M H e sp g hi => ?_, fun S M H e sp g => ?_, fun i S M H x Hx e sp g y d hd => ?_⟩⟩
    · obtain ⟨_, us, hu, ru⟩ := own_at sp (K := X.K) (v := .ref a) rfl g
      have : i < us.length := by rw [ru.length]; exact hi
      exact ⟨us, us[i], SqL.of hu, by simp [this]⟩
    · obtain ⟨_, us, hu, ru⟩ := own_at sp (K := X.K) (v := .ref a) rfl g
      exact ⟨us, SqL.of hu, by rw [ru.length]; exact Nat.le_refl _⟩
    · obtain ⟨_, us, hu, ru⟩ := own_at sp (K := X.K) (v := .ref a) rfl g
      obtain ⟨e1, e2⟩ := y
      subst e1
      obtain ⟨w, h1, h2⟩ := ru.get hd
      have e3 := e2 us (SqL.of hu)
      rw [h1] at e3
      cases e3
      exact ⟨S, sp, Post.refl, h2⟩⟩
/-- a tuple -/
def wIT (g : WE) : WI := fun δ M P => g δ M fun d M1 => ∃ ds, d = .py (.tuple ds) ∧ P (ds.map .py) (fun _ => True) M1
theorem di_tup {tg l : Expr} (h : PE X l (tD X.K T ga)) : PI X tg l (tDI X.K T (wIT ga)) := PI_weak (pi_tup h) fun σ H R ⟨S, M, δ, P, sp, re, g, k⟩ => ⟨S, M, δ, _, sp, re, g, fun d M' v S' H' ⟨ds, hd, p⟩ sp' po' r' => by
  subst hd
  obtain ⟨a, vs, rfl, hs, ha, t⟩ := tup_at sp' r'
  exact ⟨a, rfl, ⟨vs, SqT.of ha⟩, k _ _ _ _ _ _ p sp' po' (DWalk.seq (xs := vs) (by rw [List.length_map]; exact t.length) (fun i d hd => (RpAll.of t).get hd) walk_tup fun S M H e sp _ => SqT.of (sp.ex _ _ (e _ _ hs)))⟩⟩
/-- range(a, b), range(b) -/
def wIR2 (r : WA) : WI := fun δ M P => r δ M fun ds M1 => ∃ i j : Int, ds = [.py (.int i), .py (.int j)] ∧ (-(2 ^ 62) ≤ i ∧ i < 2 ^ 62 ∧ -(2 ^ 62) ≤ j ∧ j < 2 ^ 62) ∧ P ((rgI i j).map fun n => .py (.int n)) (fun _ => True) M1
def wIR1 (r : WA) : WI := fun δ M P => r δ M fun ds M1 => ∃ j : Int, ds = [.py (.int j)] ∧ -(2 ^ 62) ≤ j ∧ j < 2 ^ 62 ∧ P ((rgI 0 j).map fun n => .py (.int n)) (fun _ => True) M1
theorem rgI_get {i j : Int} {m : Nat} {d : Dat} (h : ((rgI i j).map fun n => Dat.py (.int n))[m]? = some d) : d = .py (.int (i + (m : Nat))) := by
  rw [List.getElem?_map] at h
  unfold rgI at h
  rw [List.getElem?_map] at h
  by_cases hm : m < (j - i).toNat
  · rw [List.getElem?_range hm] at h
    cases h
    rfl
  · rw [List.getElem?_eq_none (by simpa using hm)] at h
    cases h
theorem rgI_len (i j : Int) : (rgI i j).length = (j - i).toNat := by unfold rgI; rw [List.length_map, List.length_range]
theorem dwalk_range {i j : Int} {S0 : Hp} : DWalk K T (Itr i (j - i).toNat) S0 (fun _ => True) ((rgI i j).map fun n => .py (.int n)) := by
  have hl : ((rgI i j).map fun n => Dat.py (.int n)).length = (j - i).toNat := by rw [List.length_map, rgI_len]
  refine ⟨fun m S M H e sp g hi => by rw [hl] at hi; exact hi, fun S M H e sp g => by rw [hl]; exact Nat.le_refl _, fun m S M H x H' e sp g y d hd => ?_⟩
  obtain ⟨e1, e2⟩ := y
  subst e1 e2
  rw [rgI_get hd]
  exact ⟨S, sp, Post.refl, .int _⟩
theorem di_range2 {tg : Expr} {r : WA} {p : Pos} (hg : Gl X "range") (hm : X.mg "range" = none) (ha : PA X [a, b] (tDA K T r)) (hs : starEach [a, b] X.env = [(false, eval a X.env), (false, eval b X.env)] := by rfl) (hs2 : starEach [b] X.env = [(false, eval b X.env)] := by rfl) : PI X tg (.Call (.Name "range" p) [a, b] [] pos) (tDI K T (wIR2 r)) :=
  PI_weak (pi_range2 hg hm ha hs hs2) fun σ H R ⟨S, M, δ, P, sp, re, g, k⟩ => ⟨S, M, δ, _, sp, re, g, fun ds M' vs S' H' ⟨i, j, hd, hb, p⟩ sp' po' r' => by
    subst hd
    rw [ints2 r']
    exact ⟨i, j, rfl, hb, k _ _ _ _ _ _ p sp' po' dwalk_range⟩⟩
theorem di_range1 {tg : Expr} {r : WA} {p : Pos} (hg : Gl X "range") (hm : X.mg "range" = none) (ha : PA X [a] (tDA K T r)) (hs : starEach [a] X.env = [(false, eval a X.env)] := by rfl) : PI X tg (.Call (.Name "range" p) [a] [] pos) (tDI K T (wIR1 r)) :=
  PI_weak (pi_range1 hg hm ha hs) fun σ H R ⟨S, M, δ, P, sp, re, g, k⟩ => ⟨S, M, δ, _, sp, re, g, fun ds M' vs S' H' ⟨j, hd, h1, h2, p⟩ sp' po' r' => by
    subst hd
    obtain ⟨v, rfl, rv⟩ := rpall1 r'
    cases (show Tr S' v (.int j) from rv)
    refine ⟨j, rfl, h1, h2, k _ _ _ _ _ _ p sp' po' ?_⟩
    have := dwalk_range (K := K) (T := T) (i := 0) (j := j) (S0 := S')
    rw [Int.sub_zero] at this
    exact this⟩
/-- zip(xs, ys) -/
def zipP : List PyData → List PyData → List PyData
  | x :: xs, y :: ys => .tuple [x, y] :: zipP xs ys
  | _, _ => []
def wIZ (r : WA) : WI := fun δ M P => r δ M fun ds M1 => ∃ xs ys, ds = [.py (.list xs), .py (.list ys)] ∧ P ((zipP xs ys).map .py) (fun _ => True) M1
theorem zipP_get : ∀ {xs ys : List PyData} {i : Nat} {d : PyData}, (zipP xs ys)[i]? = some d → ∃ x y, xs[i]? = some x ∧ ys[i]? = some y ∧ d = .tuple [x, y]
  | x :: xs, y :: ys, 0, d, h => by
    have h : some (PyData.tuple [x, y]) = some d := h
    cases h
    exact ⟨x, y, rfl, rfl, rfl⟩
  | x :: xs, y :: ys, i + 1, d, h => by
    have h : (zipP xs ys)[i]? = some d := h
    obtain ⟨a, b, h1, h2, h3⟩ := zipP_get h
    exact ⟨a, b, by simpa using h1, by simpa using h2, h3⟩
  | [], _, _, _, h => by simp [zipP] at h
  | _ :: _, [], _, _, h => by simp [zipP] at h
theorem zipP_len : ∀ xs ys : List PyData, (zipP xs ys).length = min xs.length ys.length
  | x :: xs, y :: ys => by
    show (zipP xs ys).length + 1 = min (xs.length + 1) (ys.length + 1)
    rw [zipP_len xs ys]
    omega
  | [], _ => by simp [zipP]
  | _ :: _, [] => by simp [zipP]
theorem dwalk_pair {J : It} {S0 : Hp} {its : List PyData} {n : Nat} {Rd : Hp → Prop} {fx fy : Nat → Option V} (hl : its.length = n) (w : Walk J n Rd (YPair fx fy)) (rd : ∀ S M H, Same S0 S → Split K T S M H → Rd H)
    (hx : ∀ i d x y, its[i]? = some d → fx i = some x → fy i = some y → ∃ u v, d = .tuple [u, v] ∧ Tr S0 x u ∧ Tr S0 y v) : DWalk K T J S0 (fun _ => True) (its.map .py) :=
  ⟨fun i S M H e sp g hi => w.goes i H (by rw [← hl]; simpa using hi) (rd S M H e sp), fun S M H e sp g => by rw [List.length_map, hl]; exact w.stops H (rd S M H e sp), fun i S M H x H' e sp g y d hd => by
    have hi : i < its.length := by simpa using (List.getElem?_eq_some_iff.mp hd).1
    obtain ⟨Tt, x1, y1, rfl, hT, rfl, h1, h2⟩ := w.yields i H x H' (by rw [← hl]; exact hi) (rd S M H e sp) y
    rw [List.getElem?_map] at hd
    obtain ⟨q, hq, hqd⟩ := Option.map_eq_some_iff.mp hd
    subst hqd
    obtain ⟨u, v, rfl, t1, t2⟩ := hx i q x1 y1 hq h1 h2
    exact ⟨upd S Tt (.tup [x1, y1]), sp.newS hT, Post.newS sp hT, .tup upd_same (.cons ((t1.mono e).mono (same_new (sp.free hT).1)) (.cons ((t2.mono e).mono (same_new (sp.free hT).1)) .nil))⟩⟩
theorem di_zip {elts : List Expr} {kk : Nat} {tpos p : Pos} {r : WA} (hg : Gl X "zip") (hm : X.mg "zip" = none) (ha : PA X [a, b] (tDA X.K T r)) (hs : starEach [a, b] X.env = (false, eval a X.env) :: starEach [b] X.env := by rfl) (hpl : (backTo pos (starEach [b] X.env)).any (·.1) = false := by rfl) :
    PI X (.Tuple elts kk tpos) (.Call (.Name "zip" p) [a, b] [] pos) (tDI X.K T (wIZ r)) := PI_weak (pi_zip hg hm ha hs hpl) fun σ H R ⟨S, M, δ, P, sp, re, g, k⟩ => ⟨S, M, δ, _, sp, re, g, fun ds M' vs S' H' ⟨xs, ys, hd, p⟩ sp' po' r' => by
    subst hd
    obtain ⟨v, u, rfl, r1, r2⟩ := rpall2 r'
    cases (show Tr S' v (.list xs) from r1) with
    | @lst a1 v1 _ h1 t1 =>
      cases (show Tr S' u (.list ys) from r2) with
      | @lst a2 v2 _ h2 t2 =>
        refine ⟨a1, a2, v1, v2, rfl, SqL.of (sp'.ex _ _ h1), SqL.of (sp'.ex _ _ h2), k _ _ _ _ _ _ p sp' po' (dwalk_pair (n := min v1.length v2.length) (by rw [zipP_len, t1.length, t2.length]) (walk_zip rfl) (fun S M H e sp => ⟨SqL.of (sp.ex _ _ (e _ _ h1)), SqL.of (sp.ex _ _ (e _ _ h2))⟩) fun i d x y hd hx hy => ?_)⟩
        obtain ⟨u, w, g1, g2, rfl⟩ := zipP_get hd
        obtain ⟨x', e1, q1⟩ := t1.get g1
        obtain ⟨y', e2, q2⟩ := t2.get g2
        rw [e1] at hx
        rw [e2] at hy
        cases hx
        cases hy
        exact ⟨u, w, rfl, q1, q2⟩⟩
/-- enumerate(xs) -/
def enumP (n : Nat) : List PyData → List PyData
  | [] => []
  | x :: xs => .tuple [.int (n : Nat), x] :: enumP (n + 1) xs
theorem enumP_get : ∀ {xs : List PyData} {n i : Nat} {d : PyData}, (enumP n xs)[i]? = some d → ∃ x, xs[i]? = some x ∧ d = .tuple [.int ((n + i : Nat)), x]
  | [], n, i, d, h => by simp [enumP] at h
  | x :: xs, n, 0, d, h => by
    have h : some (PyData.tuple [.int (n : Nat), x]) = some d := h
    cases h
    exact ⟨x, rfl, rfl⟩
  | x :: xs, n, i + 1, d, h => by
    have h : (enumP (n + 1) xs)[i]? = some d := h
    obtain ⟨y, h1, h2⟩ := enumP_get h
    exact ⟨y, by simpa using h1, by rw [h2, show n + 1 + i = n + (i + 1) by omega]⟩
theorem enumP_len : ∀ (xs : List PyData) (n : Nat), (enumP n xs).length = xs.length
  | [], _ => rfl
  | _ :: xs, n => congrArg (· + 1) (enumP_len xs (n + 1))
def wIE (r : WA) : WI := fun δ M P => r δ M fun ds M1 => ∃ xs, ds = [.py (.list xs)] ∧ P ((enumP 0 xs).map .py) (fun _ => True) M1
theorem di_enum {e : Expr} {elts : List Expr} {kk : Nat} {tpos p : Pos} {r : WA} (hg : Gl X "enumerate") (hm : X.mg "enumerate" = none) (ha : PA X [e] (tDA X.K T r)) (hs : starEach [e] X.env = [(false, eval e X.env)] := by rfl) :
    PI X (.Tuple elts kk tpos) (.Call (.Name "enumerate" p) [e] [] pos) (tDI X.K T (wIE r)) := PI_weak (pi_enum hg hm ha hs) fun σ H R ⟨S, M, δ, P, sp, re, g, k⟩ => ⟨S, M, δ, _, sp, re, g, fun ds M' vs S' H' ⟨xs, hd, p⟩ sp' po' r' => by
    subst hd
    obtain ⟨v, rfl, r1⟩ := rpall1 r'
    cases (show Tr S' v (.list xs) from r1) with
    | @lst a1 v1 _ h1 t1 =>
      refine ⟨a1, v1, rfl, SqL.of (sp'.ex _ _ h1), k _ _ _ _ _ _ p sp' po' (dwalk_pair (n := v1.length) (by rw [enumP_len, t1.length]) walk_enum (fun S M H e sp => SqL.of (sp.ex _ _ (e _ _ h1))) fun i d x y hd hx hy => ?_)⟩
      obtain ⟨w, g1, rfl⟩ := enumP_get hd
      obtain ⟨y', e2, q2⟩ := t1.get g1
      rw [e2] at hy
      cases hx
      cases hy
      exact ⟨_, _, rfl, by rw [Nat.zero_add]; exact .int _, q2⟩⟩

/-! ### for -/
/-- Iv by the turn: what is not needed any more may be left out at a turn's end -/
def less (Iv : DEnv → Mem → Prop) : DEnv → Mem → Prop := fun δ M => ∃ M', MLe M' M ∧ Iv δ M'
def wFor (gi : WI) (t : Tgt) (Gb : WS) : WS := fun E δ M => gi δ M fun its G M1 => ∃ Iv : Nat → DEnv → Mem → Prop, Iv 0 δ M1 ∧ (∀ i δ M, Iv i δ M → G M) ∧ (∀ δ M, Iv its.length δ M → E.nx δ M) ∧
  ∀ i d δ M, its[i]? = some d → Iv i δ M → ∃ δ', bindD t d δ = some δ' ∧ Gb { nx := less (Iv (i + 1)), rt := E.rt, bk := E.nx, ct := less (Iv (i + 1)) } δ' M
theorem ds_for {tg iter : Expr} {body : List Stmt} {gi : WI} {t : Tgt} {Gb : WS} {Kx : PySem.W.Frag} (hp : PassesOwn (model X.prog X.w) X.A X.env X.xe) (hc : X.calm = true) (hi : PI X tg iter (tDI K T gi)) (hg : PG X tg (gTgt Kx t)) (hb : PSs X body (tDS K T Gb))
    (hs : ∀ x, foldedSetIterable iter X.env x = pure x := by intro _; rfl) : PS X (.For tg iter body [] pos) (tDS K T (wFor gi t Gb)) := PS_weak (ps_for hp hc hi hg hb hs) fun D σ H h => by
  obtain ⟨S, M, δ, E, sp, re, g, k⟩ := tDS_of h
  refine ⟨S, M, δ, _, sp, re, g, fun its G M1 J S1 H1 ⟨Iv, i0, iG, iN, iT⟩ sp1 po1 w => ?_⟩
  refine ⟨fun i m σ' H' => ∃ S' M' δ', Split K T S' M' H' ∧ REnv K S' σ' δ' ∧ Post S M H S' M' H' ∧ Same S1 S' ∧ Iv i δ' M' ∧ m = its.length - i ∧ i ≤ its.length, ⟨_, S1, M1, δ, sp1, re.mono po1.st, po1, Same.refl _, i0, rfl, Nat.zero_le _⟩, ?_⟩
  rintro i m σ' H' ⟨S', M', δ', sp', re', po', sm, iv, rfl, hi⟩
  by_cases hlt : i < its.length
  · refine .inr ⟨w.go i S' M' H' sm sp' (iG _ _ _ iv) hlt, fun σ2 H2 => ∃ S2 M2 δ2, Split K T S2 M2 H2 ∧ REnv K S2 σ2 δ2 ∧ Post S M H S2 M2 H2 ∧ Same S1 S2 ∧ Iv (i + 1) δ2 M2, fun σ2 H2 ⟨S2, M2, δ2, a1, a2, a3, a4, a5⟩ => ⟨its.length - (i + 1), by omega, S2, M2, δ2, a1, a2, a3, a4, a5, rfl, hlt⟩, fun x Hx y => ?_⟩
    have hd : its[i]? = some its[i] := by simp [hlt]
    obtain ⟨S2, sp2, po2, r2⟩ := w.yld i S' M' H' x Hx sm sp' (iG _ _ _ iv) y _ hd
    obtain ⟨δ2, hb2, g2⟩ := iT i _ δ' M' hd iv
    have po3 := po'.trans sp' po2
    refine tgt_run Kx sp2 r2 (re'.mono po2.st) hb2 fun σ3 re3 _ => ?_
    refine tDS_mk sp2 re3 g2 ⟨fun δ4 M4 σ4 S4 H4 ⟨M5, le5, iv5⟩ sp4 po4 re4 => ?_, fun d4 M4 v4 S4 H4 p4 sp4 po4 r4 => k.rt _ _ _ _ _ p4 sp4 (po3.trans sp2 po4) r4, fun δ4 M4 σ4 S4 H4 p4 sp4 po4 re4 => k.nx _ _ _ _ _ p4 sp4 (po3.trans sp2 po4) re4, fun δ4 M4 σ4 S4 H4 ⟨M5, le5, iv5⟩ sp4 po4 re4 => ?_⟩
    · exact ⟨S4, M5, δ4, sp4.le le5, re4, (po3.trans sp2 po4).trans sp4 (Post.le le5), (sm.trans po2.st).trans po4.st, iv5⟩
    · exact ⟨S4, M5, δ4, sp4.le le5, re4, (po3.trans sp2 po4).trans sp4 (Post.le le5), (sm.trans po2.st).trans po4.st, iv5⟩
  · have e : i = its.length := by omega
    subst e
    exact .inl ⟨w.stop S' M' H' sm sp' (iG _ _ _ iv), k.nx _ _ _ _ _ (iN _ _ iv) sp' po' re'⟩
/-- while -/
def wWhile (t : WT) (Gb : WS) : WS := fun E δ M => ∃ Iv : Nat → DEnv → Mem → Prop, (∃ m, Iv m δ M) ∧ ∀ m δ M, Iv m δ M → t δ M fun c M1 => if c = true then Gb { nx := less fun δ M => ∃ m', m' < m ∧ Iv m' δ M, rt := E.rt, bk := E.nx, ct := less fun δ M => ∃ m', m' < m ∧ Iv m' δ M } δ M1 else E.nx δ M1
theorem ds_while {body : List Stmt} {Gb : WS} (hp : PassesOwn (model X.prog X.w) X.A X.env X.xe) (hc : PT X a (tDT K T ta)) (hb : PSs X body (tDS K T Gb)) : PS X (.While a body [] pos) (tDS K T (wWhile ta Gb)) := PS_weak (ps_while hp hc hb) fun D σ H h => by
  obtain ⟨S, M, δ, E, sp, re, ⟨Iv, ⟨m0, i0⟩, iT⟩, k⟩ := tDS_of h
  refine ⟨fun m σ' H' => ∃ S' M' δ', Split K T S' M' H' ∧ REnv K S' σ' δ' ∧ Post S M H S' M' H' ∧ Iv m δ' M', ⟨m0, S, M, δ, sp, re, Post.refl, i0⟩, ?_⟩
  rintro m σ' H' ⟨S', M', δ', sp', re', po', iv⟩
  refine ⟨S', M', δ', _, sp', re', iT m δ' M' iv, fun c M1 S1 H1 g1 sp1 po1 => ?_⟩
  have po2 := po'.trans sp' po1
  cases c with
  | true =>
    replace g1 := ifT g1
    refine iteT ?_
    refine ⟨fun σ2 H2 => ∃ m', m' < m ∧ ∃ S2 M2 δ2, Split K T S2 M2 H2 ∧ REnv K S2 σ2 δ2 ∧ Post S M H S2 M2 H2 ∧ Iv m' δ2 M2, fun σ2 H2 h => h, ?_⟩
    refine tDS_mk sp1 (re'.mono po1.st) g1 ⟨fun δ4 M4 σ4 S4 H4 ⟨M5, le5, m5, hm5, iv5⟩ sp4 po4 re4 => ?_, fun d4 M4 v4 S4 H4 p4 sp4 po4 r4 => k.rt _ _ _ _ _ p4 sp4 (po2.trans sp1 po4) r4, fun δ4 M4 σ4 S4 H4 p4 sp4 po4 re4 => k.nx _ _ _ _ _ p4 sp4 (po2.trans sp1 po4) re4, fun δ4 M4 σ4 S4 H4 ⟨M5, le5, m5, hm5, iv5⟩ sp4 po4 re4 => ?_⟩
    · exact ⟨m5, hm5, S4, M5, δ4, sp4.le le5, re4, (po2.trans sp1 po4).trans sp4 (Post.le le5), iv5⟩
    · exact ⟨m5, hm5, S4, M5, δ4, sp4.le le5, re4, (po2.trans sp1 po4).trans sp4 (Post.le le5), iv5⟩
  | false =>
    replace g1 := ifF g1
    refine iteF ?_
    exact k.nx _ _ _ _ _ g1 sp1 po2 (re'.mono po1.st)
end
end DL
namespace DL
open PySem PySem.Spec PyProof.Rows L2
section
variable {K : PySem.W.Frag} {T : List (Addr × Str)} {S H S' H' S0 H0 : Hp} {M M' M0 : Mem} {p a D : Addr} {o h : HO} {mo : MO}
/-! ### an object of ours that is neither still nor told -/
theorem Split.hidden (sp : Split K T S M H) (hp : H p = none) : Split K T S M (upd H p o) :=
  ⟨sp.ex.trans (same_new hp), sp.dis, fun b u e => by
    obtain ⟨h, e1, e2⟩ := sp.rep b u e
    exact ⟨h, same_new hp b h e1, e2⟩, sp.tab.ext fun b u e => same_new hp b u e, sp.tbS, sp.noT⟩
theorem Post.hidden (hp : H p = none) : Post S M H S M (upd H p o) := ⟨Same.refl S, fun b u e _ _ => same_new hp b u e, fun b u e _ hm hs => ⟨hs, hm⟩⟩
theorem Split.hidmut (sp : Split K T S M H) (hD : H D = some h) (nt : ∀ ps, h ≠ .tbl ps) (ne : ∀ φ, h ≠ .ext φ) (hs : S D = none) (hm : M D = none) : Split K T S M (upd H D o) :=
  ⟨fun b u e => by rw [upd_ne (ne_of_none e hs)]; exact sp.ex b u e, sp.dis, fun b u e => by
    obtain ⟨h1, e1, e2⟩ := sp.rep b u e
    refine ⟨h1, ?_, e2⟩
    rw [upd_ne fun z => by rw [z, hm] at e; cases e]
    exact e1, tabs_mut sp.tab hD nt ne, sp.tbS, sp.noT⟩
/-- behind a start at which D was not there -/
theorem Post.mutNew (po : Post S0 M0 H0 S M H) (hD : H0 D = none) : Post S0 M0 H0 S M (upd H D o) :=
  ⟨po.st, fun b u e h1 h2 => by rw [upd_ne (ne_of_none e hD)]; exact po.frame b u e h1 h2, po.hid⟩
theorem Split.shown (sp : Split K T S M H) (hD : H D = some h) (nt : ∀ ps, h ≠ .tbl ps) (hs : S D = none) (hm : M D = none) : Split K T (upd S D h) M H := by
  refine ⟨fun b u e => ?_, fun b u e => ?_, fun b u e => ?_, sp.tab, fun q hq => ?_, noT_new sp.noT nt⟩
  · by_cases hb : b = D
    · rw [hb, upd_same] at e
      rw [hb]
      exact hD.trans e
    · rw [upd_ne hb] at e
      exact sp.ex b u e
  · rw [upd_ne fun z => by rw [z, hm] at e; cases e]
    exact sp.dis b u e
  · obtain ⟨h1, e1, e2⟩ := sp.rep b u e
    exact ⟨h1, e1, e2.mono (same_new hs)⟩
  · rw [upd_ne (sp.tabne hq hD nt)]
    exact sp.tbS q hq
theorem Post.shownNew (po : Post S0 M0 H0 S M H) (hs : S D = none) (hD : H0 D = none) : Post S0 M0 H0 (upd S D h) M H :=
  ⟨po.st.trans (same_new hs), po.frame, fun b u e h1 h2 h3 => by
    rw [upd_ne (ne_of_none e hD)]
    exact po.hid b u e h1 h2 h3⟩
theorem Split.told (sp : Split K T S M H) (hD : H D = some h) (hs : S D = none) (r : MRep K S h mo) : Split K T S (putM M D mo) H :=
  ⟨sp.ex, fun b u e => by
    by_cases hb : b = D
    · rw [hb]; exact hs
    · rw [putM_ne hb] at e
      exact sp.dis b u e, fun b u e => by
    by_cases hb : b = D
    · rw [hb, putM_same] at e
      cases e
      exact ⟨h, by rw [hb]; exact hD, r⟩
    · rw [putM_ne hb] at e
      exact sp.rep b u e, sp.tab, sp.tbS, sp.noT⟩
theorem Post.toldNew (po : Post S0 M0 H0 S M H) (hD : H0 D = none) : Post S0 M0 H0 S (putM M D mo) H :=
  ⟨po.st, po.frame, fun b u e h1 h2 h3 => by
    rw [putM_ne (ne_of_none e hD)]
    exact po.hid b u e h1 h2 h3⟩

/-! ### the block's own slots -/
theorem wipe_in {σ : L2.St} {i : Nat} : ∀ {vs : List Nat}, i ∈ vs → i < σ.length → (wipe σ vs)[i]? = some none
  | [], h, _ => by cases h
  | v :: vs, h, hl => by
    unfold wipe
    by_cases e : v = i
    · subst e
      rw [List.getElem?_set_self (by rw [wipe_length]; exact hl)]
    · rw [List.getElem?_set_ne e]
      rcases List.mem_cons.mp h with z | z
      · exact absurd z.symm e
      · exact wipe_in z hl
theorem wipe_wipe (σ : L2.St) (vs : List Nat) : wipe (wipe σ vs) vs = wipe σ vs := by
  refine List.ext_getElem? fun i => ?_
  by_cases h : i ∈ vs
  · by_cases hl : i < σ.length
    · rw [wipe_in h (by rw [wipe_length]; exact hl), wipe_in h hl]
    · rw [List.getElem?_eq_none (by rw [wipe_length, wipe_length]; omega), List.getElem?_eq_none (by rw [wipe_length]; omega)]
  · rw [wipe_out h]
end
section
variable {K : PySem.W.Frag} {T : List (Addr × Str)} {X : Cx} {ga gb gc : WE} {ta tb : WT} {a b c : Expr} {pos : Pos}
def wYes : WT := fun _ M P => P true M
theorem PTs_weak {es : List Expr} {t t' : TT} (h : PTs X es t) (w : ∀ σ H Q, t' σ H Q → t σ H Q) : PTs X es t' := ⟨fun pins s σ H Q I q => h.run pins s σ H Q I (w σ H Q q)⟩
theorem dts_nil : PTs X [] (tDT K T wYes) := PTs_weak pts_nil fun σ H Q ⟨S, M, δ, P, sp, re, g, k⟩ => k _ _ _ _ g sp Post.refl
theorem dts_one (h : PT X a (tDT K T ta)) : PTs X [a] (tDT K T ta) := pts_one h

/-- [elt for t in its if tt]: Iv by the turn, what is made so far, what may change -/
def wLcG (mu : Bool) (gi : WI) (t : Tgt) (vs : List Nat) (tt : WT) (te : WE) : WE := fun δ M P => gi δ M fun its G M1 => ∃ Iv : Nat → List PyData → Mem → Prop, Iv 0 [] M1 ∧ (∀ i acc M, Iv i acc M → G M) ∧
  (∀ acc M, Iv its.length acc M → if mu = true then ∀ D, M D = none → P (.own D) (putM M D (.lst (acc.map .py))) else P (.py (.list acc)) M) ∧
  ∀ i d acc M, its[i]? = some d → Iv i acc M → ∃ δ', bindD t d (wipeD δ vs) = some δ' ∧ tt δ' M fun b M2 => if b = true then te δ' M2 fun y M3 => ∃ z, y = .py z ∧ acc.length < sizeLine ∧ Iv (i + 1) (acc ++ [z]) M3 else Iv (i + 1) acc M2
abbrev wLc := wLcG false
abbrev wLcM := wLcG true
theorem weak_lc {mu : Bool} {gi : WI} {t : Tgt} {vs : List Nat} {tt : WT} {te : WE} {Kx : PySem.W.Frag} {σ : L2.St} {H : Hp} {Q : VK} (hv : ∀ i ∈ t.slots, i ∈ vs) (h : tD K T (wLcG mu gi t vs tt te) σ H Q) :
    tLc (tDI K T gi) (gTgt Kx t) (tDT K T tt) (tD K T te) vs σ H Q := by
  obtain ⟨S, M, δ, P, sp, re, g, k⟩ := h
  refine ⟨S, M, δ, _, sp, re, g, fun its G M1 J S1 H1 ⟨Iv, i0, iG, iN, iT⟩ sp1 po1 w D hD => ?_⟩
  have k1 := Kont.after k po1 sp1
  have re1 := re.mono po1.st
  obtain ⟨s1D, m1D⟩ := sp1.free hD
  refine ⟨fun i m H' => ∃ S' M' acc us, Split K T S' M' H' ∧ Post S1 M1 H1 S' M' H' ∧ S' D = none ∧ M' D = none ∧ H' D = some (.lst us) ∧ TrAll S' us acc ∧ Iv i acc M' ∧ m = its.length - i ∧ i ≤ its.length,
    ⟨_, S1, M1, [], [], sp1.hidden hD, Post.hidden hD, s1D, m1D, upd_same, .nil, i0, rfl, Nat.zero_le _⟩, ?_⟩
  rintro i m H' ⟨S', M', acc, us, sp', po', sD, mD, hHD, tr, iv, rfl, hi⟩
  by_cases hlt : i < its.length
  · refine .inr ⟨w.go i S' M' H' po'.st sp' (iG _ _ _ iv) hlt, fun H2 => ∃ S2 M2 acc2 us2, Split K T S2 M2 H2 ∧ Post S1 M1 H1 S2 M2 H2 ∧ S2 D = none ∧ M2 D = none ∧ H2 D = some (.lst us2) ∧ TrAll S2 us2 acc2 ∧ Iv (i + 1) acc2 M2,
      fun H2 ⟨S2, M2, acc2, us2, a1, a2, a3, a4, a5, a6, a7⟩ => ⟨its.length - (i + 1), by omega, S2, M2, acc2, us2, a1, a2, a3, a4, a5, a6, a7, rfl, hlt⟩, fun x Hx y => ?_⟩
    have hd : its[i]? = some its[i] := by simp [hlt]
    obtain ⟨S2, sp2, po2, r2⟩ := w.yld i S' M' H' x Hx po'.st sp' (iG _ _ _ iv) y _ hd
    have nl : ∀ (us : List V) ps, HO.lst us ≠ .tbl ps := fun us ps z => by cases z
    have nx : ∀ (us : List V) φ, HO.lst us ≠ .ext φ := fun us ps z => by cases z
    have hHD2 := po2.frame D _ hHD mD (nl us)
    obtain ⟨sD2, _⟩ := po2.hid D _ hHD (nl us) mD sD
    have po12 := po'.trans sp' po2
    obtain ⟨δ2, hb2, g2⟩ := iT i _ acc M' hd iv
    refine tgt_run Kx sp2 r2 ((re1.mono po12.st).wipe vs) hb2 fun σ3 re3 hw => ⟨by rw [hw vs hv, wipe_wipe], S2, M', δ2, _, sp2, re3, g2, fun c M3 S3 H3 g3 sp3 po3 => ?_⟩
    have hHD3 := po3.frame D _ hHD2 mD (nl us)
    obtain ⟨sD3, mD3⟩ := po3.hid D _ hHD2 (nl us) mD sD2
    have po13 := po12.trans sp2 po3
    cases c with
    | true =>
      replace g3 := ifT g3
      refine iteT ?_
      refine ⟨S3, M3, δ2, _, sp3, re3.mono po3.st, g3, fun d4 M4 v4 S4 H4 ⟨z, hz, hl, iv4⟩ sp4 po4 r4 => ?_⟩
      subst hz
      have hHD4 := po4.frame D _ hHD3 mD3 (nl us)
      obtain ⟨sD4, mD4⟩ := po4.hid D _ hHD3 (nl us) mD3 sD3
      have st4 := (po2.st.trans po3.st).trans po4.st
      refine ⟨us, hHD4, by rw [tr.length]; exact hl, S4, M4, acc ++ [z], us ++ [v4], sp4.hidmut hHD4 (nl us) (nx us) sD4 mD4, (po13.trans sp3 po4).mutNew hD, sD4, mD4, upd_same, (tr.mono st4).append (.cons r4 .nil), iv4⟩
    | false =>
      replace g3 := ifF g3
      refine iteF ?_
      exact ⟨S3, M3, acc, us, sp3, po13, sD3, mD3, hHD3, tr.mono (po2.st.trans po3.st), g3⟩
  · have e : i = its.length := by omega
    subst e
    refine .inl ⟨w.stop S' M' H' po'.st sp' (iG _ _ _ iv), ?_⟩
    have fin := iN acc M' iv
    cases mu with
    | true =>
      replace fin := ifT fin
      exact k1 _ _ _ _ _ (fin D mD) (sp'.told hHD sD (.lst (RpAll.of tr))) (po'.toldNew hD) rfl
    | false =>
      replace fin := ifF fin
      exact k1 _ _ _ _ _ fin (sp'.shown hHD (fun ps z => by cases z) sD mD) (po'.shownNew sD hD) (.lst upd_same (tr.mono (same_new sD)))
theorem d_lcG (mu : Bool) {elt tg iter : Expr} {ifs : List Expr} {scope : Scope} {own : List (Str × Nat)} {gi : WI} {t : Tgt} {tt : WT} {te : WE} {Kx : PySem.W.Frag} (hc : X.calm = true) (hN : X.N.Nodup) (hi : PI X tg iter (tDI K T gi)) (ok : BlkOk X.N X.env.scope scope own) (hv : ∀ i ∈ t.slots, i ∈ own.map (·.2))
    (hg : ∀ (s : Shared) (H : Hp) (C : Addr) (cl : List (Str × Addr)) (fp : List Addr), PG (X.blk s H scope (compEnvC scope cl C X.env) fp) tg (gTgt Kx t)) (ht : ∀ (s : Shared) (H : Hp) (C : Addr) (cl : List (Str × Addr)) (fp : List Addr), PTs (X.blk s H scope (compEnvC scope cl C X.env) fp) ifs (tDT K T tt))
    (he : ∀ (s : Shared) (H : Hp) (C : Addr) (cl : List (Str × Addr)) (fp : List Addr), PE (X.blk s H scope (compEnvC scope cl C X.env) fp) elt (tD K T te)) (hs : ∀ x, foldedSetIterable iter X.env x = pure x := by intro _; rfl) :
    PE X (.ListComp elt [⟨tg, iter, ifs, 0⟩] scope pos) (tD K T (wLcG mu gi t (own.map (·.2)) tt te)) := PE_weak (pe_lc hc hN hi ok hg ht he hs) fun _ _ _ h => weak_lc hv h
theorem ds_setLcG (mu : Bool) {i : Nat} {y : Str} {py : Pos} {elt tg iter : Expr} {ifs : List Expr} {scope : Scope} {own : List (Str × Nat)} {spos : Pos} {gi : WI} {t : Tgt} {tt : WT} {te : WE} {Kx : PySem.W.Frag} (hc : X.calm = true) (hN : X.N.Nodup) (hy : X.N[i]? = some y) (hyl : X.env.scope.names.lookup y = some .local)
    (hsw : swapsWith (.ListComp elt [⟨tg, iter, ifs, 0⟩] scope pos) (some (.Name y py)) spos.line X.env = pure true) (hi : PI X tg iter (tDI K T gi)) (ok : BlkOk X.N X.env.scope scope own) (hv : ∀ i ∈ t.slots, i ∈ own.map (·.2))
    (hg : ∀ (s : Shared) (H : Hp) (C : Addr) (cl : List (Str × Addr)) (fp : List Addr), PG (X.blk s H scope (compEnvC scope cl C X.env) fp) tg (gTgt Kx t)) (ht : ∀ (s : Shared) (H : Hp) (C : Addr) (cl : List (Str × Addr)) (fp : List Addr), PTs (X.blk s H scope (compEnvC scope cl C X.env) fp) ifs (tDT K T tt))
    (he : ∀ (s : Shared) (H : Hp) (C : Addr) (cl : List (Str × Addr)) (fp : List Addr), PE (X.blk s H scope (compEnvC scope cl C X.env) fp) elt (tD K T te)) (hs : ∀ x, foldedSetIterable iter X.env x = pure x := by intro _; rfl) :
    PS X (.Assign [.Name y py] (.ListComp elt [⟨tg, iter, ifs, 0⟩] scope pos) spos) (tDS K T (wAsg (wLcG mu gi t (own.map (·.2)) tt te) (.nm i))) :=
  PS_weak (ps_setLc hc hN hy hyl hsw hi ok hg ht he hs) fun D σ H h => weak_lc hv (weak_asg (Kx := K) h)
end

/-! ### what stands still at a def's end -/
section
variable {K : PySem.W.Frag} {T : List (Addr × Str)} {S H : Hp} {M : Mem}
def delMs (M : Mem) (bs : List Addr) : Mem := fun b => if b ∈ bs then none else M b
def showMs (S H : Hp) (bs : List Addr) : Hp := fun b => if b ∈ bs then H b else S b
theorem Split.stillL (sp : Split K T S M H) {bs : List Addr} (hb : ∀ b ∈ bs, ∃ mo, M b = some mo) : Split K T (showMs S H bs) (delMs M bs) H ∧ Post S M H (showMs S H bs) (delMs M bs) H ∧ Same S (showMs S H bs) := by
  have hS : Same S (showMs S H bs) := fun b u e => by
    unfold showMs
    split
    · exact sp.ex b u e
    · exact e
  have dm : ∀ b u, delMs M bs b = some u → b ∉ bs ∧ M b = some u := fun b u e => by
    unfold delMs at e
    split at e
    · cases e
    · rename_i h
      exact ⟨h, e⟩
  refine ⟨⟨fun b u e => ?_, fun b u e => ?_, fun b u e => ?_, sp.tab, fun q hq => ?_, fun b ps e => ?_⟩, ⟨hS, fun b u e _ _ => e, fun b u e nt h1 h2 => ?_⟩, hS⟩
  · unfold showMs at e
    split at e
    · exact e
    · exact sp.ex b u e
  · obtain ⟨h1, h2⟩ := dm b u e
    unfold showMs
    rw [if_neg h1]
    exact sp.dis b u h2
  · obtain ⟨h1, h2⟩ := dm b u e
    obtain ⟨h, e1, e2⟩ := sp.rep b u h2
    exact ⟨h, e1, e2.mono hS⟩
  · have nb : q.1 ∉ bs := fun z => by
      obtain ⟨mo, hm⟩ := hb _ z
      obtain ⟨h, ha, hr⟩ := sp.rep _ _ hm
      exact sp.tabne hq ha hr.notbl rfl
    unfold showMs
    rw [if_neg nb]
    exact sp.tbS q hq
  · unfold showMs at e
    split at e
    · rename_i hbs
      obtain ⟨mo, hm⟩ := hb _ hbs
      obtain ⟨h, ha, hr⟩ := sp.rep _ _ hm
      rw [ha] at e
      exact hr.notbl ps (Option.some.inj e)
    · exact sp.noT b ps e
  · have nb : b ∉ bs := fun z => by
      obtain ⟨mo, hm⟩ := hb _ z
      rw [h1] at hm
      cases hm
    unfold showMs delMs
    rw [if_neg nb, if_neg nb]
    exact ⟨h2, h1⟩
/-- d as it may be told from now on -/
inductive Frz : Dat → Mem → Dat → Mem → Prop
  | le {d : Dat} {M M' : Mem} : MLe M' M → Frz d M d M'
  | lst {a : Addr} {ds : List PyData} {M : Mem} : M a = some (.lst (ds.map .py)) → Frz (.own a) M (.py (.list ds)) (delMs M [a])
  | dK {a : Addr} {kvs : List (Key × PyData)} {M : Mem} : M a = some (.dK (kvs.map fun p => (p.1, .py p.2))) → Frz (.own a) M (.dK kvs) (delMs M [a])
  | dT {a : Addr} {kvs : List (List Key × PyData)} {M : Mem} : M a = some (.dT (kvs.map fun p => (p.1, .py p.2))) → Frz (.own a) M (.dT kvs) (delMs M [a])
  | dKL {a : Addr} {kvs : List (Key × Addr × List PyData)} {M : Mem} : M a = some (.dK (kvs.map fun p => (p.1, .own p.2.1))) → (∀ p ∈ kvs, M p.2.1 = some (.lst (p.2.2.map .py))) → Frz (.own a) M (.dK (kvs.map fun p => (p.1, .list p.2.2))) (delMs M (a :: kvs.map fun p => p.2.1))
  /-- the lists that a dict holds stand still -/
  | inn {a : Addr} {kvs : List (Key × Addr × List PyData)} {M : Mem} : M a = some (.dK (kvs.map fun p => (p.1, .own p.2.1))) → (∀ p ∈ kvs, M p.2.1 = some (.lst (p.2.2.map .py))) → Frz (.own a) M (.own a) (putM (delMs M (kvs.map fun p => p.2.1)) a (.dK (kvs.map fun p => (p.1, .py (.list p.2.2)))))
  | trans {d1 d2 d3 : Dat} {M1 M2 M3 : Mem} : Frz d1 M1 d2 M2 → Frz d2 M2 d3 M3 → Frz d1 M1 d3 M3
theorem rkv_py {κ : Type} : ∀ {kv : List (κ × V)} {kvs : List (κ × PyData)}, RKV K S kv (kvs.map fun p => (p.1, Dat.py p.2)) → KVs S kv kvs
  | _, [], h => by cases h; exact .nil
  | _, _ :: _, h => by
    cases h with
    | cons h t => exact .cons h (rkv_py t)
theorem rkv_own {κ : Type} {S' : Hp} : ∀ {kv : List (κ × V)} {kvs : List (κ × Addr × List PyData)}, RKV K S kv (kvs.map fun p => (p.1, Dat.own p.2.1)) → (∀ p ∈ kvs, Tr S' (.ref p.2.1) (.list p.2.2)) → KVs S' kv (kvs.map fun p => (p.1, PyData.list p.2.2))
  | _, [], h, _ => by cases h; exact .nil
  | (k, v) :: _, q :: _, h, g => by
    cases h with
    | cons h t =>
      refine .cons ⟨h.1, ?_⟩ (rkv_own t fun p hp => g p (List.mem_cons_of_mem _ hp))
      have e : v = .ref q.2.1 := h.2
      show Tr S' v (.list q.2.2)
      rw [e]
      exact g q List.mem_cons_self
theorem rkv_own2 {κ : Type} {S' : Hp} : ∀ {kv : List (κ × V)} {kvs : List (κ × Addr × List PyData)}, RKV K S kv (kvs.map fun p => (p.1, Dat.own p.2.1)) → (∀ p ∈ kvs, Tr S' (.ref p.2.1) (.list p.2.2)) → RKV K S' kv (kvs.map fun p => (p.1, Dat.py (.list p.2.2)))
  | _, [], h, _ => by cases h; exact .nil
  | (k, v) :: _, q :: _, h, g => by
    cases h with
    | cons h t =>
      refine .cons ⟨h.1, ?_⟩ (rkv_own2 t fun p hp => g p (List.mem_cons_of_mem _ hp))
      have e : v = .ref q.2.1 := h.2
      show Tr S' v (.list q.2.2)
      rw [e]
      exact g q List.mem_cons_self
theorem Frz.run {d d' : Dat} {M M' : Mem} (z : Frz d M d' M') : ∀ {S H : Hp} {v : V}, Split K T S M H → Rp K S v d → ∃ S', Split K T S' M' H ∧ Post S M H S' M' H ∧ Rp K S' v d' := by
  induction z with
  | le e => exact fun {S H v} sp r => ⟨S, sp.le e, Post.le e, r⟩
  | @lst a ds M hm =>
    intro S H v sp r
    obtain rfl : v = .ref a := r
    obtain ⟨h, ha, hr⟩ := sp.rep a _ hm
    obtain ⟨s1, s2, s3⟩ := sp.stillL (bs := [a]) fun b hb => by
      rw [List.mem_singleton.mp hb]
      exact ⟨_, hm⟩
    refine ⟨_, s1, s2, ?_⟩
    cases hr with
    | lst hr => exact .lst (by unfold showMs; rw [if_pos (by simp)]; exact ha) (hr.tr.mono s3)
  | @dK a kvs M hm =>
    intro S H v sp r
    obtain rfl : v = .ref a := r
    obtain ⟨h, ha, hr⟩ := sp.rep a _ hm
    obtain ⟨s1, s2, s3⟩ := sp.stillL (bs := [a]) fun b hb => by
      rw [List.mem_singleton.mp hb]
      exact ⟨_, hm⟩
    refine ⟨_, s1, s2, ?_⟩
    cases hr with
    | dK hr => exact ⟨a, _, rfl, by unfold showMs; rw [if_pos (by simp)]; exact ha, (rkv_py hr).mono s3⟩
  | @dT a kvs M hm =>
    intro S H v sp r
    obtain rfl : v = .ref a := r
    obtain ⟨h, ha, hr⟩ := sp.rep a _ hm
    obtain ⟨s1, s2, s3⟩ := sp.stillL (bs := [a]) fun b hb => by
      rw [List.mem_singleton.mp hb]
      exact ⟨_, hm⟩
    refine ⟨_, s1, s2, ?_⟩
    cases hr with
    | dT hr => exact ⟨a, _, rfl, by unfold showMs; rw [if_pos (by simp)]; exact ha, (rkv_py hr).mono s3⟩
  | @dKL a kvs M hm hl =>
    intro S H v sp r
    obtain rfl : v = .ref a := r
    obtain ⟨h, ha, hr⟩ := sp.rep a _ hm
    obtain ⟨s1, s2, s3⟩ := sp.stillL (bs := a :: kvs.map fun p => p.2.1) fun b hb => by
      rcases List.mem_cons.mp hb with e | hb
      · rw [e]
        exact ⟨_, hm⟩
      · obtain ⟨q, hq, e⟩ := List.mem_map.mp hb
        rw [← e]
        exact ⟨_, hl q hq⟩
    refine ⟨_, s1, s2, ?_⟩
    cases hr with
    | dK hr =>
      refine ⟨a, _, rfl, by unfold showMs; rw [if_pos (by simp)]; exact ha, rkv_own hr fun q hq => ?_⟩
      obtain ⟨h2, hb, hr2⟩ := sp.rep _ _ (hl q hq)
      cases hr2 with
      | lst hr2 => exact .lst (by unfold showMs; rw [if_pos (List.mem_cons_of_mem _ (List.mem_map.mpr ⟨q, hq, rfl⟩))]; exact hb) (hr2.tr.mono s3)
  | @inn a kvs M hm hl =>
    intro S H v sp r
    obtain rfl : v = .ref a := r
    obtain ⟨h, ha, hr⟩ := sp.rep a _ hm
    obtain ⟨s1, s2, s3⟩ := sp.stillL (bs := kvs.map fun p => p.2.1) fun b hb => by
      obtain ⟨q, hq, e⟩ := List.mem_map.mp hb
      rw [← e]
      exact ⟨_, hl q hq⟩
    have hna : a ∉ kvs.map fun p => p.2.1 := fun hb => by
      obtain ⟨q, hq, e⟩ := List.mem_map.mp hb
      have e : q.2.1 = a := e
      have := hl q hq
      rw [e, hm] at this
      cases this
    have hma : delMs M (kvs.map fun p => p.2.1) a = some (.dK (kvs.map fun p => (p.1, .own p.2.1))) := by
      unfold delMs
      rw [if_neg hna]
      exact hm
    cases hr with
    | @dK kv _ hr =>
      have s4 := s1.setM (o := .dK kv) hma (.dK (rkv_own2 hr fun q hq => by
        obtain ⟨h2, hb, hr2⟩ := sp.rep _ _ (hl q hq)
        cases hr2 with
        | lst hr2 => exact .lst (by unfold showMs; rw [if_pos (List.mem_map.mpr ⟨q, hq, rfl⟩)]; exact hb) (hr2.tr.mono s3)))
      have p4 := Post.setM (S := showMs S H (kvs.map fun p => p.2.1)) (H := H) (o := .dK kv) (mo' := .dK (kvs.map fun p => (p.1, .py (.list p.2.2)))) hma
      have eH : upd H a (.dK kv) = H := by
        funext b
        by_cases hb : b = a
        · rw [hb, upd_same, ha]
        · rw [upd_ne hb]
      rw [eH] at s4 p4
      exact ⟨_, s4, s2.trans s1 p4, rfl⟩
  | trans _ _ ih1 ih2 =>
    intro S H v sp r
    obtain ⟨S1, sp1, po1, r1⟩ := ih1 sp r
    obtain ⟨S2, sp2, po2, r2⟩ := ih2 sp1 r1
    exact ⟨S2, sp2, po1.trans sp1 po2, r2⟩
def Fz (P : Dat → Mem → Prop) (d : Dat) (M : Mem) : Prop := ∃ d' M', Frz d M d' M' ∧ P d' M'
theorem Fz.of {P : Dat → Mem → Prop} {d : Dat} {M : Mem} (h : P d M) : Fz P d M := ⟨d, M, .le (MLe.refl M), h⟩
/-- the ends of a def's body -/
def dEnds (P : Dat → Mem → Prop) : DEnds := { nx := fun _ M => Fz P (.py .none) M, rt := Fz P }
end
section
variable {P : Program} {w : World} {K : PySem.W.Frag} {mg : Str → Option Value} {base : Heap} {T : List (Addr × Str)}
/-- a def as it stands behind the top, with its defaults if it has any -/
structure FunX (K : PySem.W.Frag) (x qual : Str) (st : Stmt) (f : Addr) (fd : FuncData) : Prop where
  ex : ∃ dvs kws, FunD K x qual (defArgs st) (defBody st) (defScope st) dvs kws f fd
/-- THE RULE for a def over data -/
theorem dok {x qual : Str} {st : Stmt} {f : Addr} {fd : FuncData} {N ps : List Str} {k : Nat} {F : WF} (Fn : FunX K x qual st f fd) (Sc : FnScope N ps (defScope st)) (len : ∀ ds M P, F ds M P → ds.length = ps.length)
    (hbody : ∀ (cdv : Value) (A : Around) (outer : List Env) (s : Shared) (H : Hp) (E : XK), Room k (A.deeper (envOfC qual (defScope st) s.heap.objs.size f cdv)) →
      ∃ G, PSs (cxOf CX0 P w K mg base N qual (defScope st) f cdv A outer s H E).nox (defBody st) (tDS K T G) ∧ ∀ ds M P, F ds M P → G (dEnds P) (startD N.length ds) M) : FnOk P w K mg base CX0 (k + 1) f fd ps (dSp K T F) := by
  obtain ⟨dvs0, kws0, Fn⟩ := Fn.ex
  refine Fn.ok Sc (fun vs H Q E ⟨S, M, ds, Pd, sp, r, h, _⟩ => by rw [r.length]; exact len ds M Pd h) fun cdv A outer s H vs Q E hr ⟨S, M, ds, Pd, sp, r, h, k⟩ => ?_
  obtain ⟨G, hG, hg⟩ := hbody cdv A outer s H E hr
  refine ⟨_, hG.nox, tDS_mk sp (REnv.start r) (hg ds M Pd h) ⟨fun δ' M' σ' S' H' ⟨d', M2, z, p⟩ sp' po' _ => ?_, fun d M' v S' H' ⟨d', M2, z, p⟩ sp' po' r' => ?_, fun _ _ _ _ _ q _ _ _ => q, fun _ _ _ _ _ q _ _ _ => q⟩⟩
  · obtain ⟨S2, sp2, po2, r2⟩ := z.run sp' (v := .non) Tr.non
    exact k d' M2 .non S2 H' p sp2 (po'.trans sp' po2) r2
  · obtain ⟨S2, sp2, po2, r2⟩ := z.run sp' r'
    exact k d' M2 v S2 H' p sp2 (po'.trans sp' po2) r2
end
end DL
namespace PySem
theorem meets_enumerate_newT (l : Addr) (items : Array Value) (n : Nat) (dct : Option Addr) (sl : Array (Option Value)) :
    Meets (Builtin.«enumerate.__new__» ⟨[.type "enumerate", .ref l], []⟩) (fun _ R s => s.heap.get? l = some { cls := .type "tuple", dict := dct, data := .seq items n, slots := sl } ∧
      R (.ok (.ret (.ref (s.heap.push { cls := .type "tuple_iterator", data := .fields #[.ref l, .int 0 0] }).objs.size)))
        { s with heap := (s.heap.push { cls := .type "tuple_iterator", data := .fields #[.ref l, .int 0 0] }).push { cls := .type "enumerate", data := .fields #[.none, .bool false, .ref s.heap.objs.size, rawInt 0, .none, .none] } }) :=
  .of_wp fun prog w A R s h => by
    obtain ⟨hp, g, d, tk, os⟩ := s; obtain ⟨hl, h⟩ := h
    have hsub := sub_enumerate
    have hL : Heap.IsTuple (Shared.heap ⟨hp, g, d, tk, os⟩) l items := ⟨_, hl, rfl, n, rfl⟩
    wp_walk using AutoSeq1.wpAny_loadPart' hl
    refine wpAny_stack_any fun st => wpAny_pure ?_
    split
    · rename_i c _ _ _ _ _
      cases (c == Value.type "enumerate")
      · wp_walk using AutoSeq1.wpAny_loadPart' hl, wpAny_pyIter_tuple hL
        exact ⟨_, rfl, h⟩
      · wp_walk using AutoSeq1.wpAny_loadPart' hl, wpAny_pyIter_tuple hL
        exact ⟨_, rfl, h⟩
    · wp_walk using AutoSeq1.wpAny_loadPart' hl, wpAny_pyIter_tuple hL
      exact ⟨_, rfl, h⟩
section
variable {prog : Program} {w : World} {A : Around} {E : Value → Shared → Prop} {s : Shared}
theorem call_enumerate_tuple {l : Addr} {items : Array Value} {Q : Value → Shared → Prop} (hL : s.heap.IsTuple l items)
    (h : ∀ h', IsEnum h' (s.heap.objs.size + 1) s.heap.objs.size 0 .none → h'.IsTupleIter s.heap.objs.size l 0 → h'.objs.size = s.heap.objs.size + 2 →
      (∀ b o, s.heap.get? b = some o → h'.get? b = some o) → Q (.ref (s.heap.objs.size + 1)) { s with heap := h' }) :
    wpAny (model prog w) A (call (.type "enumerate") [.ref l]) Q E s := by
  obtain ⟨⟨c, dct, dt, sl⟩, hl, hc, n, hd⟩ := hL
  replace hc : c = .type "tuple" := hc
  replace hd : dt = .seq items n := hd
  subst hc hd
  refine callType_new F.called_enumerate (by decide) (F.typeCall_enumerate_1 _) (F.newCall_enumerate_1 _) (fun obj => F.args_object_init_2 obj _) F.entry_enumerate_new
    (meets_enumerate_newT l items n dct sl) ⟨hl, ?_⟩
  have hz : (s.heap.push { cls := .type "tuple_iterator", data := .fields #[.ref l, .int 0 0] }).objs.size = s.heap.objs.size + 1 := Heap.size_push ..
  show _ ∧ _
  rw [hz]
  have he : IsEnum ((s.heap.push { cls := .type "tuple_iterator", data := .fields #[.ref l, .int 0 0] }).push
      { cls := .type "enumerate", data := .fields #[.none, .bool false, .ref s.heap.objs.size, rawInt 0, .none, .none] }) (s.heap.objs.size + 1) s.heap.objs.size 0 .none := by
    have := Heap.get?_push_size (s.heap.push { cls := .type "tuple_iterator", data := .fields #[.ref l, .int 0 0] })
      (o := { cls := .type "enumerate", data := .fields #[.none, .bool false, .ref s.heap.objs.size, rawInt 0, .none, .none] }) rfl
    rw [hz] at this; exact this
  refine ⟨⟨_, he, rfl⟩, h _ he ⟨_, Heap.get?_push_of_some _ (Heap.get?_push_size _ rfl), rfl, rfl⟩ (by rw [Heap.size_push, hz]) fun b o x => Heap.get?_push_of_some _ (Heap.get?_push_of_some _ x)⟩
end
end PySem
namespace DL
open PySem PySem.Spec PyProof.Rows L2
/-! ### enumerate(tuple) -/
def IteT (K : PySem.W.Frag) (a : Addr) : It :=
  ⟨fun i H => ∃ (xs : List V) (x : V), SqT K H a xs ∧ xs[i]? = some x, fun i H v H' => ∃ T x, v = .ref T ∧ H T = none ∧ H' = upd H T (.tup [.int (i : Nat), x]) ∧ ∀ xs, SqT K H a xs → xs[i]? = some x, fun i H => ∃ xs : List V, SqT K H a xs ∧ xs.length = i⟩
theorem isTup_is {h : Heap} {a : Addr} {its : Array Value} (p : IsTup h a its) : h.IsTuple a its := by
  obtain ⟨o, e, hc, n, hd⟩ := p
  exact ⟨o, e, hc, n, hd⟩
theorem turn_enumT {P : Program} {w : World} {K : PySem.W.Frag} {elts : List Expr} {kk : Nat} {tpos : Pos} (a e it : Addr) (hai : a ≠ it) (hea : e ≠ a) :
    Turn P w K (.Tuple elts kk tpos) (IteT K a) [e, it] e (fun i h => (∃ old, IsEnum h e it ((i : Nat) : Int) old) ∧ h.IsTupleIter it a i ∧ e ≠ it) where
  mem := by simp
  obj := fun i h st b hb => by
    obtain ⟨⟨old, he⟩, ⟨o, ho, hc, hd⟩, _⟩ := st
    have e' : b = e ∨ b = it := by simpa using hb
    rcases e' with z | z
    · rw [z]; exact ⟨_, he, fun v q => nomatch q⟩
    · rw [z]; exact ⟨o, ho, fun v q => by rw [hd] at q; cases q⟩
  keep := fun i h h' st k => let ⟨⟨old, he⟩, hi, hne⟩ := st; ⟨⟨old, k e (by simp) _ he⟩, hi.at fun o q => k it (by simp) o q, hne⟩
  item := by
    intro X hP hw hK hc i pins s σ H E I hf st hg
    subst hP hw hK
    obtain ⟨⟨old, he⟩, hit, hne⟩ := st
    obtain ⟨xs, x, hq, hx⟩ := hg
    obtain ⟨its, rv, p, hz⟩ := I.tuple hq
    obtain ⟨u, hu, ru⟩ := rv.get hx
    have hel : e < s.heap.objs.size := Heap.lt_size he
    have hil : it < s.heap.objs.size := by obtain ⟨_, q, _⟩ := hit; exact Heap.lt_size q
    have hlt : i < its.toArray.size := by
      have := (List.getElem?_eq_some_iff.mp hu).1
      simpa using this
    refine wpAny_pyNext_enum_itemD (Draws.tuple (A := X.A.in1) (show X.A.in1.handled = none from I.ok.hd hc) it a hai its.toArray) he ⟨hit, isTup_is p⟩ hlt hne (by simp [hne, hea]) fun y h' tk hy ho hit' hT hsz hk => ?_
    have ey : y = u := by
      have h1 : its[i]? = some y := by simpa using hy
      rw [hu] at h1
      exact (Option.some.inj h1).symm
    subst ey
    refine ⟨_, rfl, wpAny_letOwnedTupleGo_enum (s := { s with heap := h', toks := tk + 1 }) ho fun h'' he' sb => ?_⟩
    have hT2 : h''.get? s.heap.objs.size = some { cls := .type "tuple", data := .seq #[.int i tk, y] } := (sb.2 _ (Nat.ne_of_gt hel)).trans hT
    have new : ObjOk X.prog X.w (upd H s.heap.objs.size (.tup [.int (i : Nat), x])) h'' s.heap.objs.size (.tup [.int (i : Nat), x]) :=
      ⟨by show 2 ≤ sizeLine; decide, [.int i tk, y], .cons ⟨_, rfl⟩ (.cons ru .nil), ⟨_, hT2, rfl, _, rfl⟩⟩
    have I1 : Inv X pins σ (upd H s.heap.objs.size (.tup [.int (i : Nat), x])) { s with heap := h'', toks := tk + 1 } :=
      I.turnedNew (ch := [e, it]) (fun b ob hb q => (sb.2 b (fun z => hb (by simp [z]))).trans (hk b ob (fun z => hb (by simp [z])) (fun z => hb (by simp [z])) q)) hf (Nat.le_refl _) new
    refine ⟨.ref s.heap.objs.size, _, I1, rfl, ⟨_, x, rfl, I.hok.fresh (Nat.le_refl _), rfl, fun ys hy => by rw [I.tuple_inj hy hq]; exact hx⟩, ⟨⟨y, ?_⟩, hit'.1.at fun o q => (sb.2 it (Ne.symm hne)).trans q, hne⟩, fun b hb => ?_⟩
    · have e1 : ((i + 1 : Nat) : Int) = (i : Int) + 1 := by omega
      rw [e1]; exact he'
    · have hb' : b < s.heap.objs.size := by
        have e' : b = e ∨ b = it := by simpa using hb
        rcases e' with z | z
        · rw [z]; exact hel
        · rw [z]; exact hil
      rw [upd_ne (Nat.ne_of_lt hb')]
      exact (hf b hb).1
  done := by
    intro X hP hw hK hc i pins s σ H E I hf st hg
    subst hP hw hK
    obtain ⟨⟨old, he⟩, hit, hne⟩ := st
    obtain ⟨xs, hq, hx⟩ := hg
    obtain ⟨its, rv, p, hz⟩ := I.tuple hq
    obtain ⟨f0, f1, f2, f3, f4, f5⟩ := hf it (by simp)
    have hl := rv.length
    have hi : its.toArray.size = i := by simp; omega
    exact wpAny_pyNext_enum_endD (Draws.tuple (A := X.A.in1) (show X.A.in1.handled = none from I.ok.hd hc) it a hai its.toArray) he ⟨by rw [hi]; exact hit, isTup_is p⟩ fun h' eb => ⟨rfl, I.turned (t' := s.toks) (fun b o hb q => eb b o hb q) f0 f1 f3 f4 f5⟩
  self := fun A i s Q E st h => let ⟨⟨_, he⟩, _⟩ := st; wpAny_pyIter_enum he h
def iEnumT (K : PySem.W.Frag) (ta : TA) : TI := fun σ H R => ta σ H fun vs H1 => ∃ a xs, vs = [.ref a] ∧ SqT K H1 a xs ∧ R (IteT K a) H1
theorem pi_enumT {X : Cx} {e : Expr} {ta : TA} {p pos tpos : Pos} {elts : List Expr} {kk : Nat} (hg : Gl X "enumerate") (hm : X.mg "enumerate" = none) (ha : PA X [e] ta) (hs : starEach [e] X.env = [(false, eval e X.env)] := by rfl) :
    PI X (.Tuple elts kk tpos) (.Call (.Name "enumerate" p) [e] [] pos) (iEnumT X.K ta) := by
  refine ⟨fun pins s σ H R I h => ?_⟩
  refine Call_ (ld_blt I hg hm boot_enumerate (PyProof.Rows.callWith_type1 (thn (ha.run pos pins s σ H _ I h) fun us s1 ⟨vs, H1, I1, r1, q1⟩ => ?_) hs rfl))
  obtain ⟨a, xs, ex, hq, q⟩ := q1
  subst ex
  cases r1 with
  | cons r rr =>
    cases rr
    cases r
    obtain ⟨its, rv, p', hz⟩ := I1.tuple hq
    have hal : a < s1.heap.objs.size := by
      obtain ⟨_, e1, _⟩ := p'
      exact Heap.lt_size e1
    refine call_enumerate_tuple (isTup_is p') fun h' he hit hsz hk => wpAny_pyIter_enum he ?_
    have I2 : Inv X pins σ H1 { s1 with heap := h' } := I1.kept (t' := s1.toks) hk
    refine ⟨s1.heap.objs.size + 1, [s1.heap.objs.size + 1, s1.heap.objs.size], _, _, H1, rfl, I2, turn_enumT a (s1.heap.objs.size + 1) s1.heap.objs.size (Nat.ne_of_lt hal) (Nat.ne_of_gt (Nat.lt_succ_of_lt hal)), ⟨⟨.none, he⟩, hit, Nat.succ_ne_self _⟩, fun b hb => ?_, q⟩
    have e' : b = s1.heap.objs.size + 1 ∨ b = s1.heap.objs.size := by simpa using hb
    have hle : s1.heap.objs.size ≤ b := by
      rcases e' with z | z
      · rw [z]; exact Nat.le_add_right _ _
      · rw [z]; exact Nat.le_refl _
    exact I1.fpOk hle (I1.hok.fresh hle)
section
variable {K : PySem.W.Frag} {T : List (Addr × Str)} {X : Cx} {ga gb gc : WE} {a b c : Expr} {pos : Pos}
theorem walk_enumT {a : Addr} {xs : List V} : Walk (IteT K a) xs.length (fun H => SqT K H a xs) (YPair (fun i => some (.int (i : Nat))) (fun i => xs[i]?)) := by
  refine ⟨fun i _ hi q => ⟨xs, xs[i], q, by simp [hi]⟩, fun _ q => ⟨xs, q, rfl⟩, fun i H v H' _ q y => ?_⟩
  obtain ⟨T, x, h1, h2, h3, h4⟩ := y
  exact ⟨T, .int (i : Nat), x, h1, h2, h3, rfl, h4 xs q⟩
def wIET (r : WA) : WI := fun δ M P => r δ M fun ds M1 => ∃ xs, ds = [.py (.tuple xs)] ∧ P ((enumP 0 xs).map .py) (fun _ => True) M1
theorem di_enumT {e : Expr} {elts : List Expr} {kk : Nat} {tpos p : Pos} {r : WA} (hg : Gl X "enumerate") (hm : X.mg "enumerate" = none) (ha : PA X [e] (tDA X.K T r)) (hs : starEach [e] X.env = [(false, eval e X.env)] := by rfl) :
    PI X (.Tuple elts kk tpos) (.Call (.Name "enumerate" p) [e] [] pos) (tDI X.K T (wIET r)) := PI_weak (pi_enumT hg hm ha hs) fun σ H R ⟨S, M, δ, P, sp, re, g, k⟩ => ⟨S, M, δ, _, sp, re, g, fun ds M' vs S' H' ⟨xs, hd, p⟩ sp' po' r' => by
    subst hd
    obtain ⟨v, rfl, r1⟩ := rpall1 r'
    cases (show Tr S' v (.tuple xs) from r1) with
    | @tup a1 v1 _ h1 t1 =>
      refine ⟨a1, v1, rfl, SqT.of (sp'.ex _ _ h1), k _ _ _ _ _ _ p sp' po' (dwalk_pair (n := v1.length) (by rw [enumP_len, t1.length]) walk_enumT (fun S M H e sp => SqT.of (sp.ex _ _ (e _ _ h1))) fun i d x y hd hx hy => ?_)⟩
      obtain ⟨w, g1, rfl⟩ := enumP_get hd
      obtain ⟨y', e2, q2⟩ := t1.get g1
      rw [e2] at hy
      cases hx
      cases hy
      exact ⟨_, _, rfl, by rw [Nat.zero_add]; exact .int _, q2⟩⟩
/-! ### a dict of the module with texts -/
def fIxK (tab : Str → Option Str) : F2 := fun d e M P => ∃ s r, e = .py (.str s) ∧ tab s = some r ∧ P (.py (.str r)) M
/-- the name of a dict of the module, texts by texts -/
structure KTab (K : PySem.W.Frag) (w : World) (mg : Str → Option Value) (x : Str) (tab : Str → Option Str) : Prop where
  at_ : ∃ d, mg x = some (.ref d) ∧ ∀ s r, tab s = some r → KDct K w d s (.str r)
def wIxK (tab : Str → Option Str) (g : WE) : WE := fun δ M P => g δ M fun e M1 => ∃ s r, e = .py (.str s) ∧ tab s = some r ∧ P (.py (.str r)) M1
theorem d_kix {x : Str} {p : Pos} {tab : Str → Option Str} (Kt : KTab X.K X.w X.mg x tab) (hg : Gl X x) (hb : PE X b (tD X.K T gb)) (hd : (x == ("__debug__" : Str)) = false := by decide) (hs : PlainIx b := by exact fun _ _ => rfl) : PE X (.Subscript (.Name x p) b pos) (tD X.K T (wIxK tab gb)) := by
  obtain ⟨d, hm, hk⟩ := Kt.at_
  refine PE_weak (pe_ix ix_kdict (pe_glob (v := .ref d) hg hm rfl hd) hb hs) fun σ H Q ⟨S, M, δ, P, sp, re, g, k⟩ => ?_
  refine ⟨S, M, δ, _, sp, re, g, fun d1 M1 v1 S1 H1 ⟨s, r, hd, hr, p⟩ sp1 po1 r1 => ?_⟩
  subst hd
  cases (show Tr S1 v1 (.str s) from r1)
  exact ⟨d, s, .str r, rfl, rfl, hk s r hr, Kont.same (Kont.after k po1 sp1) sp1 p (.str r)⟩
end
end DL
namespace PySem
open Sem (wp)
abbrev IsZipS (h : Heap) (z TI TO : Addr) (f0 : Value) : Prop :=
  h.get? z = some { cls := .type "zip", dict := none, data := .fields #[f0, .bool false, .bool true, .ref TI, .ref TO], slots := #[] }
section
variable {prog : Program} {w : World} {A : Around} {E : Value → Shared → Prop} {s : Shared}
theorem nextOrEnd_item {it l : Addr} {i : Nat} {items} {x : Value} {Q : Option Value → Shared → Prop} (hit : s.heap.IsListIter it l i)
    (hl : s.heap.IsList l items) (hx : items[i]? = some x)
    (hQ : ∀ h', h'.IsListIter it l (i + 1) → Heap.SameBut it s.heap h' → Q (some x) { s with heap := h' }) :
    wpAny (model prog w) A (Builtin.SmallTypes.nextOrEnd (.ref it)) Q E s := by
  unfold Builtin.SmallTypes.nextOrEnd
  exact wpAny_bind (wpAny_attempt (wpAny_nextOf_list_item hit hl hx fun h' a b => wpAny_pure (hQ h' a b)))
theorem nextOrEnd_end {it l : Addr} {i : Nat} {items} {Q : Option Value → Shared → Prop} (hh : A.handled = none)
    (hit : s.heap.IsListIter it l i) (hl : s.heap.IsList l items) (hx : items[i]? = none)
    (hQ : ∀ h', Heap.ExtBut it s.heap h' → Q none { s with heap := h' }) :
    wpAny (model prog w) A (Builtin.SmallTypes.nextOrEnd (.ref it)) Q E s := by
  unfold Builtin.SmallTypes.nextOrEnd
  refine wpAny_bind (wpAny_attempt (wpAny_nextOf_list_end hh hit hl hx fun h' e a ⟨o, ho, hc⟩ => ?_))
  refine wpAny_bind (wpAny_isInstance (T := "StopIteration") (b := true) ⟨o, ho, hc⟩ isSubtype_stop ?_)
  exact wpAny_pure (hQ _ a)
theorem zipS_next_item {z TI TO i1 i2 l1 l2 : Addr} {k1 k2 : Nat} {xs ys : Array Value} {x y a b : Value} {Q : Value → Shared → Prop} (D : ZipApart z TI TO i1 i2 l1 l2)
    (hz : IsZipS s.heap z TI TO .none) (hTI : IsPair s.heap TI (.ref i1) (.ref i2)) (hTO : IsPair s.heap TO a b)
    (h1 : s.heap.IsListIter i1 l1 k1) (h2 : s.heap.IsListIter i2 l2 k2) (hl1 : s.heap.IsList l1 xs) (hl2 : s.heap.IsList l2 ys) (hx : xs[k1]? = some x) (hy : ys[k2]? = some y)
    (hQ : ∀ h', IsZipS h' z TI TO (rawInt s.heap.objs.size) → IsPair h' TO x y → h'.IsListIter i1 l1 (k1 + 1) → h'.IsListIter i2 l2 (k2 + 1) → IsPair h' s.heap.objs.size x y → h'.objs.size = s.heap.objs.size + 1 →
      (∀ c o, c ≠ z → c ≠ TO → c ≠ i1 → c ≠ i2 → s.heap.get? c = some o → h'.get? c = some o) → Q (.ref s.heap.objs.size) { s with heap := h' }) :
    wpAny (model prog w) A (Builtin.«zip.__next__» ⟨[.ref z], []⟩) (fun fin s' => ∃ v, fin = .done (.ret v) ∧ Q v s') E s := by
  show wpAny _ _ (field (.ref z) 2 >>= _) _ _ _
  refine wpAny_bind (wpAny_field hz rfl (x := .bool true) rfl ?_)
  show wpAny _ _ (field (.ref z) 3 >>= _) _ _ _
  refine wpAny_bind (wpAny_field hz rfl (x := .ref TI) rfl ?_)
  refine wpAny_bind (wpAny_seqItems hTI rfl ?_)
  show wpAny _ _ (Builtin.SmallTypes.ownedTupleIsFree (.ref z) >>= _) _ _ _
  refine wpAny_bind ?_
  unfold Builtin.SmallTypes.ownedTupleIsFree
  refine wpAny_bind (wpAny_field hz rfl (x := .none) rfl (wpAny_pure ?_))
  simp only [if_true]
  refine wpAny_bind (wpAny_rule ?_)
  refine wpAny_bind (wpAny_field hz rfl (x := .ref TO) rfl ?_)
  refine wpAny_bind (wpAny_setField_rec hz (by simp) fun h₁ hz₁ hs₁ => ?_)
  replace hz₁ : IsZipS h₁ z TI TO .ellipsis := hz₁
  refine wpAny_bind ?_
  simp only [List.zipIdx_cons, List.zipIdx_nil, List.forIn_cons, List.forIn_nil]
  refine wpAny_bind (wpAny_bind (wpAny_onRaise ?_))
  show wpAny _ _ (Builtin.SmallTypes.nextOrEnd (.ref i1)) _ _ _
  refine nextOrEnd_item (h1.extBut hs₁.extBut D.i1z) (hl1.extBut hs₁.extBut D.l1z) hx fun h₂ h1₂ hs₂ => ?_
  have hTO₂ : IsPair h₂ TO a b := hs₂.extBut _ _ D.TOi1 (hs₁.extBut _ _ D.TOz hTO)
  refine wpAny_bind (wpAny_seqItems hTO₂ rfl ?_)
  refine wpAny_bind (wpAny_updateSeq_pair hTO₂ fun h₃ hTO₃ hs₃ => ?_)
  replace hTO₃ : IsPair h₃ TO x b := hTO₃
  refine wpAny_bind (wpAny_letGo (wpAny_pure ?_))
  refine wpAny_bind (wpAny_bind (wpAny_onRaise ?_))
  show wpAny _ _ (Builtin.SmallTypes.nextOrEnd (.ref i2)) _ _ _
  refine nextOrEnd_item (((h2.extBut hs₁.extBut D.i2z).extBut hs₂.extBut D.i12.symm).extBut hs₃.extBut D.TOi2.symm)
    (((hl2.extBut hs₁.extBut D.l2z).extBut hs₂.extBut D.l2i1).extBut hs₃.extBut D.l2TO) hy fun h₄ h2₄ hs₄ => ?_
  have hTO₄ : IsPair h₄ TO x b := hs₄.extBut _ _ D.TOi2 hTO₃
  refine wpAny_bind (wpAny_seqItems hTO₄ rfl ?_)
  refine wpAny_bind (wpAny_updateSeq_pair hTO₄ fun h₅ hTO₅ hs₅ => ?_)
  replace hTO₅ : IsPair h₅ TO x y := hTO₅
  refine wpAny_bind (wpAny_letGo (wpAny_pure (wpAny_pure ?_)))
  refine wpAny_bind (wpAny_seqItems hTO₅ rfl ?_)
  refine wpAny_bind (wpAny_newTuple ?_)
  have hsz : h₅.objs.size = s.heap.objs.size := by rw [hs₅.1, hs₄.1, hs₃.1, hs₂.1, hs₁.1]
  have hz₅ : IsZipS h₅ z TI TO .ellipsis := hs₅.extBut _ _ D.TOz.symm (hs₄.extBut _ _ D.i2z.symm (hs₃.extBut _ _ D.TOz.symm (hs₂.extBut _ _ D.i1z.symm hz₁)))
  have hk₅ : ∀ c o, c ≠ z → c ≠ TO → c ≠ i1 → c ≠ i2 → s.heap.get? c = some o → h₅.get? c = some o := fun c o c1 c2 c3 c4 e =>
    hs₅.extBut _ _ c2 (hs₄.extBut _ _ c4 (hs₃.extBut _ _ c2 (hs₂.extBut _ _ c3 (hs₁.extBut _ _ c1 e))))
  have h1₅ : h₅.IsListIter i1 l1 (k1 + 1) := ((h1₂.extBut hs₃.extBut D.TOi1.symm).extBut hs₄.extBut D.i12).extBut hs₅.extBut D.TOi1.symm
  have h2₅ : h₅.IsListIter i2 l2 (k2 + 1) := h2₄.extBut hs₅.extBut D.TOi2.symm
  have hzlt : z < h₅.objs.size := Heap.lt_size hz₅
  show wpAny _ _ (Builtin.SmallTypes.ownedTupleHandOut (.ref z) (.ref h₅.objs.size) >>= _) _ _ _
  refine wpAny_bind ?_
  unfold Builtin.SmallTypes.ownedTupleHandOut
  have hz₆ : IsZipS (h₅.push { cls := .type "tuple", data := .seq #[x, y] }) z TI TO .ellipsis := Heap.get?_push_of_some _ hz₅
  refine wpAny_bind (wpAny_setField_rec hz₆ (by simp) fun h₇ hz₇ hs₇ => ?_)
  replace hz₇ : IsZipS h₇ z TI TO (rawInt h₅.objs.size) := hz₇
  refine wpAny_setField_rec hz₇ (by simp) fun h₈ hz₈ hs₈ => ?_
  replace hz₈ : IsZipS h₈ z TI TO (rawInt h₅.objs.size) := hz₈
  have up : ∀ c o, c ≠ z → h₅.get? c = some o → h₈.get? c = some o := fun c o c1 e => hs₈.extBut _ _ c1 (hs₇.extBut _ _ c1 (Heap.get?_push_of_some _ e))
  have hT₈ : IsPair h₈ h₅.objs.size x y := hs₈.extBut _ _ (Nat.ne_of_gt hzlt) (hs₇.extBut _ _ (Nat.ne_of_gt hzlt) (Heap.get?_push_size _ rfl))
  have hz8 : h₈.objs.size = h₅.objs.size + 1 := by rw [hs₈.1, hs₇.1, Heap.size_push]
  rw [hsz] at hz₈ hT₈ hz8
  refine wpAny_pure ⟨_, rfl, ?_⟩
  show Q (.ref h₅.objs.size) _
  rw [hsz]
  exact hQ h₈ hz₈ (up _ _ D.TOz hTO₅) (h1₅.at fun o e => up _ o D.i1z e) (h2₅.at fun o e => up _ o D.i2z e) hT₈ hz8 fun c o c1 c2 c3 c4 e => up c o c1 (hk₅ c o c1 c2 c3 c4 e)
theorem stopIter_raise (hh : A.handled = none) (hE : ∀ h' e, (∀ c o, s.heap.get? c = some o → h'.get? c = some o) → (∃ o, h'.get? e = some o ∧ o.cls = .type "StopIteration") → E (.ref e) { s with heap := h' }) {α : Type} {Q : α → Shared → Prop} :
    wpAny (model prog w) A (Builtin.SmallTypes.stopIteration (α := α)) Q E s := by
  unfold Builtin.SmallTypes.stopIteration
  refine wpAny_bind ?_
  simp only [newExc, newTuple]
  refine wpAny_bind (wpAny_newObj_type ?_ (by size_fits))
  refine wpAny_bind (m := firstArgMember _ _) (wpAny_of_eq (a := Value.none) (by first | rfl | (simp only [firstArgMember]; rfl)) ?_)
  refine wpAny_newObj_type ?_ (by size_fits)
  simp only [raiseNew]
  refine wpAny_bind (wpAny_handled ?_)
  rw [hh]
  refine wpAny_bind (wpAny_pure (wpAny_throw ?_))
  exact hE _ _ (fun c o e => Heap.get?_push_of_some _ (Heap.get?_push_of_some _ e)) ⟨_, Heap.get?_push_size _ rfl, rfl⟩
theorem zipS_next_end {z TI TO i1 i2 l1 l2 : Addr} {k1 k2 : Nat} {xs ys : Array Value} {a b : Value} {Q : Fin → Shared → Prop} (hh : A.handled = none) (D : ZipApart z TI TO i1 i2 l1 l2)
    (hz : IsZipS s.heap z TI TO .none) (hTI : IsPair s.heap TI (.ref i1) (.ref i2)) (hTO : IsPair s.heap TO a b)
    (h1 : s.heap.IsListIter i1 l1 k1) (h2 : s.heap.IsListIter i2 l2 k2) (hl1 : s.heap.IsList l1 xs) (hl2 : s.heap.IsList l2 ys) (hx : xs[k1]? = none) (hy : ys[k2]? = none)
    (hE : ∀ h' e, (∀ c o, c ≠ z → c ≠ TO → c ≠ i1 → c ≠ i2 → s.heap.get? c = some o → h'.get? c = some o) → (∃ o, h'.get? e = some o ∧ o.cls = .type "StopIteration") → E (.ref e) { s with heap := h' }) :
    wpAny (model prog w) A (Builtin.«zip.__next__» ⟨[.ref z], []⟩) Q E s := by
  show wpAny _ _ (field (.ref z) 2 >>= _) _ _ _
  refine wpAny_bind (wpAny_field hz rfl (x := .bool true) rfl ?_)
  show wpAny _ _ (field (.ref z) 3 >>= _) _ _ _
  refine wpAny_bind (wpAny_field hz rfl (x := .ref TI) rfl ?_)
  refine wpAny_bind (wpAny_seqItems hTI rfl ?_)
  show wpAny _ _ (Builtin.SmallTypes.ownedTupleIsFree (.ref z) >>= _) _ _ _
  refine wpAny_bind ?_
  unfold Builtin.SmallTypes.ownedTupleIsFree
  refine wpAny_bind (wpAny_field hz rfl (x := .none) rfl (wpAny_pure ?_))
  simp only [if_true]
  refine wpAny_bind (wpAny_rule ?_)
  refine wpAny_bind (wpAny_field hz rfl (x := .ref TO) rfl ?_)
  refine wpAny_bind (wpAny_setField_rec hz (by simp) fun h₁ hz₁ hs₁ => ?_)
  replace hz₁ : IsZipS h₁ z TI TO .ellipsis := hz₁
  refine wpAny_bind ?_
  simp only [List.zipIdx_cons, List.zipIdx_nil, List.forIn_cons, List.forIn_nil]
  refine wpAny_bind (wpAny_bind (wpAny_onRaise ?_))
  show wpAny _ _ (Builtin.SmallTypes.nextOrEnd (.ref i1)) _ _ _
  refine nextOrEnd_end hh (h1.extBut hs₁.extBut D.i1z) (hl1.extBut hs₁.extBut D.l1z) hx fun h₂ hs₂ => ?_
  have hz₂ : IsZipS h₂ z TI TO .ellipsis := hs₂ _ _ D.i1z.symm hz₁
  refine wpAny_bind (wpAny_setField_rec hz₂ (by simp) fun h₃ hz₃ hs₃ => ?_)
  refine wpAny_bind ?_
  refine wpAny_bind ?_
  simp only [List.drop_succ_cons, List.drop_zero, List.zipIdx_cons, List.zipIdx_nil, List.forIn_cons, List.forIn_nil]
  have n2 : i2 ≠ i1 := D.i12.symm
  refine wpAny_bind (wpAny_bind (nextOrEnd_end (l := l2) (i := k2) (items := ys) hh ?_ ?_ hy fun h₄ hs₄ => ?_))
  · exact ((h2.extBut hs₁.extBut D.i2z).at fun o e => hs₂ _ o n2 e).extBut hs₃.extBut D.i2z
  · exact ((hl2.extBut hs₁.extBut D.l2z).at fun o e => hs₂ _ o D.l2i1 e).extBut hs₃.extBut D.l2z
  refine wpAny_pure (wpAny_pure ?_)
  refine wpAny_bind (wpAny_rule ?_)
  refine stopIter_raise hh fun h₅ e hk he => ?_
  exact hE h₅ e (fun c o c1 c2 c3 c4 x => hk c o (hs₄ _ _ c4 (hs₃.extBut _ _ c1 (hs₂ _ _ c3 (hs₁.extBut _ _ c1 x))))) he
theorem pyNext_zipS_item {z TI TO i1 i2 l1 l2 : Addr} {k1 k2 : Nat} {xs ys : Array Value} {x y a b : Value} {Q : Option Value → Shared → Prop} (D : ZipApart z TI TO i1 i2 l1 l2)
    (hz : IsZipS s.heap z TI TO .none) (hTI : IsPair s.heap TI (.ref i1) (.ref i2)) (hTO : IsPair s.heap TO a b)
    (h1 : s.heap.IsListIter i1 l1 k1) (h2 : s.heap.IsListIter i2 l2 k2) (hl1 : s.heap.IsList l1 xs) (hl2 : s.heap.IsList l2 ys) (hx : xs[k1]? = some x) (hy : ys[k2]? = some y)
    (hQ : ∀ h', IsZipS h' z TI TO (rawInt s.heap.objs.size) → IsPair h' TO x y → h'.IsListIter i1 l1 (k1 + 1) → h'.IsListIter i2 l2 (k2 + 1) → IsPair h' s.heap.objs.size x y → h'.objs.size = s.heap.objs.size + 1 →
      (∀ c o, c ≠ z → c ≠ TO → c ≠ i1 → c ≠ i2 → s.heap.get? c = some o → h'.get? c = some o) → Q (some (.ref s.heap.objs.size)) { s with heap := h' }) :
    wpAny (model prog w) A (pyNext (.ref z)) Q E s := by
  have hT : s.TypeIs (.ref z) "zip" := ⟨_, hz, rfl⟩
  unfold pyNext
  exact wpAny_bind (wpAny_attempt (wpAny_callSpecial?_slot (name := Str.ofString "__next__") hT F.slot_zip_next
    (wpAny_call_entry F.slot_zip_next hT F.entry_zip_next
      (zipS_next_item D hz hTI hTO h1 h2 hl1 hl2 hx hy fun h' a1 a2 a3 a4 a5 a6 a7 => wpAny_pure (hQ h' a1 a2 a3 a4 a5 a6 a7)) (F.args_zip_next_1 _))))
theorem pyNext_zipS_end {z TI TO i1 i2 l1 l2 : Addr} {k1 k2 : Nat} {xs ys : Array Value} {a b : Value} {Q : Option Value → Shared → Prop} (hh : A.handled = none) (D : ZipApart z TI TO i1 i2 l1 l2)
    (hz : IsZipS s.heap z TI TO .none) (hTI : IsPair s.heap TI (.ref i1) (.ref i2)) (hTO : IsPair s.heap TO a b)
    (h1 : s.heap.IsListIter i1 l1 k1) (h2 : s.heap.IsListIter i2 l2 k2) (hl1 : s.heap.IsList l1 xs) (hl2 : s.heap.IsList l2 ys) (hx : xs[k1]? = none) (hy : ys[k2]? = none)
    (hQ : ∀ h', (∀ c o, c ≠ z → c ≠ TO → c ≠ i1 → c ≠ i2 → s.heap.get? c = some o → h'.get? c = some o) → Q none { s with heap := h' }) : wpAny (model prog w) A (pyNext (.ref z)) Q E s := by
  have hT : s.TypeIs (.ref z) "zip" := ⟨_, hz, rfl⟩
  unfold pyNext
  refine wpAny_bind (wpAny_attempt (wpAny_callSpecial?_slot (name := Str.ofString "__next__") hT F.slot_zip_next
    (wpAny_call_entry F.slot_zip_next hT F.entry_zip_next (zipS_next_end hh D hz hTI hTO h1 h2 hl1 hl2 hx hy fun h' e hk he => ?_) (F.args_zip_next_1 _))))
  obtain ⟨o, ho, hc⟩ := he
  refine wpAny_bind (wpAny_isInstance (T := "StopIteration") (b := true) ⟨o, ho, hc⟩ isSubtype_stop ?_)
  exact wpAny_pure (hQ _ hk)
theorem letGo_zipS {elts : List Expr} {x1} {pos : Pos} {z TI TO T : Addr} {Q : Unit → Shared → Prop} (hz : IsZipS s.heap z TI TO (rawInt T))
    (hQ : ∀ h', IsZipS h' z TI TO .none → Heap.SameBut z s.heap h' → Q () { s with heap := h' }) :
    wpAny (model prog w) A (letOwnedTupleGo (.Tuple elts x1 pos) (.ref z) (.ref T)) Q E s := by
  unfold letOwnedTupleGo
  refine wpAny_bind (wpAny_load hz ?_)
  show wpAny _ _ (if (["enumerate", "zip", "dict_itemiterator", "dict_reverseitemiterator", "odict_iterator", "itertools.zip_longest", "itertools.pairwise"].contains "zip" &&
      (#[rawInt T, .bool false, .bool true, .ref TI, .ref TO] : Array Value)[0]? == some (rawInt T)) = true then _ else _) Q E s
  rw [if_pos (by simp)]
  refine wpAny_bind (wpAny_rule ?_)
  show wpAny _ _ (setField (.ref z) 0 .none) Q E s
  exact wpAny_setField_rec hz (by simp) fun h' hz' hs' => hQ h' hz' hs'
theorem pyIter_zipS {z TI TO : Addr} {f0 : Value} {Q : Value → Shared → Prop} (hz : IsZipS s.heap z TI TO f0) (h : Q (.ref z) s) : wpAny (model prog w) A (pyIter (.ref z)) Q E s := by
  have hT : s.TypeIs (.ref z) "zip" := ⟨_, hz, rfl⟩
  refine wpAny_pyIter_slot hT F.slot_zip_iter (wpAny_call_entry F.slot_zip_iter hT F.entry_zip_iter ?_ (F.args_zip_iter_1 _))
  show wpAny _ _ (ret (.ref z)) _ _ s
  exact wpAny_pure ⟨_, rfl, "zip", _, hT, F.slot_zip_next.lookup, h⟩
abbrev zipS5 (h : Heap) (l1 l2 : Addr) : Heap := (zipH4 h l1 l2).push { cls := .type "zip", data := .fields #[.none, .bool false, .bool true, .ref (zipH2 h l1 l2).objs.size, .ref (zipH3 h l1 l2).objs.size] }
theorem meets_zipS_new (l1 l2 : Addr) (xs ys : Array Value) :
    Meets (Builtin.«zip.__new__» ⟨[.type "zip", .ref l1, .ref l2], [(Str.ofString "strict", .bool true)]⟩) (fun _ R s => s.heap.IsList l1 xs ∧ s.heap.IsList l2 ys ∧
      R (.ok (.ret (.ref (zipH4 s.heap l1 l2).objs.size))) { s with heap := zipS5 s.heap l1 l2 }) :=
  .of_wp fun prog w A R s h => by
    obtain ⟨hp, g, d, tk, os⟩ := s; obtain ⟨hl1, hl2, h⟩ := h
    have hsub := sub_zip
    have hL1 : Heap.IsList (Shared.heap ⟨hp, g, d, tk, os⟩) l1 xs := hl1
    have hL2 : Heap.IsList (Shared.heap ⟨hp.push { cls := .type "list_iterator", data := .fields #[.ref l1, .int 0 0] }, g, d, tk, os⟩) l2 ys := Heap.IsList.push hl2 _
    wp_walk using wpAny_pyIter_list hL1, wpAny_pyIter_list hL2
    exact ⟨_, rfl, h⟩
theorem callType_meetsK {T newId initId : String} {Bn Bi : Builtin} {args : List Value} {kw : List (Str × Value)} {S : Spec} {Q Q₁ : Value → Shared → Prop} (ft : TypeCalled T newId initId)
    (hct : checkTypeCall T ⟨args, kw⟩ = pure ()) (hcn : checkBuiltinCall newId ⟨.type T :: args, kw⟩ = pure ())
    (entryN : entryFor table newId = some Bn) (entryI : entryFor table initId = some Bi) (g : Meets (Bn ⟨.type T :: args, kw⟩) S)
    (h : S A.in1 (wants Q₁ E) s)
    (hnext : ∀ obj s₁, Q₁ obj s₁ → s₁.TypeIs obj T ∧ argsOk initId ⟨obj :: args, kw⟩ ∧ ∃ Si, Meets (Bi ⟨obj :: args, kw⟩) Si ∧ Si A.in1 (wants (fun r s₂ => r = .none ∧ Q obj s₂) E) s₁) :
    wpAny (model prog w) A (call (.type T) args kw) Q E s := by
  obtain ⟨c, tl, hmro⟩ := ft.mro
  have hmade := ft.made
  have hsub := ft.sub
  refine wpAny_call (codeAny_of_tree ?_)
  show wpAny _ _ (callAny (.type T) _) _ _ _
  refine wpAny_pure ⟨Code.quiet_builtin _ (by decide +kernel), codeAny_builtin F.entry_type_call ?_⟩
  rw [Around.under_plain (weight_type_call_type T args kw) (units_type_call_type T args kw)]
  have h1 := ft.notType
  have h2 := ft.canCreate
  repeat (any_goals (first | assumption | wp_step))
  refine codeAny_mono (codeAny_call_builtin ft.plain entryN (wpAny_of_eq hcn (g prog w A.in1 _ s h))) fun r s₁ hr => ?_
  cases r with
  | error e => exact hr
  | ok fl =>
    cases fl with
    | ret obj =>
      obtain ⟨hT, hok, Si, gi, hsi⟩ := hnext _ _ hr
      have hli := ft.init.lookup
      have hbi := ft.init.bind obj
      repeat (any_goals (first | assumption | wp_step))
      refine codeAny_mono (codeAny_call_builtin ft.init.plain entryI (ft.init.check _ _ _ _ _ _ _ _ hT hok (gi prog w A.in1 _ s₁ hsi))) fun r₂ s₂ hr₂ => ?_
      cases r₂ with
      | error e => exact hr₂
      | ok fl₂ =>
        cases fl₂ with
        | ret r =>
          obtain ⟨rfl, hq⟩ := hr₂
          repeat (any_goals (first | assumption | wp_step))
        | _ => exact hr₂.elim
    | _ => exact hr.elim
theorem object_init_meetsK {T newId : String} {self : Value} {rest : List Value} {kw : List (Str × Value)} (hl : typeLookup (.type T) "__init__" = pure (some (.builtin "object.__init__")))
    (hm : Bind.madeBy (.type T) = pure (some newId)) (hne : (some newId != some "object.__new__") = true) :
    Meets (Builtin.«object.__init__» ⟨self :: rest, kw⟩) (fun _ R s => s.TypeIs self T ∧ R (.ok (.ret .none)) s) := by
  refine Meets.of_wp fun prog w A R s hs => ?_
  obtain ⟨hT, hq⟩ := hs
  cases rest with
  | nil =>
    cases kw with
    | nil => exact wpAny_pure ⟨_, rfl, hq⟩
    | cons a kw =>
      repeat (any_goals (first | assumption | wp_step))
      exact ⟨_, rfl, hq⟩
  | cons a rest =>
    repeat (any_goals (first | assumption | wp_step))
    exact ⟨_, rfl, hq⟩
theorem typeCall_zipS (a b c : Value) : checkTypeCall "zip" ⟨[a, b], [(Str.ofString "strict", c)]⟩ = pure () := by kernel_rfl
theorem newCall_zipS (a b c : Value) : checkBuiltinCall "zip.__new__" ⟨[.type "zip", a, b], [(Str.ofString "strict", c)]⟩ = pure () := by kernel_rfl
theorem args_object_initS (obj a b c : Value) : argsOk "object.__init__" ⟨[obj, a, b], [(Str.ofString "strict", c)]⟩ := by unfold argsOk; kernel_rfl
theorem call_zipS {l1 l2 : Addr} {xs ys : Array Value} {Q : Value → Shared → Prop} (hl1 : s.heap.IsList l1 xs) (hl2 : s.heap.IsList l2 ys)
    (h : ∀ h', IsZipS h' (s.heap.objs.size + 4) (s.heap.objs.size + 2) (s.heap.objs.size + 3) .none → IsPair h' (s.heap.objs.size + 2) (.ref s.heap.objs.size) (.ref (s.heap.objs.size + 1)) →
      IsPair h' (s.heap.objs.size + 3) .none .none → h'.IsListIter s.heap.objs.size l1 0 → h'.IsListIter (s.heap.objs.size + 1) l2 0 → h'.objs.size = s.heap.objs.size + 5 →
      (∀ c o, s.heap.get? c = some o → h'.get? c = some o) → Q (.ref (s.heap.objs.size + 4)) { s with heap := h' }) :
    wpAny (model prog w) A (call (.type "zip") [.ref l1, .ref l2] [(Str.ofString "strict", .bool true)]) Q E s := by
  have z1 : (zipH1 s.heap l1).objs.size = s.heap.objs.size + 1 := Heap.size_push ..
  have z2 : (zipH2 s.heap l1 l2).objs.size = s.heap.objs.size + 2 := by rw [Heap.size_push, z1]
  have z3 : (zipH3 s.heap l1 l2).objs.size = s.heap.objs.size + 3 := by rw [Heap.size_push, z2]
  have z4 : (zipH4 s.heap l1 l2).objs.size = s.heap.objs.size + 4 := by rw [Heap.size_push, z3]
  have z5 : (zipS5 s.heap l1 l2).objs.size = s.heap.objs.size + 5 := by rw [Heap.size_push, z4]
  have g5 : (zipS5 s.heap l1 l2).get? (zipH4 s.heap l1 l2).objs.size = some _ := Heap.get?_push_size _ rfl
  have g4 : (zipS5 s.heap l1 l2).get? (zipH3 s.heap l1 l2).objs.size = some _ := Heap.get?_push_of_some _ (Heap.get?_push_size _ rfl)
  have g3 : (zipS5 s.heap l1 l2).get? (zipH2 s.heap l1 l2).objs.size = some _ := Heap.get?_push_of_some _ (Heap.get?_push_of_some _ (Heap.get?_push_size _ rfl))
  have g2 : (zipS5 s.heap l1 l2).get? (zipH1 s.heap l1).objs.size = some _ := Heap.get?_push_of_some _ (Heap.get?_push_of_some _ (Heap.get?_push_of_some _ (Heap.get?_push_size _ rfl)))
  have g1 : (zipS5 s.heap l1 l2).get? s.heap.objs.size = some _ := Heap.get?_push_of_some _ (Heap.get?_push_of_some _ (Heap.get?_push_of_some _ (Heap.get?_push_of_some _ (Heap.get?_push_size _ rfl))))
  rw [z2, z3, z4] at g5
  rw [z1, z2] at g3
  rw [z3] at g4
  rw [z1] at g2
  refine callType_meetsK (Q₁ := fun obj s₁ => s₁.TypeIs obj "zip" ∧ Q obj s₁) F.called_zip (typeCall_zipS _ _ _) (newCall_zipS _ _ _) F.entry_zip_new F.entry_object_init (meets_zipS_new l1 l2 xs ys) ⟨hl1, hl2, ?_⟩ fun obj _ hq => ⟨hq.1, args_object_initS obj _ _ _, _, object_init_meetsK F.called_zip.init.lookup F.called_zip.made (by decide), hq.1, rfl, hq.2⟩
  show _ ∧ _
  rw [z4]
  exact ⟨⟨_, g5, rfl⟩, h _ g5 g3 g4 ⟨_, g1, rfl, rfl⟩ ⟨_, g2, rfl, rfl⟩ z5 fun c o x =>
    Heap.get?_push_of_some _ (Heap.get?_push_of_some _ (Heap.get?_push_of_some _ (Heap.get?_push_of_some _ (Heap.get?_push_of_some _ x))))⟩
end
section
variable {M : Model} {A : Around} {E : Value → Shared → Prop} {s : Shared} {env : Env}
theorem callWith_type_kwB {pos : Pos} {id : String} {first : List Value} {args : List (Bool × Sem Value)} {keywords : List (Option Str × Sem Value)} {Q : Value → Shared → Prop}
    (hplain : args.any (·.1) = false) (hkw : keywords.any (·.1.isNone) = false)
    (h : wpAny M A (evalArgs (.type id) true args keywords) (fun a s₁ => wpAny M A (call (.type id) (first ++ a.pos) a.kw) Q E s₁) E s) :
    wpAny M A (callWith pos (.type id) first args keywords) Q E s := by
  unfold callWith
  refine wpAny_bind (wpAny_holding (wpAny_mono h (fun a s₁ h₁ => wpAny_bind (wpAny_standAt ?_)) fun _ _ x => x))
  simp only [hplain, hkw, Bool.or_false]
  refine wpAny_bind (wpAny_pure ?_)
  exact wpAny_bind (wpAny_mono h₁ (fun r s₂ hr => wpAny_bind (wpAny_holding (wpAny_point (wpAny_pure hr)))) fun _ _ x => x)
theorem callWith_tkw {pos : Pos} {id : String} {e : Expr} {rest : List Expr} {kws : List Keyword} {Q : Value → Shared → Prop}
    (h : wpAny M A (spliced (backTo pos (starEach (e :: rest) env))) (fun vs s₁ => wpAny M A (evalAll ((backToKw pos (keywordEach kws env)).map (·.2)))
      (fun kvs s₂ => wpAny M A (call (.type id) vs (((backToKw pos (keywordEach kws env)).filterMap (·.1)).zip kvs)) Q E s₂) E s₁) E s)
    (he : backTo pos (starEach (e :: rest) env) = (false, eval e env) :: backTo pos (starEach rest env) := by rfl)
    (hplain : (backTo pos (starEach (e :: rest) env)).any (·.1) = false := by rfl)
    (hall : (backToKw pos (keywordEach kws env)).all (·.1.isSome) = true := by rfl)
    (hkw : (backToKw pos (keywordEach kws env)).any (·.1.isNone) = false := by rfl) :
    wpAny M A (callWith pos (.type id) [] (backTo pos (starEach (e :: rest) env)) (backToKw pos (keywordEach kws env))) Q E s := by
  refine callWith_type_kwB hplain hkw ?_
  rw [he] at h ⊢
  exact PyProof.Rows.evalArgs_kwB hall h
end
end PySem
namespace DL
open PySem PySem.Spec PyProof.Rows L2
def ItzS (K : PySem.W.Frag) (a b : Addr) : It :=
  ⟨fun i H => ∃ (xs ys : List V) (x y : V), SqL K H a xs ∧ SqL K H b ys ∧ xs[i]? = some x ∧ ys[i]? = some y,
    fun i H v H' => ∃ T x y, v = .ref T ∧ H T = none ∧ H' = upd H T (.tup [x, y]) ∧ (∀ xs, SqL K H a xs → xs[i]? = some x) ∧ ∀ ys, SqL K H b ys → ys[i]? = some y,
    fun i H => ∃ xs ys : List V, SqL K H a xs ∧ SqL K H b ys ∧ xs.length ≤ i ∧ ys.length ≤ i⟩
theorem turn_zipS {P : Program} {w : World} {K : PySem.W.Frag} {elts : List Expr} {kk : Nat} {tpos : Pos} {a b z TI TO i1 i2 : Addr} (D : ZipApart z TI TO i1 i2 a b) :
    Turn P w K (.Tuple elts kk tpos) (ItzS K a b) [z, TI, TO, i1, i2] z (fun i h => IsZipS h z TI TO .none ∧ IsPair h TI (.ref i1) (.ref i2) ∧ (∃ x y, IsPair h TO x y) ∧ h.IsListIter i1 a i ∧ h.IsListIter i2 b i) where
  mem := by simp
  obj := fun i h st c hc => by
    obtain ⟨hz, hTI, ⟨x, y, hTO⟩, ⟨o1, e1, _, d1⟩, ⟨o2, e2, _, d2⟩⟩ := st
    have e' : c = z ∨ c = TI ∨ c = TO ∨ c = i1 ∨ c = i2 := by simpa using hc
    rcases e' with q | q | q | q | q
    · rw [q]; exact ⟨_, hz, fun v q => nomatch q⟩
    · rw [q]; exact ⟨_, hTI, fun v q => nomatch q⟩
    · rw [q]; exact ⟨_, hTO, fun v q => nomatch q⟩
    · rw [q]; exact ⟨o1, e1, fun v q => by rw [d1] at q; cases q⟩
    · rw [q]; exact ⟨o2, e2, fun v q => by rw [d2] at q; cases q⟩
  keep := fun i h h' st k => by
    obtain ⟨hz, hTI, ⟨x, y, hTO⟩, h1, h2⟩ := st
    exact ⟨k z (by simp) _ hz, k TI (by simp) _ hTI, ⟨x, y, k TO (by simp) _ hTO⟩, h1.at fun o q => k i1 (by simp) o q, h2.at fun o q => k i2 (by simp) o q⟩
  item := by
    intro X hP hw hK hc i pins s σ H E I hf st hg
    subst hP hw hK
    obtain ⟨hz, hTI, ⟨x0, y0, hTO⟩, h1, h2⟩ := st
    obtain ⟨xs, ys, x, y, hqx, hqy, hx, hy⟩ := hg
    obtain ⟨its, rv, p, _⟩ := I.list hqx
    obtain ⟨its2, rv2, p2, _⟩ := I.list hqy
    obtain ⟨u, hu, ru⟩ := rv.get hx
    obtain ⟨u2, hu2, ru2⟩ := rv2.get hy
    have hzl : z < s.heap.objs.size := Heap.lt_size hz
    refine pyNext_zipS_item D hz hTI hTO h1 h2 p.isList p2.isList (x := u) (y := u2) (by simpa using hu) (by simpa using hu2) fun h' z' TO' h1' h2' hT hsz hk => ?_
    refine ⟨_, rfl, letGo_zipS (s := { s with heap := h' }) z' fun h'' z'' sb => ?_⟩
    have hT2 : h''.get? s.heap.objs.size = some { cls := .type "tuple", data := .seq #[u, u2] } := (sb.2 _ (Nat.ne_of_gt hzl)).trans hT
    have new : ObjOk X.prog X.w (upd H s.heap.objs.size (.tup [x, y])) h'' s.heap.objs.size (.tup [x, y]) :=
      ⟨by show 2 ≤ sizeLine; decide, [u, u2], .cons ru (.cons ru2 .nil), ⟨_, hT2, rfl, _, rfl⟩⟩
    have I1 : Inv X pins σ (upd H s.heap.objs.size (.tup [x, y])) { s with heap := h'' } :=
      I.turnedNew (t' := s.toks) (ch := [z, TI, TO, i1, i2]) (fun c o hb q => (sb.2 c (fun q' => hb (by simp [q']))).trans (hk c o (fun q' => hb (by simp [q'])) (fun q' => hb (by simp [q'])) (fun q' => hb (by simp [q'])) (fun q' => hb (by simp [q'])) q)) hf (Nat.le_refl _) new
    refine ⟨.ref s.heap.objs.size, _, I1, rfl, ⟨_, x, y, rfl, I.hok.fresh (Nat.le_refl _), rfl, fun l hl => by rw [I.list_inj hl hqx]; exact hx, fun l hl => by rw [I.list_inj hl hqy]; exact hy⟩, ⟨z'', ?_, ⟨u, u2, ?_⟩, ?_, ?_⟩, fun c hcm => ?_⟩
    · exact (sb.2 _ D.TIz).trans (hk _ _ D.TIz D.TITO D.TIi1 D.TIi2 hTI)
    · exact (sb.2 _ D.TOz).trans TO'
    · exact h1'.at fun o q => (sb.2 _ D.i1z).trans q
    · exact h2'.at fun o q => (sb.2 _ D.i2z).trans q
    · have hlt : c < s.heap.objs.size := by
        have e' : c = z ∨ c = TI ∨ c = TO ∨ c = i1 ∨ c = i2 := by simpa using hcm
        rcases e' with q | q | q | q | q
        · rw [q]; exact hzl
        · rw [q]; exact Heap.lt_size hTI
        · rw [q]; exact Heap.lt_size hTO
        · rw [q]; obtain ⟨_, e1, _⟩ := h1; exact Heap.lt_size e1
        · rw [q]; obtain ⟨_, e2, _⟩ := h2; exact Heap.lt_size e2
      rw [upd_ne (Nat.ne_of_lt hlt)]
      exact (hf c hcm).1
  done := by
    intro X hP hw hK hc i pins s σ H E I hf st hg
    subst hP hw hK
    obtain ⟨hz, hTI, ⟨x0, y0, hTO⟩, h1, h2⟩ := st
    obtain ⟨xs, ys, hqx, hqy, e1, e2⟩ := hg
    obtain ⟨its, rv, p, _⟩ := I.list hqx
    obtain ⟨its2, rv2, p2, _⟩ := I.list hqy
    have l1 := rv.length
    have l2 := rv2.length
    exact pyNext_zipS_end (I.ok.hd hc) D hz hTI hTO h1 h2 p.isList p2.isList (by simp; omega) (by simp; omega) fun h' hk => ⟨rfl, I.turnedL (t' := s.toks) (ch := [z, TI, TO, i1, i2]) (fun c o hb q =>
      hk c o (fun q' => hb (by simp [q'])) (fun q' => hb (by simp [q'])) (fun q' => hb (by simp [q'])) (fun q' => hb (by simp [q'])) q) hf⟩
  self := fun A i s Q E st h => pyIter_zipS st.1 h
def iZipS (K : PySem.W.Frag) (ta : TA) : TI := fun σ H R => ta σ H fun vs H1 => ∃ a b xs ys, vs = [.ref a, .ref b] ∧ SqL K H1 a xs ∧ SqL K H1 b ys ∧ R (ItzS K a b) H1
theorem pi_zipS {X : Cx} {e e2 : Expr} {ta : TA} {p pos tpos kp cp : Pos} {elts : List Expr} {kk j : Nat} (hg : Gl X "zip") (hm : X.mg "zip" = none) (ha : PA X [e, e2] ta)
    (hs : backTo pos (starEach [e, e2] X.env) = (false, eval e X.env) :: backTo pos (starEach [e2] X.env) := by rfl) (hpl : (backTo pos (starEach [e, e2] X.env)).any (·.1) = false := by rfl) :
    PI X (.Tuple elts kk tpos) (.Call (.Name "zip" p) [e, e2] [⟨some (Str.ofString "strict"), .Constant (.bool true) j cp, kp⟩] pos) (iZipS X.K ta) := by
  refine ⟨fun pins s σ H R I h => ?_⟩
  refine wpAny_Call_Name_kw (ld_blt I hg hm PyProof.Rows.boot_zip ?_)
  refine callWith_tkw (thn (ha.run pos pins s σ H _ I h) fun us s1 ⟨vs, H1, I1, r1, q1⟩ => ?_) hs hpl rfl rfl
  refine thn ((pk_cons (nm := some (Str.ofString "strict")) (kpos := kp) (pe_bl (b := true) (j := j) (pos := cp)) pk_nil).run pos pins s1 σ H1 (fun zs H2 => zs = [.bl true] ∧ H2 = H1) I1 ⟨rfl, rfl⟩) fun ws s2 ⟨zs, H2, I2, r2, q2⟩ => ?_
  obtain ⟨rfl, rfl⟩ := q2
  obtain ⟨w1, rfl, e1⟩ := vals1 r2
  obtain rfl : w1 = Value.bool true := e1
  obtain ⟨a, b, xs, ys, ex, hqx, hqy, q⟩ := q1
  subst ex
  cases r1 with
  | cons r rr =>
    cases rr with
    | cons r' rr =>
      cases rr
      cases r
      cases r'
      obtain ⟨its, rv, p1, _⟩ := I2.list hqx
      obtain ⟨its2, rv2, p2, _⟩ := I2.list hqy
      have la : a < s2.heap.objs.size := p1.lt
      have lb : b < s2.heap.objs.size := p2.lt
      refine call_zipS p1.isList p2.isList fun h' hz hTI hTO h1 h2 hsz hk => pyIter_zipS hz ?_
      have I3 : Inv X pins σ H2 { s2 with heap := h' } := I2.kept (t' := s2.toks) hk
      refine ⟨s2.heap.objs.size + 4, [s2.heap.objs.size + 4, s2.heap.objs.size + 2, s2.heap.objs.size + 3, s2.heap.objs.size, s2.heap.objs.size + 1], _, _, H2, rfl, I3, turn_zipS (PySem.W.ktu_apart s2.heap.objs.size a b la lb), ⟨hz, hTI, ⟨_, _, hTO⟩, h1, h2⟩, fun c hcm => ?_, q⟩
      have e' : c = s2.heap.objs.size + 4 ∨ c = s2.heap.objs.size + 2 ∨ c = s2.heap.objs.size + 3 ∨ c = s2.heap.objs.size ∨ c = s2.heap.objs.size + 1 := by simpa using hcm
      have hle : s2.heap.objs.size ≤ c := by
        rcases e' with z | z | z | z | z
        · rw [z]; exact Nat.le_add_right _ _
        · rw [z]; exact Nat.le_add_right _ _
        · rw [z]; exact Nat.le_add_right _ _
        · rw [z]; exact Nat.le_refl _
        · rw [z]; exact Nat.le_add_right _ _
      exact I2.fpOk hle (I2.hok.fresh hle)
section
variable {K : PySem.W.Frag} {T : List (Addr × Str)} {X : Cx} {ga gb gc : WE} {a b c : Expr} {pos : Pos}
theorem walk_zipS {a b : Addr} {xs ys : List V} (hn : xs.length = ys.length) : Walk (ItzS K a b) xs.length (fun H => SqL K H a xs ∧ SqL K H b ys) (YPair (fun i => xs[i]?) (fun i => ys[i]?)) := by
  refine ⟨fun i _ hi q => ?_, fun _ q => ⟨xs, ys, q.1, q.2, by omega, by omega⟩, fun i H v H' _ q y => ?_⟩
  · have h2 : i < ys.length := by omega
    exact ⟨xs, ys, xs[i], ys[i], q.1, q.2, by simp [hi], by simp [h2]⟩
  · obtain ⟨T, x, z, h1, h2, h3, h4, h5⟩ := y
    exact ⟨T, x, z, h1, h2, h3, h4 xs q.1, h5 ys q.2⟩
def wIZS (r : WA) : WI := fun δ M P => r δ M fun ds M1 => ∃ xs ys, ds = [.py (.list xs), .py (.list ys)] ∧ xs.length = ys.length ∧ P ((zipP xs ys).map .py) (fun _ => True) M1
theorem di_zipS {elts : List Expr} {kk j : Nat} {tpos p kp cp : Pos} {r : WA} (hg : Gl X "zip") (hm : X.mg "zip" = none) (ha : PA X [a, b] (tDA X.K T r))
    (hs : backTo pos (starEach [a, b] X.env) = (false, eval a X.env) :: backTo pos (starEach [b] X.env) := by rfl) (hpl : (backTo pos (starEach [a, b] X.env)).any (·.1) = false := by rfl) :
    PI X (.Tuple elts kk tpos) (.Call (.Name "zip" p) [a, b] [⟨some (Str.ofString "strict"), .Constant (.bool true) j cp, kp⟩] pos) (tDI X.K T (wIZS r)) := PI_weak (pi_zipS hg hm ha hs hpl) fun σ H R ⟨S, M, δ, P, sp, re, g, k⟩ => ⟨S, M, δ, _, sp, re, g, fun ds M' vs S' H' ⟨xs, ys, hd, hl, p⟩ sp' po' r' => by
    subst hd
    obtain ⟨v, u, rfl, r1, r2⟩ := rpall2 r'
    cases (show Tr S' v (.list xs) from r1) with
    | @lst a1 v1 _ h1 t1 =>
      cases (show Tr S' u (.list ys) from r2) with
      | @lst a2 v2 _ h2 t2 =>
        refine ⟨a1, a2, v1, v2, rfl, SqL.of (sp'.ex _ _ h1), SqL.of (sp'.ex _ _ h2), k _ _ _ _ _ _ p sp' po' (dwalk_pair (n := v1.length) (by rw [zipP_len, t1.length]; omega) (walk_zipS (by rw [t1.length, t2.length]; exact hl)) (fun S M H e sp => ⟨SqL.of (sp.ex _ _ (e _ _ h1)), SqL.of (sp.ex _ _ (e _ _ h2))⟩) fun i d x y hd hx hy => ?_)⟩
        obtain ⟨u, w, g1, g2, rfl⟩ := zipP_get hd
        obtain ⟨x', e1, q1⟩ := t1.get g1
        obtain ⟨y', e2, q2⟩ := t2.get g2
        rw [e1] at hx
        rw [e2] at hy
        cases hx
        cases hy
        exact ⟨u, w, rfl, q1, q2⟩⟩
end
end DL
namespace PySem
open Sem (wp)
open PyProof.Rows
def preA (val : Nat → Array Value) : Nat → Array Value
  | 0 => #[]
  | n + 1 => preA val n ++ val n
theorem argsOk_sum_start (a v : Value) : argsOk "sum" ⟨[a], [(Str.ofString "start", v)]⟩ := by unfold argsOk; kernel_rfl
theorem sub_list_str : isSubtype (.type "list") (.type "str") = pure false := by rw [isSubtype_type]; kernel_rfl
theorem sub_list_bytes : isSubtype (.type "list") (.type "bytes") = pure false := by rw [isSubtype_type]; kernel_rfl
theorem sub_list_bytearray : isSubtype (.type "list") (.type "bytearray") = pure false := by rw [isSubtype_type]; kernel_rfl
section
variable {prog : Program} {w : World} {A : Around} {R : Result → Shared → Prop} {I : Addr} {fp wr : List Addr} {G : Array GenState → Array GenState → Prop} {n : Nat} {P : Nat → Value → Prop} {St : Nat → Shared → Prop}
theorem codeAny_sum_lists (W : WalksS prog w A.in1 I fp wr G n P St) (val : Nat → Array Value) (h0 : Heap) (hval : ∀ i v, P i v → ∃ a c, v = .ref a ∧ h0.get? a = some { cls := .type "list", dict := none, data := .seq (val i) c, slots := #[] }) (S : Addr) (hSf : S ∉ fp) (hS0 : h0.get? S = none) (hw0 : ∀ b ∈ wr, h0.get? b = none)
    (hb : ∀ i, i ≤ n → (preA val i).size ≤ sizeLine) (T0 : Addr) (c0 : Nat) (hc0 : c0 ≤ S) (hwS : ∀ b ∈ wr, b < S) :
    ∀ (k i : Nat) (s : Shared) (t c ct : Nat), n - i = k → i ≤ n → St i s → s.heap.get? S = some { cls := .type "list", dict := none, data := .seq #[.ref t] c, slots := #[] } →
    (∀ b o, h0.get? b = some o → s.heap.get? b = some o) → s.heap.get? t = some { cls := .type "list", dict := none, data := .seq (preA val i) ct, slots := #[] } → t ≠ S → t ∉ wr → (t = T0 ∧ i = 0 ∨ c0 ≤ t) →
    (∀ s' t' ct', Moved (S :: wr) G s s' → (∀ b o, h0.get? b = some o → s'.heap.get? b = some o) → s'.heap.get? t' = some { cls := .type "list", dict := none, data := .seq (preA val n) ct', slots := #[] } → (t' = T0 ∧ n = 0 ∨ c0 ≤ t') → R (.ok (.ret (.ref t'))) s') → codeAny (model prog w) A (.builtin "sum.loop" ⟨[.ref I, .ref S, rawInt 2, rawInt 0], []⟩) R s := by
  have hSw : S ∉ wr := fun h => hSf (W.sub _ h)
  have hsub : ∀ b ∈ wr, b ∈ S :: wr := fun b hb => List.mem_cons_of_mem _ hb
  intro k
  induction k with
  | zero =>
    intro i s t c ct hk hi hst hS hkp ht htS htw hor hR
    have hin : i = n := by omega
    subst hin
    refine codeAny_builtin F.entry_sum_loop ?_
    rw [Around.under_plainId F.plain_sum_loop _]
    show wpAny _ A.in1 (seqItems? (.ref S) >>= _) _ _ s
    refine wpAny_bind (wpAny_seqItems hS rfl ?_)
    show wpAny _ A.in1 (tryCatch (pyNext (.ref I)) _ >>= _) _ _ s
    refine wpAny_bind (wpAny_tryCatch (W.done s _ _ hst fun s' hm => ?_))
    refine wpAny_pure (hR s' t ct (hm.mono hsub) (fun b o e => hm.heap b o (fun z => by rw [hw0 b z] at e; cases e) (hkp b o e)) (hm.heap t _ htw ht) hor)
  | succ k ih =>
    intro i s t c ct hk hi hst hS hkp ht htS htw hor hR
    have hlt : i < n := by omega
    refine codeAny_builtin F.entry_sum_loop ?_
    rw [Around.under_plainId F.plain_sum_loop _]
    show wpAny _ A.in1 (seqItems? (.ref S) >>= _) _ _ s
    refine wpAny_bind (wpAny_seqItems hS rfl ?_)
    show wpAny _ A.in1 (tryCatch (pyNext (.ref I)) _ >>= _) _ _ s
    refine wpAny_bind (wpAny_tryCatch (W.item i s _ _ hlt hst fun v s' hP hst' hm => ?_))
    obtain ⟨a, ca, rfl, ha⟩ := hval i v hP
    have hS' := hm.heap S _ hSw hS
    have kp' : ∀ b o, h0.get? b = some o → s'.heap.get? b = some o := fun b o e => hm.heap b o (fun z => by rw [hw0 b z] at e; cases e) (hkp b o e)
    have ha' := kp' a _ ha
    have ht' := hm.heap t _ htw ht
    show wpAny _ A.in1 ((holding [Value.ref a] (binaryOp .Add (.ref t) (.ref a))).attempt >>= _) _ _ _
    refine wpAny_bind (wpAny_attempt (wpAny_holding (PySem.P.add_list ht' ha' ?_ ?_)))
    · have hszS : S < s'.heap.objs.size := Heap.lt_size hS'
      have hS1 : (s'.heap.push { cls := .type "list", data := .seq (preA val i ++ val i) }).get? S = some { cls := .type "list", dict := none, data := .seq #[.ref t] c, slots := #[] } := Heap.get?_push_of_some _ hS'
      show wpAny _ A.in1 (updateSeq S (fun _ => #[.ref s'.heap.objs.size]) >>= _) _ _ _
      refine wpAny_bind (wpAny_updateSeq hS1 rfl ?_)
      have hS₂ := Heap.get?_update_self (Obj.mapSeq fun _ => #[Value.ref s'.heap.objs.size]) hS1 rfl
      refine wpAny_bind (wpAny_letGo ?_)
      have wne : s'.heap.objs.size ∉ wr := fun z => Nat.lt_irrefl _ (Nat.lt_trans hszS (hwS _ z))
      · refine wpAny_bind (wpAny_updateSeq hS₂ rfl (wpAny_pure ⟨plainId_quiet F.plain_sum_loop _, ih (i + 1) _ s'.heap.objs.size _ 0 (by omega) hlt (W.frame _ s' _ _ hst' (by first | exact Nat.le_refl _ | exact Nat.le_succ _ | omega) fun b hb o e => ?_) (Heap.get?_update_self _ hS₂ rfl) (fun b o e => ?_) ?_ (Nat.ne_of_gt hszS) wne ?_ fun s'' t'' c'' hm'' k1 k2 k3 => ?_⟩))
        · exact (Heap.get?_update_other _ _ (fun h : S = b => hSf (by rw [h]; exact hb))).trans ((Heap.get?_update_other _ _ (fun h : S = b => hSf (by rw [h]; exact hb))).trans (Heap.get?_push_of_some _ e))
        · have hb : S ≠ b := fun z => by
            rw [← z, hS0] at e
            cases e
          exact (Heap.get?_update_other _ _ hb).trans ((Heap.get?_update_other _ _ hb).trans (Heap.get?_push_of_some _ (kp' b o e)))
        · have hb : S ≠ s'.heap.objs.size := Nat.ne_of_lt hszS
          exact (Heap.get?_update_other _ _ hb).trans ((Heap.get?_update_other _ _ hb).trans (Heap.get?_push_size _ rfl))
        · exact .inr (Nat.le_of_lt (Nat.lt_of_le_of_lt hc0 hszS))
        · refine hR s'' t'' c'' (Moved.trans W.gtrans ((hm.mono hsub).then_heap (by first | exact Nat.le_refl _ | exact Nat.le_succ _ | omega) fun b o hb e => ?_) hm'') k1 k2 k3
          exact (Heap.get?_update_other _ _ (fun h : S = b => hb (by rw [h]; exact List.mem_cons_self))).trans ((Heap.get?_update_other _ _ (fun h : S = b => hb (by rw [h]; exact List.mem_cons_self))).trans (Heap.get?_push_of_some _ e))
    · have := hb (i + 1) hlt
      unfold preA at this
      rw [Array.size_append] at this
      exact this
end
section
variable {prog : Program} {w : World} {A : Around} {E : Value → Shared → Prop} {s : Shared}
theorem call_sum_lists {l st : Addr} {c : Nat} {vs : Array Value} {val : Nat → Array Value} {Q : Value → Shared → Prop} (hh : A.handled = none) (hl : s.heap.IsList l vs) (hst : s.heap.get? st = some { cls := .type "list", dict := none, data := .seq #[] c, slots := #[] })
    (hv : ∀ i v, vs[i]? = some v → ∃ a n, v = .ref a ∧ s.heap.get? a = some { cls := .type "list", dict := none, data := .seq (val i) n, slots := #[] }) (hb : ∀ i, i ≤ vs.size → (preA val i).size ≤ sizeLine)
    (h : ∀ h' tk r c', (∀ b o, s.heap.get? b = some o → h'.get? b = some o) → (r = st ∧ vs.size = 0 ∨ s.heap.objs.size ≤ r) → h'.get? r = some { cls := .type "list", dict := none, data := .seq (preA val vs.size) c', slots := #[] } → Q (.ref r) { s with heap := h', toks := tk }) :
    wpAny (model prog w) A (call (.builtin "sum") [.ref l] [(Str.ofString "start", .ref st)]) Q E s := by
  have hT : s.TypeIs (.ref st) "list" := ⟨_, hst, rfl⟩
  refine PyProof.Rows.kmk_tree F.kind_sum F.plain_sum F.entry_sum (argsOk_sum_start _ _) ?_
  unfold Builtin.«sum»
  simp only [List.length_cons, List.length_nil]
  rw [if_neg (by decide)]
  refine wpAny_bind (wpAny_of_eq (show Builtin.Builtins.bindParams "sum" ["start"] 0 ⟨[], [(Str.ofString "start", .ref st)]⟩ = pure [some (.ref st)] from rfl) ?_)
  refine wpAny_bind (PySem.W.iter_listW (A := A.in1) hh hl fun s₂ e W hst2 hfp hw hk => ?_)
  have hT2 : s₂.TypeIs (.ref st) "list" := ⟨_, hk _ _ hst, rfl⟩
  refine wpAny_bind (wpAny_pure ?_)
  simp only [List.forIn_cons, List.forIn_nil]
  refine wpAny_bind (wpAny_bind (wpAny_bind (wpAny_isInstance (T := "list") (b := false) hT2 sub_list_str ?_)))
  simp only [Bool.false_eq_true, if_false]
  refine wpAny_pure (wpAny_bind (wpAny_bind (wpAny_isInstance (T := "list") (b := false) hT2 sub_list_bytes ?_)))
  simp only [Bool.false_eq_true, if_false]
  refine wpAny_pure (wpAny_bind (wpAny_bind (wpAny_isInstance (T := "list") (b := false) hT2 sub_list_bytearray ?_)))
  simp only [Bool.false_eq_true, if_false]
  refine wpAny_pure (wpAny_pure ?_)
  refine wpAny_bind (wpAny_newObj_type ?_)
  have hSf : s₂.heap.objs.size ∉ [s.heap.objs.size, l] := fun hm => Nat.lt_irrefl _ (hfp _ hm)
  have hsz : s₂.heap.objs.size = s.heap.objs.size + 1 := by rw [e]; exact Heap.size_push ..
  have hS0 : s.heap.get? s₂.heap.objs.size = none := Heap.get?_none_of_le (by omega)
  refine wpAny_pure ⟨plainId_quiet F.plain_sum_loop _, codeAny_sum_lists W val s.heap (fun i v hiv => hv i v hiv) s₂.heap.objs.size hSf hS0 (fun b hb => by
      cases q : s.heap.get? b with
      | none => rfl
      | some o => exact absurd hb (hw b o q)) hb st s.heap.objs.size (by omega) (fun b hb => by
        rw [List.mem_singleton.mp hb]
        show s.heap.objs.size < s₂.heap.objs.size
        rw [hsz]
        exact Nat.lt_succ_self _) vs.size 0 _ st 0 c rfl (Nat.zero_le _)
    (W.frame 0 s₂ _ s₂.toks hst2 (Nat.le_refl _) fun b _ o e => Heap.get?_push_of_some _ e) (Heap.get?_push_size _ rfl) (fun b o e => Heap.get?_push_of_some _ (hk b o e)) (Heap.get?_push_of_some _ (hk _ _ hst)) (fun z => by rw [← z, hst] at hS0; cases hS0) (hw st _ hst) (.inl ⟨rfl, rfl⟩) fun s' t' ct' hm k1 k2 k3 => ?_⟩
  obtain ⟨h', tk, rfl, _⟩ := PySem.W.moved_old e rfl (Moved.drop_new (tk := s₂.toks) hm (Nat.le_refl _))
  exact h h' tk t' ct' k1 k3 k2
end
end PySem
namespace DL
open PySem PySem.Spec PyProof.Rows L2
/-! ### calls of built-in functions with keywords, over data -/
def CallKD (K : PySem.W.Frag) (T : List (Addr × Str)) (r : List V → List V → Hp → VK → Prop) (f : List Dat → WF) : Prop :=
  ∀ S M H vs zs ds es P Q, Split K T S M H → RpAll K S vs ds → RpAll K S zs es → f ds es M P → Kont K T P S M H Q → r vs zs H Q
def wCBK (f : List Dat → WF) (r rk : WA) : WE := fun δ M P => r δ M fun ds M1 => rk δ M1 fun es M2 => f ds es M2 P
section
variable {K : PySem.W.Frag} {T : List (Addr × Str)} {X : Cx} {ga gb gc : WE} {a b c : Expr} {pos : Pos}
theorem PK_weak {ks : List Keyword} {t t' : TA} (h : PK X ks t) (w : ∀ σ H Q, t' σ H Q → t σ H Q) : PK X ks t' := ⟨fun pos pins s σ H Q I q => h.run pos pins s σ H Q I (w σ H Q q)⟩
theorem dk_one {nm : Option Str} {kpos : Pos} {e : Expr} (h : PE X e (tD K T ga)) : PK X [⟨nm, e, kpos⟩] (tDA K T (wCons ga wNil)) :=
  PK_weak (pk_cons h pk_nil) fun σ H Q ⟨S, M, δ, P, sp, re, g, k⟩ => ⟨S, M, δ, _, sp, re, g, fun d M1 v S1 H1 g1 sp1 po1 r1 => k _ _ _ _ _ g1 sp1 po1 (.cons r1 .nil)⟩
theorem pd_callBK {x : Str} {p : Pos} {e : Expr} {es : List Expr} {id : String} {kws : List Keyword} {ks : List Str} {r : List V → List V → Hp → VK → Prop} {f : List Dat → WF} {ra rk : WA} (hc : CallRK X (.builtin id) ks r) (hf : CallKD K T r f) (hg : Gl X x) (hm : X.mg x = none) (hv : bootBuiltins x = some (.builtin id)) (ha : PA X (e :: es) (tDA K T ra)) (hk : PK X kws (tDA K T rk)) (hn : x ≠ "__name__" := by decide) (hdb : (x == ("__debug__" : Str)) = false := by decide)
    (he : backTo pos (starEach (e :: es) X.env) = (false, eval e X.env) :: backTo pos (starEach es X.env) := by rfl) (hpl : (backTo pos (starEach (e :: es) X.env)).any (·.1) = false := by rfl)
    (hall : (backToKw pos (keywordEach kws X.env)).all (·.1.isSome) = true := by rfl) (hnone : (backToKw pos (keywordEach kws X.env)).any (·.1.isNone) = false := by rfl) (hks : (backToKw pos (keywordEach kws X.env)).filterMap (·.1) = ks := by rfl) :
    PE X (.Call (.Name x p) (e :: es) kws pos) (tD K T (wCBK f ra rk)) :=
  PE_weak (pe_callBK hc hg hm hv ha hk hn hdb he hpl hall hnone hks) fun σ H Q ⟨S, M, δ, P, sp, re, g, k⟩ =>
    ⟨S, M, δ, _, sp, re, g, fun ds M1 vs S1 H1 g1 sp1 po1 r1 => ⟨S1, M1, δ, _, sp1, re.mono po1.st, g1, fun es M2 zs S2 H2 g2 sp2 po2 r2 =>
      hf S2 M2 H2 vs zs ds es P Q sp2 (RpAll.mono po2.st r1) r2 g2 (Kont.after k (po1.trans sp1 po2) sp2)⟩⟩

/-! ### sum(lists, start=[]) -/
def rSumL (K : PySem.W.Frag) : List V → List V → Hp → VK → Prop := fun vs zs H Q => ∃ (a b : Addr) (as : List Addr) (xss : List (List V)), vs = [.ref a] ∧ zs = [.ref b] ∧ SqL K H a (as.map .ref) ∧ H b = some (.lst []) ∧ Paired (fun a xs => H a = some (.lst xs)) as xss ∧ xss.flatten.length ≤ sizeLine ∧
  (xss = [] → Q (.ref b) H) ∧ ∀ q, H q = none → Q (.ref q) (upd H q (.lst xss.flatten))
theorem refs_of : ∀ {as : List Addr} {us : List Value}, Vals (as.map V.ref) us → us = as.map Value.ref
  | [], _, r => by cases r; rfl
  | a :: as, _, r => by
    cases r with
    | cons h t =>
      rw [refs_of t]
      cases h
      rfl
theorem preA_flat {val : Nat → Array Value} {xss : List (List V)} (h : ∀ i xs, xss[i]? = some xs → Vals xs (val i).toList) : ∀ n, n ≤ xss.length → Vals (xss.take n).flatten (preA val n).toList
  | 0, _ => by
    rw [List.take_zero]
    exact .nil
  | n + 1, hn => by
    have hlt : n < xss.length := hn
    have ih := preA_flat h n (Nat.le_of_lt hlt)
    rw [List.take_succ_eq_append_getElem hlt, List.flatten_append]
    show Vals _ (preA val n ++ val n).toList
    rw [Array.toList_append]
    refine ih.append ?_
    rw [List.flatten_cons, List.flatten_nil, List.append_nil]
    exact h n _ (by simp [hlt])
theorem paired_at {α β : Type} {F : α → β → Prop} : ∀ {l : List α} {m : List β} {i : Nat} {x : α} {y : β}, Paired F l m → l[i]? = some x → m[i]? = some y → F x y
  | _, _, 0, _, _, .cons h _, e, e' => by simp at e e'; subst e e'; exact h
  | _, _, i + 1, _, _, .cons _ t, e, e' => paired_at (i := i) t (by simpa using e) (by simpa using e')
  | _, _, _, _, _, .nil, e, _ => by simp at e
theorem cr_sumL (hc : X.calm = true) : CallRK X (.builtin "sum") [Str.ofString "start"] (rSumL X.K) := by
  intro pins s σ H vs zs us ws Q I r rz h
  obtain ⟨a, b, as, xss, rfl, rfl, hs, hb, hp, hz, q0, q1⟩ := h
  obtain rfl := Vals.ref1 r
  obtain rfl := Vals.ref1 rz
  obtain ⟨its, rv, hl, hz0⟩ := I.list hs
  have ei := refs_of rv
  subst ei
  obtain ⟨zb, itb, nb, rb, hlb, eb⟩ := I.lstM hb
  cases rb
  have inner : ∀ i x xs, as[i]? = some x → xss[i]? = some xs → ∃ jts n, Vals xs jts ∧ s.heap.get? x = some { cls := .type "list", data := .seq jts.toArray n } := fun i x xs h1 h2 => by
    have hx : H x = some (.lst xs) := paired_at (F := fun a xs => H a = some (HO.lst xs)) hp h1 h2
    obtain ⟨_, jts, n, rj, _, ej⟩ := I.lstM hx
    exact ⟨jts, n, rj, ej⟩
  let val : Nat → Array Value := fun i => match as[i]? with
    | none => #[]
    | some x => match s.heap.get? x with
      | some { data := .seq jts _, .. } => jts
      | _ => #[]
  have hlen : as.length = xss.length := Paired.length hp
  have hval : ∀ i xs, xss[i]? = some xs → Vals xs (val i).toList := fun i xs h2 => by
    have hi : i < as.length := by rw [hlen]; exact (List.getElem?_eq_some_iff.mp h2).1
    have h1 : as[i]? = some as[i] := by simp [hi]
    obtain ⟨jts, n, rj, ej⟩ := inner i _ xs h1 h2
    have e : val i = jts.toArray := by
      show (match as[i]? with
        | none => #[]
        | some x => match s.heap.get? x with
          | some { data := .seq jts _, .. } => jts
          | _ => #[]) = _
      rw [h1]
      show (match s.heap.get? as[i] with
          | some { data := .seq jts _, .. } => jts
          | _ => #[]) = _
      rw [ej]
    rw [e]
    exact rj
  have hsz : ∀ i, i ≤ xss.length → (preA val i).size ≤ sizeLine := fun i hi => by
    have h1 := (preA_flat hval i hi).length
    have h2 : (xss.take i).flatten.length ≤ xss.flatten.length := by
      conv => rhs; rw [← List.take_append_drop i xss]
      rw [List.flatten_append, List.length_append]
      omega
    have h3 : (preA val i).toList.length = (preA val i).size := Array.length_toList
    omega
  have hsize : (as.map Value.ref).toArray.size = xss.length := by simp [hlen]
  refine call_sum_lists (val := val) (I.ok.hd hc) hl.isList eb (fun i v hv => ?_) (by rw [hsize]; exact hsz) fun h' tk r' c' hk hr hr2 => ?_
  · have hv : (as[i]?).map Value.ref = some v := by simpa using hv
    obtain ⟨x, h1, rfl⟩ := Option.map_eq_some_iff.mp hv
    have hi : i < xss.length := by rw [← hlen]; exact (List.getElem?_eq_some_iff.mp h1).1
    obtain ⟨jts, n, rj, ej⟩ := inner i x _ h1 (by simp [hi] : xss[i]? = some xss[i])
    refine ⟨x, n, rfl, ?_⟩
    have e : val i = jts.toArray := by
      show (match as[i]? with
        | none => #[]
        | some x => match s.heap.get? x with
          | some { data := .seq jts _, .. } => jts
          | _ => #[]) = _
      rw [h1]
      show (match s.heap.get? x with
          | some { data := .seq jts _, .. } => jts
          | _ => #[]) = _
      rw [ej]
    rw [e]
    exact ej
  · rw [hsize] at hr hr2
    rcases hr with ⟨rfl, hn⟩ | hr
    · have e0 : xss = [] := List.eq_nil_of_length_eq_zero hn
      exact ⟨.ref r', H, I.kept hk, rfl, q0 e0⟩
    · have hv := preA_flat hval xss.length (Nat.le_refl _)
      rw [List.take_length] at hv
      refine ⟨.ref r', upd H r' (.lst xss.flatten), I.laid (t' := tk) hk hr ⟨hz, _, c', hv, by rw [Array.toArray_toList]; exact hr2⟩, rfl, q1 r' (I.hok.fresh hr)⟩
def fSumL : List Dat → WF := fun ds es M P => ∃ (d : Dat) (dss : List (List PyData)), ds = [d] ∧ es = [.py (.list [])] ∧ AsL M d (dss.map .list) ∧ dss.flatten.length ≤ sizeLine ∧ P (.py (.list dss.flatten)) M
theorem trall_lists {S H : Hp} (e : Same S H) : ∀ {dss : List (List PyData)} {vs : List V}, TrAll S vs (dss.map .list) → ∃ as xss, vs = as.map V.ref ∧ Paired (fun a xs => H a = some (.lst xs)) as xss ∧ TrAll S xss.flatten dss.flatten ∧ (dss = [] → xss = []) ∧ xss.length = dss.length
  | [], _, t => by
    cases t
    exact ⟨[], [], rfl, .nil, .nil, fun _ => rfl, rfl⟩
  | d :: r, _, t => by
    cases t with
    | cons h t =>
      obtain ⟨as, xss, h1, h2, h3, _, h4⟩ := trall_lists e t
      cases h with
      | @lst a xs _ h t' => exact ⟨a :: as, xs :: xss, by rw [h1]; rfl, .cons (e _ _ h) h2, by rw [List.flatten_cons, List.flatten_cons]; exact t'.append h3, (fun z => by cases z), by rw [List.length_cons, List.length_cons, h4]⟩
theorem cd_sumL : CallKD K T (rSumL K) fSumL := fun S M H vs zs ds es P Q sp r0 rz ⟨d, dss, hd, he, hx, hl, p⟩ k => by
  subst hd he
  obtain ⟨v, rfl, r⟩ := rpall1 r0
  obtain ⟨u, rfl, ru⟩ := rpall1 rz
  obtain ⟨a, vs, rfl, ha, t⟩ := AsL.sq sp r hx
  cases (show Tr S u (.list []) from ru) with
  | @lst b _ _ hb tb =>
    cases tb
    obtain ⟨as, xss, h1, h2, h3, h4, h5⟩ := trall_lists sp.ex t
    subst h1
    refine ⟨a, b, as, xss, rfl, rfl, SqL.of ha, sp.ex _ _ hb, h2, by rw [h3.length]; exact hl, fun e0 => ?_, fun q hq => Kont.newS k sp hq p (.lst upd_same (h3.mono (same_new (sp.free hq).1)))⟩
    refine Kont.same k sp p ?_
    have : dss = [] := List.eq_nil_of_length_eq_zero (by rw [← h5, e0]; rfl)
    subst this
    exact .lst hb .nil
theorem d_sumL {p kpos : Pos} (hc : X.calm = true) (hg : Gl X "sum") (hm : X.mg "sum" = none) (ha : PE X a (tD X.K T ga)) (hk : PE X b (tD X.K T gb)) (hs : starEach [a] X.env = [(false, eval a X.env)] := by rfl)
    (he : backTo pos (starEach [a] X.env) = (false, eval a X.env) :: backTo pos (starEach [] X.env) := by rfl) (hpl : (backTo pos (starEach [a] X.env)).any (·.1) = false := by rfl)
    (hall : (backToKw pos (keywordEach [⟨some (Str.ofString "start"), b, kpos⟩] X.env)).all (·.1.isSome) = true := by rfl) (hnone : (backToKw pos (keywordEach [⟨some (Str.ofString "start"), b, kpos⟩] X.env)).any (·.1.isNone) = false := by rfl) (hks : (backToKw pos (keywordEach [⟨some (Str.ofString "start"), b, kpos⟩] X.env)).filterMap (·.1) = [Str.ofString "start"] := by rfl) :
    PE X (.Call (.Name "sum" p) [a] [⟨some (Str.ofString "start"), b, kpos⟩] pos) (tD X.K T (wCBK fSumL (wCons ga wNil) (wCons gb wNil))) :=
  pd_callBK (cr_sumL hc) cd_sumL hg hm (by decide +kernel) (da_cons ha da_nil hs) (dk_one hk) (he := he) (hpl := hpl) (hall := hall) (hnone := hnone) (hks := hks)

/-! ### max(ints, default=i) -/
def rMaxD (K : PySem.W.Frag) : List V → List V → Hp → VK → Prop := fun vs zs H Q => ∃ (a : Addr) (ns : List Int) (d : Int), vs = [.ref a] ∧ zs = [.int d] ∧ SqL K H a (ns.map .int) ∧ (ns = [] → Q (.int d) H) ∧ ∀ m, m ∈ ns → (∀ y, y ∈ ns → y ≤ m) → Q (.int m) H
theorem foldl_max_mem : ∀ (ns : List Int) (n : Int), (ns.foldl max n = n ∨ ns.foldl max n ∈ ns) ∧ n ≤ ns.foldl max n ∧ ∀ y ∈ ns, y ≤ ns.foldl max n
  | [], n => ⟨.inl rfl, Int.le_refl _, fun y h => by cases h⟩
  | m :: r, n => by
    obtain ⟨h1, h2, h3⟩ := foldl_max_mem r (max n m)
    rw [List.foldl_cons]
    refine ⟨?_, by omega, fun y hy => ?_⟩
    · rcases h1 with h1 | h1
      · rw [h1]
        by_cases h : n ≤ m
        · right
          rw [show max n m = m by omega]
          exact List.mem_cons_self
        · left
          omega
      · exact .inr (List.mem_cons_of_mem _ h1)
    · rcases List.mem_cons.mp hy with rfl | hy
      · omega
      · exact h3 y hy
theorem ints_reads {h : Heap} : ∀ {ns : List Int} {us : List Value}, Vals (ns.map V.int) us → ReadsAll h us (ns.map .int) []
  | [], _, r => by cases r; exact .nil
  | n :: r, _, v => by
    cases v with
    | cons h1 t =>
      obtain ⟨tk, rfl⟩ := h1
      exact .cons (as := []) (.int n tk) (ints_reads t)
theorem depth_ints : ∀ ns : List Int, PyData.depthAll (ns.map .int) = 0
  | [] => by simp [PyData.depthAll]
  | n :: r => by simp [PyData.depthAll, PyData.depth, depth_ints r]
theorem alike_all_ints (ns : List Int) : PySem.W.AlikeAll (ns.map .int) := by
  refine ⟨fun x hx y hy => ?_, fun x hx => ?_⟩
  · obtain ⟨i, _, rfl⟩ := List.mem_map.mp hx
    obtain ⟨j, _, rfl⟩ := List.mem_map.mp hy
    simp [PySem.W.alike]
  · obtain ⟨i, _, rfl⟩ := List.mem_map.mp hx
    intro z
    cases z
theorem cr_maxD (hc : X.calm = true) (hu : X.A.units + 1 < cLine) : CallRK X (.builtin "max") [Str.ofString "default"] (rMaxD X.K) := by
  intro pins s σ H vs zs us ws Q I r rz h
  obtain ⟨a, ns, d, rfl, rfl, hs, q0, q1⟩ := h
  obtain rfl := Vals.ref1 r
  obtain ⟨u, rfl, ⟨td, rfl⟩⟩ := vals1 rz
  obtain ⟨its, rv, hl, _⟩ := I.list hs
  refine PySem.W.max_list_default (xs := ns.map .int) (as := []) (I.ok.hd hc) hl.isList (by simpa using ints_reads rv) (alike_all_ints ns) (by rw [depth_ints]; exact hu) (fun e h' tk hk => ?_) fun y ys i v h' tk bs e hv hr hk => ?_
  · have e : ns = [] := by
      cases ns with
      | nil => rfl
      | cons _ _ => cases e
    exact ⟨.int d, H, I.kept hk, ⟨_, rfl⟩, q0 e⟩
  · cases ns with
    | nil => cases e
    | cons n r =>
      cases e
      rw [PySem.W.maxD_ints] at hr
      cases hr
      obtain ⟨h1, h2, h3⟩ := foldl_max_mem r n
      refine ⟨.int _, H, I.kept hk, ⟨_, rfl⟩, q1 _ ?_ fun y hy => ?_⟩
      · rcases h1 with h1 | h1
        · rw [h1]; exact List.mem_cons_self
        · exact List.mem_cons_of_mem _ h1
      · rcases List.mem_cons.mp hy with rfl | hy
        · exact h2
        · exact h3 y hy
def fMaxD : List Dat → WF := fun ds es M P => ∃ (d : Dat) (ns : List Int) (i : Int), ds = [d] ∧ es = [.py (.int i)] ∧ AsL M d (ns.map .int) ∧ (ns = [] → P (.py (.int i)) M) ∧ ∀ m, m ∈ ns → (∀ y, y ∈ ns → y ≤ m) → P (.py (.int m)) M
theorem cd_maxD : CallKD K T (rMaxD K) fMaxD := fun S M H vs zs ds es P Q sp r0 rz ⟨d, ns, i, hd, he, hx, p0, p1⟩ k => by
  subst hd he
  obtain ⟨v, rfl, r⟩ := rpall1 r0
  obtain ⟨u, rfl, ru⟩ := rpall1 rz
  cases (show Tr S u (.int i) from ru)
  obtain ⟨a, vs, rfl, ha, t⟩ := AsL.sq sp r hx
  have e := TrAll.to_ints t
  subst e
  exact ⟨a, ns, i, rfl, rfl, SqL.of ha, fun e0 => Kont.same k sp (p0 e0) (.int _), fun m h1 h2 => Kont.same k sp (p1 m h1 h2) (.int _)⟩
theorem d_maxD {p kpos : Pos} (hu : X.A.units + 1 < cLine) (hc : X.calm = true) (hg : Gl X "max") (hm : X.mg "max" = none) (ha : PE X a (tD X.K T ga)) (hk : PE X b (tD X.K T gb)) (hs : starEach [a] X.env = [(false, eval a X.env)] := by rfl)
    (he : backTo pos (starEach [a] X.env) = (false, eval a X.env) :: backTo pos (starEach [] X.env) := by rfl) (hpl : (backTo pos (starEach [a] X.env)).any (·.1) = false := by rfl)
    (hall : (backToKw pos (keywordEach [⟨some (Str.ofString "default"), b, kpos⟩] X.env)).all (·.1.isSome) = true := by rfl) (hnone : (backToKw pos (keywordEach [⟨some (Str.ofString "default"), b, kpos⟩] X.env)).any (·.1.isNone) = false := by rfl) (hks : (backToKw pos (keywordEach [⟨some (Str.ofString "default"), b, kpos⟩] X.env)).filterMap (·.1) = [Str.ofString "default"] := by rfl) :
    PE X (.Call (.Name "max" p) [a] [⟨some (Str.ofString "default"), b, kpos⟩] pos) (tD X.K T (wCBK fMaxD (wCons ga wNil) (wCons gb wNil))) :=
  pd_callBK (cr_maxD hc hu) cd_maxD hg hm (by decide +kernel) (da_cons ha da_nil hs) (dk_one hk) (he := he) (hpl := hpl) (hall := hall) (hnone := hnone) (hks := hks)

/-! ### sorted(pairs, reverse=True) -/
def rSortedPOR (K : PySem.W.Frag) : List V → List V → Hp → VK → Prop := fun vs zs H Q => ∃ (a : Addr) (xs : List V) (k : V → Int × Int), vs = [V.ref a] ∧ zs = [.bl true] ∧ SqL K H a xs ∧ (∀ x ∈ xs, ∃ t, x = V.ref t ∧ H t = some (.tup [.int (k x).1, .int (k x).2])) ∧
  ∀ ys p, SrtO.Srtd (ltP k) ys → ys.Perm xs → H p = none → Q (.ref p) (upd H p (.lst ys.reverse))
theorem cr_sortedPOR : CallRK X (.builtin "sorted") [Str.ofString "reverse"] (rSortedPOR X.K) := by
  intro pins s σ H vs zs us ws Q I r rz h
  obtain ⟨a, xs, k, rfl, rfl, hs, hx, q⟩ := h
  obtain ⟨its, rv, hl, hz⟩ := I.list hs
  obtain rfl := Vals.ref1 r
  obtain ⟨w1, rfl, e1⟩ := vals1 rz
  obtain rfl : w1 = Value.bool true := e1
  obtain ⟨e1, e2⟩ := refs_back rv fun x m => by
    obtain ⟨t, e, _⟩ := hx x m
    exact ⟨t, e⟩
  have hp : ∀ v ∈ its, Srt.IsPair s.heap v (k (backV v)).1 (k (backV v)).2 := fun v hv => by
    obtain ⟨t, rfl⟩ := e2 v hv
    have hm : V.ref t ∈ xs := by rw [e1]; exact List.mem_map.mpr ⟨_, hv, rfl⟩
    obtain ⟨t', e, ht⟩ := hx _ hm
    cases e
    obtain ⟨_, its2, r2, o, ho, hc, n, hd⟩ := I.hok _ _ ht
    obtain ⟨u1, u2, rfl, ri, rj⟩ := vals2 r2
    obtain ⟨t1, rfl⟩ := ri
    obtain ⟨t2, rfl⟩ := rj
    exact ⟨t, o, t1, t2, n, rfl, ho, hc, hd⟩
  refine SrtR.sorted_ordK (b := true) (fun _ => rfl) (PyProof.Rows.args_sorted_rev _ _) (fun _ => PyProof.Rows.args_list_sort_rev _ _) (SrtO.swo_lex fun u => k (backV u)) hl.isList (by rw [← rv.length]; exact hz) (fun h2 h₁ a' ha kk => ?_) fun out h1 h2 => ?_
  · refine SrtO.pairs_sortableO (s := { s with heap := h₁ }) (by omega) (fun v hm => (hp v hm).keeps fun b o e _ => (kk b o e).2) fun o e => ?_
    have e' : some o = some (seqObj "list" its.toArray 0) := e.symm.trans ha
    cases e'
    intro c
    exact absurd (Value.type.inj c) (by decide)
  · have h2p : out.Perm its := h2.perm.trans (List.reverse_perm _)
    have h3 : ∀ u ∈ out, ∃ a, u = Value.ref a := fun u hu => e2 u (h2p.mem_iff.mp hu)
    have hb : (out.map backV).Perm xs := by
      rw [e1]
      exact h2p.map backV
    obtain ⟨ep, he'⟩ := PyProof.Rows.sortedAll_at s.heap its out.toArray.reverse
    have hlen : (out.map backV).reverse.length ≤ sizeLine := by
      rw [List.length_reverse, hb.length_eq]
      exact hz
    have er : (out.map backV).reverse = out.reverse.map backV := by rw [List.map_reverse]
    have h4 : ∀ u ∈ out.reverse, ∃ a, u = Value.ref a := fun u hu => h3 u (List.mem_reverse.mp hu)
    have ea : out.reverse.toArray = out.toArray.reverse := by
      apply Array.ext'
      rw [Array.toList_reverse]
    exact ⟨.ref _, upd H (s.heap.objs.size + 1) (.lst (out.map backV).reverse), I.laid (t' := s.toks) (fun _ _ => PyProof.Rows.sortedAll_old) (Nat.le_succ _) ⟨hlen, out.reverse, ep, by rw [er]; exact vals_back h4, by rw [ea]; exact he'⟩, rfl, q _ _ (SrtO.srtd_map h1) hb (I.hok.fresh (Nat.le_succ _))⟩
def fSortedR : List Dat → WF := fun ds es M P => ∃ (d : Dat) (ps : List (Int × Int)), ds = [d] ∧ es = [.py (.bool true)] ∧ AsL M d (ps.map prP) ∧ ∀ qs : List (Int × Int), qs.Perm ps → qs.Pairwise (fun p q => pairLe q p = true) → P (.py (.list (qs.map prP))) M
theorem cd_sortedR : CallKD K T (rSortedPOR K) fSortedR := fun S M H vs zs ds es P Q sp r0 rz ⟨d, ps, hd, he, hx, p⟩ k => by
  subst hd he
  obtain ⟨v, rfl, r⟩ := rpall1 r0
  obtain ⟨u, rfl, ru⟩ := rpall1 rz
  cases (show Tr S u (.bool true) from ru)
  obtain ⟨a, vs, rfl, ha, t⟩ := AsL.sq sp r hx
  obtain ⟨h1, h2⟩ := pairs_at' sp.ex t
  refine ⟨a, vs, pairAt H, rfl, rfl, SqL.of ha, fun v hv => ?_, fun ys q srt stb hq => ?_⟩
  · obtain ⟨a, rfl, h⟩ := tr_pair (h2 v hv)
    exact ⟨a, rfl, sp.ex _ _ h⟩
  · have perm : (ys.reverse.map (pairAt H)).Perm ps := by
      rw [← h1]
      exact ((List.reverse_perm _).trans stb).map _
    have pw : (ys.reverse.map (pairAt H)).Pairwise (fun p q => pairLe q p = true) := by
      rw [List.pairwise_map, List.pairwise_reverse]
      refine srt.imp fun {x y} h => ?_
      have h := SrtO.lexB_no.mp h
      rw [pairLe_iff]
      omega
    refine Kont.newS k sp hq (p _ perm pw) (.lst upd_same ?_)
    exact (trall_of fun v hv => h2 v (stb.mem_iff.mp (List.mem_reverse.mp hv))).mono (same_new (sp.free hq).1)
theorem d_sortedRev {p kpos : Pos} (hg : Gl X "sorted") (hm : X.mg "sorted" = none) (ha : PE X a (tD X.K T ga)) (hk : PE X b (tD X.K T gb)) (hs : starEach [a] X.env = [(false, eval a X.env)] := by rfl)
    (he : backTo pos (starEach [a] X.env) = (false, eval a X.env) :: backTo pos (starEach [] X.env) := by rfl) (hpl : (backTo pos (starEach [a] X.env)).any (·.1) = false := by rfl)
    (hall : (backToKw pos (keywordEach [⟨some (Str.ofString "reverse"), b, kpos⟩] X.env)).all (·.1.isSome) = true := by rfl) (hnone : (backToKw pos (keywordEach [⟨some (Str.ofString "reverse"), b, kpos⟩] X.env)).any (·.1.isNone) = false := by rfl) (hks : (backToKw pos (keywordEach [⟨some (Str.ofString "reverse"), b, kpos⟩] X.env)).filterMap (·.1) = [Str.ofString "reverse"] := by rfl) :
    PE X (.Call (.Name "sorted" p) [a] [⟨some (Str.ofString "reverse"), b, kpos⟩] pos) (tD X.K T (wCBK fSortedR (wCons ga wNil) (wCons gb wNil))) :=
  pd_callBK cr_sortedPOR cd_sortedR hg hm (by decide +kernel) (da_cons ha da_nil hs) (dk_one hk) (he := he) (hpl := hpl) (hall := hall) (hnone := hnone) (hks := hks)
end
end DL
namespace DL
open PySem PySem.Spec PyProof.Rows L2
/-! ### tables over any values -/
section
variable {κ α : Type} [DecidableEq κ]
def lookK (kvs : List (κ × α)) (k : κ) : Option α := (kvs.find? fun kv => decide (kv.1 = k)).map (·.2)
def putKD (kvs : List (κ × α)) (k : κ) (v : α) : List (κ × α) :=
  if (kvs.any fun kv => decide (kv.1 = k)) = true then kvs.map (fun kv => if kv.1 = k then (kv.1, v) else kv) else kvs ++ [(k, v)]
end
section
variable {κ α : Type} [DecidableEq κ] {R : V → α → Prop}
abbrev PKV (R : V → α → Prop) : List (κ × V) → List (κ × α) → Prop := Paired fun p q => p.1 = q.1 ∧ R p.2 q.2
theorem pkv_some {k : κ} {y : α} : ∀ {l : List (κ × V)} {m : List (κ × α)}, PKV R l m → lookK m k = some y → ∃ v, valV l k = some v ∧ R v y
  | _, _, .nil, e => by cases e
  | p :: l, q :: m, .cons h t, e => by
    unfold lookK at e
    rw [List.find?_cons] at e
    by_cases hk : p.1 = k
    · have hq : decide (q.1 = k) = true := by rw [← h.1, hk]; simp
      rw [hq] at e
      cases e
      exact ⟨p.2, valV_pos hk, h.2⟩
    · have hq : decide (q.1 = k) = false := by rw [← h.1]; simp [hk]
      rw [hq] at e
      obtain ⟨v, h1, h2⟩ := pkv_some (k := k) t (by unfold lookK; exact e)
      exact ⟨v, by rw [valV_neg hk]; exact h1, h2⟩
theorem pkv_none {k : κ} : ∀ {l : List (κ × V)} {m : List (κ × α)}, PKV R l m → lookK m k = none → valV l k = none
  | _, _, .nil, e => rfl
  | p :: l, q :: m, .cons h t, e => by
    unfold lookK at e
    rw [List.find?_cons] at e
    by_cases hk : p.1 = k
    · have hq : decide (q.1 = k) = true := by rw [← h.1, hk]; simp
      rw [hq] at e
      cases e
    · have hq : decide (q.1 = k) = false := by rw [← h.1]; simp [hk]
      rw [hq] at e
      rw [valV_neg hk]
      exact pkv_none t (by unfold lookK; exact e)
theorem pkv_any (k : κ) : ∀ {l : List (κ × V)} {m : List (κ × α)}, PKV R l m → (l.any fun kv => decide (kv.1 = k)) = (m.any fun kv => decide (kv.1 = k))
  | _, _, .nil => rfl
  | p :: l, q :: m, .cons h t => by rw [List.any_cons, List.any_cons, pkv_any k t, h.1]
theorem pkv_map {k : κ} {v : V} {y : α} (r : R v y) : ∀ {l : List (κ × V)} {m : List (κ × α)}, PKV R l m → PKV R (l.map fun kv => if kv.1 = k then (kv.1, v) else kv) (m.map fun kv => if kv.1 = k then (kv.1, y) else kv)
  | _, _, .nil => .nil
  | p :: l, q :: m, .cons h t => by
    refine .cons ?_ (pkv_map r t)
    show (if p.1 = k then (p.1, v) else p).1 = (if q.1 = k then (q.1, y) else q).1 ∧ R (if p.1 = k then (p.1, v) else p).2 (if q.1 = k then (q.1, y) else q).2
    by_cases hk : p.1 = k
    · have hq : q.1 = k := by rw [← h.1]; exact hk
      rw [if_pos hk, if_pos hq]
      exact ⟨h.1, r⟩
    · have hq : ¬ q.1 = k := by rw [← h.1]; exact hk
      rw [if_neg hk, if_neg hq]
      exact h
theorem pkv_put {k : κ} {v : V} {y : α} (r : R v y) {l : List (κ × V)} {m : List (κ × α)} (h : PKV R l m) : PKV R (putK l k v) (putKD m k y) := by
  unfold putK putKD
  rw [pkv_any k h]
  split
  · exact pkv_map r h
  · exact Paired.snoc h ⟨rfl, r⟩
end
def keyK : Dat → Option Key
  | .py (.int i) => some (.inl i)
  | .py (.str s) => some (.inr s)
  | _ => none
def keyT : Dat → Option (List Key)
  | .py (.tuple [.int i, .int j]) => some [.inl i, .inl j]
  | _ => none
section
variable {K : PySem.W.Frag} {T : List (Addr × Str)} {X : Cx} {ga gb gc : WE} {a b c : Expr} {pos : Pos} {S H : Hp} {M : Mem}
theorem keyK_rp {v : V} {d : Dat} {k : Key} (e : keyK d = some k) (r : Rp K S v d) : v = kV k := by
  unfold keyK at e
  split at e
  · cases e; cases (show Tr S v (.int _) from r); rfl
  · cases e; cases (show Tr S v (.str _) from r); rfl
  · cases e
theorem keyT_rp {v : V} {d : Dat} {k : List Key} (e : keyT d = some k) (r : Rp K S v d) : ∃ b, v = .ref b ∧ S b = some (.tup (k.map kV)) := by
  unfold keyT at e
  split at e
  · rename_i i j
    cases e
    obtain ⟨b, h1, h2⟩ := tr_pair (p := (i, j)) (show Tr S v (.tuple [.int i, .int j]) from r)
    exact ⟨b, h1, h2⟩
  · cases e
/-- what d holds at the key e -/
inductive DGetR (M : Mem) : Dat → Dat → Dat → Prop
  | oK {a : Addr} {e z : Dat} {kvs : List (Key × Dat)} {k : Key} : M a = some (.dK kvs) → keyK e = some k → lookK kvs k = some z → DGetR M (.own a) e z
  | oT {a : Addr} {e z : Dat} {kvs : List (List Key × Dat)} {k : List Key} : M a = some (.dT kvs) → keyT e = some k → lookK kvs k = some z → DGetR M (.own a) e z
  | fK {a : Addr} {e : Dat} {od : Obj} {kvs : List (Key × Int)} {k : Key} {i : Int} : M a = some (.fK od kvs) → keyK e = some k → lookK kvs k = some i → DGetR M (.own a) e (.py (.int i))
  | sK {e : Dat} {kvs : List (Key × PyData)} {k : Key} {y : PyData} : keyK e = some k → lookK kvs k = some y → DGetR M (.dK kvs) e (.py y)
  | sT {e : Dat} {kvs : List (List Key × PyData)} {k : List Key} {y : PyData} : keyT e = some k → lookK kvs k = some y → DGetR M (.dT kvs) e (.py y)
theorem pkv_ints : ∀ kvs : List (Key × Int), PKV (fun v i => v = V.int i) (kvs.map fun p => (p.1, V.int p.2)) kvs
  | [] => .nil
  | p :: r => .cons ⟨rfl, rfl⟩ (pkv_ints r)
theorem dget_run (sp : Split K T S M H) {x y : V} {d e z : Dat} (g : DGetR M d e z) (rx : Rp K S x d) (ry : Rp K S y e) : ∃ a v, x = .ref a ∧ DGet H a y (some v) ∧ Rp K S v z := by
  cases g with
  | oK hm hk hl =>
    obtain rfl : x = .ref _ := rx
    obtain ⟨h, ha, r⟩ := sp.rep _ _ hm
    cases r with
    | dK r =>
      obtain ⟨v, h1, h2⟩ := pkv_some r hl
      rw [keyK_rp hk ry]
      exact ⟨_, v, rfl, by rw [← h1]; exact DGet.k ha, h2⟩
  | oT hm hk hl =>
    obtain rfl : x = .ref _ := rx
    obtain ⟨h, ha, r⟩ := sp.rep _ _ hm
    cases r with
    | dT r =>
      obtain ⟨v, h1, h2⟩ := pkv_some r hl
      obtain ⟨b, rfl, hb⟩ := keyT_rp hk ry
      exact ⟨_, v, rfl, by rw [← h1]; exact DGet.t ha (sp.ex _ _ hb), h2⟩
  | @fK a _ od kvs k i hm hk hl =>
    obtain rfl : x = .ref a := rx
    obtain ⟨h, ha, r⟩ := sp.rep _ _ hm
    cases r with
    | fK =>
      obtain ⟨v, h1, rfl⟩ := pkv_some (pkv_ints kvs) hl
      rw [keyK_rp hk ry]
      exact ⟨_, _, rfl, .inl ⟨_, _, .inr ⟨_, ha⟩, rfl, h1.symm⟩, .int i⟩
  | sK hk hl =>
    obtain ⟨a, kv, rfl, hs, r⟩ := (show ∃ a kv, x = .ref a ∧ S a = some (.dK kv) ∧ KVs S kv _ from rx)
    obtain ⟨v, h1, h2⟩ := pkv_some (R := fun v y => Tr S v y) r hl
    rw [keyK_rp hk ry]
    exact ⟨_, v, rfl, by rw [← h1]; exact DGet.k (sp.ex _ _ hs), h2⟩
  | sT hk hl =>
    obtain ⟨a, kv, rfl, hs, r⟩ := (show ∃ a kv, x = .ref a ∧ S a = some (.dT kv) ∧ KVs S kv _ from rx)
    obtain ⟨v, h1, h2⟩ := pkv_some (R := fun v y => Tr S v y) r hl
    obtain ⟨b, rfl, hb⟩ := keyT_rp hk ry
    exact ⟨_, v, rfl, by rw [← h1]; exact DGet.t (sp.ex _ _ hs) (sp.ex _ _ hb), h2⟩
def fDGet : F2 := fun d e M P => ∃ z, DGetR M d e z ∧ P z M
theorem d_dget (hu : X.A.units + 1 < cLine) (ha : PE X a (tD X.K T ga)) (hb : PE X b (tD X.K T gb)) (hs : NoSl b := by exact fun _ _ => rfl) : PE X (.Subscript a b pos) (tD X.K T (wOp fDGet ga gb)) :=
  PE_weak (pe_dget hu ha hb hs) fun σ H Q h => by
    obtain ⟨S, M, δ, P, sp, re, g, k⟩ := h
    refine ⟨S, M, δ, _, sp, re, g, fun d1 M1 v1 S1 H1 g1 sp1 po1 r1 => ⟨S1, M1, δ, _, sp1, re.mono po1.st, g1, fun d2 M2 v2 S2 H2 ⟨z, gz, p⟩ sp2 po2 r2 => ?_⟩⟩
    obtain ⟨a, v, h1, h2, h3⟩ := dget_run sp2 gz (r1.mono po2.st) r2
    exact ⟨a, v, h1, h2, Kont.same (Kont.after k (po1.trans sp1 po2) sp2) sp2 p h3⟩
/-- {} -/
def wNewK : WE := fun δ M P => ∀ p, M p = none → P (.own p) (putM M p (.dK []))
def wNewT : WE := fun δ M P => ∀ p, M p = none → P (.own p) (putM M p (.dT []))
theorem d_newK : PE X (.Dict [] [] pos) (tD K T wNewK) := PE_weak pe_dnewK fun σ H Q ⟨S, M, δ, P, sp, re, g, k⟩ => fun q hq => Kont.newM k sp hq (g q (sp.free hq).2) (.dK .nil)
theorem d_newT : PE X (.Dict [] [] pos) (tD K T wNewT) := PE_weak pe_dnewT fun σ H Q ⟨S, M, δ, P, sp, re, g, k⟩ => fun q hq => Kont.newM k sp hq (g q (sp.free hq).2) (.dT .nil)
/-- d[k] = e -/
inductive DPutR (M : Mem) (d : Dat) : Addr → Dat → Mem → Prop
  | k {a : Addr} {e : Dat} {kvs : List (Key × Dat)} {k : Key} : M a = some (.dK kvs) → keyK e = some k → kvs.length < sizeLine → DPutR M d a e (putM M a (.dK (putKD kvs k d)))
  | t {a : Addr} {e : Dat} {kvs : List (List Key × Dat)} {k : List Key} : M a = some (.dT kvs) → keyT e = some k → kvs.length < sizeLine → DPutR M d a e (putM M a (.dT (putKD kvs k d)))
def wDPut (ge go gi : WE) : WS := fun E δ M => ge δ M fun d M1 => go δ M1 fun o M2 => gi δ M2 fun i M3 => ∃ a M4, o = .own a ∧ DPutR M3 d a i M4 ∧ E.nx δ M4
theorem ds_dput {o i e : Expr} {ge go gi : WE} {p2 : Pos} (hu : X.A.units + 1 < cLine) (he : PE X e (tD X.K T ge)) (ho : PE X o (tD X.K T go)) (hi : PE X i (tD X.K T gi)) (hs : swapsWith e (some (.Subscript o i p2)) pos.line X.env = pure false := by rfl) :
    PS X (.Assign [.Subscript o i p2] e pos) (tDS X.K T (wDPut ge go gi)) := PS_weak (ps_dput hu ho hi he hs) fun D σ H h => by
  obtain ⟨S, M, δ, E, sp, re, g, k⟩ := tDS_of h
  refine ⟨S, M, δ, _, sp, re, g, fun d M1 v S1 H1 g1 sp1 po1 r1 => ⟨S1, M1, δ, _, sp1, re.mono po1.st, g1, fun ob M2 u S2 H2 g2 sp2 po2 r2 => ?_⟩⟩
  have po12 := po1.trans sp1 po2
  refine ⟨S2, M2, δ, _, sp2, re.mono po12.st, g2, fun ib M3 w S3 H3 ⟨a, M4, h3, h4, p⟩ sp3 po3 r3 => ?_⟩
  subst h3
  have po123 := po12.trans sp2 po3
  obtain rfl : u = .ref a := r2
  have rv : Rp X.K S3 v d := (r1.mono po2.st).mono po3.st
  cases h4 with
  | k hm hk hl =>
    obtain ⟨h, ha, r⟩ := sp3.rep _ _ hm
    cases r with
    | @dK kv _ r =>
      rw [keyK_rp hk r3]
      exact ⟨a, _, rfl, DPut.k ha (by rw [Paired.length r]; exact hl), k.nx _ _ _ _ _ p (sp3.setM hm (.dK (pkv_put rv r))) (po123.trans sp3 (Post.setM hm)) (re.mono po123.st)⟩
  | t hm hk hl =>
    obtain ⟨h, ha, r⟩ := sp3.rep _ _ hm
    cases r with
    | @dT kv _ r =>
      obtain ⟨b, rfl, hb⟩ := keyT_rp hk r3
      exact ⟨a, _, rfl, DPut.t ha (sp3.ex _ _ hb) (by rw [Paired.length r]; exact hl), k.nx _ _ _ _ _ p (sp3.setM hm (.dT (pkv_put rv r))) (po123.trans sp3 (Post.setM hm)) (re.mono po123.st)⟩
theorem isD_own {a : Addr} {kvs : List (Key × Dat)} (sp : Split K T S M H) (hm : M a = some (.dK kvs)) : IsD H a := by
  obtain ⟨h, ha, r⟩ := sp.rep _ _ hm
  cases r with
  | dK r => exact .inl ⟨_, .inl ha⟩
/-- d.get(k, z), keys ints and texts -/
def wGet2 (go gi gz : WE) : WE := fun δ M P => go δ M fun o M1 => (∃ a kvs, o = .own a ∧ M1 a = some (.dK kvs)) ∧ gi δ M1 fun i M2 => gz δ M2 fun z M3 => ∃ a kvs k, o = .own a ∧ M3 a = some (.dK kvs) ∧ keyK i = some k ∧ P ((lookK kvs k).getD z) M3
theorem d_get2 {o e f : Expr} {go gi gz : WE} {apos cpos : Pos} (hu : X.A.units + 1 < cLine) (ho : PE X o (tD X.K T go)) (he : PE X e (tD X.K T gi)) (hf : PE X f (tD X.K T gz)) (m : M2 X o "get" apos e f cpos := by exact ⟨rfl, rfl, rfl, rfl⟩) : PE X (.Call (.Attribute o "get" apos) [e, f] [] cpos) (tD X.K T (wGet2 go gi gz)) :=
  PE_weak (pe_dget2 hu ho he hf m) fun σ H Q ⟨S, M, δ, P, sp, re, g, k⟩ => ⟨S, M, δ, _, sp, re, g, fun d1 M1 v1 S1 H1 ⟨⟨a, kvs, hd, hm⟩, g1⟩ sp1 po1 r1 => by
    subst hd
    obtain rfl : v1 = .ref a := r1
    refine ⟨a, rfl, isD_own sp1 hm, S1, M1, δ, _, sp1, re.mono po1.st, g1, fun d2 M2 v2 S2 H2 g2 sp2 po2 r2 => ?_⟩
    have po12 := po1.trans sp1 po2
    refine ⟨S2, M2, δ, _, sp2, re.mono po12.st, g2, fun d3 M3 v3 S3 H3 ⟨a', kvs', kk, e1, hm3, hk, p⟩ sp3 po3 r3 => ?_⟩
    cases e1
    obtain ⟨h, ha, r⟩ := sp3.rep _ _ hm3
    cases r with
    | @dK kv _ r =>
      refine ⟨valV kv kk, ?_, ?_⟩
      · rw [keyK_rp hk (r2.mono po3.st)]
        exact DGet.k ha
      · have k3 := Kont.after k (po12.trans sp2 po3) sp3
        cases q : lookK kvs' kk with
        | none =>
          rw [q] at p
          rw [pkv_none r q]
          exact Kont.same k3 sp3 p r3
        | some z =>
          rw [q] at p
          obtain ⟨v, h1, h2⟩ := pkv_some r q
          rw [h1]
          exact Kont.same k3 sp3 p h2⟩
/-- d.setdefault(k, z), keys ints and texts -/
def wSetd (go gi gz : WE) : WE := fun δ M P => go δ M fun o M1 => (∃ a kvs, o = .own a ∧ M1 a = some (.dK kvs)) ∧ gi δ M1 fun i M2 => gz δ M2 fun z M3 => ∃ a kvs k, o = .own a ∧ M3 a = some (.dK kvs) ∧ keyK i = some k ∧ kvs.length < sizeLine ∧
  (∀ y, lookK kvs k = some y → P y M3) ∧ (lookK kvs k = none → P z (putM M3 a (.dK (putKD kvs k z))))
theorem d_setdef {o e f : Expr} {go gi gz : WE} {apos cpos : Pos} (ho : PE X o (tD X.K T go)) (he : PE X e (tD X.K T gi)) (hf : PE X f (tD X.K T gz)) (m : M2 X o "setdefault" apos e f cpos := by exact ⟨rfl, rfl, rfl, rfl⟩) : PE X (.Call (.Attribute o "setdefault" apos) [e, f] [] cpos) (tD X.K T (wSetd go gi gz)) :=
  PE_weak (pe_dsetd ho he hf m) fun σ H Q ⟨S, M, δ, P, sp, re, g, k⟩ => ⟨S, M, δ, _, sp, re, g, fun d1 M1 v1 S1 H1 ⟨⟨a, kvs, hd, hm⟩, g1⟩ sp1 po1 r1 => by
    subst hd
    obtain rfl : v1 = .ref a := r1
    refine ⟨a, rfl, isD_own sp1 hm, S1, M1, δ, _, sp1, re.mono po1.st, g1, fun d2 M2 v2 S2 H2 g2 sp2 po2 r2 => ?_⟩
    have po12 := po1.trans sp1 po2
    refine ⟨S2, M2, δ, _, sp2, re.mono po12.st, g2, fun d3 M3 v3 S3 H3 ⟨a', kvs', kk, e1, hm3, hk, hl, p1, p2⟩ sp3 po3 r3 => ?_⟩
    cases e1
    obtain ⟨h, ha, r⟩ := sp3.rep _ _ hm3
    have k3 := Kont.after k (po12.trans sp2 po3) sp3
    cases r with
    | @dK kv _ r =>
      refine ⟨kv, kk, ha, keyK_rp hk (r2.mono po3.st), by rw [Paired.length r]; exact hl, fun v hv => ?_, fun hv => ?_⟩
      · cases q : lookK kvs' kk with
        | none =>
          rw [pkv_none r q] at hv
          cases hv
        | some z =>
          obtain ⟨v', h1, h2⟩ := pkv_some r q
          rw [h1] at hv
          cases hv
          exact Kont.same k3 sp3 (p1 z q) h2
      · cases q : lookK kvs' kk with
        | none => exact k3 _ _ _ _ _ (p2 q) (sp3.setM hm3 (.dK (pkv_put r3 r))) (Post.setM hm3) r3
        | some z =>
          obtain ⟨v', h1, h2⟩ := pkv_some r q
          rw [h1] at hv
          cases hv⟩
/-- list(d), d a dict that stands still, its keys ints -/
def fListDK : WF := fun ds M P => ∃ (kvs : List (Int × PyData)), ds = [.dK (kvs.map fun p => (Sum.inl p.1, p.2))] ∧ P (.py (.list (kvs.map fun p => .int p.1))) M
theorem keys_dK : ∀ {kvs : List (Int × PyData)} {kv : List (Key × V)}, KVs S kv (kvs.map fun p => ((Sum.inl p.1 : Key), p.2)) → (kv.map fun p => kV p.1) = (kvs.map (·.1)).map V.int
  | [], _, h => by cases h; rfl
  | p :: r, _, h => by
    cases h with
    | @cons q _ _ _ h t =>
      rw [List.map_cons, keys_dK t, List.map_cons, List.map_cons, h.1]
      rfl
theorem cd_listDK : CallD K T rListD fListDK := fun S M H vs ds P Q sp r0 ⟨kvs, hd, p⟩ k => by
  subst hd
  obtain ⟨v, rfl, r⟩ := rpall1 r0
  obtain ⟨a, kv, rfl, hs, r⟩ := (show ∃ a kv, v = .ref a ∧ S a = some (.dK kv) ∧ KVs S kv _ from r)
  refine ⟨a, kv, rfl, sp.ex _ _ hs, fun q hq => Kont.newS k sp hq p ?_⟩
  rw [keys_dK r, show (kvs.map fun p => PyData.int p.1) = (kvs.map (·.1)).map PyData.int by rw [List.map_map]; rfl]
  exact .lst upd_same TrAll.ints
/-! ### the values of a dict -/
theorem dv_call {prog : Program} {w : World} {A : Around} {E : Value → Shared → Prop} {s : Shared} {d : Addr} {Q : Value → Shared → Prop} (hT : s.TypeIs (.ref d) "dict") (hd : (d == sysModules) = false)
    (h : Q (.ref s.heap.objs.size) { s with heap := s.heap.push (DSub.viewOb "dict_values" d) }) : wpAny (model prog w) A (callWith cpos (.builtin "dict.values") [.ref d] [] []) Q E s := by
  have mm : MeetsIn prog w (Builtin.«dict.values» ⟨[.ref d], []⟩) (fun _ R s => s.TypeIs (.ref d) "dict" ∧ R (.ok (.ret (.ref s.heap.objs.size))) { s with heap := s.heap.push (DSub.viewOb "dict_values" d) }) := .of_wp fun A R s ⟨hT, h⟩ => ?_
  · exact method_meetsIn F.slot_dict_values F.entry_dict_values rfl (PySem.evalArgs_none ⟨rfl, hT, F.args_dict_values_1 _, _, mm, hT, h⟩)
  refine wpAny_bind ?_
  unfold Builtin.Dict.noArgs
  refine wpAny_bind (wpAny_notOrdered_dict hT ?_)
  show wpAny _ _ (pure d) _ _ s
  refine wpAny_pure ?_
  show wpAny _ _ (Builtin.Dict.showsAll d >>= _) _ _ s
  unfold Builtin.Dict.showsAll
  rw [if_neg (by rw [hd]; exact Bool.false_ne_true)]
  refine wpAny_bind (wpAny_pure ?_)
  exact wpAny_bind (wpAny_newObj_type (wpAny_pure ⟨_, rfl, h⟩))
/-- e.values(), a view -/
def tVals (td : TE) : TE := fun σ H Q => td σ H fun x H1 => ∃ d, x = .ref d ∧ IsD H1 d ∧ ∀ p, H1 p = none → Q (.ref p) (upd H1 p (viewO "dict_values" p d))
theorem pe_vals {e : Expr} {td : TE} {apos cpos : Pos} (he : PE X e td) (hbase : attributeBase e "values" X.env (eval e X.env) = eval e X.env := by rfl) (hline : (apos.endLine == cpos.line) = true := by rfl) : PE X (.Call (.Attribute e "values" apos) [] [] cpos) (tVals td) := by
  refine ⟨fun pins s σ H Q I h => ?_⟩
  refine wpAny_Call_method (T := "dict") (id := "dict.values") hbase rfl hline F.plainAttrs_dict F.slot_dict_values F.type_dict_values (thn (he.run pins s σ H _ I h) fun u s1 ⟨x, H1, I1, rx, d, ex, hd, q⟩ => ?_)
  subst ex
  obtain rfl : u = Value.ref d := rx
  obtain ⟨t1, t2, t3⟩ := isD_at I1 hd
  refine ⟨t1, t2, ?_⟩
  show wpAny _ _ (callWith cpos (.builtin "dict.values") [.ref d] [] []) _ X.xe s1
  refine dv_call t1 t3 ⟨.ref s1.heap.objs.size, _, I1.laid (t' := s1.toks) (fun b o e => Heap.get?_push_of_some _ e) (Nat.le_refl _) (viewO_ok (Heap.get?_push_size _ rfl)), rfl, q _ (I1.hok.fresh (Nat.le_refl _))⟩
theorem hint_view {prog : Program} {w : World} {A : Around} {E : Value → Shared → Prop} {s : Shared} {r : Addr} {Q : Bool → Shared → Prop} (hT : s.TypeIs (.ref r) "dict_values") (h : Q false s) : wpAny (model prog w) A (Builtin.List.listLengthHint (.ref r)) Q E s := PySem.W.kdl_hint_values hT h
theorem kdl_view {prog : Program} {w : World} {v d : Addr} {o : Obj} {es : Array DictEntry} {ep : Nat} (hd : o.data = .dict es ep) :
    PySem.W.KdlSrc prog w "dict_values" v d es.size (fun i u => ∃ en : DictEntry, es[i]? = some en ∧ u = en.val) (fun h => h.get? v = some (DSub.viewOb "dict_values" d) ∧ h.get? d = some o) where
  type := fun _ hm => ⟨_, hm.1, rfl⟩
  there := fun _ hm => ⟨Heap.lt_size hm.1, Heap.lt_size hm.2⟩
  keep := fun _ _ hm hk => ⟨hk v (.inl rfl) _ hm.1, hk d (.inr rfl) _ hm.2⟩
  notList := by decide
  notTuple := by decide
  hint := fun _ _ s _ hm hq => hint_view (s := s) ⟨_, hm.1, rfl⟩ hq
  iter := fun _ s hh hm => ⟨_, _, (fun _ _ hq => DSub.iter_vals hm.1 hm.2 hd hq), DSub.walksVal hh (Nat.ne_of_lt (Heap.lt_size hm.2)) hd (fun i e h => ⟨e, h, rfl⟩), ⟨Heap.get?_push_size _ rfl, Heap.get?_push_of_some _ hm.2⟩⟩
/-- list(view), of a dict whose keys are tuples -/
def rListView : List V → Hp → VK → Prop := fun xs H Q => ∃ p d kvs, xs = [.ref p] ∧ H p = some (viewO "dict_values" p d) ∧ H d = some (.dT kvs) ∧ ∀ l, H l = none → Q (.ref l) (upd H l (.lst (kvs.map (·.2))))
theorem call_list_view (hc : X.calm = true) : CallR X (.type "list") rListView := by
  intro pins s σ H xs us Q I r h
  obtain ⟨p, d, kvs, rfl, hp, hd, q⟩ := h
  obtain rfl := Vals.ref1 r
  obtain ⟨z, hs, ks, pr, o, es, ep, ho, hx, hdt, he, hn⟩ := (show ObjOk X.prog X.w H s.heap d (.dT kvs) from I.hok d _ hd)
  obtain ⟨hv, _, _⟩ := (show ObjOk X.prog X.w H s.heap p (viewO "dict_values" p d) from I.hok p _ hp)
  have l1 : es.size = ks.length := size_of_entries he
  have l2 : kvs.length = ks.length := Paired.length pr
  refine PySem.W.kdl_call (kdl_view hdt) (I.ok.hd hc) ⟨hv, ho⟩ (by omega) fun h' tk acc' c' kp e it => ?_
  refine ⟨.ref s.heap.objs.size, _, I.laid (t' := tk) (o := .lst (kvs.map (·.2))) kp (Nat.le_refl _) ⟨by rw [List.length_map]; exact z, acc'.toList, c', ?_, by rw [Array.toArray_toList]; exact e⟩, rfl, q _ (I.hok.fresh (Nat.le_refl _))⟩
  have hl : acc'.toList.length = ks.length := by rw [Array.length_toList, it.1]; exact l1
  refine vals_of_at (by rw [List.length_map, hl, l2]) fun j x u h1 h2 => ?_
  obtain ⟨en, hen, hv⟩ := it.2 j u (by rw [← Array.getElem?_toList]; exact h2)
  have qe := entry_at he j
  rw [hen] at qe
  rw [List.getElem?_map] at h1
  obtain ⟨kv, hkv, rfl⟩ := Option.map_eq_some_iff.mp h1
  cases hb : ks[j]? with
  | none =>
    rw [hb] at qe
    cases qe
  | some b =>
    rw [hb] at qe
    have e2 : en = entryOfKey (tupleKind (mixKind X.prog X.w)) b := Option.some.inj qe
    rw [hv, e2]
    exact (paired_at (F := fun (p : List Key × V) (q : List Key × Addr × Value) => p.1 = q.1 ∧ H q.2.1 = some (.tup (p.1.map kV)) ∧ RelV p.2 q.2.2) pr hkv hb).2.2
/-- list(d.values()), d a dict that stands still, its keys pairs -/
def wListVals (g : WE) : WE := fun δ M P => g δ M fun d M1 => ∃ kvs, d = .dT kvs ∧ P (.py (.list (kvs.map (·.2)))) M1
theorem vals_dT : ∀ {kvs : List (List Key × PyData)} {kv : List (List Key × V)}, KVs S kv kvs → TrAll S (kv.map (·.2)) (kvs.map (·.2))
  | [], _, h => by cases h; exact .nil
  | p :: r, _, h => by
    cases h with
    | cons h t => exact .cons h.2 (vals_dT t)
theorem d_listVals {e : Expr} {p pos apos cpos : Pos} (hc : X.calm = true) (hg : Gl X "list") (hm : X.mg "list" = none) (ha : PE X e (tD X.K T ga)) (hbase : attributeBase e "values" X.env (eval e X.env) = eval e X.env := by rfl) (hline : (apos.endLine == cpos.line) = true := by rfl)
    (he : starEach [.Call (.Attribute e "values" apos) [] [] cpos] X.env = (false, eval (.Call (.Attribute e "values" apos) [] [] cpos) X.env) :: starEach [] X.env := by rfl) (hpl : (backTo pos (starEach [] X.env)).any (·.1) = false := by rfl) :
    PE X (.Call (.Name "list" p) [.Call (.Attribute e "values" apos) [] [] cpos] [] pos) (tD X.K T (wListVals ga)) :=
  PE_weak (pe_callTy (call_list_view hc) hg hm (by decide +kernel) (pa_cons (pe_vals ha hbase hline) pa_nil he) (by decide) (by decide) he hpl) fun σ H Q ⟨S, M, δ, P, sp, re, g, k⟩ =>
    ⟨S, M, δ, _, sp, re, g, fun d M1 v S1 H1 ⟨kvs, hd, p⟩ sp1 po1 r1 => by
      subst hd
      obtain ⟨a, kv, rfl, hs, r⟩ := (show ∃ a kv, v = .ref a ∧ S1 a = some (.dT kv) ∧ KVs S1 kv _ from r1)
      refine ⟨a, rfl, .inr ⟨kv, .inl (sp1.ex _ _ hs)⟩, fun q hq => ?_⟩
      have sp2 := sp1.newS (o := viewO "dict_values" q a) hq
      have po2 := Post.newS (o := viewO "dict_values" q a) sp1 hq
      have nq : a ≠ q := ne_of_none hs (sp1.free hq).1
      refine ⟨q, a, kv, rfl, upd_same, by rw [upd_ne nq]; exact sp1.ex _ _ hs, fun l hl => ?_⟩
      exact Kont.newS (Kont.after k (po1.trans sp1 po2) sp2) sp2 hl p (.lst upd_same (((vals_dT r).mono po2.st).mono (same_new (sp2.free hl).1)))⟩
end
end DL
namespace DL
open PySem PySem.Spec PyProof.Rows L2
section
variable {K : PySem.W.Frag} {T : List (Addr × Str)} {X : Cx} {ga gb gc : WE} {a b c : Expr} {pos : Pos} {S H : Hp} {M : Mem}
theorem Split.lock {a : Addr} {kv : List (Key × V)} {mo : MO} (sp : Split K T S M H) (hm : M a = some mo) (ha : H a = some (.dK kv)) (od : Obj) : Split K T (upd S a (.frz od (.dK kv))) (delM M a) (upd H a (.frz od (.dK kv))) := by
  have hs := sp.dis a mo hm
  have s1 : Split K T S (delM M a) H := sp.le fun b o h => by
    by_cases e : b = a
    · rw [e, delM_same] at h; cases h
    · rw [delM_ne e] at h; exact h
  exact (s1.hidmut (o := .frz od (.dK kv)) ha (fun ps z => by cases z) (fun ps z => by cases z) hs delM_same).shown upd_same (fun ps z => by cases z) hs delM_same
theorem Post.lock {a : Addr} {o : HO} {mo : MO} (sp : Split K T S M H) (hm : M a = some mo) : Post S M H (upd S a o) (delM M a) (upd H a o) := by
  have hs := sp.dis a mo hm
  have na : ∀ b, M b = none → b ≠ a := fun b e z => by
    rw [z, hm] at e
    cases e
  exact ⟨same_new hs, fun b u e h1 _ => by rw [upd_ne (na b h1)]; exact e, fun b u e _ h1 h2 => ⟨by rw [upd_ne (na b h1)]; exact h2, by rw [delM_ne (na b h1)]; exact h1⟩⟩
def tLk (td : TE) : TE := fun σ H Q => td σ H fun v H1 => ∃ a u, v = .ref a ∧ H1 a = some u ∧ Mut (some u) ∧ ∀ od, Q v (upd H1 a (.frz od u))
theorem pe_lk {e : Expr} {td : TE} (h : PE X e td) : PE X e (tLk td) := by
  refine ⟨fun pins s σ H Q I q => ?_⟩
  refine thn (h.run pins s σ H _ I q) fun u s1 ⟨v, H1, I1, rv, a, o, ev, ha, mu, k⟩ => ?_
  obtain ⟨od, I2⟩ := I1.lock ha mu
  exact ⟨v, _, I2, rv, k od⟩
/-- d.values(), d ours, its values still; d is not told any more -/
def wIVals (g : WE) : WI := fun δ M P => g δ M fun d M1 => ∃ (a : Addr) (kvs : List (Key × PyData)), d = .own a ∧ M1 a = some (.dK (kvs.map fun p : Key × PyData => (p.1, .py p.2))) ∧ P (kvs.map fun p => .py p.2) (fun _ => True) (delM M1 a)
theorem rkv_at {kv : List (Key × V)} {kvs : List (Key × PyData)} (r : KVs S kv kvs) {i : Nat} {d : PyData} {k : Key} {x : V} (h : (kvs.map (·.2))[i]? = some d) (hx : kv[i]? = some (k, x)) : Tr S x d := by
  rw [List.getElem?_map] at h
  obtain ⟨p, hp, rfl⟩ := Option.map_eq_some_iff.mp h
  exact (paired_at (F := fun (p : Key × V) (q : Key × PyData) => p.1 = q.1 ∧ Tr S p.2 q.2) r hx hp).2
theorem di_values {tg e : Expr} {apos cpos : Pos} (he : PE X e (tD X.K T ga)) (hbase : attributeBase e "values" X.env (eval e X.env) = eval e X.env := by rfl) (hline : (apos.endLine == cpos.line) = true := by rfl) : PI X tg (.Call (.Attribute e "values" apos) [] [] cpos) (tDI X.K T (wIVals ga)) :=
  PI_weak (pi_values (pe_lk he) hbase hline) fun σ H R ⟨S, M, δ, P, sp, re, g, k⟩ => ⟨S, M, δ, _, sp, re, g, fun d M1 v S1 H1 ⟨a, kvs, hd, hm, p⟩ sp1 po1 r1 => by
    subst hd
    obtain rfl : v = .ref a := r1
    obtain ⟨h, ha, r⟩ := sp1.rep _ _ hm
    cases r with
    | @dK kv _ r =>
      have r := rkv_py r
      refine ⟨a, .dK kv, rfl, ha, trivial, fun od => ⟨a, od, kv, rfl, upd_same, ?_⟩⟩
      have sp2 := sp1.lock hm ha od
      have po2 := Post.lock (o := .frz od (.dK kv)) sp1 hm
      have r2 := r.mono po2.st
      have hl : kv.length = kvs.length := Paired.length r
      refine k _ _ _ _ _ _ p sp2 (po1.trans sp1 po2) ⟨fun i S M H e sp _ hi => ?_, fun S M H e sp _ => ?_, fun i S M H x Hx e sp _ y d hd => ?_⟩
      · exact ⟨sp.ex _ _ (e _ _ upd_same), by simpa [hl] using hi⟩
      · exact ⟨sp.ex _ _ (e _ _ upd_same), by simp [hl]⟩
      · obtain ⟨rfl, kk, hkx⟩ := y
        rw [List.getElem?_map] at hd
        obtain ⟨q, hq, rfl⟩ := Option.map_eq_some_iff.mp hd
        refine ⟨S, sp, Post.refl, ?_⟩
        exact (rkv_at r2 (by rw [List.getElem?_map, hq]; rfl) hkx).mono e⟩
/-- the keys of a locked dict -/
def keyD : Key → Dat
  | .inl i => .py (.int i)
  | .inr s => .py (.str s)
def wIKeys (g : WE) : WI := fun δ M P => g δ M fun d M1 => ∃ (a : Addr) (od : Obj) (kvs : List (Key × Int)), d = .own a ∧ M1 a = some (.fK od kvs) ∧ P (kvs.map fun p => keyD p.1) (fun M => M a = some (.fK od kvs)) M1
theorem di_keys {tg e : Expr} (he : PE X e (tD X.K T ga)) : PI X tg e (tDI X.K T (wIKeys ga)) := PI_weak (pi_keys he) fun σ H R ⟨S, M, δ, P, sp, re, g, k⟩ => ⟨S, M, δ, _, sp, re, g, fun d M1 v S1 H1 ⟨a, od, kvs, hd, hm, p⟩ sp1 po1 r1 => by
  subst hd
  obtain rfl : v = .ref a := r1
  have at_ : ∀ {S : Hp} {M : Mem} {H : Hp}, Split X.K T S M H → M a = some (.fK od kvs) → H a = some (.frz od (.dK (kvs.map fun p => (p.1, V.int p.2)))) := fun sp hm => by
    obtain ⟨h, ha, r⟩ := sp.rep _ _ hm
    cases r with
    | fK => exact ha
  refine ⟨a, od, rfl, .inl ⟨_, at_ sp1 hm, k _ _ _ _ _ _ p sp1 po1 ⟨fun i S M H e sp g hi => ?_, fun S M H e sp g => ?_, fun i S M H x Hx e sp g y d hd => ?_⟩⟩⟩
  · exact ⟨at_ sp g, by simpa using hi⟩
  · exact ⟨at_ sp g, by simp⟩
  · obtain ⟨rfl, kk, vv, hkx, rfl⟩ := y
    rw [List.getElem?_map] at hd hkx
    obtain ⟨q, hq, rfl⟩ := Option.map_eq_some_iff.mp hd
    rw [hq] at hkx
    cases hkx
    refine ⟨S, sp, Post.refl, ?_⟩
    cases q.1 with
    | inl i => exact .int i
    | inr s => exact .str s⟩
/-- while e is evaluated, the dict in slot i, of ints, is locked -/
def wLock (i : Nat) (g : WE) : WE := fun δ M P => ∃ (a : Addr) (kvs : List (Key × Int)), δ[i]? = some (some (.own a)) ∧ M a = some (.dK (kvs.map fun p : Key × Int => (p.1, .py (.int p.2)))) ∧
  ∀ od, g δ (putM M a (.fK od kvs)) fun d M' => M' a = some (.fK od kvs) ∧ P d (putM M' a (.dK (kvs.map fun p => (p.1, .py (.int p.2)))))
theorem rkv_ints : ∀ {kvs : List (Key × Int)} {kv : List (Key × V)}, RKV K S kv (kvs.map fun p => (p.1, Dat.py (.int p.2))) → kv = kvs.map fun p => (p.1, V.int p.2)
  | [], _, h => by cases h; rfl
  | p :: r, _, h => by
    cases h with
    | @cons q _ _ _ h t =>
      rw [rkv_ints t, List.map_cons]
      obtain ⟨k, v⟩ := q
      have h1 : k = p.1 := h.1
      have h2 : Tr S v (.int p.2) := h.2
      cases h2
      rw [h1]
theorem rkv_ints2 : ∀ {kvs : List (Key × Int)}, RKV K S (kvs.map fun p => (p.1, V.int p.2)) (kvs.map fun p => (p.1, Dat.py (.int p.2)))
  | [] => .nil
  | p :: r => .cons ⟨rfl, Tr.int p.2⟩ rkv_ints2
theorem d_lock (i : Nat) {e : Expr} (h : PE X e (tD K T ga)) : PE X e (tD K T (wLock i ga)) := PE_weak (pe_lock h) fun σ H Q ⟨S, M, δ, P, sp, re, ⟨a, kvs, hi, hm, g⟩, k⟩ => by
  obtain ⟨h, ha, r⟩ := sp.rep _ _ hm
  cases r with
  | @dK kv _ r =>
    have ek := rkv_ints r
    subst ek
    refine ⟨a, _, ha, trivial, fun od => ?_⟩
    refine ⟨S, putM M a (.fK od kvs), δ, _, sp.setM hm (.fK od kvs), re, g od, fun d M' v S' H' ⟨hm', p⟩ sp' po' r' => ?_⟩
    have ha' : H' a = some (.frz od (.dK (kvs.map fun p => (p.1, V.int p.2)))) := by
      obtain ⟨h, ha, r⟩ := sp'.rep _ _ hm'
      cases r with
      | fK => exact ha
    refine ⟨ha', k _ _ _ _ _ p (sp'.setM hm' (.dK rkv_ints2)) (((Post.setM hm).trans (sp.setM hm (.fK od kvs)) po').trans sp' (Post.setM hm')) r'⟩
/-- first the thing in slot i stands still -/
def wPre (i : Nat) (g : WE) : WE := fun δ M P => ∃ d d' M', δ[i]? = some (some d) ∧ Frz d M d' M' ∧ g (δ.set i (some d')) M' P
theorem d_pre (i : Nat) {e : Expr} (h : PE X e (tD K T ga)) : PE X e (tD K T (wPre i ga)) := PE_weak h fun σ H Q ⟨S, M, δ, P, sp, re, ⟨d, d', M', hi, z, g⟩, k⟩ => by
  obtain ⟨v, h1, r⟩ := re.2 i d hi
  obtain ⟨S1, sp1, po1, r1⟩ := z.run sp r
  refine ⟨S1, M', δ.set i (some d'), P, sp1, ?_, g, Kont.after k po1 sp1⟩
  have e : σ = σ.set i (some v) := by
    refine List.ext_getElem? fun j => ?_
    by_cases hj : i = j
    · subst hj
      have hl : i < σ.length := (List.getElem?_eq_some_iff.mp h1).1
      rw [List.getElem?_set_self hl, h1]
    · rw [List.getElem?_set_ne hj]
  rw [e]
  exact (re.mono po1.st).set r1
end
end DL
namespace DL
open PySem PySem.Spec PyProof.Rows L2
/-- a lambda of one parameter x that reads nothing else -/
structure LamP (scope : Scope) (x : Str) : Prop where
  kind : scope.kind = .function
  co : scope.isCoroutine = false
  gen : scope.isGenerator = false
  loc : scope.names.lookup x = some .local
  cell : ∀ y ∈ scope.names, y.2 ≠ .cell
  free : ∀ y ∈ scope.names, y.2 ≠ .free
section
variable {P : Program} {w : World} {A : Around} {s : Shared}
/-- what the lambda's body does to a tuple of items -/
def LamBody (P : Program) (w : World) (x : Str) (scope : Scope) (body : Expr) (R : Heap → Value → PyData → Prop) : Prop :=
  ∀ (A : Around) (E : Value → Shared → Prop) (env : Env) (s : Shared) (m : Str → Option Value) (v : Value) (k : PyData), env.scope = scope → s.heap.Ns env.locals m → m x = some v → R s.heap v k → wpAny (model P w) A (eval body env) (PySem.W.KeyPure k s) E s
theorem lam_call {f c' : Addr} {q x : Str} {params : Arguments} {body : Expr} {scope : Scope} {cl : List (Str × Addr)} {pm ctv v : Value} {k : PyData} {R : Heap → Value → PyData → Prop} (L : LamP scope x) (hroom : A.depth < recursionLimit) (hlim : s.heap.NoLimit) (hf : s.heap.get? f = some (PySem.W.kla_obj "<lambda>" q params body scope cl pm c' ctv))
    (hco : ∃ (oc : Obj) (vs : Array Value) (t : Tok), s.heap.get? c' = some oc ∧ oc.data = .fields vs ∧ vs[1]? = some (.str q t)) (hbind : bindArgs (PySem.W.kla_fn "<lambda>" q params body scope cl pm (.ref c') ctv) ⟨[v], []⟩ = pure [(x, v)])
    (hb : LamBody P w x scope body R) (keep : ∀ (h h' : Heap) (v : Value) (k : PyData), (∀ b o, h.get? b = some o → h'.get? b = some o) → R h v k → R h' v k) (hv : R s.heap v k) : wpAny (model P w) A (call (.ref f) [v]) (PySem.W.KeyPure k s) (fun _ _ => False) s := by
  obtain ⟨oc, vs, t, hoc, hdc, hvc⟩ := hco
  have rc : codeAny (model P w) A (.call (.ref f) ⟨[v], []⟩) (fun r s' => match r with | .ok (.ret u) => PySem.W.KeyPure k s u s' | _ => False) s := by
    refine PySem.W.kla_callFunE hroom hf rfl L.co L.gen rfl ⟨c', oc, vs, t, rfl, hoc, hdc, hvc⟩ ?_
    rw [hbind]
    refine wpAny_pure (wpAny_newFunctionEnv L.cell (fun y hy => ?_) (fun h₁ hns hsb => ⟨hlim.fresh _ hsb, ?_⟩) L.kind)
    · rw [List.mem_singleton.mp hy]
      exact L.loc
    have kp : ∀ b o, s.heap.get? b = some o → h₁.get? b = some o := fun b o e => hsb.extBut b o (Nat.ne_of_lt (Heap.lt_size e)) (Heap.get?_push_of_some _ e)
    refine PySem.W.kla_codeExpr (wpAny_mono (hb _ _ _ { s with heap := h₁, toks := s.toks + 1 } _ v k rfl hns (by simp [List.lookup]) (keep _ _ _ _ kp hv)) (fun u s' hq => ?_) fun e s' hq => hq)
    obtain ⟨h', tk, rfl, hk, hr⟩ := hq
    exact ⟨h', tk, rfl, fun b o e => hk b o (kp b o e), hr⟩
  refine wpAny_call (codeAny_mono rc fun r s' hq => ?_)
  cases r with
  | error e => exact hq.elim
  | ok fl =>
    cases fl with
    | ret u => exact hq
    | next => exact False.elim hq
    | brk => exact False.elim hq
    | cont => exact False.elim hq
/-- x[j] of a tuple, raw -/
theorem lam_item {x : Str} {scope : Scope} (L : LamP scope x) {env : Env} {E : Value → Shared → Prop} {m : Str → Option Value} {u : Value} {a : Addr} {its : Array Value} {i : Int} {j kc : Nat} {p1 p2 p3 : Pos} {Q : Value → Shared → Prop} (he : env.scope = scope) (hn : s.heap.Ns env.locals m) (hm : m x = some (.ref a)) (ht : IsTup s.heap a its) (hi : i = (j : Nat)) (hj : its[j]? = some u) (h63 : its.size ≤ sizeLine) (hd : (x == ("__debug__" : Str)) = false)
    (q : ∀ tk, Q u { s with toks := tk }) : wpAny (model P w) A (eval (.Subscript (.Name x p1) (.Constant (.int i) kc p2) p3) env) Q E s := by
  subst hi
  have hlt : j < its.size := (Array.getElem?_eq_some_iff.mp hj).1
  have hs : sizeLine = 16777216 := sizeLine_eq
  refine Subscript_ (wpAny_Name (wpAny_loadName_local (by rw [he]; exact L.kind) (by unfold Env.kindOf; rw [he]; exact L.loc) hn hm ?_) hd)
  refine wpAny_Constant_int ?_
  have ht' : IsTup ({ s with toks := s.toks + 1 } : Shared).heap a its := ht
  exact subscriptTail_builtinR (x := u) ht'.typeIs slot_tuple_getitem.lookup
    (getItem_tuple (j := j) (Q := fun r s' => r = u ∧ Q r s') ht' (by omega) (by omega) (by rw [PySem.StrLaws.seqIndex_nonneg (by omega) (by omega), Int.toNat_natCast]) hj ⟨rfl, q _⟩) rfl
/-! ### the two bodies -/
def RK1 (h : Heap) (v : Value) (k : PyData) : Prop := ∃ a its n t, v = .ref a ∧ IsTup h a its ∧ its[0]? = some (.int n t) ∧ its.size ≤ sizeLine ∧ k = .int n
def RK2 (h : Heap) (v : Value) (k : PyData) : Prop := ∃ a its i j t u, v = .ref a ∧ IsTup h a its ∧ its[0]? = some (.int i t) ∧ its[1]? = some (.int j u) ∧ its.size ≤ sizeLine ∧ k = .tuple [.int i, .int (0 - j)]
theorem isTup_keep {h h' : Heap} {a : Addr} {its : Array Value} (k : ∀ b o, h.get? b = some o → h'.get? b = some o) (p : IsTup h a its) : IsTup h' a its := by
  obtain ⟨o, e, r⟩ := p
  exact ⟨o, k _ _ e, r⟩
theorem RK1.keep (h h' : Heap) (v : Value) (k : PyData) (kp : ∀ b o, h.get? b = some o → h'.get? b = some o) : RK1 h v k → RK1 h' v k := fun ⟨a, its, n, t, e1, e2, e3⟩ => ⟨a, its, n, t, e1, isTup_keep kp e2, e3⟩
theorem RK2.keep (h h' : Heap) (v : Value) (k : PyData) (kp : ∀ b o, h.get? b = some o → h'.get? b = some o) : RK2 h v k → RK2 h' v k := fun ⟨a, its, n, j, t, u, e1, e2, e3⟩ => ⟨a, its, n, j, t, u, e1, isTup_keep kp e2, e3⟩
theorem body1 {P : Program} {w : World} {x : Str} {scope : Scope} {kc : Nat} {p1 p2 p3 : Pos} (L : LamP scope x) (hd : (x == ("__debug__" : Str)) = false) : LamBody P w x scope (.Subscript (.Name x p1) (.Constant (.int 0) kc p2) p3) RK1 := by
  intro A E env s m v k he hn hm ⟨a, its, n, t, e1, e2, e3, e4, e5⟩
  subst e1 e5
  exact lam_item (j := 0) L he hn hm e2 rfl e3 e4 hd fun tk => ⟨s.heap, tk, rfl, fun _ _ e => e, .int n t⟩
theorem body2 {P : Program} {w : World} {x : Str} {scope : Scope} {k1 k2 k3 k4 : Nat} {p1 p2 p3 p4 p5 p6 p7 p8 p9 : Pos} (L : LamP scope x) (hd : (x == ("__debug__" : Str)) = false) :
    LamBody P w x scope (.Tuple [.Subscript (.Name x p1) (.Constant (.int 0) k1 p2) p3, .BinOp (.Constant (.int 0) k2 p4) .Sub (.Subscript (.Name x p5) (.Constant (.int 1) k3 p6) p7) p8] k4 p9) RK2 := by
  intro A E env s m v k he hn hm ⟨a, its, i, j, t, u, e1, e2, e3, e6, e4, e5⟩
  subst e1 e5
  refine wpAny_Tuple_spliced ?_
  show wpAny _ _ (spliced [(false, eval (.Subscript (.Name x p1) (.Constant (.int 0) k1 p2) p3) env), (false, eval (.BinOp (.Constant (.int 0) k2 p4) .Sub (.Subscript (.Name x p5) (.Constant (.int 1) k3 p6) p7) p8) env)]) _ _ _
  refine Calls.spliced_cons (lam_item (j := 0) L he hn hm e2 rfl e3 e4 hd fun tk => Calls.spliced_cons (wpAny_BinOp (wpAny_Constant_int (lam_item (s := { s with toks := tk + 1 }) (j := 1) L he hn hm e2 rfl e6 e4 hd fun tk2 => PyProof.Rows.sub_int (Calls.spliced_nil ⟨by show 2 ≤ sizeLine; decide, ?_⟩)))))
  refine ⟨_, tk2 + 1, rfl, fun b o e => Heap.get?_push_of_some _ e, ?_⟩
  refine .tuple (as := []) (Heap.get?_push_size _ rfl) rfl rfl ?_
  exact .cons (as := []) (.int i t) (.cons (as := []) (.int (0 - j) tk2) .nil)
end
/-! ### sorted(e, key=lambda x: body), by values -/
section
variable {T : List (Addr × Str)} {X : Cx} {ga : WE} {a : Expr} {pos : Pos}
def tSK (K : PySem.W.Frag) (T : List (Addr × Str)) (R : Hp → V → PyData → Prop) (t : TE) : TE := fun σ H Q => t σ H fun v H1 => LamX.Tabs T H1 ∧ ∃ (a : Addr) (bs : List (V × PyData)), v = .ref a ∧ SqL K H1 a (bs.map (·.1)) ∧ (∀ b ∈ bs, R H1 b.1 b.2) ∧ PySem.W.AllAlike (bs.map (·.2)) ∧ PySem.W.Sortable (bs.map (·.2)) ∧ (∀ b ∈ bs, b.2.depth ≤ 10) ∧
  ∀ H2, LamX.ExtN H1 H2 → LamX.Tabs T H2 → ∀ q, H2 q = none → Q (.ref q) (upd H2 q (.lst ((bs.mergeSort (PySem.W.dataLe false (·.2))).map (·.1))))
theorem each_vals : ∀ {bs : List (V × PyData)} {us : List Value}, Vals (bs.map (·.1)) us → PySem.W.EachIs (fun u b => RelV b.1 u) us bs
  | [], _, h => by cases h; exact .nil
  | _ :: _, _, h => by
    cases h with
    | cons h t => exact .cons h (each_vals t)
theorem vals_each : ∀ {bs : List (V × PyData)} {us : List Value}, PySem.W.EachIs (fun u b => RelV b.1 u) us bs → Vals (bs.map (·.1)) us
  | _, _, .nil => .nil
  | _, _, .cons h t => .cons h (vals_each t)
theorem pe_sortKey {x : Str} {RH : Hp → V → PyData → Prop} {RV : Heap → Value → PyData → Prop} {c P : Addr} {k : Nat} {params : Arguments} {body : Expr} {scope : Scope} {te : TE} {p lpos kpos : Pos} (hg : Gl X "sorted") (hm : X.mg "sorted" = none) (ha : PE X a te) (hr : Room k X.A)
    (TB : LamX.TabB X.base X.mg c P) (hcode : X.env.code = .ref c) (hmT : (P, X.env.qual ++ "<lambda>") ∈ T) (hu : ∀ p ∈ T, p.1 = P → p.2 = X.env.qual ++ "<lambda>") (L : LamP scope x) (hdef : defaultsOf params X.env = ([], []))
    (hbind : ∀ (q : Str) (cl : List (Str × Addr)) (pm cv ctv v : Value), bindArgs (PySem.W.kla_fn "<lambda>" q params body scope cl pm cv ctv) ⟨[v], []⟩ = pure [(x, v)])
    (hb : LamBody X.prog X.w x scope body RV) (keep : ∀ (h h' : Heap) (v : Value) (k : PyData), (∀ b o, h.get? b = some o → h'.get? b = some o) → RV h v k → RV h' v k)
    (hRR : ∀ {pins : List (Addr × Obj)} {σ : L2.St} {H : Hp} {s : Shared} {v : V} {u : Value} {d : PyData}, L2.Inv X pins σ H s → RelV v u → RH H v d → RV s.heap u d) (hRH : ∀ {H H2 : Hp} {v : V} {d : PyData}, LamX.ExtN H H2 → RH H v d → RH H2 v d)
    (he : backTo pos (starEach [a] X.env) = (false, eval a X.env) :: backTo pos (starEach [] X.env) := by rfl) (hs1 : starEach [a] X.env = (false, eval a X.env) :: starEach [] X.env := by rfl) (hpl : (backTo pos (starEach [a] X.env)).any (·.1) = false := by rfl) :
    PE X (.Call (.Name "sorted" p) [a] [⟨some (Str.ofString "key"), .Lambda params body scope lpos, kpos⟩] pos) (tSK X.K T RH te) := by
  refine ⟨fun pins s σ H Q I h => ?_⟩
  refine wpAny_Call_Name_kw (ld_blt I hg hm (by decide +kernel : bootBuiltins "sorted" = some (.builtin "sorted")) ?_)
  refine PyProof.Rows.callWith_kw ?_ he hpl rfl rfl
  rw [he]
  refine Calls.spliced_cons (thn (ha.run pins s σ H _ I h) fun u s1 ⟨v, H1, I1, r1, hT, ad, bs, ev, hs, hR, hal, hso, hdp, q⟩ => Calls.spliced_nil ?_)
  subst ev
  obtain rfl : u = Value.ref ad := r1
  show wpAny _ _ (evalAll [(do let v ← eval (.Lambda params body scope lpos) X.env; standAt pos; pure v)]) _ _ s1
  refine wpAny_evalAll_cons (wpAny_bind (LamX.lam_make2 I1 TB hcode hmT hu hT hdef (fun y hy e => absurd e (L.free y hy)) fun f c' pm ctv H2 s2 I2 eN T2 hf hfn hfr hco => wpAny_bind (wpAny_standAt (wpAny_pure (wpAny_evalAll_nil ?_)))))
  show wpAny _ _ (call (.builtin "sorted") [.ref ad] [(Str.ofString "key", .ref f)]) _ _ s2
  have hs2 : SqL X.K H2 ad (bs.map (·.1)) := by
    rcases hs with hs | hs
    · exact .inl (by
        rcases hs with z | ⟨o, z⟩
        · exact .inl (eN _ _ z fun ps z => by cases z)
        · exact .inr ⟨o, eN _ _ z fun ps z => by cases z⟩)
    · exact .inr hs
  obtain ⟨its, rv, hl, hz⟩ := I2.list hs2
  obtain ⟨⟨oc, vs, t, hoc, hdc, hvc⟩, _, _⟩ := I2.hok c' _ hco
  have hun := hr.un
  have R3 : ∀ b ∈ bs, RH H2 b.1 b.2 := fun b hb => hRH eN (hR b hb)
  refine PySem.W.sorted_key_data (b := false) (R := fun u b => RelV b.1 u) (fun b : V × PyData => b.2) hl.isList (each_vals rv) hal hso (by simpa using hz) (fun b hb => by have := hdp b hb; omega) (PyProof.Rows.ksk_s1 _ _) (fun _ => PyProof.Rows.ksk_l1 _ _) (fun _ => PyProof.Rows.ksk_t1 _ _)
    (fun u b ru hb' h' tk kp => ?_) fun out c0 h' tk kp hn ho hlo eo => ?_
  · refine lam_call (s := { s2 with heap := h', toks := tk }) L ?_ (I2.nolimit.keeps kp) (kp _ _ hf) ⟨oc, vs, t, kp _ _ hoc, hdc, hvc⟩ (hbind _ _ _ _ _ _) hb keep (keep _ _ _ _ kp (hRR I2 ru (R3 b hb')))
    have := hr.dp
    show X.A.depth < recursionLimit
    omega
  · have ho' := vals_each eo
    have hle : s2.heap.objs.size ≤ s2.heap.objs.size + 1 := Nat.le_succ _
    refine ⟨.ref _, upd H2 (s2.heap.objs.size + 1) (.lst ((bs.mergeSort (PySem.W.dataLe false (·.2))).map (·.1))), I2.laid (t' := tk) kp hle ⟨?_, out, c0, ho', ho⟩, rfl, q H2 eN T2 _ (I2.hok.fresh hle)⟩
    rw [List.length_map, List.length_mergeSort]
    simpa using hz
end
end DL
namespace DL
open PySem PySem.Spec PyProof.Rows L2
def RH1 (H : Hp) (v : V) (k : PyData) : Prop := ∃ a n rest, v = .ref a ∧ H a = some (.tup (.int n :: rest)) ∧ k = .int n
def RH2 (H : Hp) (v : V) (k : PyData) : Prop := ∃ a i j, v = .ref a ∧ H a = some (.tup [.int i, .int j]) ∧ k = .tuple [.int i, .int (0 - j)]
section
variable {T : List (Addr × Str)} {X : Cx} {ga : WE} {a : Expr} {pos : Pos}
theorem RH1.raw {pins : List (Addr × Obj)} {σ : L2.St} {H : Hp} {s : Shared} {v : V} {u : Value} {d : PyData} (I : L2.Inv X pins σ H s) (r : RelV v u) (h : RH1 H v d) : RK1 s.heap u d := by
  obtain ⟨a, n, rest, rfl, ha, rfl⟩ := h
  obtain rfl : u = Value.ref a := r
  obtain ⟨its, rv, p, hz⟩ := I.tuple (SqT.of ha)
  have hl := rv.length
  cases rv with
  | @cons _ w _ ws h t =>
    obtain ⟨tk, rfl⟩ := h
    exact ⟨a, _, n, tk, rfl, p, by simp, by simp at hl hz ⊢; omega, rfl⟩
theorem RH2.raw {pins : List (Addr × Obj)} {σ : L2.St} {H : Hp} {s : Shared} {v : V} {u : Value} {d : PyData} (I : L2.Inv X pins σ H s) (r : RelV v u) (h : RH2 H v d) : RK2 s.heap u d := by
  obtain ⟨a, i, j, rfl, ha, rfl⟩ := h
  obtain rfl : u = Value.ref a := r
  obtain ⟨its, rv, p, hz⟩ := I.tuple (SqT.of ha)
  obtain ⟨u1, u2, rfl, ⟨t1, rfl⟩, ⟨t2, rfl⟩⟩ := vals2 rv
  exact ⟨a, _, i, j, t1, t2, rfl, p, by simp, by simp, by show 2 ≤ sizeLine; decide, rfl⟩
theorem RH1.ext {H H2 : Hp} {v : V} {d : PyData} (e : LamX.ExtN H H2) : RH1 H v d → RH1 H2 v d := fun ⟨a, n, r, h1, h2, h3⟩ => ⟨a, n, r, h1, e _ _ h2 (fun ps z => by cases z), h3⟩
theorem RH2.ext {H H2 : Hp} {v : V} {d : PyData} (e : LamX.ExtN H H2) : RH2 H v d → RH2 H2 v d := fun ⟨a, n, r, h1, h2, h3⟩ => ⟨a, n, r, h1, e _ _ h2 (fun ps z => by cases z), h3⟩
/-- rows: tuples whose first item is an int -/
def headI : PyData → Option Int
  | .tuple (.int n :: _) => some n
  | _ => none
def wSortK1 (g : WE) : WE := fun δ M P => g δ M fun d M1 => ∃ ds, AsL M1 d ds ∧ (∀ x ∈ ds, ∃ n, headI x = some n) ∧ ∀ out, out.Perm ds → P (.py (.list out)) M1
def wSortK2 (g : WE) : WE := fun δ M P => g δ M fun d M1 => ∃ ps : List (Int × Int), AsL M1 d (ps.map prP) ∧ ∀ qs : List (Int × Int), qs.Perm ps → qs.Pairwise (fun p q => p.1 < q.1 ∨ (p.1 = q.1 ∧ q.2 ≤ p.2)) → P (.py (.list (qs.map prP))) M1
theorem trall_perm {S : Hp} {β : Type} {f : β → V} {g : β → PyData} {l l' : List β} (hp : l'.Perm l) (h : TrAll S (l.map f) (l.map g)) : TrAll S (l'.map f) (l'.map g) := by
  have all : ∀ {l : List β}, TrAll S (l.map f) (l.map g) → ∀ b ∈ l, Tr S (f b) (g b) := by
    intro l
    induction l with
    | nil => intro _ b hb; cases hb
    | cons c r ih =>
      intro t b hb
      cases t with
      | cons h t =>
        rcases List.mem_cons.mp hb with rfl | hb
        · exact h
        · exact ih t b hb
  have mk : ∀ {l : List β}, (∀ b ∈ l, Tr S (f b) (g b)) → TrAll S (l.map f) (l.map g) := by
    intro l
    induction l with
    | nil => intro _; exact .nil
    | cons c r ih => intro q; exact .cons (q c List.mem_cons_self) (ih fun b hb => q b (List.mem_cons_of_mem _ hb))
  exact mk fun b hb => all h b (hp.mem_iff.mp hb)
theorem map_zip1 {α β : Type} : ∀ {l : List α} {m : List β}, l.length = m.length → (l.zip m).map (·.1) = l ∧ (l.zip m).map (·.2) = m
  | [], [], _ => ⟨rfl, rfl⟩
  | [], _ :: _, h => by cases h
  | _ :: _, [], h => by cases h
  | a :: l, b :: m, h => by
    obtain ⟨h1, h2⟩ := map_zip1 (l := l) (m := m) (Nat.succ.inj h)
    exact ⟨by rw [List.zip_cons_cons, List.map_cons, h1], by rw [List.zip_cons_cons, List.map_cons, h2]⟩
def keyI (x : PyData) : PyData := match headI x with
  | some n => .int n
  | none => .int 0
theorem keyI_int (x : PyData) : ∃ n, keyI x = .int n := by
  unfold keyI
  cases headI x with
  | none => exact ⟨0, rfl⟩
  | some n => exact ⟨n, rfl⟩
theorem rh1_of {S H : Hp} (e : Same S H) {v : V} {d : PyData} {n : Int} (r : Tr S v d) (h : headI d = some n) : RH1 H v (keyI d) := by
  have hk : keyI d = .int n := by unfold keyI; rw [h]
  unfold headI at h
  split at h
  · cases h
    cases r with
    | @tup a xs _ hs t =>
      cases t with
      | cons q t =>
        cases q
        exact ⟨a, n, _, rfl, e _ _ hs, hk⟩
  · cases h
theorem perm_map {α β : Type} {f : α → β} : ∀ {l : List α} {m : List β}, m.Perm (l.map f) → ∃ l' : List α, l'.Perm l ∧ m = l'.map f := by
  intro l m h
  generalize hn : l.map f = n at h
  induction h generalizing l with
  | nil => exact ⟨[], (by cases l with | nil => exact .refl _ | cons _ _ => cases hn), rfl⟩
  | @cons x m n h ih =>
    cases l with
    | nil => cases hn
    | cons y l =>
      rw [List.map_cons] at hn
      cases hn
      obtain ⟨l', h1, h2⟩ := ih rfl
      exact ⟨y :: l', h1.cons y, by rw [h2]; rfl⟩
  | swap x y m =>
    match l, hn with
    | a :: b :: l, hn =>
      rw [List.map_cons, List.map_cons] at hn
      cases hn
      exact ⟨b :: a :: l, .swap a b l, rfl⟩
  | trans h1 h2 ih1 ih2 =>
    obtain ⟨l1, p1, e1⟩ := ih2 hn
    obtain ⟨l2, p2, e2⟩ := ih1 e1.symm
    exact ⟨l2, p2.trans p1, e2⟩
theorem weak_sk1 {te : WE} {σ : L2.St} {H : Hp} {Q : VK} (h : tD X.K T (wSortK1 te) σ H Q) : tSK X.K T RH1 (tD X.K T te) σ H Q := by
  obtain ⟨S, M, δ, P, sp, re, g, k⟩ := h
  refine ⟨S, M, δ, _, sp, re, g, fun d M1 v S1 H1 ⟨ds, hd, hh, p⟩ sp1 po1 r1 => ?_⟩
  obtain ⟨a, vs, rfl, ha, t⟩ := AsL.sq sp1 r1 hd
  have hlen : vs.length = (ds.map keyI).length := by rw [List.length_map]; exact t.length
  obtain ⟨z1, z2⟩ := map_zip1 hlen
  have hl2 := t.length
  have hal : PySem.W.AllAlike (ds.map keyI) := PySem.W.AllAlike.of fun x y => by
    obtain ⟨n, e1⟩ := keyI_int x
    obtain ⟨m, e2⟩ := keyI_int y
    rw [e1, e2]
    simp [PySem.W.alike]
  have hso : PySem.W.Sortable (ds.map keyI) := PySem.W.Sortable.others fun x => by
    obtain ⟨n, e1⟩ := keyI_int x
    rw [e1]
    exact ⟨(fun z => by cases z), (fun _ z => by cases z)⟩
  refine ⟨sp1.tab, a, vs.zip (ds.map keyI), rfl, by rw [z1]; exact SqL.of ha, fun b hb => ?_, by rw [z2]; exact hal, by rw [z2]; exact hso, fun b hb => ?_, fun H2 eN T2 q hq => ?_⟩
  · obtain ⟨i, hi⟩ := List.getElem?_of_mem hb
    rw [List.getElem?_zip_eq_some] at hi
    obtain ⟨h1, h2⟩ := hi
    rw [List.getElem?_map] at h2
    obtain ⟨x, hx, hx2⟩ := Option.map_eq_some_iff.mp h2
    obtain ⟨v', hv', tr⟩ := t.get hx
    rw [h1] at hv'
    cases hv'
    rw [← hx2]
    obtain ⟨n, hn⟩ := hh x (List.mem_of_getElem? hx)
    exact rh1_of sp1.ex tr hn
  · have : b.2 ∈ ds.map keyI := by rw [← z2]; exact List.mem_map.mpr ⟨b, hb, rfl⟩
    obtain ⟨x, _, hx⟩ := List.mem_map.mp this
    obtain ⟨n, e1⟩ := keyI_int x
    rw [← hx, e1]
    simp [PyData.depth]
  · have sp2 := sp1.extN eN T2
    have po2 : Post S1 M1 H1 S1 M1 H2 := Post.extN eN
    -- the items of vs go with those of ds
    let zs := vs.zip ds
    obtain ⟨y1, y2⟩ := map_zip1 hl2
    have hbs : vs.zip (ds.map keyI) = zs.map fun p => (p.1, keyI p.2) := by
      show vs.zip (ds.map keyI) = (vs.zip ds).map _
      rw [List.zip_map_right]
      rfl
    have pm := List.mergeSort_perm (vs.zip (ds.map keyI)) (PySem.W.dataLe false (·.2))
    rw [hbs] at pm ⊢
    obtain ⟨zs', hz1, hz2⟩ : ∃ zs' : List (V × PyData), zs'.Perm zs ∧ (zs.map fun p => (p.1, keyI p.2)).mergeSort (PySem.W.dataLe false (·.2)) = zs'.map fun p => (p.1, keyI p.2) := perm_map pm
    rw [hz2, List.map_map]
    have tr : TrAll S1 (zs.map (·.1)) (zs.map (·.2)) := by rw [y1, y2]; exact t
    have tr' := trall_perm hz1 tr
    have pp : (zs'.map (·.2)).Perm ds := by
      have := hz1.map (·.2)
      rw [y2] at this
      exact this
    refine Kont.newS (Kont.after k (po1.trans sp1 po2) sp2) sp2 hq (p _ pp) (.lst upd_same ?_)
    exact tr'.mono (same_new (sp2.free hq).1)
def keyP (p : Int × Int) : PyData := .tuple [.int p.1, .int (0 - p.2)]
theorem le_keyP (p q : Int × Int) : (!PySem.W.dataLt (keyP q) (keyP p)) = true ↔ (p.1 < q.1 ∨ (p.1 = q.1 ∧ q.2 ≤ p.2)) := by
  show (!PySem.W.dataLt (.tuple [.int q.1, .int (0 - q.2)]) (.tuple [.int p.1, .int (0 - p.2)])) = true ↔ _
  rw [PySem.W.dataLt_ii, Bool.not_eq_true', decide_eq_false_iff_not]
  omega
theorem weak_sk2 {te : WE} {σ : L2.St} {H : Hp} {Q : VK} (h : tD X.K T (wSortK2 te) σ H Q) : tSK X.K T RH2 (tD X.K T te) σ H Q := by
  obtain ⟨S, M, δ, P, sp, re, g, k⟩ := h
  refine ⟨S, M, δ, _, sp, re, g, fun d M1 v S1 H1 ⟨ps, hd, p⟩ sp1 po1 r1 => ?_⟩
  obtain ⟨a, vs, rfl, ha, t⟩ := AsL.sq sp1 r1 hd
  have hl2 := t.length
  rw [List.length_map] at hl2
  have hlen : vs.length = (ps.map keyP).length := by rw [List.length_map]; exact hl2
  obtain ⟨z1, z2⟩ := map_zip1 hlen
  obtain ⟨y1, y2⟩ := map_zip1 hl2
  have hal : PySem.W.AllAlike (ps.map keyP) := PySem.W.AllAlike.of fun x y => by simp [keyP, PySem.W.alike, PySem.W.alikeAll]
  have hso : PySem.W.Sortable (ps.map keyP) := PySem.W.Sortable.tuples fun x => ⟨_, _, rfl⟩
  have hbs : vs.zip (ps.map keyP) = (vs.zip ps).map fun p => (p.1, keyP p.2) := by
    rw [List.zip_map_right]
    rfl
  refine ⟨sp1.tab, a, vs.zip (ps.map keyP), rfl, by rw [z1]; exact SqL.of ha, fun b hb => ?_, by rw [z2]; exact hal, by rw [z2]; exact hso, fun b hb => ?_, fun H2 eN T2 q hq => ?_⟩
  · obtain ⟨i, hi⟩ := List.getElem?_of_mem hb
    rw [List.getElem?_zip_eq_some] at hi
    obtain ⟨h1, h2⟩ := hi
    rw [List.getElem?_map] at h2
    obtain ⟨x, hx, hx2⟩ := Option.map_eq_some_iff.mp h2
    obtain ⟨v', hv', tr⟩ := t.get (i := i) (d := prP x) (by rw [List.getElem?_map, hx]; rfl)
    rw [h1] at hv'
    cases hv'
    rw [← hx2]
    obtain ⟨c, hc, hs⟩ := tr_pair tr
    exact ⟨c, x.1, x.2, hc, sp1.ex _ _ hs, rfl⟩
  · have : b.2 ∈ ps.map keyP := by rw [← z2]; exact List.mem_map.mpr ⟨b, hb, rfl⟩
    obtain ⟨x, _, hx⟩ := List.mem_map.mp this
    rw [← hx]
    simp [keyP, PyData.depth, PyData.depthAll]
  · have sp2 := sp1.extN eN T2
    have po2 : Post S1 M1 H1 S1 M1 H2 := Post.extN eN
    have TL : PySem.W.TotalLe (PySem.W.dataLe false (fun b : V × PyData => b.2)) := PySem.W.sortLe_total _ _ _
    have pw := List.pairwise_mergeSort (le := PySem.W.dataLe false (fun b : V × PyData => b.2)) TL.trans (fun a b => by rw [Bool.or_eq_true]; exact TL.total a b) (vs.zip (ps.map keyP))
    have pm := List.mergeSort_perm (vs.zip (ps.map keyP)) (PySem.W.dataLe false (·.2))
    rw [hbs] at pm pw ⊢
    obtain ⟨zs', hz1, hz2⟩ := perm_map pm
    rw [hz2] at pw ⊢
    rw [List.map_map]
    have tr : TrAll S1 ((vs.zip ps).map (·.1)) ((vs.zip ps).map fun b => prP b.2) := by
      rw [show ((vs.zip ps).map fun b => prP b.2) = ((vs.zip ps).map (·.2)).map prP by rw [List.map_map]; rfl, y1, y2]
      exact t
    have tr' := trall_perm hz1 tr
    have pp : (zs'.map (·.2)).Perm ps := by
      have := hz1.map (·.2)
      rw [y2] at this
      exact this
    have pw2 : (zs'.map (·.2)).Pairwise (fun p q => p.1 < q.1 ∨ (p.1 = q.1 ∧ q.2 ≤ p.2)) := by
      rw [List.pairwise_map] at pw ⊢
      exact pw.imp fun {x y} h => (le_keyP x.2 y.2).mp h
    refine Kont.newS (Kont.after k (po1.trans sp1 po2) sp2) sp2 hq (p _ pp pw2) (.lst upd_same ?_)
    rw [List.map_map]
    exact tr'.mono (same_new (sp2.free hq).1)
end
/-- the table of a def's lambdas -/
structure TbOk (base : Heap) (mg : Str → Option Value) (T : List (Addr × Str)) (c P : Addr) (q : Str) : Prop where
  tb : LamX.TabB base mg c P
  mem : (P, q) ∈ T
  one : ∀ p ∈ T, p.1 = P → p.2 = q
section
variable {T : List (Addr × Str)} {X : Cx} {ga : WE} {a : Expr} {pos : Pos}
theorem d_sortedKey1 {x : Str} {c P : Addr} {k kc : Nat} {params : Arguments} {scope : Scope} {p lpos kpos p1 p2 p3 : Pos} (LT : TbOk X.base X.mg T c P (X.env.qual ++ "<lambda>")) (hr : Room k X.A) (hg : Gl X "sorted") (hm : X.mg "sorted" = none) (ha : PE X a (tD X.K T ga)) (L : LamP scope x)
    (hcode : X.env.code = .ref c := by rfl) (hd : (x == ("__debug__" : Str)) = false := by decide) (hdef : defaultsOf params X.env = ([], []) := by rfl)
    (hbind : ∀ (q : Str) (cl : List (Str × Addr)) (pm cv ctv v : Value), bindArgs (PySem.W.kla_fn "<lambda>" q params (.Subscript (.Name x p1) (.Constant (.int 0) kc p2) p3) scope cl pm cv ctv) ⟨[v], []⟩ = pure [(x, v)] := by intro _ _ _ _ _ _; rfl)
    (he : backTo pos (starEach [a] X.env) = (false, eval a X.env) :: backTo pos (starEach [] X.env) := by rfl) (hs1 : starEach [a] X.env = (false, eval a X.env) :: starEach [] X.env := by rfl) (hpl : (backTo pos (starEach [a] X.env)).any (·.1) = false := by rfl) :
    PE X (.Call (.Name "sorted" p) [a] [⟨some (Str.ofString "key"), .Lambda params (.Subscript (.Name x p1) (.Constant (.int 0) kc p2) p3) scope lpos, kpos⟩] pos) (tD X.K T (wSortK1 ga)) :=
  PE_weak (pe_sortKey hg hm ha hr LT.tb hcode LT.mem LT.one L hdef hbind (body1 L hd) RK1.keep RH1.raw RH1.ext he hs1 hpl) fun _ _ _ h => weak_sk1 h
theorem d_sortedKey2 {x : Str} {c P : Addr} {k k1 k2 k3 k4 : Nat} {params : Arguments} {scope : Scope} {p lpos kpos p1 p2 p3 p4 p5 p6 p7 p8 p9 : Pos} (LT : TbOk X.base X.mg T c P (X.env.qual ++ "<lambda>")) (hr : Room k X.A) (hg : Gl X "sorted") (hm : X.mg "sorted" = none) (ha : PE X a (tD X.K T ga)) (L : LamP scope x)
    (hcode : X.env.code = .ref c := by rfl) (hd : (x == ("__debug__" : Str)) = false := by decide) (hdef : defaultsOf params X.env = ([], []) := by rfl)
    (hbind : ∀ (q : Str) (cl : List (Str × Addr)) (pm cv ctv v : Value), bindArgs (PySem.W.kla_fn "<lambda>" q params (.Tuple [.Subscript (.Name x p1) (.Constant (.int 0) k1 p2) p3, .BinOp (.Constant (.int 0) k2 p4) .Sub (.Subscript (.Name x p5) (.Constant (.int 1) k3 p6) p7) p8] k4 p9) scope cl pm cv ctv) ⟨[v], []⟩ = pure [(x, v)] := by intro _ _ _ _ _ _; rfl)
    (he : backTo pos (starEach [a] X.env) = (false, eval a X.env) :: backTo pos (starEach [] X.env) := by rfl) (hs1 : starEach [a] X.env = (false, eval a X.env) :: starEach [] X.env := by rfl) (hpl : (backTo pos (starEach [a] X.env)).any (·.1) = false := by rfl) :
    PE X (.Call (.Name "sorted" p) [a] [⟨some (Str.ofString "key"), .Lambda params (.Tuple [.Subscript (.Name x p1) (.Constant (.int 0) k1 p2) p3, .BinOp (.Constant (.int 0) k2 p4) .Sub (.Subscript (.Name x p5) (.Constant (.int 1) k3 p6) p7) p8] k4 p9) scope lpos, kpos⟩] pos) (tD X.K T (wSortK2 ga)) :=
  PE_weak (pe_sortKey hg hm ha hr LT.tb hcode LT.mem LT.one L hdef hbind (body2 L hd) RK2.keep RH2.raw RH2.ext he hs1 hpl) fun _ _ _ h => weak_sk2 h
end
/-! ### a def whose code object is known -/
structure FunC (K : PySem.W.Frag) (x qual : Str) (st : Stmt) (f : Addr) (fd : FuncData) (c : Addr) : Prop where
  ex : ∃ (oc : Value) (od : Option Addr) (kV doc pm : Value) (an : Option Addr) (ct : Value) (osl : Array (Option Value)),
    fd = PySem.W.fnOf x qual (defArgs st) (defBody st) (defScope st) .none kV doc pm an (.ref c) ct ∧ K.lookup f = some ⟨oc, od, .func fd, osl⟩ ∧ PySem.W.codeIn K (.ref c) qual = true
section
variable {P : Program} {w : World} {K : PySem.W.Frag} {mg : Str → Option Value} {base : Heap} {T : List (Addr × Str)}
theorem dokC {x qual : Str} {st : Stmt} {f c : Addr} {fd : FuncData} {N ps : List Str} {k : Nat} {F : WF} (Fn : FunC K x qual st f fd c) (Sc : FnScope N ps (defScope st)) (len : ∀ ds M P, F ds M P → ds.length = ps.length)
    (hbody : ∀ (A : Around) (outer : List Env) (s : Shared) (H : Hp) (E : XK), Room k (A.deeper (envOfC qual (defScope st) s.heap.objs.size f (.ref c))) →
      ∃ G, PSs (cxOf CX0 P w K mg base N qual (defScope st) f (.ref c) A outer s H E).nox (defBody st) (tDS K T G) ∧ ∀ ds M P, F ds M P → G (dEnds P) (startD N.length ds) M) : FnOk P w K mg base CX0 (k + 1) f fd ps (dSp K T F) := by
  obtain ⟨oc, od, kV, doc, pm, an, ct, osl, rfl, lk, hcd⟩ := Fn.ex
  refine fn_of lk hcd Sc (fun vs H Q E ⟨S, M, ds, Pd, sp, r, h, _⟩ => by rw [r.length]; exact len ds M Pd h) fun A outer s H vs Q E hr ⟨S, M, ds, Pd, sp, r, h, k⟩ => ?_
  obtain ⟨G, hG, hg⟩ := hbody A outer s H E hr
  refine ⟨_, hG.nox, tDS_mk sp (REnv.start r) (hg ds M Pd h) ⟨fun δ' M' σ' S' H' ⟨d', M2, z, p⟩ sp' po' _ => ?_, fun d M' v S' H' ⟨d', M2, z, p⟩ sp' po' r' => ?_, fun _ _ _ _ _ q _ _ _ => q, fun _ _ _ _ _ q _ _ _ => q⟩⟩
  · obtain ⟨S2, sp2, po2, r2⟩ := z.run sp' (v := .non) Tr.non
    exact k d' M2 .non S2 H' p sp2 (po'.trans sp' po2) r2
  · obtain ⟨S2, sp2, po2, r2⟩ := z.run sp' r'
    exact k d' M2 v S2 H' p sp2 (po'.trans sp' po2) r2
end
end DL
namespace RO
open PySem PySem.Spec PyProof.Rows L2 DL
def topS (i : Nat) : Stmt := PySem.Challenge.pw_ringorders_k33_whole_no_difference_joins.main.body.getD i (.Pass ⟨0, 0, 0, 0⟩)
abbrev s_is_whole : Stmt := topS 4
theorem sc_is_whole : FnScope ["thing"] ["thing"] (defScope s_is_whole) := ⟨rfl, rfl, rfl, by decide +kernel, rfl, by decide +kernel, by decide +kernel⟩
abbrev s_is_from_to : Stmt := topS 5
theorem sc_is_from_to : FnScope ["thing", "least", "most"] ["thing", "least", "most"] (defScope s_is_from_to) := ⟨rfl, rfl, rfl, by decide +kernel, rfl, by decide +kernel, by decide +kernel⟩
abbrev s_sent_from : Stmt := topS 8
theorem sc_sent_from : FnScope ["line"] ["line"] (defScope s_sent_from) := ⟨rfl, rfl, rfl, by decide +kernel, rfl, by decide +kernel, by decide +kernel⟩
abbrev s_is_pair : Stmt := topS 10
theorem sc_is_pair : FnScope ["bridge", "room", "thing"] ["bridge", "room", "thing"] (defScope s_is_pair) := ⟨rfl, rfl, rfl, by decide +kernel, rfl, by decide +kernel, by decide +kernel⟩
abbrev s_span : Stmt := topS 11
theorem sc_span : FnScope ["bridge", "room", "pair", "lag", "row", "far"] ["bridge", "room", "pair", "lag"] (defScope s_span) := ⟨rfl, rfl, rfl, by decide +kernel, rfl, by decide +kernel, by decide +kernel⟩
abbrev s_meets : Stmt := topS 12
theorem sc_meets : FnScope ["bridge", "room", "pair", "lag", "low", "high", "least", "greatest"] ["bridge", "room", "pair", "lag", "low", "high"] (defScope s_meets) := ⟨rfl, rfl, rfl, by decide +kernel, rfl, by decide +kernel, by decide +kernel⟩
abbrev s_pairs_within : Stmt := topS 13
theorem sc_pairs_within : FnScope ["bridge", "room", "lag", "low", "high", "found", "b", "row", "some", "r", "other", "pair"] ["bridge", "room", "lag", "low", "high"] (defScope s_pairs_within) := ⟨rfl, rfl, rfl, by decide +kernel, rfl, by decide +kernel, by decide +kernel⟩
abbrev s_pairs_at : Stmt := topS 14
theorem sc_pairs_at : FnScope ["bridge", "room", "d", "lag"] ["bridge", "room", "d", "lag"] (defScope s_pairs_at) := ⟨rfl, rfl, rfl, by decide +kernel, rfl, by decide +kernel, by decide +kernel⟩
abbrev s_by_lines : Stmt := topS 16
theorem sc_by_lines : FnScope ["bridge", "pairs", "found", "pair"] ["bridge", "pairs"] (defScope s_by_lines) := ⟨rfl, rfl, rfl, by decide +kernel, rfl, by decide +kernel, by decide +kernel⟩
abbrev s_is_ahead : Stmt := topS 17
theorem sc_is_ahead : FnScope ["one", "other"] ["one", "other"] (defScope s_is_ahead) := ⟨rfl, rfl, rfl, by decide +kernel, rfl, by decide +kernel, by decide +kernel⟩
abbrev s_is_steep : Stmt := topS 18
theorem sc_is_steep : FnScope ["pairs", "one", "other"] ["pairs"] (defScope s_is_steep) := ⟨rfl, rfl, rfl, by decide +kernel, rfl, by decide +kernel, by decide +kernel⟩
abbrev s_clash : Stmt := topS 19
theorem sc_clash : FnScope ["bridge", "room", "one", "other", "lag", "low", "high", "is_alike", "first", "second"] ["bridge", "room", "one", "other", "lag", "low", "high"] (defScope s_clash) := ⟨rfl, rfl, rfl, by decide +kernel, rfl, by decide +kernel, by decide +kernel⟩
abbrev s_are_loose : Stmt := topS 20
theorem sc_are_loose : FnScope ["bridge", "room", "thing", "some", "one"] ["bridge", "room", "thing"] (defScope s_are_loose) := ⟨rfl, rfl, rfl, by decide +kernel, rfl, by decide +kernel, by decide +kernel⟩
abbrev s_ranks : Stmt := topS 22
theorem sc_ranks : FnScope ["pairs", "found", "most", "pair", "r"] ["pairs"] (defScope s_ranks) := ⟨rfl, rfl, rfl, by decide +kernel, rfl, by decide +kernel, by decide +kernel⟩
abbrev s_longest : Stmt := topS 23
theorem sc_longest : FnScope ["pairs", "rank", "wanted", "found", "pair"] ["pairs"] (defScope s_longest) := ⟨rfl, rfl, rfl, by decide +kernel, rfl, by decide +kernel, by decide +kernel⟩
abbrev s_layers : Stmt := topS 24
theorem sc_layers : FnScope ["pairs", "found", "rank", "pair", "one"] ["pairs"] (defScope s_layers) := ⟨rfl, rfl, rfl, by decide +kernel, rfl, by decide +kernel, by decide +kernel⟩
abbrev s_greatest : Stmt := topS 26
theorem sc_greatest : FnScope ["bridge", "room", "pairs", "d", "lag", "some"] ["bridge", "room", "pairs", "d", "lag"] (defScope s_greatest) := ⟨rfl, rfl, rfl, by decide +kernel, rfl, by decide +kernel, by decide +kernel⟩
abbrev s_sharing : Stmt := topS 27
theorem sc_sharing : FnScope ["bridge", "room", "pairs", "d", "lag", "some"] ["bridge", "room", "pairs", "d", "lag"] (defScope s_sharing) := ⟨rfl, rfl, rfl, by decide +kernel, rfl, by decide +kernel, by decide +kernel⟩
abbrev s_is_crowd : Stmt := topS 28
theorem sc_is_crowd : FnScope ["bridge", "room", "pairs", "thing", "lag", "low", "high", "at", "one", "other"] ["bridge", "room", "pairs", "thing", "lag", "low", "high"] (defScope s_is_crowd) := ⟨rfl, rfl, rfl, by decide +kernel, rfl, by decide +kernel, by decide +kernel⟩
abbrev s_is_sharing : Stmt := topS 29
theorem sc_is_sharing : FnScope ["bridge", "room", "pairs", "thing", "lag", "low", "high", "some"] ["bridge", "room", "pairs", "thing", "lag", "low", "high"] (defScope s_is_sharing) := ⟨rfl, rfl, rfl, by decide +kernel, rfl, by decide +kernel, by decide +kernel⟩
abbrev s_joining : Stmt := topS 31
theorem sc_joining : FnScope ["bridge", "room", "d", "lag"] ["bridge", "room", "d", "lag"] (defScope s_joining) := ⟨rfl, rfl, rfl, by decide +kernel, rfl, by decide +kernel, by decide +kernel⟩
abbrev s_is_joining : Stmt := topS 32
theorem sc_is_joining : FnScope ["bridge", "room", "thing", "d", "lag", "pair"] ["bridge", "room", "thing", "d", "lag"] (defScope s_is_joining) := ⟨rfl, rfl, rfl, by decide +kernel, rfl, by decide +kernel, by decide +kernel⟩
abbrev s_fits : Stmt := topS 34
theorem sc_fits : FnScope ["where", "d"] ["where", "d"] (defScope s_fits) := ⟨rfl, rfl, rfl, by decide +kernel, rfl, by decide +kernel, by decide +kernel⟩
abbrev s_changes : Stmt := topS 35
theorem sc_changes : FnScope ["bridge", "room", "lag", "low", "high", "some", "spans", "found", "d", "here", "pair", "where"] ["bridge", "room", "lag", "low", "high"] (defScope s_changes) := ⟨rfl, rfl, rfl, by decide +kernel, rfl, by decide +kernel, by decide +kernel⟩
abbrev s_counts : Stmt := topS 36
theorem sc_counts : FnScope ["bridge", "room", "lag", "low", "high", "found", "first", "last", "here", "many"] ["bridge", "room", "lag", "low", "high"] (defScope s_counts) := ⟨rfl, rfl, rfl, by decide +kernel, rfl, by decide +kernel, by decide +kernel⟩
abbrev s_best : Stmt := topS 37
theorem sc_best : FnScope ["bridge", "room", "lag", "low", "high", "rows", "most", "d", "row"] ["bridge", "room", "lag", "low", "high"] (defScope s_best) := ⟨rfl, rfl, rfl, by decide +kernel, rfl, by decide +kernel, by decide +kernel⟩
abbrev s_best_paper : Stmt := topS 39
theorem sc_best_paper : FnScope ["bridge", "room", "lag", "low", "high", "d", "found", "cases", "first", "last", "here"] ["bridge", "room", "lag", "low", "high"] (defScope s_best_paper) := ⟨rfl, rfl, rfl, by decide +kernel, rfl, by decide +kernel, by decide +kernel⟩
abbrev s_is_case : Stmt := topS 40
theorem sc_is_case : FnScope ["bridge", "room", "thing", "many", "lag", "first", "high", "pairs"] ["bridge", "room", "thing", "many", "lag", "first", "high"] (defScope s_is_case) := ⟨rfl, rfl, rfl, by decide +kernel, rfl, by decide +kernel, by decide +kernel⟩
abbrev s_is_best : Stmt := topS 41
theorem sc_is_best : FnScope ["bridge", "room", "thing", "lag", "low", "high", "first", "case"] ["bridge", "room", "thing", "lag", "low", "high"] (defScope s_is_best) := ⟨rfl, rfl, rfl, by decide +kernel, rfl, by decide +kernel, by decide +kernel⟩
abbrev s__law_draw : Stmt := topS 43
theorem sc__law_draw : FnScope ["_law_pen", "_law_many", "_law_at", "_law_cell", "_law_number", "_law_digit"] ["_law_pen", "_law_many"] (defScope s__law_draw) := ⟨rfl, rfl, rfl, by decide +kernel, rfl, by decide +kernel, by decide +kernel⟩
abbrev s__law_lines : Stmt := topS 44
theorem sc__law_lines : FnScope ["_law_pen", "_law_some", "_law_first"] ["_law_pen"] (defScope s__law_lines) := ⟨rfl, rfl, rfl, by decide +kernel, rfl, by decide +kernel, by decide +kernel⟩
abbrev s__law_whats : Stmt := topS 45
theorem sc__law_whats : FnScope ["_law_pen", "_law_few", "_law_orders", "_law_words", "_law_first", "_law_k"] ["_law_pen"] (defScope s__law_whats) := ⟨rfl, rfl, rfl, by decide +kernel, rfl, by decide +kernel, by decide +kernel⟩
abbrev s__law_two : Stmt := topS 46
theorem sc__law_two : FnScope ["_law_pen", "_law_most", "_law_slow", "_law_far", "_law_lines_here", "_law_orders", "_law_words", "_law_at", "_law_deck", "_law_hold", "_law_k", "_law_line", "_law_what", "_law_luck", "_law_later"] ["_law_pen", "_law_most"] (defScope s__law_two) := ⟨rfl, rfl, rfl, by decide +kernel, rfl, by decide +kernel, by decide +kernel⟩
abbrev s__law_long : Stmt := topS 47
theorem sc__law_long : FnScope ["_law_pen", "_law_lines_here", "_law_slow", "_law_far", "_law_at", "_law_order", "_law_logs", "_law_side", "_law_rows", "_law_k", "_law_line", "_law_what", "_law_much"] ["_law_pen"] (defScope s__law_long) := ⟨rfl, rfl, rfl, by decide +kernel, rfl, by decide +kernel, by decide +kernel⟩
abbrev s__law_alike : Stmt := topS 48
theorem sc__law_alike : FnScope ["_law_deck", "_law_hold", "_law_mine", "_law_yours"] ["_law_deck", "_law_hold"] (defScope s__law_alike) := ⟨rfl, rfl, rfl, by decide +kernel, rfl, by decide +kernel, by decide +kernel⟩
abbrev s__law_great : Stmt := topS 49
theorem sc__law_great : FnScope ["_law_pen", "_law_odd", "_law_most", "_law_many", "_law_way", "_law_deck", "_law_hold", "_law_far", "_law_slow", "_law_mine", "_law_yours"] ["_law_pen", "_law_odd", "_law_most", "_law_many"] (defScope s__law_great) := ⟨rfl, rfl, rfl, by decide +kernel, rfl, by decide +kernel, by decide +kernel⟩
abbrev s__law_stretch : Stmt := topS 50
theorem sc__law_stretch : FnScope ["_law_pen", "_law_far", "_law_wide", "_law_start"] ["_law_pen", "_law_far"] (defScope s__law_stretch) := ⟨rfl, rfl, rfl, by decide +kernel, rfl, by decide +kernel, by decide +kernel⟩
abbrev s__law_made : Stmt := topS 51
theorem sc__law_made : FnScope ["_law_pen", "_law_deck", "_law_every", "_law_left", "_law_found", "_law_b", "_law_r", "_law_bad", "_law_one"] ["_law_pen", "_law_deck", "_law_every"] (defScope s__law_made) := ⟨rfl, rfl, rfl, by decide +kernel, rfl, by decide +kernel, by decide +kernel⟩
abbrev s__law_flat : Stmt := topS 52
theorem sc__law_flat : FnScope ["_law_rows", "_law_found", "_law_first", "_law_last", "_law_many", "_law_x"] ["_law_rows"] (defScope s__law_flat) := ⟨rfl, rfl, rfl, by decide +kernel, rfl, by decide +kernel, by decide +kernel⟩
abbrev s__law_papers : Stmt := topS 53
theorem sc__law_papers : FnScope ["_law_pen", "_law_deck", "_law_hold", "_law_slow", "_law_start", "_law_end", "_law_found", "_law_turn", "_law_x", "_law_some", "_law_cases", "_law_here"] ["_law_pen", "_law_deck", "_law_hold", "_law_slow", "_law_start", "_law_end"] (defScope s__law_papers) := ⟨rfl, rfl, rfl, by decide +kernel, rfl, by decide +kernel, by decide +kernel⟩
abbrev s__law_cut_right : Stmt := topS 54
theorem sc__law_cut_right : FnScope ["_law_deck", "_law_hold", "_law_slow", "_law_start", "_law_end", "_law_at", "_law_every", "_law_parts", "_law_most", "_law_first", "_law_last", "_law_x", "_law_some", "_law_paper", "_law_many", "_law_here"] ["_law_deck", "_law_hold", "_law_slow", "_law_start", "_law_end", "_law_at"] (defScope s__law_cut_right) := ⟨rfl, rfl, rfl, by decide +kernel, rfl, by decide +kernel, by decide +kernel⟩
abbrev s_law : Stmt := topS 55
theorem sc_law : FnScope ["_law_script", "_law_pen", "_law_odd", "_law_deck", "_law_hold", "_law_far", "_law_slow", "_law_start", "_law_end", "_law_alike_here", "_law_told", "_law_many", "_law_papers_here", "_law_paper", "_law_x", "_law_at", "_law_wider", "_law_first", "_law_last", "_law_count"] ["_law_script"] (defScope s_law) := ⟨rfl, rfl, rfl, by decide +kernel, rfl, by decide +kernel, by decide +kernel⟩
def sentTab (x : Str) : Option Str := if x = "port" ∨ x = "star" ∨ x = "down" then some "bridge" else if x = "aport" ∨ x = "astar" ∨ x = "up" then some "room" else none
/-- built-in names are what they were; the module's dict -/
structure Bn (K : PySem.W.Frag) (w : World) (mg : Str → Option Value) : Prop where
  SENT_ : KTab K w mg "SENT" sentTab
  len_ : mg "len" = none
  all_ : mg "all" = none
  sum_ : mg "sum" = none
  max_ : mg "max" = none
  min_ : mg "min" = none
  sorted_ : mg "sorted" = none
  list_ : mg "list" = none
  tuple_ : mg "tuple" = none
  range_ : mg "range" = none
  zip_ : mg "zip" = none
  enumerate_ : mg "enumerate" = none
  isinstance_ : mg "isinstance" = none
  int_ : mg "int" = none
  bool_ : mg "bool" = none
  abs_ : mg "abs" = none
/-- a def of the program and what it promises over data; dds: the defaults that fill up -/
def Dn (P : Program) (w : World) (K : PySem.W.Frag) (mg : Str → Option Value) (base : Heap) (T : List (Addr × Str)) (k : Nat) (x : Str) (ps : List Str) (dds : List Dat) (F : WF) : Prop :=
  ∃ (f : Addr) (fd : FuncData) (ds : List Value) (dvs : List V), FnOk P w K mg base CX0 k f fd ps (dSp K T F) ∧ mg x = some (.ref f) ∧ PySem.W.keepIn K (.ref f) = true ∧ Binds K fd ps ds ∧ Vals dvs ds ∧ ∀ S, RpAll K S dvs dds
theorem d_callN {X : Cx} {T : List (Addr × Str)} {k : Nat} {ps : List Str} {F : WF} {dds : List Dat} {x : Str} {p pos : Pos} {e : Expr} {es : List Expr} {ra : WA}
    (D : Dn X.prog X.w X.K X.mg X.base T k x ps dds F) (hr : Room k X.A) (hg : Gl X x) (ha : PA X (e :: es) (tDA X.K T ra)) (hdb : (x == ("__debug__" : Str)) = false := by decide)
    (he : starEach (e :: es) X.env = (false, eval e X.env) :: starEach es X.env := by rfl) (hpl : (backTo pos (starEach es X.env)).any (·.1) = false := by rfl) :
    PE X (.Call (.Name x p) (e :: es) [] pos) (tD X.K T (wCall F dds ra)) := by
  obtain ⟨f, fd, ds, dvs, G, hm, hk, hb, hd, hdd⟩ := D
  exact d_call G hr hg hm hk hb hd hdd pass0 ha hdb he hpl
theorem hu1 {A : Around} {k : Nat} (hr : Room k A) : A.units + 1 < cLine := by
  have := hr.units
  omega
theorem hu65 {A : Around} {k : Nat} (hr : Room k A) : A.units + 65 < cLine := by
  have := hr.un
  omega
end RO
namespace DL
open PySem PySem.Spec PyProof.Rows L2
section
variable {α : Type} {δ δ' : DEnv} {M M' : Mem} {E : DEnds} {g ga gb gc : WE} {t u : WT} {r rk : WA} {G G' : WS} {P : Dat → Mem → Prop} {PB : Bool → Mem → Prop} {PL : List Dat → Mem → Prop} {i j : Nat} {d e : Dat} {f : WF} {a : Addr} {ds : List PyData}
theorem s_ret (h : g δ M E.rt) : wRet g E δ M := h
theorem s_seq (h : G { E with nx := G' E } δ M) : wSeq G G' E δ M := h
theorem s_next (h : E.nx δ M) : wNext E δ M := h
theorem s_drop (h : g δ M fun _ M1 => E.nx δ M1) : wDrop g E δ M := h
theorem s_if (h : t δ M fun c M1 => if c = true then G E δ M1 else G' E δ M1) : wIf t G G' E δ M := h
theorem s_iteT {A B : Prop} (h : A) : if true = true then A else B := by rw [if_pos rfl]; exact h
theorem s_iteF {A B : Prop} (h : B) : if false = true then A else B := by rw [if_neg Bool.false_ne_true]; exact h
theorem s_ite {A B : Prop} {c : Bool} (h1 : c = true → A) (h2 : c = false → B) : if c = true then A else B := by
  cases c with
  | true => exact s_iteT (h1 rfl)
  | false => exact s_iteF (h2 rfl)
theorem s_iteD {A B p : Prop} [Decidable p] (h1 : p → A) (h2 : ¬ p → B) : if decide p = true then A else B := s_ite (fun h => h1 (of_decide_eq_true h)) fun h => h2 (of_decide_eq_false h)
theorem s_iteC {A B : Prop} {c : Bool} (e : c = true) (h : A) : if c = true then A else B := by rw [if_pos e]; exact h
theorem s_iteC' {A B : Prop} {c : Bool} (e : c = false) (h : B) : if c = true then A else B := by rw [e]; exact s_iteF h
theorem s_iteN {A B : Prop} {c : Bool} (h1 : c = false → A) (h2 : c = true → B) : if (!c) = true then A else B := by
  cases c with
  | true => exact s_iteF (h2 rfl)
  | false => exact s_iteT (h1 rfl)
theorem s_lenP {p : Int × Int} (h : P (.py (.int 2)) M) : fLen [.py (prP p)] M P := ⟨_, _, rfl, rfl, h⟩
theorem s_and (h : t δ M fun c M1 => if c = true then u δ M1 PB else PB false M1) : wAnd t u δ M PB := h
theorem s_or (h : t δ M fun c M1 => if c = true then PB true M1 else u δ M1 PB) : wOr t u δ M PB := h
theorem s_not (h : t δ M fun c M1 => PB (!c) M1) : wNot t δ M PB := h
theorem s_andV (h : ga δ M fun d M1 => ∃ c, d = .py (.bool c) ∧ if c = true then gb δ M1 P else P (.py (.bool false)) M1) : wAndV ga gb δ M P := h
theorem s_orV (h : ga δ M fun d M1 => ∃ c, d = .py (.bool c) ∧ if c = true then P (.py (.bool true)) M1 else gb δ M1 P) : wOrV ga gb δ M P := h
theorem s_notV (h : ga δ M fun d M1 => ∃ c, d = .py (.bool c) ∧ P (.py (.bool (!c))) M1) : wNotV ga δ M P := h
theorem s_b (h : g δ M fun d M1 => ∃ b, d = .py (.bool b) ∧ PB b M1) : wB g δ M PB := h
theorem s_exb {A : Bool → Prop} {x : Bool} (h : A x) : ∃ b, Dat.py (.bool x) = .py (.bool b) ∧ A b := ⟨x, rfl, h⟩
theorem s_exi {A : Int → Prop} {x : Int} (h : A x) : ∃ b, Dat.py (.int x) = .py (.int b) ∧ A b := ⟨x, rfl, h⟩
theorem s_op {f2 : F2} (h : ga δ M fun x M1 => gb δ M1 fun y M2 => f2 x y M2 P) : wOp f2 ga gb δ M P := h
theorem s_un {f1 : F1} (h : ga δ M fun x M1 => f1 x M1 P) : wUn f1 ga δ M P := h
theorem s_var (x : δ[i]? = some (some d)) (h : P d M) : wVar i δ M P := ⟨d, x, h⟩
theorem s_varF (x : δ[i]? = some (some (.own a))) (y : M a = some (.lst (ds.map .py))) (h : P (.py (.list ds)) (delM M a)) : wVarF i δ M P := ⟨a, ds, x, y, h⟩
theorem s_c (h : P d M) : wC d δ M P := h
theorem s_cons (h : g δ M fun x M1 => r δ M1 fun xs M2 => PL (x :: xs) M2) : wCons g r δ M PL := h
theorem s_nil (h : PL [] M) : wNil δ M PL := h
theorem s_cb (h : r δ M fun ds M1 => f ds M1 P) : wCB f r δ M P := h
theorem s_cbk {fk : List Dat → WF} (h : r δ M fun ds M1 => rk δ M1 fun es M2 => fk ds es M2 P) : wCBK fk r rk δ M P := h
theorem s_call {dds : List Dat} (h : r δ M fun ds M1 => f (ds ++ dds) M1 P) : wCall f dds r δ M P := h
theorem s_yes (h : PB true M) : wYes δ M PB := h
theorem s_chain {f f' : F2} (h : ga δ M fun x M1 => gb δ M1 fun y M2 => f x y M2 fun z M3 => ∃ c, z = .py (.bool c) ∧ (if c = true then gc δ M3 fun u M4 => f' y u M4 P else P (.py (.bool false)) M3)) : wChain f f' ga gb gc δ M P := h
theorem s_tup (h : r δ M fun ds M1 => ∃ ps, allPy ds = some ps ∧ ps.length ≤ sizeLine ∧ P (.py (.tuple ps)) M1) : wTup r δ M P := h
theorem s_lst (h : r δ M fun ds M1 => ∃ ps, allPy ds = some ps ∧ ps.length ≤ sizeLine ∧ P (.py (.list ps)) M1) : wLst r δ M P := h
theorem s_pys {A : List PyData → Prop} {l : List Dat} {ps : List PyData} (x : allPy l = some ps) (y : Nat.ble ps.length 100 = true) (h : A ps) : ∃ ps, allPy l = some ps ∧ ps.length ≤ sizeLine ∧ A ps := ⟨ps, x, Nat.le_trans (Nat.le_of_ble_eq_true y) (by decide), h⟩
theorem s_lstM (h : r δ M fun ds M1 => ds.length ≤ sizeLine ∧ ∀ p, M1 p = none → P (.own p) (putM M1 p (.lst ds))) : wLstM r δ M P := h
theorem s_asg {tg : Tgt} (h : g δ M fun d M1 => ∃ δ', bindD tg d δ = some δ' ∧ E.nx δ' M1) : wAsg g tg E δ M := h
theorem s_bind {A : DEnv → Prop} {tg : Tgt} {η : DEnv} (x : bindD tg d δ = some η) (h : A η) : ∃ δ', bindD tg d δ = some δ' ∧ A δ' := ⟨η, x, h⟩
theorem s_IB {op : Int → Int → Bool} {x y : Int} (h : P (.py (.bool (op x y))) M) : fIB op (.py (.int x)) (.py (.int y)) M P := ⟨x, y, rfl, rfl, h⟩
theorem s_I0 {op : Int → Int → Int} {x y : Int} (h : P (.py (.int (op x y))) M) : fI0 op (.py (.int x)) (.py (.int y)) M P := ⟨x, y, rfl, rfl, h⟩
theorem s_I {C : Int → Int → Prop} {op : Int → Int → Int} {x y : Int} (c : C x y) (h : P (.py (.int (op x y))) M) : fI C op (.py (.int x)) (.py (.int y)) M P := ⟨x, y, rfl, rfl, c, h⟩
theorem s_addI {x y : Int} (h : P (.py (.int (x + y))) M) : fAdd (.py (.int x)) (.py (.int y)) M P := ⟨_, rfl, trivial, h⟩
theorem s_addL {x y : List PyData} (c : x.length + y.length ≤ sizeLine) (h : P (.py (.list (x ++ y))) M) : fAdd (.py (.list x)) (.py (.list y)) M P := ⟨_, rfl, c, h⟩
theorem s_neg {x : Int} (h : P (.py (.int (-x))) M) : fNeg (.py (.int x)) M P := ⟨x, rfl, h⟩
theorem s_eqI {x y : Int} (h : P (.py (.bool (decide (x = y)))) M) : fEq (.py (.int x)) (.py (.int y)) M P := ⟨_, rfl, h⟩
theorem s_eqS {x y : Str} (h : P (.py (.bool (decide (x = y)))) M) : fEq (.py (.str x)) (.py (.str y)) M P := ⟨_, rfl, h⟩
theorem s_eqB {x y : Bool} (h : P (.py (.bool (decide (x = y)))) M) : fEq (.py (.bool x)) (.py (.bool y)) M P := ⟨_, rfl, h⟩
theorem s_neI {x y : Int} (h : P (.py (.bool (!decide (x = y)))) M) : fNe (.py (.int x)) (.py (.int y)) M P := ⟨_, rfl, h⟩
theorem s_neS {x y : Str} (h : P (.py (.bool (!decide (x = y)))) M) : fNe (.py (.str x)) (.py (.str y)) M P := ⟨_, rfl, h⟩
theorem s_neB {x y : Bool} (h : P (.py (.bool (!decide (x = y)))) M) : fNe (.py (.bool x)) (.py (.bool y)) M P := ⟨_, rfl, h⟩
theorem s_eqT {x y : List PyData} (c : SeqAt.shaped (.tuple x) = true) (c2 : SeqAt.shaped (.tuple y) = true) (h : P (.py (.bool (PyData.eqv (.tuple x) (.tuple y)))) M) : fEq (.py (.tuple x)) (.py (.tuple y)) M P := ⟨_, ⟨_, _, rfl, rfl, c, c2, rfl⟩, h⟩
theorem s_eqL {x y : List PyData} (c : SeqAt.shaped (.list x) = true) (c2 : SeqAt.shaped (.list y) = true) (h : P (.py (.bool (PyData.eqv (.list x) (.list y)))) M) : fEq (.py (.list x)) (.py (.list y)) M P := ⟨_, ⟨_, _, rfl, rfl, c, c2, rfl⟩, h⟩
theorem s_leI {x y : Int} (h : P (.py (.bool (decide (x ≤ y)))) M) : fLe (.py (.int x)) (.py (.int y)) M P := ⟨_, rfl, h⟩
theorem s_leP {x y : Int × Int} (h : P (.py (.bool (pairLe x y))) M) : fLe (.py (prP x)) (.py (prP y)) M P := ⟨_, rfl, h⟩
theorem s_isN1 (h : P (.py (.bool true)) M) : fIsN (.py .none) (.py .none) M P := ⟨rfl, _, rfl, h⟩
theorem s_isN2 {x : Str} (h : P (.py (.bool false)) M) : fIsN (.py (.str x)) (.py .none) M P := ⟨rfl, _, rfl, h⟩
theorem s_notIs {x y : Bool} (h : P (.py (.bool (!decide (x = y)))) M) : fNotIs (.py (.bool x)) (.py (.bool y)) M P := ⟨_, _, rfl, rfl, h⟩
theorem s_inS {x : Str} {ss : List PyData} {ts : List Str} (c : ss = ts.map .str) (h : P (.py (.bool (decide (x ∈ ts)))) M) : fInS (.py (.str x)) (.py (.tuple ss)) M P := ⟨x, ss, rfl, rfl, ts, c, h⟩
theorem s_ixT {z : PyData} {x : Int} (c : atI ds x = some z) (h : P (.py z) M) : fIx (.py (.tuple ds)) (.py (.int x)) M P := ⟨_, ixD_tup c, h⟩
theorem s_ixL {z : PyData} {x : Int} (c : atI ds x = some z) (h : P (.py z) M) : fIx (.py (.list ds)) (.py (.int x)) M P := ⟨_, ixD_list c, h⟩
theorem s_ixO {z : Dat} {l : List Dat} {x : Int} (c : M a = some (.lst l)) (c2 : atI l x = some z) (h : P z M) : fIx (.own a) (.py (.int x)) M P := ⟨_, ixD_own c c2, h⟩
theorem s_ixP0 {p : Int × Int} (h : P (.py (.int p.1)) M) : fIx (.py (prP p)) (.py (.int 0)) M P := ⟨_, ixD_tup rfl, h⟩
theorem s_ixP1 {p : Int × Int} (h : P (.py (.int p.2)) M) : fIx (.py (prP p)) (.py (.int 1)) M P := ⟨_, ixD_tup rfl, h⟩
theorem s_sl {fs : FS} {l h' : WO} (h : g δ M fun x M1 => l δ M1 fun lo M2 => h' δ M2 fun hi M3 => fs x lo hi M3 P) : wSl fs g l h' δ M P := h
theorem s_no {Q : Option Int → Mem → Prop} (h : Q none M) : wNo δ M Q := h
theorem s_part {Q : Option Int → Mem → Prop} (h : g δ M fun d M1 => ∃ i, d = .py (.int i) ∧ Q (some i) M1) : wPart g δ M Q := h
theorem s_slT {lo hi : Option Int} (h : P (.py (.tuple (cutP ds lo hi))) M) : fSlT (.py (.tuple ds)) lo hi M P := ⟨_, rfl, h⟩
theorem s_slL {lo hi : Option Int} (h : P (.py (.list (cutP ds lo hi))) M) : fSlL (.py (.list ds)) lo hi M P := ⟨_, rfl, h⟩
theorem s_rev (h : P (.py (.list ds.reverse)) M) : fRev (.py (.list ds)) M P := ⟨_, rfl, h⟩
theorem s_revO (x : M a = some (.lst (ds.map .py))) (h : P (.py (.list ds.reverse)) M) : fRev (.own a) M P := ⟨ds, ⟨ds, rfl, x⟩, h⟩
theorem s_lenL (h : P (.py (.int ds.length)) M) : fLen [.py (.list ds)] M P := ⟨_, _, rfl, rfl, h⟩
theorem s_lenT (h : P (.py (.int ds.length)) M) : fLen [.py (.tuple ds)] M P := ⟨_, _, rfl, rfl, h⟩
theorem s_lenO {l : List Dat} (c : M a = some (.lst l)) (h : P (.py (.int l.length)) M) : fLen [.own a] M P := ⟨_, _, rfl, ⟨l, c, rfl⟩, h⟩
theorem s_max2 {x y : Int} (h : P (.py (.int (max x y))) M) : fMax2 [.py (.int x), .py (.int y)] M P := ⟨x, y, rfl, h⟩
theorem s_min2 {x y : Int} (h : P (.py (.int (min x y))) M) : fMin2 [.py (.int x), .py (.int y)] M P := ⟨x, y, rfl, h⟩
theorem s_max3 {x y z : Int} (h : P (.py (.int (max x (max y z)))) M) : fMax3 [.py (.int x), .py (.int y), .py (.int z)] M P := ⟨x, y, z, rfl, h⟩
theorem s_min3 {x y z : Int} (h : P (.py (.int (min x (min y z)))) M) : fMin3 [.py (.int x), .py (.int y), .py (.int z)] M P := ⟨x, y, z, rfl, h⟩
theorem s_abs {x : Int} (h : P (.py (.int (if x < 0 then -x else x))) M) : fAbs [.py (.int x)] M P := ⟨x, rfl, h⟩
theorem s_intB {x : Bool} (h : P (.py (.int (if x then 1 else 0))) M) : fIntB [.py (.bool x)] M P := ⟨x, rfl, h⟩
theorem s_tupleL (h : P (.py (.tuple ds)) M) : fTuple [.py (.list ds)] M P := ⟨_, _, rfl, rfl, h⟩
theorem s_tupleO (c : M a = some (.lst (ds.map .py))) (h : P (.py (.tuple ds)) M) : fTuple [.own a] M P := ⟨_, _, rfl, ⟨ds, rfl, c⟩, h⟩
theorem s_isi {x : Dat} {n t : String} {b : Bool} (c : tyN x = some t) (c2 : kitB t n = some b) (h : P (.py (.bool b)) M) : fIsi [x, .ty n] M P := ⟨x, n, t, b, rfl, c, c2, h⟩
theorem s_all {bs : List Bool} (h : P (.py (.bool (bs.all id))) M) : fAll [.py (.list (bs.map .bool))] M P := ⟨_, bs, rfl, rfl, h⟩
theorem s_aug {x : Int} {op : Int → Int → Int} (c : δ[i]? = some (some (.py (.int x)))) (h : g δ M fun d M1 => ∃ y, d = .py (.int y) ∧ E.nx (δ.set i (some (.py (.int (op x y))))) M1) : wAugS i g op E δ M := ⟨x, c, h⟩
theorem s_rt (h : P d M) : (dEnds P).rt d M := Fz.of h
theorem s_kix {tab : Str → Option Str} (h : g δ M fun e M1 => ∃ s r, e = .py (.str s) ∧ tab s = some r ∧ P (.py (.str r)) M1) : wIxK tab g δ M P := h
/-! loops, comprehensions, changes -/
theorem s_for {gi : WI} {tg : Tgt} {Gb : WS} (h : gi δ M fun its Gd M1 => ∃ Iv : Nat → DEnv → Mem → Prop, Iv 0 δ M1 ∧ (∀ i δ M, Iv i δ M → Gd M) ∧ (∀ δ M, Iv its.length δ M → E.nx δ M) ∧
  ∀ i d δ M, its[i]? = some d → Iv i δ M → ∃ δ', bindD tg d δ = some δ' ∧ Gb { nx := less (Iv (i + 1)), rt := E.rt, bk := E.nx, ct := less (Iv (i + 1)) } δ' M) : wFor gi tg Gb E δ M := h
theorem s_lcG {mu : Bool} {gi : WI} {tg : Tgt} {vs : List Nat} {tt : WT} {te : WE} (h : gi δ M fun its Gd M1 => ∃ Iv : Nat → List PyData → Mem → Prop, Iv 0 [] M1 ∧ (∀ i acc M, Iv i acc M → Gd M) ∧
  (∀ acc M, Iv its.length acc M → if mu = true then ∀ D, M D = none → P (.own D) (putM M D (.lst (acc.map .py))) else P (.py (.list acc)) M) ∧
  ∀ i d acc M, its[i]? = some d → Iv i acc M → ∃ δ', bindD tg d (wipeD δ vs) = some δ' ∧ tt δ' M fun b M2 => if b = true then te δ' M2 fun y M3 => ∃ z, y = .py z ∧ acc.length < sizeLine ∧ Iv (i + 1) (acc ++ [z]) M3 else Iv (i + 1) acc M2) : wLcG mu gi tg vs tt te δ M P := h
theorem map2 {α β γ : Type} {f : α → β} {g : β → γ} {l : List α} : (l.map f).map g = l.map fun x => g (f x) := List.map_map
/-- a comprehension that changes nothing -/
theorem s_lcP {α : Type} (xs : List α) (enc : α → Dat) (p : α → Bool) (fn : α → PyData) {tg : Tgt} {vs : List Nat} {tt : WT} {te : WE} {its : List Dat} {Gd : Mem → Prop} (hi : its = xs.map enc) (hG : Gd M) (hl : xs.length ≤ sizeLine) {PE : List PyData → Mem → Prop}
    (hend : PE ((xs.filter p).map fn) M)
    (hstep : ∀ x ∈ xs, ∀ (QT : PyData → Mem → Prop) (QF : Mem → Prop), (p x = true → QT (fn x) M) → (p x = false → QF M) → ∃ δ', bindD tg (enc x) (wipeD δ vs) = some δ' ∧ tt δ' M fun b M2 => if b = true then te δ' M2 fun y M3 => ∃ z, y = .py z ∧ QT z M3 else QF M2) :
    ∃ Iv : Nat → List PyData → Mem → Prop, Iv 0 [] M ∧ (∀ i acc M, Iv i acc M → Gd M) ∧
  (∀ acc M, Iv its.length acc M → PE acc M) ∧
  ∀ i d acc M, its[i]? = some d → Iv i acc M → ∃ δ', bindD tg d (wipeD δ vs) = some δ' ∧ tt δ' M fun b M2 => if b = true then te δ' M2 fun y M3 => ∃ z, y = .py z ∧ acc.length < sizeLine ∧ Iv (i + 1) (acc ++ [z]) M3 else Iv (i + 1) acc M2 := by
  subst hi
  refine ⟨fun i acc M' => M' = M ∧ acc = ((xs.take i).filter p).map fn, ⟨rfl, by simp⟩, fun i acc M' h => by rw [h.1]; exact hG, fun acc M' h => ?_, fun i d acc M' hd h => ?_⟩
  · obtain ⟨rfl, rfl⟩ := h
    rw [List.length_map, List.take_length]
    exact hend
  · obtain ⟨rfl, rfl⟩ := h
    rw [List.getElem?_map] at hd
    obtain ⟨x, hx, rfl⟩ := Option.map_eq_some_iff.mp hd
    have hlt : i < xs.length := (List.getElem?_eq_some_iff.mp hx).1
    have e : xs.take (i + 1) = xs.take i ++ [x] := by rw [List.take_add_one, hx]; rfl
    refine hstep x (List.mem_of_getElem? hx) (fun z M3 => (((xs.take i).filter p).map fn).length < sizeLine ∧ M3 = M' ∧ ((xs.take i).filter p).map fn ++ [z] = ((xs.take (i + 1)).filter p).map fn) (fun M2 => M2 = M' ∧ ((xs.take i).filter p).map fn = ((xs.take (i + 1)).filter p).map fn) (fun hp => ⟨?_, rfl, ?_⟩) fun hp => ⟨rfl, ?_⟩
    · rw [List.length_map]
      have := List.length_filter_le p (xs.take i)
      rw [List.length_take] at this
      omega
    · rw [e, List.filter_append, List.map_append]
      simp [hp]
    · rw [e, List.filter_append, List.map_append]
      simp [hp]
theorem s_iet {Q : List Dat → (Mem → Prop) → Mem → Prop} (h : r δ M fun ds M1 => ∃ xs, ds = [.py (.tuple xs)] ∧ Q ((enumP 0 xs).map .py) (fun _ => True) M1) : wIET r δ M Q := h
theorem s_ie {Q : List Dat → (Mem → Prop) → Mem → Prop} (h : r δ M fun ds M1 => ∃ xs, ds = [.py (.list xs)] ∧ Q ((enumP 0 xs).map .py) (fun _ => True) M1) : wIE r δ M Q := h
theorem s_exT {Q : List PyData → Prop} (h : Q ds) : ∃ xs, [Dat.py (.tuple ds)] = [.py (.tuple xs)] ∧ Q xs := ⟨ds, rfl, h⟩
theorem s_exL {Q : List PyData → Prop} (h : Q ds) : ∃ xs, [Dat.py (.list ds)] = [.py (.list xs)] ∧ Q xs := ⟨ds, rfl, h⟩
theorem s_il {Q : List Dat → (Mem → Prop) → Mem → Prop} (h : g δ M fun d M1 => (∃ ds, d = .py (.list ds) ∧ Q (ds.map .py) (fun _ => True) M1) ∨ ∃ a ds, d = .own a ∧ M1 a = some (.lst ds) ∧ Q ds (fun M => M a = some (.lst ds)) M1) : wIL g δ M Q := h
theorem s_ilL {Q : List Dat → (Mem → Prop) → Prop} (h : Q (ds.map .py) (fun _ => True)) : (∃ xs, Dat.py (.list ds) = .py (.list xs) ∧ Q (xs.map .py) (fun _ => True)) ∨ ∃ a xs, Dat.py (.list ds) = .own a ∧ M a = some (.lst xs) ∧ Q xs (fun M => M a = some (.lst xs)) := .inl ⟨ds, rfl, h⟩
theorem s_ilO {Q : List Dat → (Mem → Prop) → Prop} {l : List Dat} (c : M a = some (.lst l)) (h : Q l (fun M => M a = some (.lst l))) : (∃ xs, Dat.own a = .py (.list xs) ∧ Q (xs.map .py) (fun _ => True)) ∨ ∃ b xs, Dat.own a = .own b ∧ M b = some (.lst xs) ∧ Q xs (fun M => M b = some (.lst xs)) := .inr ⟨a, l, rfl, c, h⟩
theorem s_it {Q : List Dat → (Mem → Prop) → Mem → Prop} (h : g δ M fun d M1 => ∃ ds, d = .py (.tuple ds) ∧ Q (ds.map .py) (fun _ => True) M1) : wIT g δ M Q := h
theorem s_exT1 {Q : List PyData → Prop} (h : Q ds) : ∃ xs, Dat.py (.tuple ds) = .py (.tuple xs) ∧ Q xs := ⟨ds, rfl, h⟩
theorem s_ir2 {Q : List Dat → (Mem → Prop) → Mem → Prop} (h : r δ M fun ds M1 => ∃ i j : Int, ds = [.py (.int i), .py (.int j)] ∧ (-(2 ^ 62) ≤ i ∧ i < 2 ^ 62 ∧ -(2 ^ 62) ≤ j ∧ j < 2 ^ 62) ∧ Q ((rgI i j).map fun n => .py (.int n)) (fun _ => True) M1) : wIR2 r δ M Q := h
theorem s_ir1 {Q : List Dat → (Mem → Prop) → Mem → Prop} (h : r δ M fun ds M1 => ∃ j : Int, ds = [.py (.int j)] ∧ -(2 ^ 62) ≤ j ∧ j < 2 ^ 62 ∧ Q ((rgI 0 j).map fun n => .py (.int n)) (fun _ => True) M1) : wIR1 r δ M Q := h
theorem s_iz {Q : List Dat → (Mem → Prop) → Mem → Prop} (h : r δ M fun ds M1 => ∃ xs ys, ds = [.py (.list xs), .py (.list ys)] ∧ Q ((zipP xs ys).map .py) (fun _ => True) M1) : wIZ r δ M Q := h
theorem s_izs {Q : List Dat → (Mem → Prop) → Mem → Prop} (h : r δ M fun ds M1 => ∃ xs ys, ds = [.py (.list xs), .py (.list ys)] ∧ xs.length = ys.length ∧ Q ((zipP xs ys).map .py) (fun _ => True) M1) : wIZS r δ M Q := h
theorem s_iv {Q : List Dat → (Mem → Prop) → Mem → Prop} (h : g δ M fun d M1 => ∃ (a : Addr) (kvs : List (Key × PyData)), d = .own a ∧ M1 a = some (.dK (kvs.map fun p : Key × PyData => (p.1, .py p.2))) ∧ Q (kvs.map fun p => .py p.2) (fun _ => True) (delM M1 a)) : wIVals g δ M Q := h
theorem s_app (h : g δ M fun x M1 => (∃ a ds, x = .own a ∧ M1 a = some (.lst ds)) ∧ r δ M1 fun es M2 => ∃ a e ds, x = .own a ∧ es = [e] ∧ M2 a = some (.lst ds) ∧ ds.length < sizeLine ∧ P (.py .none) (putM M2 a (.lst (ds ++ [e])))) : wApp g r δ M P := h
theorem s_ext (h : g δ M fun x M1 => (∃ a ds, x = .own a ∧ M1 a = some (.lst ds)) ∧ r δ M1 fun es M2 => ∃ a e ds ys, x = .own a ∧ es = [e] ∧ M2 a = some (.lst ds) ∧ AsL M2 e ys ∧ ds.length + ys.length ≤ sizeLine ∧ P (.py .none) (putM M2 a (.lst (ds ++ ys.map .py)))) : wExt g r δ M P := h
theorem s_own {A : Prop} {l : List Dat} (c : M a = some (.lst l)) (h : A) : (∃ b ds, Dat.own a = .own b ∧ M b = some (.lst ds)) ∧ A := ⟨⟨a, l, rfl, c⟩, h⟩
theorem s_appE {l : List Dat} (c : M a = some (.lst l)) (c2 : l.length < sizeLine) (h : P (.py .none) (putM M a (.lst (l ++ [d])))) : ∃ b e ds, Dat.own a = .own b ∧ [d] = [e] ∧ M b = some (.lst ds) ∧ ds.length < sizeLine ∧ P (.py .none) (putM M b (.lst (ds ++ [e]))) := ⟨a, d, l, rfl, rfl, c, c2, h⟩
theorem s_extE {l : List Dat} (c : M a = some (.lst l)) (c2 : l.length + ds.length ≤ sizeLine) (h : P (.py .none) (putM M a (.lst (l ++ ds.map .py)))) : ∃ b e l' ys, Dat.own a = .own b ∧ [Dat.py (.list ds)] = [e] ∧ M b = some (.lst l') ∧ AsL M e ys ∧ l'.length + ys.length ≤ sizeLine ∧ P (.py .none) (putM M b (.lst (l' ++ ys.map .py))) := ⟨a, _, l, ds, rfl, rfl, c, rfl, c2, h⟩
theorem s_mk {A : Addr → Prop} {l : List Dat} (c : l.length ≤ sizeLine) (h : ∀ p, M p = none → A p) : l.length ≤ sizeLine ∧ ∀ p, M p = none → A p := ⟨c, h⟩
theorem s_less {Iv : DEnv → Mem → Prop} (h : Iv δ M) : less Iv δ M := ⟨M, MLe.refl M, h⟩
theorem s_lessTo {Iv : DEnv → Mem → Prop} (e : MLe M' M) (h : Iv δ M') : less Iv δ M := ⟨M', e, h⟩
theorem s_sk1 (h : g δ M fun d M1 => ∃ ds, AsL M1 d ds ∧ (∀ x ∈ ds, ∃ n, headI x = some n) ∧ ∀ out, out.Perm ds → P (.py (.list out)) M1) : wSortK1 g δ M P := h
theorem s_sk2 (h : g δ M fun d M1 => ∃ ps : List (Int × Int), AsL M1 d (ps.map prP) ∧ ∀ qs : List (Int × Int), qs.Perm ps → qs.Pairwise (fun p q => p.1 < q.1 ∨ (p.1 = q.1 ∧ q.2 ≤ p.2)) → P (.py (.list (qs.map prP))) M1) : wSortK2 g δ M P := h
theorem s_dput (h : ga δ M fun d M1 => gb δ M1 fun o M2 => gc δ M2 fun i M3 => ∃ a M4, o = .own a ∧ DPutR M3 d a i M4 ∧ E.nx δ M4) : wDPut ga gb gc E δ M := h
theorem s_ik {Q : List Dat → (Mem → Prop) → Mem → Prop} (h : g δ M fun d M1 => ∃ (a : Addr) (od : Obj) (kvs : List (Key × Int)), d = .own a ∧ M1 a = some (.fK od kvs) ∧ Q (kvs.map fun p => keyD p.1) (fun M => M a = some (.fK od kvs)) M1) : wIKeys g δ M Q := h
theorem s_get2 (h : ga δ M fun o M1 => (∃ a kvs, o = .own a ∧ M1 a = some (.dK kvs)) ∧ gb δ M1 fun i M2 => gc δ M2 fun z M3 => ∃ a kvs k, o = .own a ∧ M3 a = some (.dK kvs) ∧ keyK i = some k ∧ P ((lookK kvs k).getD z) M3) : wGet2 ga gb gc δ M P := h
theorem s_setd (h : ga δ M fun o M1 => (∃ a kvs, o = .own a ∧ M1 a = some (.dK kvs)) ∧ gb δ M1 fun i M2 => gc δ M2 fun z M3 => ∃ a kvs k, o = .own a ∧ M3 a = some (.dK kvs) ∧ keyK i = some k ∧ kvs.length < sizeLine ∧ (∀ y, lookK kvs k = some y → P y M3) ∧ (lookK kvs k = none → P z (putM M3 a (.dK (putKD kvs k z))))) : wSetd ga gb gc δ M P := h
theorem s_lv (h : g δ M fun d M1 => ∃ kvs, d = .dT kvs ∧ P (.py (.list (kvs.map (·.2)))) M1) : wListVals g δ M P := h
theorem s_seti (h : ga δ M fun d M1 => gb δ M1 fun o M2 => gc δ M2 fun i M3 => ∃ a ds k j, o = .own a ∧ i = .py (.int k) ∧ M3 a = some (.lst ds) ∧ ixN ds.length k = some j ∧ E.nx δ (putM M3 a (.lst (ds.set j d)))) : wSetI ga gb gc E δ M := h
theorem s_pop (h : g δ M fun x M1 => (∃ a ds, x = .own a ∧ M1 a = some (.lst ds)) ∧ r δ M1 fun es M2 => ∃ (a : Addr) (i : Nat) (ds : List Dat) (y : Dat), x = .own a ∧ es = [.py (.int (i : Nat))] ∧ M2 a = some (.lst ds) ∧ ds.length ≤ sizeLine ∧ ds[i]? = some y ∧ P y (putM M2 a (.lst (ds.eraseIdx i)))) : wPop g r δ M P := h
theorem s_lr (h : ga δ M fun x M1 => gb δ M1 fun y M2 => ∃ i j, x = .py (.int i) ∧ y = .py (.int j) ∧ RgOk i j ∧ P (.py (.list ((rgI i j).map .int))) M2) : wLstRg ga gb δ M P := h
theorem rt_own {P : Dat → Mem → Prop} {M0 : Mem} {a : Addr} {ds : List PyData} (h0 : M0 a = none) (h : P (.py (.list ds)) M0) : (dEnds P).rt (.own a) (putM M0 a (.lst (ds.map .py))) := by
  refine ⟨_, _, .lst putM_same, ?_⟩
  have : delMs (putM M0 a (.lst (ds.map .py))) [a] = M0 := by
    funext b
    unfold delMs
    by_cases e : b = a
    · subst e; rw [if_pos (by simp), h0]
    · rw [if_neg (by simpa using e), putM_ne e]
  rw [this]
  exact h
theorem rt_le {P : Dat → Mem → Prop} {M0 M1 : Mem} (e : MLe M0 M1) (h : P d M0) : (dEnds P).rt d M1 := ⟨d, M0, .le e, h⟩
theorem mle_putM {M0 : Mem} {a : Addr} {o : MO} (h0 : M0 a = none) : MLe M0 (putM M0 a o) := fun b u h => by
  by_cases e : b = a
  · rw [e, h0] at h; cases h
  · rw [putM_ne e]; exact h
end
end DL
namespace RO
open PySem PySem.Spec PyProof.Rows L2 DL
inductive Wh where
  | i (n : Int)
  | s (x : Str)
deriving DecidableEq
structure Rw where
  m : Int
  ln : Str
  wh : Wh
deriving DecidableEq
def whP : Wh → PyData
  | .i n => .int n
  | .s x => .str x
def encR (r : Rw) : PyData := .tuple [.int r.m, .str r.ln, whP r.wh]
def encL (l : List Rw) : PyData := .tuple (l.map encR)
def nilR : Rw := ⟨0, "", .i 0⟩
def rowAt (l : List Rw) (i : Int) : Rw := l.getD i.toNat nilR
theorem eqv_wh (u v : Wh) : PyData.eqv (whP u) (whP v) = decide (u = v) := by
  cases u with
  | i n =>
    cases v with
    | i m =>
      by_cases h : n = m
      · subst h; simp [whP, PyData.eqv]
      · simp [whP, PyData.eqv, h]
    | s y => simp [whP, PyData.eqv]
  | s x =>
    cases v with
    | i m => simp [whP, PyData.eqv]
    | s y =>
      by_cases h : x = y
      · subst h; simp [whP, PyData.eqv]
      · simp [whP, PyData.eqv, h]
theorem eqv_tail (r q : Rw) : PyData.eqv (.tuple [.str r.ln, whP r.wh]) (.tuple [.str q.ln, whP q.wh]) = decide (r.ln = q.ln ∧ r.wh = q.wh) := by
  by_cases h : r.ln = q.ln
  · by_cases h2 : r.wh = q.wh
    · simp [PyData.eqv, PyData.eqvAll, eqv_wh, h, h2]
    · simp [PyData.eqv, PyData.eqvAll, eqv_wh, h, h2]
  · simp [PyData.eqv, PyData.eqvAll, eqv_wh, h]
def tlP (r : Rw) : PyData := .tuple [.str r.ln, whP r.wh]
abbrev Pr := Int × Int
/-- two rows of one line and what -/
def Alike (r q : Rw) : Prop := r.ln = q.ln ∧ r.wh = q.wh
instance (r q : Rw) : Decidable (Alike r q) := by unfold Alike; exact inferInstance
def IsPair (B R : List Rw) (p : Pr) : Prop := 0 ≤ p.1 ∧ p.1 < B.length ∧ 0 ≤ p.2 ∧ p.2 < R.length ∧ Alike (rowAt B p.1) (rowAt R p.2)
def spn (x y : Rw) (lag : Int) : Int × Int := if sentTab x.ln = some ("bridge" : Str) then (y.m - x.m - lag, y.m - x.m) else (y.m - x.m, y.m - x.m + lag)
def spanF (B R : List Rw) (lag : Int) (p : Pr) : Int × Int := spn (rowAt B p.1) (rowAt R p.2) lag
def fit (s : Int × Int) (d : Int) : Bool := decide (s.1 ≤ d) && decide (d ≤ s.2)
def meetsF (B R : List Rw) (lag lo hi : Int) (p : Pr) : Bool := decide ((spanF B R lag p).1 ≤ hi) && decide (lo ≤ (spanF B R lag p).2)
def rowPairs (B R : List Rw) (b : Nat) : List Pr := ((List.range R.length).map fun r : Nat => (((b : Nat) : Int), ((r : Nat) : Int))).filter fun p => decide (Alike (rowAt R p.2) (rowAt B p.1))
def pwN (B R : List Rw) (lag lo hi : Int) (n : Nat) : List Pr := (List.range n).flatMap fun b => (rowPairs B R b).filter (meetsF B R lag lo hi)
def pw (B R : List Rw) (lag lo hi : Int) : List Pr := pwN B R lag lo hi B.length
def lexLt (p q : Pr) : Prop := p.1 < q.1 ∨ (p.1 = q.1 ∧ p.2 < q.2)
def ahead (p q : Pr) : Bool := decide (p.1 < q.1) && decide (p.2 < q.2)
theorem ahead_iff {p q : Pr} : ahead p q = true ↔ p.1 < q.1 ∧ p.2 < q.2 := by unfold ahead; simp
def lineOf (B : List Rw) (p : Pr) : Str := (rowAt B p.1).ln
/-- logs as the law draws them -/
structure LogOk (l : List Rw) : Prop where
  len : l.length ≤ 18
  ln : ∀ x ∈ l, ∃ h, sentTab x.ln = some h
  sh : ∀ x ∈ l, SeqAt.shaped (tlP x) = true
theorem row_at {l : List Rw} {i : Int} (h0 : 0 ≤ i) (h1 : i < l.length) : atI (l.map encR) i = some (encR (rowAt l i)) := by
  obtain ⟨n, rfl⟩ := Int.eq_ofNat_of_zero_le h0
  have hn : n < l.length := by omega
  refine atI_nat ?_
  unfold rowAt
  simp [hn]
theorem row_mem {l : List Rw} {i : Int} (h0 : 0 ≤ i) (h1 : i < l.length) : rowAt l i ∈ l := by
  obtain ⟨n, rfl⟩ := Int.eq_ofNat_of_zero_le h0
  have hn : n < l.length := by omega
  unfold rowAt
  simp [hn]

section
variable {M : Mem} {P : Dat → Mem → Prop} {l : List Rw} {r q : Rw} {i : Int}
theorem s_ixR (h0 : 0 ≤ i) (h1 : i < l.length) (h : P (.py (encR (rowAt l i))) M) : fIx (.py (encL l)) (.py (.int i)) M P := ⟨_, ixD_tup (row_at h0 h1), h⟩
theorem s_lenE (h : P (.py (.int l.length)) M) : fLen [.py (encL l)] M P := ⟨_, _, rfl, (show l.length = (l.map encR).length from (List.length_map ..).symm), h⟩
theorem s_slR (h : P (.py (tlP r)) M) : fSlT (.py (encR r)) (some 1) none M P := ⟨_, rfl, h⟩
theorem s_ixR0 (h : P (.py (.int r.m)) M) : fIx (.py (encR r)) (.py (.int 0)) M P := ⟨_, ixD_tup rfl, h⟩
theorem s_ixR1 (h : P (.py (.str r.ln)) M) : fIx (.py (encR r)) (.py (.int 1)) M P := ⟨_, ixD_tup rfl, h⟩
theorem s_ixR2 (h : P (.py (whP r.wh)) M) : fIx (.py (encR r)) (.py (.int 2)) M P := ⟨_, ixD_tup rfl, h⟩
theorem s_eqTl (c : SeqAt.shaped (tlP r) = true) (c2 : SeqAt.shaped (tlP q) = true) (h : P (.py (.bool (decide (Alike r q)))) M) : fEq (.py (tlP r)) (.py (tlP q)) M P := by
  refine s_eqT c c2 ?_
  rw [eqv_tail]
  exact h
end
/-! ### the pairs of a stretch -/
section
variable {B R : List Rw} {lag lo hi d : Int}
theorem mem_rowPairs {b : Nat} {p : Pr} : p ∈ rowPairs B R b ↔ p.1 = b ∧ 0 ≤ p.2 ∧ p.2 < R.length ∧ Alike (rowAt R p.2) (rowAt B p.1) := by
  unfold rowPairs
  rw [List.mem_filter, List.mem_map]
  constructor
  · rintro ⟨⟨r, hr, rfl⟩, h⟩
    rw [List.mem_range] at hr
    exact ⟨rfl, by simp, by simpa using hr, of_decide_eq_true h⟩
  · rintro ⟨h1, h2, h3, h4⟩
    obtain ⟨a, c⟩ := p
    simp only at h1 h2 h3 h4
    subst h1
    obtain ⟨n, rfl⟩ := Int.eq_ofNat_of_zero_le h2
    exact ⟨⟨n, List.mem_range.mpr (by simpa using h3), rfl⟩, decide_eq_true h4⟩
theorem Alike.symm {r q : Rw} (h : Alike r q) : Alike q r := ⟨h.1.symm, h.2.symm⟩
theorem mem_pw {p : Pr} : p ∈ pw B R lag lo hi ↔ IsPair B R p ∧ meetsF B R lag lo hi p = true := by
  unfold pw pwN
  rw [List.mem_flatMap]
  constructor
  · rintro ⟨b, hb, h⟩
    rw [List.mem_filter, mem_rowPairs] at h
    rw [List.mem_range] at hb
    obtain ⟨⟨h1, h2, h3, h4⟩, h5⟩ := h
    exact ⟨⟨by omega, by omega, h2, h3, h4.symm⟩, h5⟩
  · rintro ⟨⟨h1, h2, h3, h4, h5⟩, h6⟩
    refine ⟨p.1.toNat, List.mem_range.mpr (by omega), ?_⟩
    rw [List.mem_filter, mem_rowPairs]
    exact ⟨⟨by omega, h3, h4, h5.symm⟩, h6⟩
theorem rowPairs_pw (b : Nat) : (rowPairs B R b).Pairwise lexLt := by
  unfold rowPairs
  refine List.Pairwise.filter _ ?_
  rw [List.pairwise_map]
  refine List.Pairwise.imp (R := (· < ·)) (fun {x y} h => ?_) List.pairwise_lt_range
  exact .inr ⟨rfl, by simpa using h⟩
theorem pwN_pw : ∀ n, (pwN B R lag lo hi n).Pairwise lexLt
  | 0 => by simp [pwN]
  | n + 1 => by
    unfold pwN
    rw [List.range_succ, List.flatMap_append, List.pairwise_append]
    refine ⟨pwN_pw n, by simpa using (rowPairs_pw n).filter _, fun p hp q hq => ?_⟩
    rw [List.mem_flatMap] at hp
    obtain ⟨b, hb, hp⟩ := hp
    rw [List.mem_range] at hb
    have h1 := (mem_rowPairs.mp (List.mem_filter.mp hp).1).1
    have hq : q ∈ (rowPairs B R n).filter (meetsF B R lag lo hi) := by simpa using hq
    have h2 := (mem_rowPairs.mp (List.mem_filter.mp hq).1).1
    exact .inl (by omega)
theorem pw_pw : (pw B R lag lo hi).Pairwise lexLt := pwN_pw _
theorem lexLt_ne {p q : Pr} (h : lexLt p q) : p ≠ q := fun e => by
  subst e
  rcases h with h | ⟨_, h⟩ <;> omega
theorem nodup_of_lex {l : List Pr} (h : l.Pairwise lexLt) : l.Nodup := h.imp fun h => lexLt_ne h
theorem pwN_len : ∀ n, (pwN B R lag lo hi n).length ≤ n * R.length
  | 0 => by simp [pwN]
  | n + 1 => by
    have ih := pwN_len n
    unfold pwN at ih ⊢
    rw [List.range_succ, List.flatMap_append, List.length_append]
    have h1 : ((rowPairs B R n).filter (meetsF B R lag lo hi)).length ≤ R.length := by
      refine Nat.le_trans (List.length_filter_le _ _) ?_
      unfold rowPairs
      refine Nat.le_trans (List.length_filter_le _ _) ?_
      simp
    have h2 : ([n].flatMap fun b => (rowPairs B R b).filter (meetsF B R lag lo hi)).length ≤ R.length := by simpa using h1
    have : (n + 1) * R.length = n * R.length + R.length := Nat.succ_mul n R.length
    omega
theorem pw_len (hB : B.length ≤ 18) (hR : R.length ≤ 18) : (pw B R lag lo hi).length ≤ 324 := by
  have h := pwN_len (B := B) (R := R) (lag := lag) (lo := lo) (hi := hi) B.length
  have : B.length * R.length ≤ 18 * 18 := Nat.mul_le_mul hB hR
  unfold pw
  omega
/-- what fits a difference of the stretch, out of what meets the stretch -/
theorem pw_fit (h1 : lo ≤ d) (h2 : d ≤ hi) : (pw B R lag lo hi).filter (fun p => fit (spanF B R lag p) d) = pw B R lag d d := by
  unfold pw pwN
  rw [List.filter_flatMap]
  congr 1
  funext b
  rw [List.filter_filter]
  congr 1
  funext p
  unfold fit meetsF
  rw [Bool.eq_iff_iff]
  simp only [Bool.and_eq_true, decide_eq_true_eq]
  omega
/-- where the pairs that fit are the same from difference to difference, they are those that meet the whole -/
theorem pw_const {ps : List Pr} (hle : lo ≤ hi) (hlag : 0 ≤ lag) (h : ∀ d, lo ≤ d → d ≤ hi → pw B R lag d d = ps) : pw B R lag lo hi = ps := by
  have h0 := h lo (Int.le_refl _) hle
  have sub : ∀ p ∈ pw B R lag lo hi, fit (spanF B R lag p) lo = true := fun p hp => by
    obtain ⟨hp1, hp2⟩ := mem_pw.mp hp
    unfold meetsF at hp2
    simp only [Bool.and_eq_true, decide_eq_true_eq] at hp2
    have hw : (spanF B R lag p).1 ≤ (spanF B R lag p).2 := by
      unfold spanF spn
      split <;> simp <;> omega
    -- some difference of the stretch fits
    have : ∃ d, lo ≤ d ∧ d ≤ hi ∧ (spanF B R lag p).1 ≤ d ∧ d ≤ (spanF B R lag p).2 := by
      by_cases q : lo ≤ (spanF B R lag p).1
      · exact ⟨(spanF B R lag p).1, q, hp2.1, Int.le_refl _, hw⟩
      · exact ⟨lo, Int.le_refl _, hle, by omega, hp2.2⟩
    obtain ⟨d, d1, d2, d3, d4⟩ := this
    have hd : p ∈ pw B R lag d d := mem_pw.mpr ⟨hp1, by unfold meetsF; simp; omega⟩
    rw [h d d1 d2, ← h0] at hd
    have := (mem_pw.mp hd).2
    unfold meetsF at this
    unfold fit
    simp only [Bool.and_eq_true, decide_eq_true_eq] at this ⊢
    exact this
  rw [← pw_fit (Int.le_refl lo) hle, List.filter_eq_self.mpr sub] at h0
  exact h0
end

theorem eqv_pr (p q : Pr) : PyData.eqv (prP p) (prP q) = decide (p = q) := by
  obtain ⟨a, b⟩ := p
  obtain ⟨c, d⟩ := q
  by_cases h1 : a = c
  · by_cases h2 : b = d
    · simp [prP, PyData.eqv, PyData.eqvAll, h1, h2]
    · simp [prP, PyData.eqv, PyData.eqvAll, h1, h2]
  · simp [prP, PyData.eqv, PyData.eqvAll, h1]
theorem shaped_pr (p : Pr) : SeqAt.shaped (prP p) = true := by simp [prP, SeqAt.shaped, PyData.canLay0, PyData.canLayAll0, PyData.depth, PyData.depthAll]
theorem s_eqP {M : Mem} {P : Dat → Mem → Prop} {p q : Pr} (h : P (.py (.bool (decide (p = q)))) M) : fEq (.py (prP p)) (.py (prP q)) M P := by
  refine s_eqT (shaped_pr p) (shaped_pr q) ?_
  have := eqv_pr p q
  unfold prP at this
  rw [this]
  exact h
theorem eqvAll_prs : ∀ ps qs : List Pr, PyData.eqvAll (ps.map prP) (qs.map prP) = decide (ps = qs)
  | [], [] => by simp [PyData.eqvAll]
  | [], _ :: _ => by simp [PyData.eqvAll]
  | _ :: _, [] => by simp [PyData.eqvAll]
  | p :: ps, q :: qs => by
    have h1 := eqv_pr p q
    have h2 := eqvAll_prs ps qs
    rw [List.map_cons, List.map_cons]
    unfold PyData.eqvAll
    rw [h1, h2]
    by_cases e1 : p = q
    · by_cases e2 : ps = qs
      · simp [e1, e2]
      · simp [e1, e2]
    · simp [e1]
theorem canLay_prs : ∀ ps : List Pr, PyData.canLayAll0 (ps.map prP) = true
  | [] => by simp [PyData.canLayAll0]
  | p :: r => by
    have := canLay_prs r
    rw [List.map_cons]
    simp [PyData.canLayAll0, this, prP, PyData.canLay0]
theorem depth_prs : ∀ ps : List Pr, PyData.depthAll (ps.map prP) ≤ 1
  | [] => by simp [PyData.depthAll]
  | p :: r => by
    have := depth_prs r
    rw [List.map_cons]
    simp [PyData.depthAll, prP, PyData.depth]
    omega
theorem shaped_prs (ps : List Pr) : SeqAt.shaped (.list (ps.map prP)) = true := by
  have := depth_prs ps
  simp [SeqAt.shaped, PyData.canLay0, canLay_prs, PyData.depth]
  omega
theorem s_eqPs {M : Mem} {P : Dat → Mem → Prop} {ps qs : List Pr} (h : P (.py (.bool (decide (ps = qs)))) M) : fEq (.py (.list (ps.map prP))) (.py (.list (qs.map prP))) M P := by
  refine s_eqL (shaped_prs ps) (shaped_prs qs) ?_
  rw [PyData.eqv, eqvAll_prs]
  exact h
theorem s_eqNil {M : Mem} {P : Dat → Mem → Prop} {ps : List Pr} (h : P (.py (.bool (decide (ps = [])))) M) : fEq (.py (.list (ps.map prP))) (.py (.list [])) M P := s_eqPs (qs := []) h
theorem eqvAll_nil (ds : List PyData) : PyData.eqvAll ds [] = decide (ds = []) := by
  cases ds with
  | nil => simp [PyData.eqvAll]
  | cons d r => simp [PyData.eqvAll]
theorem s_eqNilO {M : Mem} {P : Dat → Mem → Prop} {a : Addr} {ds : List PyData} (hm : M a = some (.lst (ds.map .py))) (hs : SeqAt.shaped (.list ds) = true) (h : P (.py (.bool (decide (ds = [])))) M) : fEq (.own a) (.py (.list [])) M P :=
  ⟨_, ⟨.list ds, .list [], ⟨ds, rfl, hm⟩, rfl, hs, by decide +kernel, by rw [PyData.eqv, eqvAll_nil]⟩, h⟩
theorem s_neNilO {M : Mem} {P : Dat → Mem → Prop} {a : Addr} {ds : List PyData} (hm : M a = some (.lst (ds.map .py))) (hs : SeqAt.shaped (.list ds) = true) (h : P (.py (.bool (!decide (ds = [])))) M) : fNe (.own a) (.py (.list [])) M P :=
  ⟨_, ⟨.list ds, .list [], ⟨ds, rfl, hm⟩, rfl, hs, by decide +kernel, rfl⟩, by rw [PyData.eqv, eqvAll_nil]; exact h⟩
/-! ### ranks -/
structure RankOK (ps : List Pr) (rank : Pr → Int) : Prop where
  one : ∀ p ∈ ps, 1 ≤ rank p
  back : ∀ p ∈ ps, 1 < rank p → ∃ q ∈ ps, ahead q p = true ∧ rank q = rank p - 1
  up : ∀ p ∈ ps, ∀ q ∈ ps, ahead p q = true → rank p < rank q
def MaxR (ps : List Pr) (rank : Pr → Int) (W : Int) : Prop := (∀ p ∈ ps, rank p ≤ W) ∧ ((ps = [] ∧ W = 0) ∨ ∃ p ∈ ps, rank p = W)
def Lis (ps : List Pr) (W : Int) : Prop := ∃ rank, RankOK ps rank ∧ MaxR ps rank W
theorem rank_le {ps : List Pr} {r1 r2 : Pr → Int} (h1 : RankOK ps r1) (h2 : RankOK ps r2) : ∀ (n : Nat) (p : Pr), p ∈ ps → r1 p = n → r1 p ≤ r2 p
  | 0, p, hp, e => by have := h1.one p hp; omega
  | n + 1, p, hp, e => by
    by_cases h : 1 < r1 p
    · obtain ⟨q, hq, ha, hr⟩ := h1.back p hp h
      have ih := rank_le h1 h2 n q hq (by omega)
      have := h2.up q hq p hp ha
      omega
    · have := h2.one p hp
      omega
theorem rank_eq {ps : List Pr} {r1 r2 : Pr → Int} (h1 : RankOK ps r1) (h2 : RankOK ps r2) {p : Pr} (hp : p ∈ ps) : r1 p = r2 p := by
  have a := h1.one p hp
  have b := h2.one p hp
  have c := rank_le h1 h2 (r1 p).toNat p hp (by omega)
  have d := rank_le h2 h1 (r2 p).toNat p hp (by omega)
  omega
theorem Lis.uniq {ps : List Pr} {W W' : Int} (h : Lis ps W) (h' : Lis ps W') : W = W' := by
  obtain ⟨r, k, m1, m2⟩ := h
  obtain ⟨r', k', m1', m2'⟩ := h'
  rcases m2 with ⟨e, rfl⟩ | ⟨p, hp, rfl⟩
  · rcases m2' with ⟨_, rfl⟩ | ⟨q, hq, _⟩
    · rfl
    · rw [e] at hq; cases hq
  · rcases m2' with ⟨e, _⟩ | ⟨q, hq, rfl⟩
    · rw [e] at hp; cases hp
    · have a := m1' p hp
      have b := m1 q hq
      have c := rank_eq k k' hp
      have d := rank_eq k k' hq
      omega
/-- a chain is no longer than the greatest rank -/
theorem incr_len : ∀ (l : List Int) (a W : Int), l.Pairwise (· < ·) → (∀ x ∈ l, a ≤ x ∧ x ≤ W) → a ≤ W + 1 → a + l.length ≤ W + 1
  | [], a, W, _, _, h => by simpa using h
  | x :: r, a, W, hp, hb, _ => by
    rw [List.pairwise_cons] at hp
    have hx := hb x List.mem_cons_self
    have := incr_len r (x + 1) W hp.2 (fun y hy => ⟨by have := hp.1 y hy; omega, (hb y (List.mem_cons_of_mem _ hy)).2⟩) (by omega)
    simp only [List.length_cons]
    omega
theorem chain_le {ps c : List Pr} {W : Int} (h : Lis ps W) (hs : ∀ p ∈ c, p ∈ ps) (hc : c.Pairwise fun p q => ahead p q = true) : (c.length : Int) ≤ W := by
  obtain ⟨r, k, m1, m2⟩ := h
  have hW : 0 ≤ W := by
    rcases m2 with ⟨_, rfl⟩ | ⟨p, hp, rfl⟩
    · exact Int.le_refl _
    · have := k.one p hp
      omega
  have := incr_len (c.map r) 1 W (by
    rw [List.pairwise_map]
    exact List.Pairwise.imp_of_mem (fun {p q} hp hq h => k.up p (hs p hp) q (hs q hq) h) hc) (fun x hx => by
    obtain ⟨p, hp, rfl⟩ := List.mem_map.mp hx
    exact ⟨k.one p (hs p hp), m1 p (hs p hp)⟩) (by omega)
  rw [List.length_map] at this
  omega

/-! ### tables -/
section
variable {κ α β : Type} [DecidableEq κ]
theorem lookK_cons {j : κ} {y : α} {r : List (κ × α)} {k : κ} : lookK ((j, y) :: r) k = if j = k then some y else lookK r k := by
  unfold lookK
  rw [List.find?_cons]
  by_cases h : j = k
  · simp [h]
  · simp [h]
theorem lookK_upd {x : α} {k j : κ} : ∀ {m : List (κ × α)}, lookK (m.map fun kv => if kv.1 = k then (kv.1, x) else kv) j = if j = k ∧ (lookK m k).isSome then some x else lookK m j
  | [] => by simp [lookK]
  | (i, y) :: r => by
    have ih := lookK_upd (x := x) (k := k) (j := j) (m := r)
    rw [List.map_cons]
    by_cases h : i = k
    · subst h
      show lookK ((if i = i then (i, x) else (i, y)) :: _) j = _
      rw [if_pos rfl, lookK_cons, lookK_cons, lookK_cons, ih]
      by_cases e : i = j
      · subst e
        simp
      · have e' : ¬ j = i := fun z => e z.symm
        simp [e, e']
    · show lookK ((if i = k then (i, x) else (i, y)) :: _) j = _
      rw [if_neg h, lookK_cons, lookK_cons, lookK_cons, ih]
      by_cases e : i = j
      · subst e
        simp [h]
      · simp [h, e]
theorem lookK_append {m r : List (κ × α)} {k : κ} : lookK (m ++ r) k = (lookK m k).or (lookK r k) := by
  unfold lookK
  rw [List.find?_append]
  cases m.find? (fun kv => decide (kv.1 = k)) <;> simp
theorem any_look {m : List (κ × α)} {k : κ} : (m.any fun kv => decide (kv.1 = k)) = (lookK m k).isSome := by
  induction m with
  | nil => rfl
  | cons p r ih =>
    obtain ⟨j, y⟩ := p
    rw [List.any_cons, lookK_cons, ih]
    by_cases h : j = k <;> simp [h]
theorem lookK_put {m : List (κ × α)} {k j : κ} {x : α} : lookK (putKD m k x) j = if j = k then some x else lookK m j := by
  unfold putKD
  rw [any_look]
  by_cases h : (lookK m k).isSome = true
  · rw [if_pos h, lookK_upd]
    by_cases e : j = k
    · rw [if_pos ⟨e, h⟩, if_pos e]
    · rw [if_neg fun z => e z.1, if_neg e]
  · rw [if_neg h, lookK_append, lookK_cons]
    by_cases e : j = k
    · subst e
      have : lookK m j = none := by
        cases z : lookK m j with
        | none => rfl
        | some y => rw [z] at h; simp at h
      simp [this]
    · have e' : ¬ k = j := fun z => e z.symm
      rw [if_neg e, if_neg e']
      simp [lookK]
theorem mem_put {m : List (κ × α)} {k : κ} {x : α} {e : κ × α} (h : e ∈ putKD m k x) : e = (k, x) ∨ e ∈ m := by
  unfold putKD at h
  split at h
  · obtain ⟨q, hq, rfl⟩ := List.mem_map.mp h
    by_cases z : q.1 = k
    · rw [if_pos z, z]
      exact .inl rfl
    · rw [if_neg z]
      exact .inr hq
  · rcases List.mem_append.mp h with h | h
    · exact .inr h
    · exact .inl (List.mem_singleton.mp h)
theorem put_map {m : List (κ × α)} {k : κ} {x : α} {g : α → β} : (putKD m k x).map (fun e => (e.1, g e.2)) = putKD (m.map fun e => (e.1, g e.2)) k (g x) := by
  unfold putKD
  rw [List.any_map]
  by_cases h : (m.any fun kv => decide (kv.1 = k)) = true
  · have h' : (m.any ((fun kv => decide (kv.1 = k)) ∘ fun e => (e.1, g e.2))) = true := h
    rw [if_pos h, if_pos h', List.map_map, List.map_map]
    refine List.map_congr_left fun e _ => ?_
    show ((if e.1 = k then (e.1, x) else e).1, g (if e.1 = k then (e.1, x) else e).2) = if e.1 = k then (e.1, g x) else (e.1, g e.2)
    split <;> rfl
  · have h' : ¬ (m.any ((fun kv => decide (kv.1 = k)) ∘ fun e => (e.1, g e.2))) = true := h
    rw [if_neg h, if_neg h', List.map_append]
    rfl
theorem put_len {m : List (κ × α)} {k : κ} {x : α} : (putKD m k x).length ≤ m.length + 1 := by
  unfold putKD
  split
  · rw [List.length_map]; omega
  · rw [List.length_append]; exact Nat.le_refl _
theorem look_map2 {g : α → β} {k : κ} : ∀ {m : List (κ × α)}, lookK (m.map fun e => (e.1, g e.2)) k = (lookK m k).map g
  | [] => rfl
  | (j, y) :: r => by
    have ih := look_map2 (g := g) (k := k) (m := r)
    rw [List.map_cons, lookK_cons, lookK_cons, ih]
    by_cases h : j = k <;> simp [h]
theorem look_mem {m : List (κ × α)} {k : κ} {y : α} (h : lookK m k = some y) : (k, y) ∈ m := by
  induction m with
  | nil => cases h
  | cons p r ih =>
    obtain ⟨j, z⟩ := p
    rw [lookK_cons] at h
    by_cases e : j = k
    · rw [if_pos e] at h
      cases h
      rw [e]
      exact List.mem_cons_self
    · rw [if_neg e] at h
      exact List.mem_cons_of_mem _ (ih h)
theorem look_some {m : List (κ × α)} {k : κ} {y : α} (h : (k, y) ∈ m) : ∃ z, lookK m k = some z := by
  cases q : lookK m k with
  | some z => exact ⟨z, rfl⟩
  | none =>
    have : (m.any fun kv => decide (kv.1 = k)) = true := List.any_eq_true.mpr ⟨_, h, by simp⟩
    rw [any_look, q] at this
    cases this
end
theorem putM_id {M : Mem} {a : Addr} {o : MO} (h : M a = some o) : putM M a o = M := by
  funext b
  unfold putM
  by_cases e : b = a
  · rw [if_pos e, e, h]
  · rw [if_neg e]
/-- the greatest rank at each second number, of some pairs -/
structure MostOK (m : List (Key × Int)) (ps : List Pr) (rank : Pr → Int) : Prop where
  up : ∀ q ∈ ps, ∃ v, lookK m (.inl q.2) = some v ∧ rank q ≤ v
  of : ∀ e ∈ m, ∃ q ∈ ps, e = (.inl q.2, rank q)
/-- the rank of one more pair -/
structure NextW (ps : List Pr) (rank : Pr → Int) (p : Pr) (W : Int) : Prop where
  up : ∀ q ∈ ps, q.2 < p.2 → rank q ≤ W
  of : W = 0 ∨ ∃ q ∈ ps, q.2 < p.2 ∧ rank q = W
  ge : 0 ≤ W
def rankNext (rank : Pr → Int) (p : Pr) (W : Int) : Pr → Int := fun q => if q = p then 1 + W else rank q
theorem rankNext_self {rank : Pr → Int} {p : Pr} {W : Int} : rankNext rank p W p = 1 + W := if_pos rfl
theorem rankNext_ne {rank : Pr → Int} {p q : Pr} {W : Int} (h : q ≠ p) : rankNext rank p W q = rank q := if_neg h
theorem RankOK.next {ps : List Pr} {rank : Pr → Int} {p : Pr} {W : Int} (h : RankOK ps rank) (hp : p ∉ ps) (hs : ∀ q ∈ ps, q.1 < p.1 ∨ (q.1 = p.1 ∧ p.2 ≤ q.2)) (hw : NextW ps rank p W) : RankOK (ps ++ [p]) (rankNext rank p W) := by
  have ne : ∀ q ∈ ps, q ≠ p := fun q hq e => hp (e ▸ hq)
  refine ⟨fun q hq => ?_, fun q hq hr => ?_, fun x hx y hy ha => ?_⟩
  · rcases List.mem_append.mp hq with hq | hq
    · rw [rankNext_ne (ne q hq)]; exact h.one q hq
    · rw [List.mem_singleton.mp hq, rankNext_self]; have := hw.ge; omega
  · rcases List.mem_append.mp hq with hq | hq
    · rw [rankNext_ne (ne q hq)] at hr ⊢
      obtain ⟨x, hx, h1, h2⟩ := h.back q hq hr
      exact ⟨x, List.mem_append.mpr (.inl hx), h1, by rw [rankNext_ne (ne x hx)]; exact h2⟩
    · have e := List.mem_singleton.mp hq
      subst e
      rw [rankNext_self] at hr ⊢
      rcases hw.of with z | ⟨x, hx, h1, h2⟩
      · omega
      · refine ⟨x, List.mem_append.mpr (.inl hx), ?_, by rw [rankNext_ne (ne x hx)]; omega⟩
        rw [ahead_iff]
        have := hs x hx
        omega
  · rw [ahead_iff] at ha
    rcases List.mem_append.mp hx with hx1 | hx1
    · rcases List.mem_append.mp hy with hy1 | hy1
      · rw [rankNext_ne (ne x hx1), rankNext_ne (ne y hy1)]
        exact h.up x hx1 y hy1 (ahead_iff.mpr ha)
      · have e := List.mem_singleton.mp hy1
        rw [e] at ha ⊢
        rw [rankNext_ne (ne x hx1), rankNext_self]
        have := hw.up x hx1 ha.2
        omega
    · have e := List.mem_singleton.mp hx1
      rw [e] at ha
      rcases List.mem_append.mp hy with hy1 | hy1
      · have := hs y hy1
        omega
      · have e2 := List.mem_singleton.mp hy1
        rw [e2] at ha
        omega
theorem MostOK.next {m : List (Key × Int)} {ps : List Pr} {rank : Pr → Int} {p : Pr} {W : Int} (h : MostOK m ps rank) (hp : p ∉ ps) (hw : NextW ps rank p W) : MostOK (putKD m (.inl p.2) (max (1 + W) ((lookK m (.inl p.2)).getD 0))) (ps ++ [p]) (rankNext rank p W) := by
  have ne : ∀ q ∈ ps, q ≠ p := fun q hq e => hp (e ▸ hq)
  have hg := hw.ge
  refine ⟨fun q hq => ?_, fun e he => ?_⟩
  · rw [lookK_put]
    rcases List.mem_append.mp hq with hq | hq
    · obtain ⟨v, h1, h2⟩ := h.up q hq
      rw [rankNext_ne (ne q hq)]
      by_cases e : q.2 = p.2
      · rw [if_pos (by rw [e]), ← e, h1]
        exact ⟨_, rfl, by simp; omega⟩
      · rw [if_neg fun z => e (Sum.inl.inj z)]
        exact ⟨v, h1, h2⟩
    · have e := List.mem_singleton.mp hq
      subst e
      rw [if_pos rfl, rankNext_self]
      exact ⟨_, rfl, by omega⟩
  · rcases mem_put he with rfl | he
    · cases q : lookK m (.inl p.2) with
      | none =>
        refine ⟨p, List.mem_append.mpr (.inr List.mem_cons_self), ?_⟩
        rw [rankNext_self]
        simp
        omega
      | some v =>
        by_cases hv : v ≤ 1 + W
        · refine ⟨p, List.mem_append.mpr (.inr List.mem_cons_self), ?_⟩
          rw [rankNext_self]
          simp
          omega
        · obtain ⟨x, hx, ex⟩ := h.of _ (look_mem q)
          refine ⟨x, List.mem_append.mpr (.inl hx), ?_⟩
          rw [rankNext_ne (ne x hx), ← ex]
          simp
          omega
    · obtain ⟨x, hx, ex⟩ := h.of e he
      exact ⟨x, List.mem_append.mpr (.inl hx), by rw [rankNext_ne (ne x hx)]; exact ex⟩
/-! ### groups -/
section
variable {κ : Type} [DecidableEq κ] {kf : Pr → κ}
def stepG (gs : List (κ × List Pr)) (k : κ) (p : Pr) : List (κ × List Pr) :=
  if (gs.any fun g => decide (g.1 = k)) = true then gs.map (fun g => if g.1 = k then (g.1, g.2 ++ [p]) else g) else gs ++ [(k, [p])]
def Gk (kf : Pr → κ) (ps : List Pr) : List (κ × List Pr) := ps.foldl (fun gs p => stepG gs (kf p) p) []
theorem Gk_snoc (ps : List Pr) (p : Pr) : Gk kf (ps ++ [p]) = stepG (Gk kf ps) (kf p) p := by
  unfold Gk
  rw [List.foldl_append]
  rfl
structure GOk (kf : Pr → κ) (ps : List Pr) (gs : List (κ × List Pr)) : Prop where
  nd : (gs.map (·.1)).Nodup
  fl : ∀ g ∈ gs, g.2 = ps.filter fun p => decide (kf p = g.1)
  all : ∀ p ∈ ps, ∃ g ∈ gs, g.1 = kf p
theorem stepG_keys (gs : List (κ × List Pr)) (k : κ) (p : Pr) : (stepG gs k p).map (·.1) = if k ∈ gs.map (·.1) then gs.map (·.1) else gs.map (·.1) ++ [k] := by
  unfold stepG
  by_cases h : k ∈ gs.map (·.1)
  · have h' : (gs.any fun g => decide (g.1 = k)) = true := by
      obtain ⟨g, hg, e⟩ := List.mem_map.mp h
      exact List.any_eq_true.mpr ⟨g, hg, decide_eq_true e⟩
    rw [if_pos h', if_pos h, List.map_map]
    refine List.map_congr_left fun g _ => ?_
    show (if g.1 = k then (g.1, g.2 ++ [p]) else g).1 = g.1
    split <;> rfl
  · have h' : ¬ (gs.any fun g => decide (g.1 = k)) = true := fun z => h (by
      obtain ⟨g, hg, e⟩ := List.any_eq_true.mp z
      exact List.mem_map.mpr ⟨g, hg, of_decide_eq_true e⟩)
    rw [if_neg h', if_neg h, List.map_append]
    rfl
theorem GOk.step {ps : List Pr} {gs : List (κ × List Pr)} (h : GOk kf ps gs) (p : Pr) : GOk kf (ps ++ [p]) (stepG gs (kf p) p) := by
  by_cases hk : kf p ∈ gs.map (·.1)
  · have h' : (gs.any fun g => decide (g.1 = kf p)) = true := by
      obtain ⟨g, hg, e⟩ := List.mem_map.mp hk
      exact List.any_eq_true.mpr ⟨g, hg, decide_eq_true e⟩
    refine ⟨by rw [stepG_keys, if_pos hk]; exact h.nd, fun g hg => ?_, fun q hq => ?_⟩
    · unfold stepG at hg
      rw [if_pos h'] at hg
      obtain ⟨g0, hg0, rfl⟩ := List.mem_map.mp hg
      rw [List.filter_append]
      by_cases e : g0.1 = kf p
      · rw [if_pos e, h.fl g0 hg0]
        simp [e]
      · rw [if_neg e, h.fl g0 hg0]
        have : ¬ kf p = g0.1 := fun z => e z.symm
        simp [this]
    · have : ∃ g ∈ gs, g.1 = kf q := by
        rcases List.mem_append.mp hq with hq | hq
        · exact h.all q hq
        · rw [List.mem_singleton.mp hq]
          obtain ⟨g, hg, e⟩ := List.mem_map.mp hk
          exact ⟨g, hg, e⟩
      obtain ⟨g, hg, e⟩ := this
      have : g.1 ∈ (stepG gs (kf p) p).map (·.1) := by
        rw [stepG_keys, if_pos hk]
        exact List.mem_map.mpr ⟨g, hg, rfl⟩
      obtain ⟨g', hg', e'⟩ := List.mem_map.mp this
      exact ⟨g', hg', e'.trans e⟩
  · have h' : ¬ (gs.any fun g => decide (g.1 = kf p)) = true := fun z => hk (by
      obtain ⟨g, hg, e⟩ := List.any_eq_true.mp z
      exact List.mem_map.mpr ⟨g, hg, of_decide_eq_true e⟩)
    refine ⟨?_, fun g hg => ?_, fun q hq => ?_⟩
    · rw [stepG_keys, if_neg hk, List.nodup_append]
      refine ⟨h.nd, by simp, fun a ha b hb e => ?_⟩
      rw [List.mem_singleton.mp hb] at e
      rw [e] at ha
      exact hk ha
    · unfold stepG at hg
      rw [if_neg h'] at hg
      rw [List.filter_append]
      rcases List.mem_append.mp hg with hg | hg
      · rw [h.fl g hg]
        have : ¬ kf p = g.1 := fun z => hk (by rw [z]; exact List.mem_map.mpr ⟨g, hg, rfl⟩)
        simp [this]
      · rw [List.mem_singleton.mp hg]
        have : ps.filter (fun q => decide (kf q = kf p)) = [] := by
          rw [List.filter_eq_nil_iff]
          intro q hq z
          obtain ⟨g, hg, e⟩ := h.all q hq
          exact hk (by rw [← of_decide_eq_true z, ← e]; exact List.mem_map.mpr ⟨g, hg, rfl⟩)
        rw [this]
        simp
    · have : ∃ k ∈ (stepG gs (kf p) p).map (·.1), k = kf q := by
        rw [stepG_keys, if_neg hk]
        rcases List.mem_append.mp hq with hq | hq
        · obtain ⟨g, hg, e⟩ := h.all q hq
          exact ⟨g.1, List.mem_append.mpr (.inl (List.mem_map.mpr ⟨g, hg, rfl⟩)), e⟩
        · rw [List.mem_singleton.mp hq]
          exact ⟨_, List.mem_append.mpr (.inr List.mem_cons_self), rfl⟩
      obtain ⟨k, hk', e⟩ := this
      obtain ⟨g, hg, rfl⟩ := List.mem_map.mp hk'
      exact ⟨g, hg, e⟩
theorem snocRec {α : Type} {motive : List α → Prop} (l : List α) (nil : motive []) (snoc : ∀ l a, motive l → motive (l ++ [a])) : motive l := by
  have : ∀ n (l : List α), l.length = n → motive l := by
    intro n
    induction n with
    | zero => intro l h; rw [List.eq_nil_of_length_eq_zero h]; exact nil
    | succ n ih =>
      intro l h
      have hne : l ≠ [] := fun z => by rw [z] at h; cases h
      rw [← List.dropLast_concat_getLast hne]
      exact snoc _ _ (ih _ (by rw [List.length_dropLast]; omega))
  exact this _ l rfl
theorem Gk_ok : ∀ (ps : List Pr), GOk kf ps (Gk kf ps) := by
  intro ps
  refine snocRec (motive := fun ps => GOk kf ps (Gk kf ps)) ps ⟨(by simp [Gk]), (fun g hg => by simp [Gk] at hg), (fun p hp => by cases hp)⟩ fun ps p ih => ?_
  rw [Gk_snoc]
  exact ih.step p
theorem stepG_len (gs : List (κ × List Pr)) (k : κ) (p : Pr) : (stepG gs k p).length ≤ gs.length + 1 := by
  unfold stepG
  split
  · rw [List.length_map]; omega
  · rw [List.length_append]; exact Nat.le_refl _
theorem Gk_len (ps : List Pr) : (Gk kf ps).length ≤ ps.length := by
  refine snocRec (motive := fun ps => (Gk kf ps).length ≤ ps.length) ps (by simp [Gk]) fun ps p ih => ?_
  rw [Gk_snoc, List.length_append]
  exact Nat.le_trans (stepG_len _ _ _) (Nat.succ_le_succ ih)
end
abbrev G (B : List Rw) (ps : List Pr) : List (Str × List Pr) := Gk (lineOf B) ps
theorem G_ok (B : List Rw) (ps : List Pr) : GOk (lineOf B) ps (G B ps) := Gk_ok ps
theorem G_len (B : List Rw) (ps : List Pr) : (G B ps).length ≤ ps.length := Gk_len ps
/-! ### sums over groups, crowds -/
def MuW (gs : List (List Pr)) (ws : List Int) : Prop := Paired Lis gs ws
def Mu (B : List Rw) (ps : List Pr) (n : Int) : Prop := ∃ ws, Paired Lis ((G B ps).map (·.2)) ws ∧ n = ws.sum
theorem lis_uniq : ∀ {gs : List (List Pr)} {ws ws' : List Int}, Paired Lis gs ws → Paired Lis gs ws' → ws = ws'
  | _, _, _, .nil, .nil => rfl
  | _, _, _, .cons h t, .cons h' t' => by rw [h.uniq h', lis_uniq t t']
theorem Mu.uniq {B : List Rw} {ps : List Pr} {n m : Int} (h : Mu B ps n) (h' : Mu B ps m) : n = m := by
  obtain ⟨ws, p, rfl⟩ := h
  obtain ⟨ws', p', rfl⟩ := h'
  rw [lis_uniq p p']
/-- a joining as a list: rising, of one line each ahead of the next -/
def St (B : List Rw) (J : List Pr) : Prop := J.Pairwise fun p q => lexLt p q ∧ (lineOf B p = lineOf B q → ahead p q = true)
theorem St.lex {B : List Rw} {J : List Pr} (h : St B J) : J.Pairwise lexLt := h.imp fun h => h.1
theorem len_split {α : Type} (f : α → Bool) : ∀ l : List α, l.length = (l.filter f).length + (l.filter fun x => !f x).length
  | [] => rfl
  | x :: r => by
    have ih := len_split f r
    rw [List.filter_cons, List.filter_cons]
    cases h : f x <;> simp <;> omega
theorem length_keys {B : List Rw} : ∀ (ks : List Str) (J : List Pr), ks.Nodup → (∀ p ∈ J, lineOf B p ∈ ks) → (J.length : Int) = (ks.map fun k => ((J.filter fun p => decide (lineOf B p = k)).length : Int)).sum
  | [], J, _, h => by
    cases J with
    | nil => rfl
    | cons p r => exact absurd (h p List.mem_cons_self) (by simp)
  | k :: ks, J, hn, h => by
    rw [List.nodup_cons] at hn
    have e1 : J.length = (J.filter fun p => decide (lineOf B p = k)).length + (J.filter fun p => !decide (lineOf B p = k)).length := by
      exact len_split _ J
    have ih := length_keys (B := B) ks (J.filter fun p => !decide (lineOf B p = k)) hn.2 (fun p hp => by
      rw [List.mem_filter] at hp
      rcases List.mem_cons.mp (h p hp.1) with z | z
      · exfalso
        have := hp.2
        simp [z] at this
      · exact z)
    have e2 : (ks.map fun k' => (((J.filter fun p => !decide (lineOf B p = k)).filter fun p => decide (lineOf B p = k')).length : Int)) = ks.map fun k' => ((J.filter fun p => decide (lineOf B p = k')).length : Int) := by
      refine List.map_congr_left fun k' hk' => ?_
      rw [List.filter_filter]
      congr 2
      refine List.filter_congr fun p _ => ?_
      by_cases z : lineOf B p = k'
      · have : ¬ lineOf B p = k := fun y => hn.1 (by rw [← y, z]; exact hk')
        simp [z]
        intro y
        exact this (z.trans y)
      · simp [z]
    rw [List.map_cons, List.sum_cons, ← e2, ← ih]
    omega
theorem sum_le : ∀ {α : Type} {R : α → Int → Prop} {gs : List α} {ws : List Int} {f : α → Int}, Paired R gs ws → (∀ g ∈ gs, ∀ w, R g w → f g ≤ w) → (gs.map f).sum ≤ ws.sum
  | _, _, _, _, _, .nil, _ => Int.le_refl _
  | _, _, g :: gs, w :: ws, f, .cons h t, k => by
    have a := k g List.mem_cons_self w h
    have b := sum_le (f := f) t fun g' hg' => k g' (List.mem_cons_of_mem _ hg')
    rw [List.map_cons, List.sum_cons, List.sum_cons]
    omega
theorem paired_map_l {α β γ : Type} {R : β → γ → Prop} {f : α → β} : ∀ {l : List α} {m : List γ}, Paired R (l.map f) m → Paired (fun a c => R (f a) c) l m
  | [], _, h => by cases h; exact .nil
  | _ :: _, _, h => by
    cases h with
    | cons h t => exact .cons h (paired_map_l t)
/-- weak duality -/
theorem St.le {B : List Rw} {ps J : List Pr} {n : Int} (h : St B J) (hs : ∀ p ∈ J, p ∈ ps) (hm : Mu B ps n) : (J.length : Int) ≤ n := by
  obtain ⟨ws, pw, rfl⟩ := hm
  have ok := G_ok B ps
  rw [length_keys (B := B) ((G B ps).map (·.1)) J ok.nd (fun p hp => by
    obtain ⟨g, hg, e⟩ := ok.all p (hs p hp)
    exact List.mem_map.mpr ⟨g, hg, e⟩), List.map_map]
  refine sum_le (paired_map_l pw) fun g hg w hw => ?_
  show ((J.filter fun p => decide (lineOf B p = g.1)).length : Int) ≤ w
  refine chain_le hw (fun p hp => ?_) ?_
  · rw [List.mem_filter] at hp
    rw [ok.fl g hg, List.mem_filter]
    exact ⟨hs p hp.1, hp.2⟩
  · refine List.Pairwise.imp_of_mem (fun {p q} hp hq hpq => ?_) (List.Pairwise.filter _ h)
    rw [List.mem_filter] at hp hq
    exact hpq.2 ((of_decide_eq_true hp.2).trans (of_decide_eq_true hq.2).symm)
/-- a sharing into crowds -/
structure Crowd (B : List Rw) (c : List Pr) : Prop where
  ne : c ≠ []
  lex : c.Pairwise lexLt
  ln : ∀ p ∈ c, ∀ q ∈ c, lineOf B p = lineOf B q ∧ ahead p q = false
structure Shar (B : List Rw) (ps : List Pr) (S : List (List Pr)) : Prop where
  perm : S.flatten.Perm ps
  cr : ∀ c ∈ S, Crowd B c
/-! ### sorted lists of pairs -/
theorem pairLe_of_lex {p q : Pr} (h : lexLt p q) : pairLe p q = true := by
  rw [pairLe_iff]
  unfold lexLt at h
  omega
theorem lex_of_pairLe {p q : Pr} (h : pairLe p q = true) (hn : p ≠ q) : lexLt p q := by
  rw [pairLe_iff] at h
  unfold lexLt
  by_cases h1 : p.1 = q.1
  · by_cases h2 : p.2 = q.2
    · exact absurd (Prod.ext h1 h2) hn
    · omega
  · omega
theorem lex_of_sorted {l : List Pr} (h : l.Pairwise fun p q => pairLe p q = true) (hn : l.Nodup) : l.Pairwise lexLt := by
  have := h.and hn
  exact this.imp fun h => lex_of_pairLe h.1 h.2
theorem sorted_uniq {l m : List Pr} (hp : l.Perm m) (h1 : l.Pairwise fun p q => pairLe p q = true) (h2 : m.Pairwise fun p q => pairLe p q = true) : l = m := by
  refine List.Perm.eq_of_pairwise (le := fun p q => pairLe p q = true) ?_ h1 h2 hp
  intro p q _ _ a b
  rw [pairLe_iff] at a b
  exact Prod.ext (by omega) (by omega)
end RO
local macro_rules | `(tactic| walk_at "dS") => `(tactic| (repeat (first | dsimp only | with_reducible refine DL.s_ret ?_ | with_reducible refine DL.s_seq ?_ | with_reducible refine DL.s_next ?_ | with_reducible refine DL.s_drop ?_ | with_reducible refine DL.s_if ?_ | with_reducible refine DL.s_and ?_ | with_reducible refine DL.s_or ?_ | with_reducible refine DL.s_not ?_ | with_reducible refine DL.s_andV ?_ | with_reducible refine DL.s_orV ?_ | with_reducible refine DL.s_notV ?_ | with_reducible refine DL.s_b ?_ | with_reducible refine DL.s_exb ?_ | with_reducible refine DL.s_exi ?_ | with_reducible refine DL.s_op ?_ | with_reducible refine DL.s_un ?_ | with_reducible refine DL.s_c ?_ | with_reducible refine DL.s_cons ?_ | with_reducible refine DL.s_nil ?_ | with_reducible refine DL.s_cb ?_ | with_reducible refine DL.s_cbk ?_ | with_reducible refine DL.s_call ?_ | with_reducible refine DL.s_yes ?_ | with_reducible refine DL.s_chain ?_ | with_reducible refine DL.s_tup ?_ | with_reducible refine DL.s_lst ?_ | with_reducible refine DL.s_lstM ?_ | with_reducible refine DL.s_asg ?_ | with_reducible refine DL.s_IB ?_ | with_reducible refine DL.s_I0 ?_ | with_reducible refine DL.s_addI ?_ | with_reducible refine DL.s_neg ?_ | with_reducible refine DL.s_eqI ?_ | with_reducible refine DL.s_eqS ?_ | with_reducible refine DL.s_eqB ?_ | with_reducible refine DL.s_neI ?_ | with_reducible refine DL.s_neS ?_ | with_reducible refine DL.s_neB ?_ | with_reducible refine DL.s_leI ?_ | with_reducible refine DL.s_leP ?_ | with_reducible refine DL.s_isN1 ?_ | with_reducible refine DL.s_isN2 ?_ | with_reducible refine DL.s_notIs ?_ | with_reducible refine DL.s_ixP0 ?_ | with_reducible refine DL.s_ixP1 ?_ | with_reducible refine DL.s_sl ?_ | with_reducible refine DL.s_no ?_ | with_reducible refine DL.s_part ?_ | with_reducible refine DL.s_slT ?_ | with_reducible refine DL.s_slL ?_ | with_reducible refine DL.s_rev ?_ | with_reducible refine DL.s_lenL ?_ | with_reducible refine DL.s_lenT ?_ | with_reducible refine DL.s_max2 ?_ | with_reducible refine DL.s_min2 ?_ | with_reducible refine DL.s_max3 ?_ | with_reducible refine DL.s_min3 ?_ | with_reducible refine DL.s_abs ?_ | with_reducible refine DL.s_intB ?_ | with_reducible refine DL.s_tupleL ?_ | with_reducible refine DL.s_all ?_ | with_reducible refine DL.s_kix ?_ | with_reducible refine DL.s_for ?_ | with_reducible refine DL.s_lcG ?_ | with_reducible refine DL.s_iet ?_ | with_reducible refine DL.s_ie ?_ | with_reducible refine DL.s_exT ?_ | with_reducible refine DL.s_exL ?_ | with_reducible refine DL.s_il ?_ | with_reducible refine DL.s_ilL ?_ | with_reducible refine DL.s_it ?_ | with_reducible refine DL.s_exT1 ?_ | with_reducible refine DL.s_ir2 ?_ | with_reducible refine DL.s_ir1 ?_ | with_reducible refine DL.s_iz ?_ | with_reducible refine DL.s_izs ?_ | with_reducible refine DL.s_iv ?_ | with_reducible refine DL.s_app ?_ | with_reducible refine DL.s_ext ?_ | with_reducible refine DL.s_lenP ?_ | with_reducible refine RO.s_lenE ?_ | with_reducible refine RO.s_slR ?_ | with_reducible refine RO.s_ixR0 ?_ | with_reducible refine RO.s_ixR1 ?_ | with_reducible refine RO.s_ixR2 ?_ | with_reducible refine RO.s_eqP ?_ | with_reducible refine RO.s_eqPs ?_ | with_reducible refine RO.s_eqNil ?_ | with_reducible refine DL.s_sk1 ?_ | with_reducible refine DL.s_sk2 ?_ | with_reducible refine DL.s_dput ?_ | with_reducible refine DL.s_ik ?_ | with_reducible refine DL.s_get2 ?_ | with_reducible refine DL.s_setd ?_ | with_reducible refine DL.s_lv ?_ | with_reducible refine DL.s_seti ?_ | with_reducible refine DL.s_pop ?_ | with_reducible refine DL.s_lr ?_ | ((with_reducible apply DL.s_var); (exact rfl)) | ((with_reducible apply DL.s_bind); (exact rfl)) | ((with_reducible apply DL.s_pys); (exact rfl); (exact rfl)) | ((with_reducible apply DL.s_isi); (exact rfl); (exact rfl)) | (refine Or.inl ⟨_, rfl, ?_⟩) | ((with_reducible apply DL.s_iteC); (exact rfl)) | ((with_reducible apply DL.s_iteC'); (exact rfl)))))
local macro_rules | `(tactic| walk_at "dN") => `(tactic| (repeat (first | dsimp only | with_reducible refine DL.s_ret ?_ | with_reducible refine DL.s_next ?_ | with_reducible refine DL.s_drop ?_ | with_reducible refine DL.s_if ?_ | with_reducible refine DL.s_and ?_ | with_reducible refine DL.s_or ?_ | with_reducible refine DL.s_not ?_ | with_reducible refine DL.s_andV ?_ | with_reducible refine DL.s_orV ?_ | with_reducible refine DL.s_notV ?_ | with_reducible refine DL.s_b ?_ | with_reducible refine DL.s_exb ?_ | with_reducible refine DL.s_exi ?_ | with_reducible refine DL.s_op ?_ | with_reducible refine DL.s_un ?_ | with_reducible refine DL.s_c ?_ | with_reducible refine DL.s_cons ?_ | with_reducible refine DL.s_nil ?_ | with_reducible refine DL.s_cb ?_ | with_reducible refine DL.s_cbk ?_ | with_reducible refine DL.s_call ?_ | with_reducible refine DL.s_yes ?_ | with_reducible refine DL.s_chain ?_ | with_reducible refine DL.s_tup ?_ | with_reducible refine DL.s_lst ?_ | with_reducible refine DL.s_lstM ?_ | with_reducible refine DL.s_asg ?_ | with_reducible refine DL.s_IB ?_ | with_reducible refine DL.s_I0 ?_ | with_reducible refine DL.s_addI ?_ | with_reducible refine DL.s_neg ?_ | with_reducible refine DL.s_eqI ?_ | with_reducible refine DL.s_eqS ?_ | with_reducible refine DL.s_eqB ?_ | with_reducible refine DL.s_neI ?_ | with_reducible refine DL.s_neS ?_ | with_reducible refine DL.s_neB ?_ | with_reducible refine DL.s_leI ?_ | with_reducible refine DL.s_leP ?_ | with_reducible refine DL.s_isN1 ?_ | with_reducible refine DL.s_isN2 ?_ | with_reducible refine DL.s_notIs ?_ | with_reducible refine DL.s_ixP0 ?_ | with_reducible refine DL.s_ixP1 ?_ | with_reducible refine DL.s_sl ?_ | with_reducible refine DL.s_no ?_ | with_reducible refine DL.s_part ?_ | with_reducible refine DL.s_slT ?_ | with_reducible refine DL.s_slL ?_ | with_reducible refine DL.s_rev ?_ | with_reducible refine DL.s_lenL ?_ | with_reducible refine DL.s_lenT ?_ | with_reducible refine DL.s_max2 ?_ | with_reducible refine DL.s_min2 ?_ | with_reducible refine DL.s_max3 ?_ | with_reducible refine DL.s_min3 ?_ | with_reducible refine DL.s_abs ?_ | with_reducible refine DL.s_intB ?_ | with_reducible refine DL.s_tupleL ?_ | with_reducible refine DL.s_all ?_ | with_reducible refine DL.s_kix ?_ | with_reducible refine DL.s_for ?_ | with_reducible refine DL.s_lcG ?_ | with_reducible refine DL.s_iet ?_ | with_reducible refine DL.s_ie ?_ | with_reducible refine DL.s_exT ?_ | with_reducible refine DL.s_exL ?_ | with_reducible refine DL.s_il ?_ | with_reducible refine DL.s_ilL ?_ | with_reducible refine DL.s_it ?_ | with_reducible refine DL.s_exT1 ?_ | with_reducible refine DL.s_ir2 ?_ | with_reducible refine DL.s_ir1 ?_ | with_reducible refine DL.s_iz ?_ | with_reducible refine DL.s_izs ?_ | with_reducible refine DL.s_iv ?_ | with_reducible refine DL.s_app ?_ | with_reducible refine DL.s_ext ?_ | with_reducible refine DL.s_lenP ?_ | with_reducible refine RO.s_lenE ?_ | with_reducible refine RO.s_slR ?_ | with_reducible refine RO.s_ixR0 ?_ | with_reducible refine RO.s_ixR1 ?_ | with_reducible refine RO.s_ixR2 ?_ | with_reducible refine RO.s_eqP ?_ | with_reducible refine RO.s_eqPs ?_ | with_reducible refine RO.s_eqNil ?_ | with_reducible refine DL.s_sk1 ?_ | with_reducible refine DL.s_sk2 ?_ | with_reducible refine DL.s_dput ?_ | with_reducible refine DL.s_ik ?_ | with_reducible refine DL.s_get2 ?_ | with_reducible refine DL.s_setd ?_ | with_reducible refine DL.s_lv ?_ | with_reducible refine DL.s_seti ?_ | with_reducible refine DL.s_pop ?_ | with_reducible refine DL.s_lr ?_ | ((with_reducible apply DL.s_var); (exact rfl)) | ((with_reducible apply DL.s_bind); (exact rfl)) | ((with_reducible apply DL.s_pys); (exact rfl); (exact rfl)) | ((with_reducible apply DL.s_isi); (exact rfl); (exact rfl)) | (refine Or.inl ⟨_, rfl, ?_⟩) | ((with_reducible apply DL.s_iteC); (exact rfl)) | ((with_reducible apply DL.s_iteC'); (exact rfl)))))
namespace RO
open PySem PySem.Spec PyProof.Rows L2 DL
section
variable {P : Program} {w : World} {K : PySem.W.Frag} {mg : Str → Option Value} {base : Heap} {T : List (Addr × Str)} {f : Addr} {fd : FuncData}
def f_is_whole : WF := fun ds M P => ∃ i, ds = [.py (.int i)] ∧ P (.py (.bool true)) M
theorem ok_is_whole (Fn : FunX K "is_whole" "is_whole" s_is_whole f fd) (B : Bn K w mg) : FnOk P w K mg base CX0 1 f fd ["thing"] (dSp K T f_is_whole) := by
  refine dok Fn sc_is_whole (fun ds M P ⟨i, h, _⟩ => by rw [h]; rfl) (fun cdv A outer s H E hr => ⟨_, (have nd := (sc_is_whole).nd; (dss_one (ds_ret (d_and (pd_callB call_isi cd_isi (by rfl) B.isinstance_ (by decide +kernel) (da_cons (dv 0) (da_cons (d_ty (n := "int") (by rfl) B.int_ (by decide +kernel)) da_nil))) (d_one (d_not (pd_callB call_isi cd_isi (by rfl) B.isinstance_ (by decide +kernel) (da_cons (dv 0) (da_cons (d_ty (n := "bool") (by rfl) B.bool_ (by decide +kernel)) da_nil))))))))), fun ds M P h => ?_⟩)
  obtain ⟨i, rfl, p⟩ := h
  walk_at "dS"
  exact s_rt p
def f_is_from_to : WF := fun ds M P => ∃ i lo hi, ds = [.py (.int i), .py (.int lo), .py (.int hi)] ∧ P (.py (.bool (decide (lo ≤ i) && decide (i ≤ hi)))) M
theorem ok_is_from_to (Fn : FunX K "is_from_to" "is_from_to" s_is_from_to f fd) (B : Bn K w mg) (D_is_whole : Dn P w K mg base T 1 "is_whole" ["thing"] [] f_is_whole) : FnOk P w K mg base CX0 2 f fd ["thing", "least", "most"] (dSp K T f_is_from_to) := by
  refine dok Fn sc_is_from_to (fun ds M P ⟨i, lo, hi, h, _⟩ => by rw [h]; rfl) (fun cdv A outer s H E hr => ⟨_, (have nd := (sc_is_from_to).nd; (dss_one (ds_ret (d_and (d_callN D_is_whole (hr.mono (by decide)) (by rfl) (da_cons (dv 0) da_nil)) (d_one (d_lele (dv 1) (dv 0) (dv 2))))))), fun ds M P h => ?_⟩)
  obtain ⟨i, lo, hi, rfl, p⟩ := h
  walk_at "dS"
  refine ⟨i, rfl, ?_⟩
  walk_at "dS"
  refine s_ite (fun h => ?_) fun h => ?_
  · walk_at "dS"
    rw [h, Bool.true_and] at p
    exact s_rt p
  · rw [h, Bool.false_and] at p
    exact s_rt p
def f_sent_from : WF := fun ds M P => ∃ x r, ds = [.py (.str x)] ∧ sentTab x = some r ∧ P (.py (.str r)) M
theorem ok_sent_from (Fn : FunX K "sent_from" "sent_from" s_sent_from f fd) (B : Bn K w mg) : FnOk P w K mg base CX0 1 f fd ["line"] (dSp K T f_sent_from) := by
  refine dok Fn sc_sent_from (fun ds M P ⟨x, r, h, _⟩ => by rw [h]; rfl) (fun cdv A outer s H E hr => ⟨_, (have nd := (sc_sent_from).nd; (dss_one (ds_ret (d_kix B.SENT_ (by rfl) (dv 0))))), fun ds M P h => ?_⟩)
  obtain ⟨x, r, rfl, e, p⟩ := h
  walk_at "dS"
  exact ⟨x, r, rfl, e, s_rt p⟩
def f_is_pair : WF := fun ds M P => ∃ (B R : List Rw) (p : Pr), ds = [.py (encL B), .py (encL R), .py (prP p)] ∧ LogOk B ∧ LogOk R ∧ IsPair B R p ∧ P (.py (.bool true)) M
theorem tl_cut (r : Rw) : PyData.tuple (cutP [.int r.m, .str r.ln, whP r.wh] (some 1) none) = tlP r := rfl
theorem ok_is_pair (Fn : FunX K "is_pair" "is_pair" s_is_pair f fd) (B : Bn K w mg) (D_is_from_to : Dn P w K mg base T 2 "is_from_to" ["thing", "least", "most"] [] f_is_from_to) : FnOk P w K mg base CX0 3 f fd ["bridge", "room", "thing"] (dSp K T f_is_pair) := by
  refine dok Fn sc_is_pair (fun ds M P ⟨b, r, q, h, _⟩ => by rw [h]; rfl) (fun cdv A outer s H E hr => ⟨_, (have nd := (sc_is_pair).nd; (dss_cons (ds_if (PW.pt (dw_or (dt_not (pdt_val (pd_callB call_isi cd_isi (by rfl) B.isinstance_ (by decide +kernel) (da_cons (dv 2) (da_cons (d_ty (n := "tuple") (by rfl) B.tuple_ (by decide +kernel)) da_nil))))) (dw_or1 (dt_ne hr.units (pd_callB call_len_seq cd_len (by rfl) B.len_ PySem.boot_len (da_cons (dv 2) da_nil)) d_int)))) (dss_one (ds_ret d_bl)) dss_nil) (dss_cons (ds_if (PW.pt (dw_or (dt_not (pdt_val (d_callN D_is_from_to (hr.mono (by decide)) (by rfl) (da_cons (d_ix (dv 2) d_int) (da_cons d_int (da_cons (d_sub (pd_callB call_len_seq cd_len (by rfl) B.len_ PySem.boot_len (da_cons (dv 0) da_nil)) d_int) da_nil)))))) (dw_or1 (dt_not (pdt_val (d_callN D_is_from_to (hr.mono (by decide)) (by rfl) (da_cons (d_ix (dv 2) d_int) (da_cons d_int (da_cons (d_sub (pd_callB call_len_seq cd_len (by rfl) B.len_ PySem.boot_len (da_cons (dv 1) da_nil)) d_int) da_nil))))))))) (dss_one (ds_ret d_bl)) dss_nil) (dss_one (ds_ret (d_eq hr.units (d_slT (d_ix (dv 0) (d_ix (dv 2) d_int)) (do_some d_int) do_none) (d_slT (d_ix (dv 1) (d_ix (dv 2) d_int)) (do_some d_int) do_none))))))), fun ds M P h => ?_⟩)
  obtain ⟨b, r, p, rfl, lb, lr, ip, q⟩ := h
  obtain ⟨h1, h2, h3, h4, h5⟩ := ip
  walk_at "dS"
  refine ⟨p.1, 0, _, rfl, ?_⟩
  walk_at "dS"
  rw [show (decide (0 ≤ p.1) && decide (p.1 ≤ (b.length : Int) - 1)) = true by simp; omega]
  walk_at "dS"
  refine ⟨p.2, 0, _, rfl, ?_⟩
  walk_at "dS"
  rw [show (decide (0 ≤ p.2) && decide (p.2 ≤ (r.length : Int) - 1)) = true by simp; omega]
  walk_at "dS"
  refine s_ixR h1 h2 ?_
  walk_at "dS"
  refine s_ixR h3 h4 ?_
  walk_at "dS"
  refine s_eqTl (lb.sh _ (row_mem h1 h2)) (lr.sh _ (row_mem h3 h4)) ?_
  rw [decide_eq_true h5]
  exact s_rt q
def f_span : WF := fun ds M P => ∃ (B R : List Rw) (p : Pr) (lag : Int), ds = [.py (encL B), .py (encL R), .py (prP p), .py (.int lag)] ∧ LogOk B ∧ LogOk R ∧ IsPair B R p ∧ P (.py (prP (spanF B R lag p))) M
theorem ok_span (Fn : FunX K "span" "span" s_span f fd) (B : Bn K w mg) (D_is_pair : Dn P w K mg base T 3 "is_pair" ["bridge", "room", "thing"] [] f_is_pair) (D_sent_from : Dn P w K mg base T 1 "sent_from" ["line"] [] f_sent_from) : FnOk P w K mg base CX0 4 f fd ["bridge", "room", "pair", "lag"] (dSp K T f_span) := by
  refine dok Fn sc_span (fun ds M P ⟨b, r, q, l, h, _⟩ => by rw [h]; rfl) (fun cdv A outer s H E hr => ⟨_, (have nd := (sc_span).nd; (dss_cons (ds_if (dt_not (pdt_val (d_callN D_is_pair (hr.mono (by decide)) (by rfl) (da_cons (dv 0) (da_cons (dv 1) (da_cons (dv 2) da_nil)))))) (dss_one ds_never) dss_nil) (dss_cons (ds_set (i := 4) nd rfl (by first | exact Or.inl rfl | exact Or.inr rfl) (d_ix (dv 0) (d_ix (dv 2) d_int))) (dss_cons (ds_set (i := 5) nd rfl (by first | exact Or.inl rfl | exact Or.inr rfl) (d_sub (d_ix (d_ix (dv 1) (d_ix (dv 2) d_int)) d_int) (d_ix (dv 4) d_int))) (dss_cons (ds_if (dt_eq hr.units (d_callN D_sent_from (hr.mono (by decide)) (by rfl) (da_cons (d_ix (dv 4) d_int) da_nil)) d_str) (dss_one (ds_ret (d_tup (da_cons (d_sub (dv 5) (dv 3)) (da_cons (dv 5) da_nil))))) dss_nil) (dss_one (ds_ret (d_tup (da_cons (dv 5) (da_cons (d_add (dv 5) (dv 3)) da_nil)))))))))), fun ds M P h => ?_⟩)
  obtain ⟨b, r, p, lag, rfl, lb, lr, ip, q⟩ := h
  obtain ⟨h1, h2, h3, h4, h5⟩ := id ip
  walk_at "dS"
  refine ⟨b, r, p, rfl, lb, lr, ip, ?_⟩
  walk_at "dS"
  refine s_ixR h1 h2 ?_
  walk_at "dS"
  refine s_ixR h3 h4 ?_
  walk_at "dS"
  obtain ⟨hs, ehs⟩ := lb.ln _ (row_mem h1 h2)
  refine ⟨_, hs, rfl, ehs, ?_⟩
  walk_at "dS"
  unfold spanF spn at q
  refine s_iteD (fun e => ?_) fun e => ?_
  · rw [if_pos (by rw [ehs, e])] at q
    walk_at "dS"
    exact s_rt q
  · rw [if_neg (by rw [ehs]; exact fun z => e (Option.some.inj z))] at q
    walk_at "dS"
    exact s_rt q
def f_meets : WF := fun ds M P => ∃ (B R : List Rw) (p : Pr) (lag lo hi : Int), ds = [.py (encL B), .py (encL R), .py (prP p), .py (.int lag), .py (.int lo), .py (.int hi)] ∧ LogOk B ∧ LogOk R ∧ IsPair B R p ∧ P (.py (.bool (meetsF B R lag lo hi p))) M
theorem ok_meets (Fn : FunX K "meets" "meets" s_meets f fd) (B : Bn K w mg) (D_span : Dn P w K mg base T 4 "span" ["bridge", "room", "pair", "lag"] [] f_span) : FnOk P w K mg base CX0 5 f fd ["bridge", "room", "pair", "lag", "low", "high"] (dSp K T f_meets) := by
  refine dok Fn sc_meets (fun ds M P ⟨b, r, q, l, lo, hi, h, _⟩ => by rw [h]; rfl) (fun cdv A outer s H E hr => ⟨_, (have nd := (sc_meets).nd; (dss_cons (ds_asg (Kx := K) (t := (.tp [6, 7])) (d_callN D_span (hr.mono (by decide)) (by rfl) (da_cons (dv 0) (da_cons (dv 1) (da_cons (dv 2) (da_cons (dv 3) da_nil))))) (pg_tup rfl (pgs_cons (pg_name (i := 6) nd rfl (by first | exact Or.inl rfl | exact Or.inr rfl)) (pgs_cons (pg_name (i := 7) nd rfl (by first | exact Or.inl rfl | exact Or.inr rfl)) pgs_nil)))) (dss_one (ds_ret (d_and (d_le hr.units0 (dv 6) (dv 5)) (d_one (d_le hr.units0 (dv 4) (dv 7)))))))), fun ds M P h => ?_⟩)
  obtain ⟨b, r, p, lag, lo, hi, rfl, lb, lr, ip, q⟩ := h
  walk_at "dS"
  refine ⟨b, r, p, lag, rfl, lb, lr, ip, ?_⟩
  walk_at "dS"
  unfold meetsF at q
  refine s_ite (fun h => ?_) fun h => ?_
  · walk_at "dS"
    rw [h, Bool.true_and] at q
    exact s_rt q
  · rw [h, Bool.false_and] at q
    exact s_rt q
def f_pairs_within : WF := fun ds M P => ∃ (B R : List Rw) (lag lo hi : Int), ds = [.py (encL B), .py (encL R), .py (.int lag), .py (.int lo), .py (.int hi)] ∧ LogOk B ∧ LogOk R ∧ P (.py (.list ((pw B R lag lo hi).map prP))) M
theorem enum_row {l : List Rw} {i : Nat} {d : Dat} (h : ((enumP 0 (l.map encR)).map Dat.py)[i]? = some d) : i < l.length ∧ d = .py (.tuple [.int (i : Nat), encR (rowAt l (i : Nat))]) := by
  rw [List.getElem?_map] at h
  obtain ⟨x, hx, rfl⟩ := Option.map_eq_some_iff.mp h
  obtain ⟨y, hy, rfl⟩ := enumP_get hx
  rw [List.getElem?_map] at hy
  obtain ⟨z, hz, rfl⟩ := Option.map_eq_some_iff.mp hy
  have hlt : i < l.length := (List.getElem?_eq_some_iff.mp hz).1
  refine ⟨hlt, ?_⟩
  have : rowAt l (i : Nat) = z := by
    unfold rowAt
    rw [Int.toNat_natCast, List.getD_eq_getElem?_getD, hz]
    rfl
  rw [this, Nat.zero_add]
theorem enumP_eq : ∀ (l : List Rw) (n : Nat), enumP n (l.map encR) = (List.range l.length).map fun r => .tuple [.int ((n + r : Nat)), encR (l.getD r nilR)]
  | [], _ => rfl
  | x :: r, n => by
    rw [List.map_cons, List.length_cons, List.range_succ_eq_map, List.map_cons, List.map_map]
    show _ :: enumP (n + 1) (r.map encR) = _
    rw [enumP_eq r (n + 1)]
    congr 1
    refine List.map_congr_left fun k _ => ?_
    show PyData.tuple [.int ((n + 1 + k : Nat)), encR (r.getD k nilR)] = PyData.tuple [.int ((n + (k + 1) : Nat)), encR ((x :: r).getD (k + 1) nilR)]
    rw [show n + 1 + k = n + (k + 1) by omega]
    rfl
theorem ok_pairs_within (Fn : FunX K "pairs_within" "pairs_within" s_pairs_within f fd) (B : Bn K w mg) (D_meets : Dn P w K mg base T 5 "meets" ["bridge", "room", "pair", "lag", "low", "high"] [] f_meets) : FnOk P w K mg base CX0 6 f fd ["bridge", "room", "lag", "low", "high"] (dSp K T f_pairs_within) := by
  refine dok Fn sc_pairs_within (fun ds M P ⟨b, r, l, lo, hi, h, _⟩ => by rw [h]; rfl) (fun cdv A outer s H E hr => ⟨_, (have nd := (sc_pairs_within).nd; (dss_cons (ds_set (i := 5) nd rfl (by first | exact Or.inl rfl | exact Or.inr rfl) (d_lstM da_nil)) (dss_cons (ds_for (Kx := K) (t := (.tp [6, 7])) PassesOwn.never rfl (di_enumT (by rfl) B.enumerate_ (da_cons (dv 0) da_nil)) (pg_tup rfl (pgs_cons (pg_name (i := 6) nd rfl (by first | exact Or.inl rfl | exact Or.inr rfl)) (pgs_cons (pg_name (i := 7) nd rfl (by first | exact Or.inl rfl | exact Or.inr rfl)) pgs_nil))) (dss_cons (ds_setLcG false (Kx := K) (i := 8) (t := (.tp [9, 10])) rfl nd rfl rfl (sw_true rfl rfl rfl (by decide +kernel)) (di_enumT (by rfl) B.enumerate_ (da_cons (dv 1) da_nil)) (blkOk_by (own := [("r", 9), ("other", 10)]) (N := ["bridge", "room", "lag", "low", "high", "found", "b", "row", "some", "r", "other", "pair"]) (sc := defScope s_pairs_within) (by decide +kernel)) (by decide) (fun _ _ _ _ _ => (pg_tup rfl (pgs_cons (pg_name (i := 9) nd rfl (by first | exact Or.inl rfl | exact Or.inr rfl)) (pgs_cons (pg_name (i := 10) nd rfl (by first | exact Or.inl rfl | exact Or.inr rfl)) pgs_nil)))) (fun _ _ _ _ _ => (dts_one (dt_eq hr.units (d_slT (dv 10) (do_some d_int) do_none) (d_slT (dv 7) (do_some d_int) do_none)))) (fun _ _ _ _ _ => (d_tup (da_cons (dv 6) (da_cons (dv 9) da_nil))))) (dss_one (ds_expr (pd_ext (pe_bm PySem.F.plainAttrs_list PySem.F.slot_list_extend PySem.F.type_list_extend mt_extend (dv 5) (da_cons (d_lcG false (Kx := K) (t := (.nm 11)) rfl nd (di_list (dv 8)) (blkOk_by (own := [("pair", 11)]) (N := ["bridge", "room", "lag", "low", "high", "found", "b", "row", "some", "r", "other", "pair"]) (sc := defScope s_pairs_within) (by decide +kernel)) (by decide) (fun _ _ _ _ _ => (pg_name (i := 11) nd rfl (by first | exact Or.inl rfl | exact Or.inr rfl))) (fun _ _ _ _ _ => (dts_one (pdt_val (d_callN D_meets (hr.mono (by decide)) (by rfl) (da_cons (dv 0) (da_cons (dv 1) (da_cons (dv 11) (da_cons (dv 2) (da_cons (dv 3) (da_cons (dv 4) da_nil)))))))))) (fun _ _ _ _ _ => (dv 11))) da_nil))))))) (dss_one (ds_ret (dv 5)))))), fun ds M P h => ?_⟩)
  obtain ⟨b, r, lag, lo, hi, rfl, lb, lr, q⟩ := h
  walk_at "dS"
  refine s_mk (by decide) fun a ha => ?_
  walk_at "dS"
  refine s_exT (ds := b.map encR) ?_
  refine ⟨fun i δ M' => ∃ o6 o7 o8 o9 o10 o11, δ = [some (.py (encL b)), some (.py (encL r)), some (.py (.int lag)), some (.py (.int lo)), some (.py (.int hi)), some (.own a), o6, o7, o8, o9, o10, o11] ∧ M' = putM M a (.lst ((pwN b r lag lo hi i).map (Dat.py ∘ prP))) ∧ i ≤ b.length, ⟨_, _, _, _, _, _, rfl, rfl, Nat.zero_le _⟩, fun _ _ _ _ => trivial, fun δ M' h => ?_, fun i d δ M' hd h => ?_⟩
  · obtain ⟨o6, o7, o8, o9, o10, o11, rfl, rfl, _⟩ := h
    walk_at "dS"
    have e : (enumP 0 (b.map encR)).map Dat.py = (enumP 0 (b.map encR)).map Dat.py := rfl
    have hl : ((enumP 0 (b.map encR)).map Dat.py).length = b.length := by rw [List.length_map, enumP_len, List.length_map]
    rw [hl, ← List.map_map]
    exact rt_own ha q
  · obtain ⟨o6, o7, o8, o9, o10, o11, rfl, rfl, _⟩ := h
    obtain ⟨hi', rfl⟩ := enum_row hd
    refine ⟨_, rfl, ?_⟩
    walk_at "dS"
    refine s_exT (ds := r.map encR) ?_
    have hen : (enumP 0 (r.map encR)).map Dat.py = (List.range r.length).map fun k => Dat.py (.tuple [.int (k : Nat), encR (r.getD k nilR)]) := by
      rw [enumP_eq, List.map_map]
      refine List.map_congr_left fun k _ => ?_
      show Dat.py (.tuple [.int ((0 + k : Nat)), _]) = _
      rw [Nat.zero_add]
    have hrp : ((List.range r.length).filter fun k => decide (Alike (r.getD k nilR) (rowAt b (i : Nat)))).map (fun k : Nat => prP ((i : Nat), (k : Nat))) = (rowPairs b r i).map prP := by
      unfold rowPairs
      rw [List.filter_map, List.map_map]
      congr 1
    refine s_lcP (List.range r.length) (fun k => Dat.py (.tuple [.int (k : Nat), encR (r.getD k nilR)])) (fun k => decide (Alike (r.getD k nilR) (rowAt b (i : Nat)))) (fun k : Nat => prP ((i : Nat), (k : Nat))) hen trivial (by rw [List.length_range]; exact Nat.le_trans lr.len (by decide)) ?_ fun k hk QT QF h1 h2 => ?_
    · refine s_iteF ?_
      rw [hrp]
      refine s_bind rfl ?_
      walk_at "dS"
      refine s_own putM_same ?_
      walk_at "dS"
      have hrl : (rowPairs b r i).length ≤ 18 := by
        unfold rowPairs
        refine Nat.le_trans (List.length_filter_le _ _) ?_
        rw [List.length_map, List.length_range]
        exact lr.len
      have hpl : ((pwN b r lag lo hi i).map (Dat.py ∘ prP)).length ≤ 324 := by
        rw [List.length_map]
        refine Nat.le_trans (pwN_len i) ?_
        exact Nat.mul_le_mul (show i ≤ 18 by have := lb.len; omega) lr.len
      refine s_lcP (rowPairs b r i) (fun p => Dat.py (prP p)) (meetsF b r lag lo hi) prP map2 ?_ (Nat.le_trans hrl (by decide)) ?_ fun p hp QT QF h1 h2 => ?_
      · trivial
      · walk_at "dS"
        refine ⟨a, _, _, _, rfl, rfl, putM_same, rfl, ?_, ?_⟩
        · have h1 : (((rowPairs b r i).filter (meetsF b r lag lo hi)).map prP).length ≤ 18 := by
            rw [List.length_map]
            exact Nat.le_trans (List.length_filter_le _ _) hrl
          exact Nat.le_trans (Nat.add_le_add hpl h1) (by decide)
        · walk_at "dS"
          refine s_less ⟨_, _, _, _, _, _, rfl, ?_, hi'⟩
          rw [putM_putM]
          congr 2
          rw [show pwN b r lag lo hi (i + 1) = pwN b r lag lo hi i ++ (rowPairs b r i).filter (meetsF b r lag lo hi) by
            unfold pwN
            rw [List.range_succ, List.flatMap_append]
            simp]
          rw [List.map_append, List.map_map]
      · obtain ⟨m1, m2, m3, m4⟩ := mem_rowPairs.mp hp
        refine ⟨_, rfl, ?_⟩
        walk_at "dS"
        refine ⟨b, r, p, lag, lo, hi, rfl, lb, lr, ⟨by omega, by omega, m2, m3, m4.symm⟩, ?_⟩
        walk_at "dS"
        refine s_ite (fun h => ?_) fun h => ?_
        · walk_at "dS"
          exact ⟨_, rfl, h1 h⟩
        · exact h2 h
    · have hk : k < r.length := List.mem_range.mp hk
      refine ⟨_, rfl, ?_⟩
      walk_at "dS"
      have hm : r.getD k nilR ∈ r := by simp [hk]
      refine s_eqTl (lr.sh _ hm) (lb.sh _ (row_mem (by omega) (by omega))) ?_
      walk_at "dS"
      refine s_ite (fun h => ?_) fun h => ?_
      · walk_at "dS"
        exact ⟨_, rfl, h1 h⟩
      · exact h2 h
def f_pairs_at : WF := fun ds M P => ∃ (B R : List Rw) (d lag : Int), ds = [.py (encL B), .py (encL R), .py (.int d), .py (.int lag)] ∧ LogOk B ∧ LogOk R ∧ P (.py (.list ((pw B R lag d d).map prP))) M
theorem ok_pairs_at (Fn : FunX K "pairs_at" "pairs_at" s_pairs_at f fd) (B : Bn K w mg) (D_pairs_within : Dn P w K mg base T 6 "pairs_within" ["bridge", "room", "lag", "low", "high"] [] f_pairs_within) : FnOk P w K mg base CX0 7 f fd ["bridge", "room", "d", "lag"] (dSp K T f_pairs_at) := by
  refine dok Fn sc_pairs_at (fun ds M P ⟨b, r, l, lo, h, _⟩ => by rw [h]; rfl) (fun cdv A outer s H E hr => ⟨_, (have nd := (sc_pairs_at).nd; (dss_one (ds_ret (d_callN D_pairs_within (hr.mono (by decide)) (by rfl) (da_cons (dv 0) (da_cons (dv 1) (da_cons (dv 3) (da_cons (dv 2) (da_cons (dv 2) da_nil))))))))), fun ds M P h => ?_⟩)
  obtain ⟨b, r, d, lag, rfl, lb, lr, q⟩ := h
  walk_at "dS"
  exact ⟨b, r, lag, d, d, rfl, lb, lr, s_rt q⟩
def f_is_ahead : WF := fun ds M P => ∃ p q : Pr, ds = [.py (prP p), .py (prP q)] ∧ P (.py (.bool (ahead p q))) M
theorem ok_is_ahead (Fn : FunX K "is_ahead" "is_ahead" s_is_ahead f fd) (B : Bn K w mg) : FnOk P w K mg base CX0 1 f fd ["one", "other"] (dSp K T f_is_ahead) := by
  refine dok Fn sc_is_ahead (fun ds M P ⟨p, q, h, _⟩ => by rw [h]; rfl) (fun cdv A outer s H E hr => ⟨_, (have nd := (sc_is_ahead).nd; (dss_one (ds_ret (d_and (d_lt (d_ix (dv 0) d_int) (d_ix (dv 1) d_int)) (d_one (d_lt (d_ix (dv 0) d_int) (d_ix (dv 1) d_int))))))), fun ds M P h => ?_⟩)
  obtain ⟨p, q, rfl, k⟩ := h
  walk_at "dS"
  unfold ahead at k
  refine s_ite (fun h => ?_) fun h => ?_
  · walk_at "dS"
    rw [h, Bool.true_and] at k
    exact s_rt k
  · rw [h, Bool.false_and] at k
    exact s_rt k
def f_fits : WF := fun ds M P => ∃ (s : Int × Int) (d : Int), ds = [.py (prP s), .py (.int d)] ∧ P (.py (.bool (fit s d))) M
theorem ok_fits (Fn : FunX K "fits" "fits" s_fits f fd) (B : Bn K w mg) : FnOk P w K mg base CX0 1 f fd ["where", "d"] (dSp K T f_fits) := by
  refine dok Fn sc_fits (fun ds M P ⟨p, q, h, _⟩ => by rw [h]; rfl) (fun cdv A outer s H E hr => ⟨_, (have nd := (sc_fits).nd; (dss_one (ds_ret (d_lele (d_ix (dv 0) d_int) (dv 1) (d_ix (dv 0) d_int))))), fun ds M P h => ?_⟩)
  obtain ⟨p, q, rfl, k⟩ := h
  walk_at "dS"
  unfold fit at k
  refine s_ite (fun h => ?_) fun h => ?_
  · walk_at "dS"
    rw [h, Bool.true_and] at k
    exact s_rt k
  · rw [h, Bool.false_and] at k
    exact s_rt k
/-- is_steep: asked of chains alone -/
def f_is_steep : WF := fun ds M P => ∃ ps : List Pr, ds = [.py (.list (ps.map prP))] ∧ ps.length ≤ 1000 ∧ ps.Pairwise (fun p q => ahead p q = true) ∧ P (.py (.bool true)) M
theorem cut_drop1 {α : Type} (xs : List α) : cutP xs (some 1) none = xs.drop 1 := by
  unfold cutP HT.sIx
  cases xs with
  | nil => simp
  | cons x r =>
    simp
theorem zipP_prs : ∀ ps qs : List Pr, zipP (ps.map prP) (qs.map prP) = (ps.zip qs).map fun x => .tuple [prP x.1, prP x.2]
  | p :: ps, q :: qs => by
    show _ :: zipP (ps.map prP) (qs.map prP) = _
    rw [zipP_prs ps qs]
    rfl
  | [], _ => by simp [zipP]
  | _ :: _, [] => by simp [zipP]
theorem steep_at : ∀ {ps : List Pr}, ps.Pairwise (fun p q => ahead p q = true) → ∀ x ∈ ps.zip (ps.drop 1), ahead x.1 x.2 = true
  | [], _, x, h => by simp at h
  | [_], _, x, h => by simp at h
  | p :: q :: r, hp, x, h => by
    rw [List.pairwise_cons] at hp
    have h : x ∈ (p, q) :: (q :: r).zip r := h
    rcases List.mem_cons.mp h with rfl | h
    · exact hp.1 q List.mem_cons_self
    · exact steep_at hp.2 x h
theorem ok_is_steep (Fn : FunX K "is_steep" "is_steep" s_is_steep f fd) (B : Bn K w mg) (D_is_ahead : Dn P w K mg base T 1 "is_ahead" ["one", "other"] [] f_is_ahead) : FnOk P w K mg base CX0 2 f fd ["pairs"] (dSp K T f_is_steep) := by
  refine dok Fn sc_is_steep (fun ds M P ⟨p, h, _⟩ => by rw [h]; rfl) (fun cdv A outer s H E hr => ⟨_, (have nd := (sc_is_steep).nd; (dss_one (ds_ret (pd_callB (cr_all rfl) cd_all (by rfl) B.all_ (by decide +kernel) (da_cons (d_lcG false (Kx := K) (t := (.tp [1, 2])) rfl nd (di_zip (by rfl) B.zip_ (da_cons (dv 0) (da_cons (d_slL (dv 0) (do_some d_int) do_none) da_nil))) (blkOk_by (own := [("one", 1), ("other", 2)]) (N := ["pairs", "one", "other"]) (sc := defScope s_is_steep) (by decide +kernel)) (by decide) (fun _ _ _ _ _ => (pg_tup rfl (pgs_cons (pg_name (i := 1) nd rfl (by first | exact Or.inl rfl | exact Or.inr rfl)) (pgs_cons (pg_name (i := 2) nd rfl (by first | exact Or.inl rfl | exact Or.inr rfl)) pgs_nil)))) (fun _ _ _ _ _ => dts_nil) (fun _ _ _ _ _ => (d_callN D_is_ahead (hr.mono (by decide)) (by rfl) (da_cons (dv 1) (da_cons (dv 2) da_nil))))) da_nil))))), fun ds M P h => ?_⟩)
  obtain ⟨ps, rfl, hl, hp, k⟩ := h
  walk_at "dS"
  refine ⟨ps.map prP, (ps.drop 1).map prP, ?_, ?_⟩
  · rw [cut_map, cut_drop1]
  · rw [zipP_prs]
    refine s_lcP (ps.zip (ps.drop 1)) (fun x => Dat.py (.tuple [prP x.1, prP x.2])) (fun _ => true) (fun x => .bool true) map2 trivial ?_ ?_ fun p hp' QT QF h1 h2 => ?_
    · rw [List.length_zip]
      have : sizeLine = 16777216 := sizeLine_eq
      omega
    · walk_at "dS"
      refine ⟨_, List.replicate (ps.zip (ps.drop 1)).length true, rfl, ?_, ?_⟩
      · show _ = _
        congr 1
        rw [List.filter_eq_self.mpr (fun _ _ => rfl), List.map_replicate]
        exact List.map_const'.symm
      · rw [show (List.replicate (ps.zip (ps.drop 1)).length true).all id = true by simp]
        exact s_rt k
    · refine ⟨_, rfl, ?_⟩
      walk_at "dS"
      refine ⟨p.1, p.2, rfl, ?_⟩
      rw [steep_at hp p hp']
      exact ⟨_, rfl, h1 rfl⟩
end
end RO
namespace RO
open PySem PySem.Spec PyProof.Rows L2 DL
abbrev encPs (ps : List Pr) : PyData := .list (ps.map prP)
section
variable {P : Program} {w : World} {K : PySem.W.Frag} {mg : Str → Option Value} {base : Heap} {T : List (Addr × Str)} {f : Addr} {fd : FuncData}
def encG (gs : List (Str × List Pr)) : List (Key × PyData) := gs.map fun g => (.inr g.1, encPs g.2)
def f_by_lines : WF := fun ds M P => ∃ (B : List Rw) (ps : List Pr), ds = [.py (encL B), .py (encPs ps)] ∧ (∀ p ∈ ps, 0 ≤ p.1 ∧ p.1 < B.length) ∧ ps.length ≤ 1000 ∧ ∀ a, M a = none → P (.own a) (putM M a (.dK ((encG (G B ps)).map fun p => (p.1, .py p.2))))
theorem prs_at {ps : List Pr} {i : Nat} {d : Dat} (h : ((ps.map prP).map Dat.py)[i]? = some d) : ∃ p, ps[i]? = some p ∧ d = .py (prP p) := by
  rw [map2, List.getElem?_map] at h
  obtain ⟨p, hp, e⟩ := Option.map_eq_some_iff.mp h
  exact ⟨p, hp, e.symm⟩
/-- the groups as they lie in the memory -/
structure GSt {κ : Type} (ky : κ → Key) (M M' : Mem) (a : Addr) (gs : List (κ × List Pr)) (ls : List (κ × Addr × List Pr)) : Prop where
  eq : ls.map (fun g => (g.1, g.2.2)) = gs
  dk : M' a = some (.dK (ls.map fun g => (ky g.1, .own g.2.1)))
  at_ : ∀ g ∈ ls, M' g.2.1 = some (.lst ((g.2.2.map prP).map .py)) ∧ M g.2.1 = none ∧ g.2.1 ≠ a
  nd : (ls.map fun g => g.2.1).Nodup
  old : ∀ b o, M b = some o → M' b = some o
theorem look_map {κ : Type} [DecidableEq κ] {ky : κ → Key} (hky : ∀ x y, ky x = ky y → x = y) (k : κ) : ∀ ls : List (κ × Addr × List Pr), lookK (ls.map fun g => (ky g.1, Dat.own g.2.1)) (ky k) = (ls.find? fun g => decide (g.1 = k)).map fun g => .own g.2.1
  | [] => rfl
  | g :: r => by
    have ih := look_map hky k r
    rw [List.map_cons, lookK_cons, ih, List.find?_cons]
    by_cases h : g.1 = k
    · have e2 : decide (g.1 = k) = true := decide_eq_true h
      rw [if_pos (by rw [h]), e2]
      rfl
    · have e2 : decide (g.1 = k) = false := decide_eq_false h
      rw [if_neg fun z => h (hky _ _ z), e2]
theorem any_find {κ : Type} [DecidableEq κ] {k : κ} {ls : List (κ × Addr × List Pr)} {gs : List (κ × List Pr)} (e : ls.map (fun g => (g.1, g.2.2)) = gs) : (gs.any fun g => decide (g.1 = k)) = (ls.find? fun g => decide (g.1 = k)).isSome := by
  subst e
  induction ls with
  | nil => rfl
  | cons g r ih =>
    rw [List.map_cons, List.any_cons, List.find?_cons]
    cases h : decide (g.1 = k) with
    | true => rfl
    | false => exact ih
theorem putKD_snoc {κ α : Type} [DecidableEq κ] {kvs : List (κ × α)} {k : κ} {v : α} (h : lookK kvs k = none) : putKD kvs k v = kvs ++ [(k, v)] := by
  unfold putKD
  rw [if_neg]
  intro z
  obtain ⟨q, hq, e⟩ := List.any_eq_true.mp z
  unfold lookK at h
  cases f : kvs.find? (fun kv => decide (kv.1 = k)) with
  | none =>
    rw [List.find?_eq_none] at f
    exact f q hq e
  | some y => rw [f] at h; cases h
theorem nd_inj {α β : Type} {f : α → β} : ∀ {l : List α} {x y : α}, (l.map f).Nodup → x ∈ l → y ∈ l → f x = f y → x = y
  | z :: r, x, y, h, hx, hy, e => by
    rw [List.map_cons, List.nodup_cons] at h
    rcases List.mem_cons.mp hx with ex | hx'
    · rcases List.mem_cons.mp hy with ey | hy'
      · rw [ex, ey]
      · rw [← ex] at h
        exact absurd (List.mem_map.mpr ⟨y, hy', e.symm⟩) h.1
    · rcases List.mem_cons.mp hy with ey | hy'
      · rw [← ey] at h
        exact absurd (List.mem_map.mpr ⟨x, hx', e⟩) h.1
      · exact nd_inj h.2 hx' hy' e
/-- one more pair put to its group -/
theorem gst_step {κ : Type} [DecidableEq κ] {ky : κ → Key} (hky : ∀ x y, ky x = ky y → x = y) {kf : Pr → κ} {M M' : Mem} {a c : Addr} {pre : List Pr} {ls : List (κ × Addr × List Pr)} {p : Pr} {kd : Dat} {A : Dat → Mem → Prop} {Nx : Mem → Prop} (st : GSt ky M M' a (Gk kf pre) ls) (hl : pre.length ≤ 1000) (ha : M a = none) (hk : keyK kd = some (ky (kf p))) (hc : M' c = none)
    (hn : ∀ M1 M2 ls', MLe M1 M2 → GSt ky M M1 a (Gk kf (pre ++ [p])) ls' → Nx M2) (hA : ∀ (c' : Addr) (l : List Dat) (M3 : Mem), M3 c' = some (.lst l) → l.length < sizeLine → Nx (putM M3 c' (.lst (l ++ [.py (prP p)]))) → A (.own c') M3) :
    ∃ a' kvs k, Dat.own a = .own a' ∧ putM M' c (.lst []) a' = some (.dK kvs) ∧ keyK kd = some k ∧ kvs.length < sizeLine ∧ (∀ y, lookK kvs k = some y → A y (putM M' c (.lst []))) ∧ (lookK kvs k = none → A (.own c) (putM (putM M' c (.lst [])) a' (.dK (putKD kvs k (.own c))))) := by
  have hs : sizeLine = 16777216 := sizeLine_eq
  have hca : c ≠ a := fun z => by rw [z, st.dk] at hc; cases hc
  have hcl : ∀ g ∈ ls, g.2.1 ≠ c := fun g hg z => by
    have := (st.at_ g hg).1
    rw [z, hc] at this
    cases this
  have hcM : M c = none := by
    cases z : M c with
    | none => rfl
    | some o => rw [st.old c o z] at hc; cases hc
  have hlen : ls.length ≤ pre.length := by
    have h1 := Gk_len (kf := kf) pre
    rw [← st.eq, List.length_map] at h1
    exact h1
  have hgl : ∀ g ∈ ls, g.2.2.length ≤ 1000 := fun g hg => by
    have h1 := (Gk_ok (kf := kf) pre).fl (g.1, g.2.2) (by rw [← st.eq]; exact List.mem_map.mpr ⟨g, hg, rfl⟩)
    have h2 : g.2.2 = pre.filter fun p => decide (kf p = g.1) := h1
    rw [h2]
    exact Nat.le_trans (List.length_filter_le _ _) hl
  refine ⟨a, _, _, rfl, by rw [putM_ne (Ne.symm hca)]; exact st.dk, hk, by rw [List.length_map]; omega, fun y hy => ?_, fun hn' => ?_⟩
  · rw [look_map hky] at hy
    obtain ⟨g, hg, rfl⟩ := Option.map_eq_some_iff.mp hy
    have hgm := List.mem_of_find?_eq_some hg
    have hgk : g.1 = kf p := of_decide_eq_true (p := g.1 = kf p) (by have := List.find?_some hg; exact this)
    obtain ⟨g1, g2, g3⟩ := st.at_ g hgm
    have hM2 : putM M' c (.lst []) g.2.1 = some (.lst ((g.2.2.map prP).map .py)) := by rw [putM_ne (hcl g hgm)]; exact g1
    refine hA _ _ _ hM2 (by rw [List.length_map, List.length_map]; have := hgl g hgm; omega) ?_
    have hnd : ∀ h ∈ ls, h.2.1 = g.2.1 → h = g := fun h hh e => nd_inj st.nd hh hgm e
    have hkey : ∀ h ∈ ls, h.1 = kf p → h = g := fun h hh e => by
      have hk : (ls.map fun g => (g.1, g.2.2)).map (·.1) = ls.map (·.1) := by rw [List.map_map]; rfl
      have hn : (ls.map (·.1)).Nodup := by
        rw [← hk, st.eq]
        exact (Gk_ok (kf := kf) pre).nd
      exact nd_inj hn hh hgm (e.trans hgk.symm)
    refine hn (putM M' g.2.1 (.lst ((g.2.2.map prP).map .py ++ [.py (prP p)]))) _ (ls.map (fun h => if h.1 = kf p then (h.1, h.2.1, h.2.2 ++ [p]) else h)) (fun x o hx => ?_) ?_
    · by_cases e1 : x = g.2.1
      · rw [e1, putM_same] at hx ⊢
        exact hx
      · rw [putM_ne e1] at hx ⊢
        rw [putM_ne fun z => by rw [z, hc] at hx; cases hx]
        exact hx
    · rw [Gk_snoc]
      have hany : ((Gk kf pre).any fun g => decide (g.1 = kf p)) = true := by rw [any_find st.eq, hg]; rfl
      refine ⟨?_, ?_, fun h hh => ?_, ?_, fun x o hx => ?_⟩
      · unfold stepG
        rw [if_pos hany, ← st.eq, List.map_map, List.map_map]
        refine List.map_congr_left fun h _ => ?_
        show (fun g : κ × Addr × List Pr => (g.1, g.2.2)) (if h.1 = kf p then (h.1, h.2.1, h.2.2 ++ [p]) else h) = (if h.1 = kf p then (h.1, h.2.2 ++ [p]) else (h.1, h.2.2))
        split <;> rfl
      · rw [putM_ne fun z => g3 z.symm, st.dk, List.map_map]
        congr 2
        refine List.map_congr_left fun h _ => ?_
        show _ = (ky (if h.1 = kf p then (h.1, h.2.1, h.2.2 ++ [p]) else h).1, Dat.own (if h.1 = kf p then (h.1, h.2.1, h.2.2 ++ [p]) else h).2.1)
        split <;> rfl
      · obtain ⟨h0, hh0, rfl⟩ := List.mem_map.mp hh
        by_cases e1 : h0.1 = kf p
        · have := hkey h0 hh0 e1
          subst this
          rw [if_pos e1]
          refine ⟨?_, g2, g3⟩
          show putM M' h0.2.1 _ h0.2.1 = _
          rw [putM_same, List.map_append, List.map_append]
          rfl
        · rw [if_neg e1]
          obtain ⟨k1, k2, k3⟩ := st.at_ h0 hh0
          refine ⟨?_, k2, k3⟩
          rw [putM_ne fun z => e1 (by rw [hnd h0 hh0 z]; exact hgk)]
          exact k1
      · rw [List.map_map]
        have : ls.map ((fun g : κ × Addr × List Pr => g.2.1) ∘ fun h => if h.1 = kf p then (h.1, h.2.1, h.2.2 ++ [p]) else h) = ls.map fun g => g.2.1 := by
          refine List.map_congr_left fun h _ => ?_
          show (if h.1 = kf p then (h.1, h.2.1, h.2.2 ++ [p]) else h).2.1 = h.2.1
          split <;> rfl
        rw [this]
        exact st.nd
      · rw [putM_ne fun z => by rw [z, g2] at hx; cases hx]
        exact st.old x o hx
  · have hlk := hn'
    rw [look_map hky] at hn'
    have hf : (ls.find? fun g => decide (g.1 = kf p)) = none := by
      cases z : ls.find? fun g => decide (g.1 = kf p) with
      | none => rfl
      | some g => rw [z] at hn'; cases hn'
    have hM2 : putM (putM M' c (.lst [])) a (.dK (putKD (ls.map fun g => (ky g.1, Dat.own g.2.1)) (ky (kf p)) (.own c))) c = some (.lst []) := by rw [putM_ne hca, putM_same]
    refine hA _ _ _ hM2 (by simp [hs]) (hn _ _ (ls ++ [(kf p, c, [p])]) (MLe.refl _) ?_)
    rw [Gk_snoc]
    have hany : ¬ ((Gk kf pre).any fun g => decide (g.1 = kf p)) = true := by rw [any_find st.eq, hf]; simp
    refine ⟨?_, ?_, fun h hh => ?_, ?_, fun x o hx => ?_⟩
    · unfold stepG
      rw [if_neg hany, List.map_append, st.eq]
      rfl
    · rw [putM_ne (Ne.symm hca), putM_same, putKD_snoc hlk, List.map_append]
      rfl
    · rcases List.mem_append.mp hh with hh | hh
      · obtain ⟨k1, k2, k3⟩ := st.at_ h hh
        refine ⟨?_, k2, k3⟩
        rw [putM_ne (hcl h hh), putM_ne k3, putM_ne (hcl h hh)]
        exact k1
      · rw [List.mem_singleton.mp hh]
        exact ⟨putM_same, hcM, hca⟩
    · rw [List.map_append, List.nodup_append]
      refine ⟨st.nd, by simp, fun x hx y hy e => ?_⟩
      obtain ⟨g, hg, rfl⟩ := List.mem_map.mp hx
      have : y = c := by simpa using hy
      exact hcl g hg (e.trans this)
    · have h1 : x ≠ c := fun z => by rw [z, hcM] at hx; cases hx
      have h2 : x ≠ a := fun z => by rw [z, ha] at hx; cases hx
      rw [putM_ne h1, putM_ne h2, putM_ne h1]
      exact st.old x o hx
theorem gst_app {κ : Type} [DecidableEq κ] {ky : κ → Key} (hky : ∀ x y, ky x = ky y → x = y) {kf : Pr → κ} {M M' : Mem} {a c : Addr} {pre : List Pr} {ls : List (κ × Addr × List Pr)} {p : Pr} {kd : Dat} {r : WA} {δ : DEnv} (Nx : Mem → Prop) (st : GSt ky M M' a (Gk kf pre) ls) (hl : pre.length ≤ 1000) (ha : M a = none) (hk : keyK kd = some (ky (kf p))) (hc : M' c = none)
    (hn : ∀ M1 M2 ls', MLe M1 M2 → GSt ky M M1 a (Gk kf (pre ++ [p])) ls' → Nx M2) (hr : ∀ M3 (Q : List Dat → Mem → Prop), Q [.py (prP p)] M3 → r δ M3 Q) :
    ∃ a' kvs k, Dat.own a = .own a' ∧ putM M' c (.lst []) a' = some (.dK kvs) ∧ keyK kd = some k ∧ kvs.length < sizeLine ∧ (∀ y, lookK kvs k = some y → (∃ a ds, y = Dat.own a ∧ putM M' c (.lst []) a = some (.lst ds)) ∧ r δ (putM M' c (.lst [])) fun es M2 => ∃ a e ds, y = .own a ∧ es = [e] ∧ M2 a = some (.lst ds) ∧ ds.length < sizeLine ∧ Nx (putM M2 a (.lst (ds ++ [e])))) ∧
      (lookK kvs k = none → (∃ b ds, Dat.own c = Dat.own b ∧ putM (putM M' c (.lst [])) a' (.dK (putKD kvs k (.own c))) b = some (.lst ds)) ∧ r δ (putM (putM M' c (.lst [])) a' (.dK (putKD kvs k (.own c)))) fun es M2 => ∃ a e ds, Dat.own c = .own a ∧ es = [e] ∧ M2 a = some (.lst ds) ∧ ds.length < sizeLine ∧ Nx (putM M2 a (.lst (ds ++ [e])))) :=
  gst_step (A := fun y M3 => (∃ a ds, y = Dat.own a ∧ M3 a = some (.lst ds)) ∧ r δ M3 fun es M2 => ∃ a e ds, y = .own a ∧ es = [e] ∧ M2 a = some (.lst ds) ∧ ds.length < sizeLine ∧ Nx (putM M2 a (.lst (ds ++ [e])))) (Nx := Nx) hky st hl ha hk hc hn fun c' l M3 h1 h2 h3 => ⟨⟨_, _, rfl, h1⟩, hr _ _ ⟨_, _, _, rfl, rfl, h1, h2, h3⟩⟩
theorem ok_by_lines (Fn : FunX K "by_lines" "by_lines" s_by_lines f fd) (B : Bn K w mg) : FnOk P w K mg base CX0 1 f fd ["bridge", "pairs"] (dSp K T f_by_lines) := by
  refine dok Fn sc_by_lines (fun ds M P ⟨b, q, h, _⟩ => by rw [h]; rfl) (fun cdv A outer s H E hr => ⟨_, (have nd := (sc_by_lines).nd; (dss_cons (ds_set (i := 2) nd rfl (by first | exact Or.inl rfl | exact Or.inr rfl) (d_newK)) (dss_cons (ds_for (Kx := K) (t := (.nm 3)) PassesOwn.never rfl (di_list (dv 1)) (pg_name (i := 3) nd rfl (by first | exact Or.inl rfl | exact Or.inr rfl)) (dss_one (ds_expr (pd_app (pe_bm PySem.F.plainAttrs_list PySem.F.slot_list_append PySem.F.type_list_append mt_append (d_setdef (dv 2) (d_ix (d_ix (dv 0) (d_ix (dv 3) d_int)) d_int) (d_lstM da_nil)) (da_cons (dv 3) da_nil)))))) (dss_one (ds_ret (dv 2)))))), fun ds M P h => ?_⟩)
  obtain ⟨b, ps, rfl, hb, hl, q⟩ := h
  walk_at "dS"
  intro a ha
  walk_at "dS"
  refine ⟨fun i δ M' => ∃ o3 ls, δ = [some (.py (encL b)), some (.py (encPs ps)), some (.own a), o3] ∧ GSt .inr M M' a (G b (ps.take i)) ls, ⟨_, [], rfl, rfl, putM_same, fun g hg => (by cases hg), List.nodup_nil, mle_putM ha⟩, fun _ _ _ _ => trivial, fun δ M' h => ?_, fun i d δ M' hd h => ?_⟩
  · obtain ⟨o3, ls, rfl, st⟩ := h
    rw [List.length_map, List.length_map, List.take_length] at st
    walk_at "dS"
    let kvs : List (Key × Addr × List PyData) := ls.map fun g => (.inr g.1, g.2.1, g.2.2.map prP)
    have e1 : ls.map (fun g => ((Sum.inr g.1 : Key), Dat.own g.2.1)) = kvs.map fun p => (p.1, .own p.2.1) := by rw [List.map_map]; rfl
    have e2 : kvs.map (fun p => p.2.1) = ls.map fun g => g.2.1 := by rw [List.map_map]; rfl
    have e3 : kvs.map (fun p => (p.1, Dat.py (.list p.2.2))) = (encG (G b ps)).map fun p => (p.1, .py p.2) := by
      rw [← st.eq]
      unfold encG
      rw [List.map_map, List.map_map, List.map_map]
      rfl
    have dk := st.dk
    rw [e1] at dk
    refine ⟨_, _, .trans (.inn (kvs := kvs) dk fun p hp => ?_) (.le (M' := putM M a (.dK ((encG (G b ps)).map fun p => (p.1, .py p.2)))) ?_), q a ha⟩
    · obtain ⟨g, hg, rfl⟩ := List.mem_map.mp hp
      exact (st.at_ g hg).1
    · rw [e3]
      intro c o hc
      by_cases ec : c = a
      · rw [ec, putM_same] at hc ⊢
        exact hc
      · rw [putM_ne ec] at hc ⊢
        unfold delMs
        rw [e2, if_neg]
        · exact st.old c o hc
        · intro z
          obtain ⟨g, hg, e⟩ := List.mem_map.mp z
          rw [← e, (st.at_ g hg).2.1] at hc
          cases hc
  · obtain ⟨o3, ls, rfl, st⟩ := h
    obtain ⟨p, hp, rfl⟩ := prs_at hd
    have hlt : i < ps.length := (List.getElem?_eq_some_iff.mp hp).1
    have hpm := hb p (List.mem_of_getElem? hp)
    have etk : ps.take (i + 1) = ps.take i ++ [p] := by rw [List.take_add_one, hp]; rfl
    refine ⟨_, rfl, ?_⟩
    walk_at "dS"
    refine ⟨⟨a, _, rfl, st.dk⟩, ?_⟩
    walk_at "dS"
    refine s_ixR hpm.1 hpm.2 ?_
    walk_at "dS"
    refine s_mk (by decide) fun c hc => ?_
    exact gst_app (kf := lineOf b) (ky := .inr) (p := p) (kd := .py (.str (lineOf b p))) (Nx := fun M2 => less (fun δ M' => ∃ o3 ls, δ = [some (.py (encL b)), some (.py (encPs ps)), some (.own a), o3] ∧ GSt .inr M M' a (G b (ps.take (i + 1))) ls) [some (.py (encL b)), some (.py (encPs ps)), some (.own a), some (.py (prP p))] M2) (fun x y e => Sum.inr.inj e) st (by rw [List.length_take]; omega) ha rfl hc (fun M1 M2 ls' e st' => s_lessTo e ⟨_, ls', rfl, by rw [etk]; exact st'⟩) fun M3 Q h => ⟨_, rfl, h⟩
end
end RO
namespace RO
open PySem PySem.Spec PyProof.Rows L2 DL
section
variable {P : Program} {w : World} {K : PySem.W.Frag} {mg : Str → Option Value} {base : Heap} {T : List (Addr × Str)} {f : Addr} {fd : FuncData}
def Clash (B : List Rw) (p q : Pr) : Prop := p.1 = q.1 ∨ p.2 = q.2 ∨ (lineOf B p = lineOf B q ∧ ahead p q = false ∧ ahead q p = false)
def f_clash : WF := fun ds M P => ∃ (B R : List Rw) (p q : Pr) (lag lo hi : Int), ds = [.py (encL B), .py (encL R), .py (prP p), .py (prP q), .py (.int lag), .py (.int lo), .py (.int hi)] ∧ IsPair B R p ∧ IsPair B R q ∧ p ≠ q ∧ Clash B p q ∧ ∀ s, P (.py (.str s)) M
theorem ok_clash {F4 : WF} (Fn : FunX K "clash" "clash" s_clash f fd) (B : Bn K w mg) (D_is_ahead : Dn P w K mg base T 1 "is_ahead" ["one", "other"] [] f_is_ahead) (D_span : Dn P w K mg base T 4 "span" ["bridge", "room", "pair", "lag"] [] F4) : FnOk P w K mg base CX0 5 f fd ["bridge", "room", "one", "other", "lag", "low", "high"] (dSp K T f_clash) := by
  refine dok Fn sc_clash (fun ds M P ⟨b, r, p, q, l, lo, hi, h, _⟩ => by rw [h]; rfl) (fun cdv A outer s H E hr => ⟨_, (have nd := (sc_clash).nd; (dss_cons (ds_if (dt_eq hr.units (dv 2) (dv 3)) (dss_one (ds_ret d_non)) dss_nil) (dss_cons (ds_if (PW.pt (dw_or (dt_eq hr.units (d_ix (dv 2) d_int) (d_ix (dv 3) d_int)) (dw_or1 (dt_eq hr.units (d_ix (dv 2) d_int) (d_ix (dv 3) d_int))))) (dss_one (ds_ret d_str)) dss_nil) (dss_cons (ds_set (i := 7) nd rfl (by first | exact Or.inl rfl | exact Or.inr rfl) (d_eq hr.units (d_ix (d_ix (dv 0) (d_ix (dv 2) d_int)) d_int) (d_ix (d_ix (dv 0) (d_ix (dv 3) d_int)) d_int))) (dss_cons (ds_if (PW.pt (dw_and (pdt_val (dv 7)) (dw_and (dt_not (pdt_val (d_callN D_is_ahead (hr.mono (by decide)) (by rfl) (da_cons (dv 2) (da_cons (dv 3) da_nil))))) (dw_and1 (dt_not (pdt_val (d_callN D_is_ahead (hr.mono (by decide)) (by rfl) (da_cons (dv 3) (da_cons (dv 2) da_nil))))))))) (dss_one (ds_ret d_str)) dss_nil) (dss_cons (ds_set (i := 8) nd rfl (by first | exact Or.inl rfl | exact Or.inr rfl) (d_callN D_span (hr.mono (by decide)) (by rfl) (da_cons (dv 0) (da_cons (dv 1) (da_cons (dv 2) (da_cons (dv 4) da_nil)))))) (dss_cons (ds_set (i := 9) nd rfl (by first | exact Or.inl rfl | exact Or.inr rfl) (d_callN D_span (hr.mono (by decide)) (by rfl) (da_cons (dv 0) (da_cons (dv 1) (da_cons (dv 3) (da_cons (dv 4) da_nil)))))) (dss_cons (ds_if (dt_gt (pd_callB (call_max3I rfl) cd_max3 (by rfl) B.max_ (by decide +kernel) (da_cons (dv 5) (da_cons (d_ix (dv 8) d_int) (da_cons (d_ix (dv 9) d_int) da_nil)))) (pd_callB (call_min3I rfl) cd_min3 (by rfl) B.min_ (by decide +kernel) (da_cons (dv 6) (da_cons (d_ix (dv 8) d_int) (da_cons (d_ix (dv 9) d_int) da_nil))))) (dss_one (ds_ret d_str)) dss_nil) (dss_one (ds_ret d_non)))))))))), fun ds M P h => ?_⟩)
  obtain ⟨b, r, p, q, lag, lo, hi, rfl, hp, hq, hn, hc, k⟩ := h
  walk_at "dS"
  rw [decide_eq_false hn]
  walk_at "dS"
  refine s_ite (fun e => ?_) fun e1 => ?_
  · walk_at "dS"
    exact s_rt (k _)
  walk_at "dS"
  refine s_ite (fun e => ?_) fun e2 => ?_
  · walk_at "dS"
    exact s_rt (k _)
  have e1 := of_decide_eq_false e1
  have e2 := of_decide_eq_false e2
  have hc : lineOf b p = lineOf b q ∧ ahead p q = false ∧ ahead q p = false := by
    rcases hc with h | h | h
    · exact absurd h e1
    · exact absurd h e2
    · exact h
  walk_at "dS"
  refine s_ixR hp.1 hp.2.1 ?_
  walk_at "dS"
  refine s_ixR hq.1 hq.2.1 ?_
  walk_at "dS"
  have h1 : (rowAt b p.1).ln = (rowAt b q.1).ln := hc.1
  rw [decide_eq_true h1]
  walk_at "dS"
  refine ⟨p, q, rfl, ?_⟩
  rw [hc.2.1]
  walk_at "dS"
  refine ⟨q, p, rfl, ?_⟩
  rw [hc.2.2]
  walk_at "dS"
  exact s_rt (k _)
def f_are_loose : WF := fun ds M P => ∃ (B R : List Rw) (ps : List Pr), ds = [.py (encL B), .py (encL R), .py (encPs ps)] ∧ LogOk B ∧ LogOk R ∧ ps.length ≤ 1000 ∧ (∀ p ∈ ps, IsPair B R p) ∧ St B ps ∧ P (.py (.bool true)) M
theorem fAll_true {M : Mem} {P : Dat → Mem → Prop} {α : Type} {xs : List α} {p : α → Bool} {g : α → PyData} (hg : ∀ x, g x = .bool true) (h : P (.py (.bool true)) M) : fAll [.py (.list ((xs.filter p).map g))] M P := by
  refine ⟨_, List.replicate (xs.filter p).length true, rfl, ?_, ?_⟩
  · show _ = _
    congr 1
    rw [List.map_replicate, show g = fun _ => .bool true from funext hg]
    exact List.map_const'.symm
  · rw [show (List.replicate (xs.filter p).length true).all id = true by simp]
    exact h
theorem ok_are_loose (Fn : FunX K "are_loose" "are_loose" s_are_loose f fd) (B : Bn K w mg) (D_is_pair : Dn P w K mg base T 3 "is_pair" ["bridge", "room", "thing"] [] f_is_pair) (D_by_lines : Dn P w K mg base T 1 "by_lines" ["bridge", "pairs"] [] f_by_lines) (D_is_steep : Dn P w K mg base T 2 "is_steep" ["pairs"] [] f_is_steep) : FnOk P w K mg base CX0 4 f fd ["bridge", "room", "thing"] (dSp K T f_are_loose) := by
  refine dok Fn sc_are_loose (fun ds M P ⟨b, r, q, h, _⟩ => by rw [h]; rfl) (fun cdv A outer s H E hr => ⟨_, (have nd := (sc_are_loose).nd; (dss_cons (ds_if (PW.pt (dw_or (dt_not (pdt_val (pd_callB call_isi cd_isi (by rfl) B.isinstance_ (by decide +kernel) (da_cons (dv 2) (da_cons (d_ty (n := "list") (by rfl) B.list_ (by decide +kernel)) da_nil))))) (dw_or1 (dt_not (pdt_val (pd_callB (cr_all rfl) cd_all (by rfl) B.all_ (by decide +kernel) (da_cons (d_lcG false (Kx := K) (t := (.nm 4)) rfl nd (di_list (dv 2)) (blkOk_by (own := [("one", 4)]) (N := ["bridge", "room", "thing", "some", "one"]) (sc := defScope s_are_loose) (by decide +kernel)) (by decide) (fun _ _ _ _ _ => (pg_name (i := 4) nd rfl (by first | exact Or.inl rfl | exact Or.inr rfl))) (fun _ _ _ _ _ => dts_nil) (fun _ _ _ _ _ => (d_callN D_is_pair (hr.mono (by decide)) (by rfl) (da_cons (dv 0) (da_cons (dv 1) (da_cons (dv 4) da_nil)))))) da_nil))))))) (dss_one (ds_ret d_bl)) dss_nil) (dss_one (ds_ret (d_and (d_eq hr.units (dv 2) (pd_callB cr_sortedPO cd_sorted (by rfl) B.sorted_ (by decide +kernel) (da_cons (dv 2) da_nil))) (d_one (pd_callB (cr_all rfl) cd_all (by rfl) B.all_ (by decide +kernel) (da_cons (d_lcG false (Kx := K) (t := (.nm 3)) rfl nd (di_values (d_callN D_by_lines (hr.mono (by decide)) (by rfl) (da_cons (dv 0) (da_cons (dv 2) da_nil)))) (blkOk_by (own := [("some", 3)]) (N := ["bridge", "room", "thing", "some", "one"]) (sc := defScope s_are_loose) (by decide +kernel)) (by decide) (fun _ _ _ _ _ => (pg_name (i := 3) nd rfl (by first | exact Or.inl rfl | exact Or.inr rfl))) (fun _ _ _ _ _ => dts_nil) (fun _ _ _ _ _ => (d_callN D_is_steep (hr.mono (by decide)) (by rfl) (da_cons (dv 3) da_nil)))) da_nil)))))))), fun ds M P h => ?_⟩)
  obtain ⟨b, r, ps, rfl, lb, lr, hl, hip, hst, k⟩ := h
  have hs : sizeLine = 16777216 := sizeLine_eq
  walk_at "dS"
  refine s_lcP ps (fun p => Dat.py (prP p)) (fun _ => true) (fun _ => .bool true) map2 ?_ (by omega) ?_ fun p hp QT QF h1 h2 => ?_
  · trivial
  · walk_at "dS"
    refine fAll_true (fun _ => rfl) ?_
    walk_at "dS"
    refine ⟨_, ps, rfl, rfl, fun qs pm pw => ?_⟩
    have eq : qs = ps := sorted_uniq pm pw (hst.lex.imp fun h => pairLe_of_lex h)
    subst eq
    walk_at "dS"
    rw [decide_eq_true rfl]
    walk_at "dS"
    refine ⟨b, qs, rfl, fun p hp => ⟨(hip p hp).1, (hip p hp).2.1⟩, hl, fun a ha => ?_⟩
    walk_at "dS"
    refine ⟨a, encG (G b qs), rfl, putM_same, ?_⟩
    rw [delM_putM ha]
    have hgs := G_len b qs
    have ok := G_ok b qs
    have hits : (encG (G b qs)).map (fun p => Dat.py p.2) = (G b qs).map fun g => Dat.py (encPs g.2) := by unfold encG; exact map2
    refine s_lcP (G b qs) (fun g => Dat.py (encPs g.2)) (fun _ => true) (fun _ => .bool true) hits ?_ (by omega) ?_ fun g hg QT QF h1 h2 => ?_
    · trivial
    · walk_at "dS"
      exact fAll_true (fun _ => rfl) (s_rt k)
    · refine ⟨_, rfl, ?_⟩
      walk_at "dS"
      refine ⟨g.2, rfl, ?_, ?_, ⟨_, rfl, h1 rfl⟩⟩
      · rw [ok.fl g hg]
        exact Nat.le_trans (List.length_filter_le _ _) hl
      · rw [ok.fl g hg]
        refine List.Pairwise.imp_of_mem (fun {x y} hx hy hxy => ?_) (List.Pairwise.filter _ hst)
        rw [List.mem_filter] at hx hy
        exact hxy.2 ((of_decide_eq_true hx.2).trans (of_decide_eq_true hy.2).symm)
  · refine ⟨_, rfl, ?_⟩
    walk_at "dS"
    exact ⟨b, r, p, rfl, lb, lr, hip p hp, ⟨_, rfl, h1 rfl⟩⟩
/-! ### crowds, sharings, joinings -/
theorem enum_pr {l : List Pr} {i : Nat} {d : Dat} (h : ((enumP 0 (l.map prP)).map Dat.py)[i]? = some d) : ∃ p, l[i]? = some p ∧ d = .py (.tuple [.int (i : Nat), prP p]) := by
  rw [List.getElem?_map] at h
  obtain ⟨x, hx, rfl⟩ := Option.map_eq_some_iff.mp h
  obtain ⟨y, hy, rfl⟩ := enumP_get hx
  rw [List.getElem?_map] at hy
  obtain ⟨z, hz, rfl⟩ := Option.map_eq_some_iff.mp hy
  exact ⟨z, hz, by rw [Nat.zero_add]⟩
theorem cut_drop {α : Type} (xs : List α) (k : Nat) : cutP xs (some ((k : Nat) + 1)) none = xs.drop (k + 1) := by
  have e : HT.sIx xs.length 0 (some ((k : Int) + 1)) = min (k + 1) xs.length := by
    have := HT.sIx_nat xs.length 0 (k + 1)
    rw [← this]
    rfl
  unfold cutP
  rw [e, HT.sIx_none]
  by_cases h : k + 1 ≤ xs.length
  · rw [Nat.min_eq_left h, List.take_of_length_le (by rw [List.length_drop]; omega)]
  · rw [Nat.min_eq_right (by omega), List.drop_eq_nil_of_le (Nat.le_refl _), List.drop_eq_nil_of_le (by omega)]
    simp
theorem pw_at {α : Type} {R : α → α → Prop} {l : List α} {i j : Nat} {x y : α} (h : l.Pairwise R) (hx : l[i]? = some x) (hy : l[j]? = some y) (hij : i < j) : R x y := by
  obtain ⟨h1, rfl⟩ := List.getElem?_eq_some_iff.mp hx
  obtain ⟨h2, rfl⟩ := List.getElem?_eq_some_iff.mp hy
  exact List.pairwise_iff_getElem.mp h i j h1 h2 hij
theorem Crowd.clash {B : List Rw} {c : List Pr} (h : Crowd B c) {p q : Pr} (hp : p ∈ c) (hq : q ∈ c) : Clash B p q := .inr (.inr ⟨(h.ln p hp q hq).1, (h.ln p hp q hq).2, (h.ln q hq p hp).2⟩)
def f_is_crowd : WF := fun ds M P => ∃ (B R : List Rw) (ps c : List Pr) (lag lo hi : Int), ds = [.py (encL B), .py (encL R), .py (encPs ps), .py (encPs c), .py (.int lag), .py (.int lo), .py (.int hi)] ∧ LogOk B ∧ LogOk R ∧ c.length ≤ 1000 ∧ (∀ p ∈ c, IsPair B R p ∧ p ∈ ps) ∧ Crowd B c ∧ P (.py (.bool true)) M
theorem ok_is_crowd (Fn : FunX K "is_crowd" "is_crowd" s_is_crowd f fd) (B : Bn K w mg) (D_is_pair : Dn P w K mg base T 3 "is_pair" ["bridge", "room", "thing"] [] f_is_pair) (D_clash : Dn P w K mg base T 5 "clash" ["bridge", "room", "one", "other", "lag", "low", "high"] [] f_clash) : FnOk P w K mg base CX0 6 f fd ["bridge", "room", "pairs", "thing", "lag", "low", "high"] (dSp K T f_is_crowd) := by
  refine dok Fn sc_is_crowd (fun ds M P ⟨b, r, p, q, l, lo, hi, h, _⟩ => by rw [h]; rfl) (fun cdv A outer s H E hr => ⟨_, (have nd := (sc_is_crowd).nd; (dss_cons (ds_if (PW.pt (dw_or (dt_not (pdt_val (pd_callB call_isi cd_isi (by rfl) B.isinstance_ (by decide +kernel) (da_cons (dv 3) (da_cons (d_ty (n := "list") (by rfl) B.list_ (by decide +kernel)) da_nil))))) (dw_or1 (dt_eq hr.units (dv 3) (d_lst da_nil))))) (dss_one (ds_ret d_bl)) dss_nil) (dss_cons (ds_if (dt_not (pdt_val (pd_callB (cr_all rfl) cd_all (by rfl) B.all_ (by decide +kernel) (da_cons (d_lcG false (Kx := K) (t := (.nm 8)) rfl nd (di_list (dv 3)) (blkOk_by (own := [("one", 8)]) (N := ["bridge", "room", "pairs", "thing", "lag", "low", "high", "at", "one", "other"]) (sc := defScope s_is_crowd) (by decide +kernel)) (by decide) (fun _ _ _ _ _ => (pg_name (i := 8) nd rfl (by first | exact Or.inl rfl | exact Or.inr rfl))) (fun _ _ _ _ _ => dts_nil) (fun _ _ _ _ _ => (d_and (d_callN D_is_pair (hr.mono (by decide)) (by rfl) (da_cons (dv 0) (da_cons (dv 1) (da_cons (dv 8) da_nil)))) (d_one (d_inD (hu65 hr) (dv 8) (dv 2)))))) da_nil)))) (dss_one (ds_ret d_bl)) dss_nil) (dss_cons (ds_for (Kx := K) (t := (.tp [7, 8])) PassesOwn.never rfl (di_enum (by rfl) B.enumerate_ (da_cons (dv 3) da_nil)) (pg_tup rfl (pgs_cons (pg_name (i := 7) nd rfl (by first | exact Or.inl rfl | exact Or.inr rfl)) (pgs_cons (pg_name (i := 8) nd rfl (by first | exact Or.inl rfl | exact Or.inr rfl)) pgs_nil))) (dss_one (ds_for (Kx := K) (t := (.nm 9)) PassesOwn.never rfl (di_list (d_slL (dv 3) (do_some (d_add (dv 7) d_int)) do_none)) (pg_name (i := 9) nd rfl (by first | exact Or.inl rfl | exact Or.inr rfl)) (dss_one (ds_if (PW.pt (dw_or (dt_le hr.units0 (dv 9) (dv 8)) (dw_or1 (dt_isN (d_callN D_clash (hr.mono (by decide)) (by rfl) (da_cons (dv 0) (da_cons (dv 1) (da_cons (dv 8) (da_cons (dv 9) (da_cons (dv 4) (da_cons (dv 5) (da_cons (dv 6) da_nil)))))))) d_non)))) (dss_one (ds_ret d_bl)) dss_nil))))) (dss_one (ds_ret d_bl)))))), fun ds M P h => ?_⟩)
  obtain ⟨b, r, ps, c, lag, lo, hi, rfl, lb, lr, hl, hin, hcr, k⟩ := h
  have hs : sizeLine = 16777216 := sizeLine_eq
  walk_at "dS"
  rw [decide_eq_false hcr.ne]
  walk_at "dS"
  refine s_lcP c (fun p => Dat.py (prP p)) (fun _ => true) (fun _ => .bool true) map2 ?_ (by omega) ?_ fun p hp QT QF h1 h2 => ?_
  · trivial
  · walk_at "dS"
    refine fAll_true (fun _ => rfl) ?_
    walk_at "dS"
    refine ⟨fun i δ M' => ∃ o7 o8 o9, δ = [some (.py (encL b)), some (.py (encL r)), some (.py (encPs ps)), some (.py (encPs c)), some (.py (.int lag)), some (.py (.int lo)), some (.py (.int hi)), o7, o8, o9] ∧ M = M', ⟨_, _, _, rfl, rfl⟩, fun _ _ _ _ => trivial, fun δ M' h => ?_, fun i d δ M' hd h => ?_⟩
    · obtain ⟨_, _, _, rfl, rfl⟩ := h
      walk_at "dS"
      exact s_rt k
    · obtain ⟨_, _, _, rfl, rfl⟩ := h
      obtain ⟨one, hone, rfl⟩ := enum_pr hd
      refine ⟨_, rfl, ?_⟩
      walk_at "dS"
      rw [show cutP (c.map prP) (some ((i : Nat) + 1)) none = (c.drop (i + 1)).map prP by rw [cut_map, cut_drop]]
      walk_at "dS"
      refine ⟨fun j δ M' => ∃ o9, δ = [some (.py (encL b)), some (.py (encL r)), some (.py (encPs ps)), some (.py (encPs c)), some (.py (.int lag)), some (.py (.int lo)), some (.py (.int hi)), some (.py (.int (i : Nat))), some (.py (prP one)), o9] ∧ M = M', ⟨_, rfl, rfl⟩, fun _ _ _ _ => trivial, fun δ M' h => ?_, fun j d δ M' hd h => ?_⟩
      · obtain ⟨_, rfl, rfl⟩ := h
        exact s_less ⟨_, _, _, rfl, rfl⟩
      · obtain ⟨_, rfl, rfl⟩ := h
        obtain ⟨oth, hoth, rfl⟩ := prs_at hd
        have hlx : lexLt one oth := by
          rw [List.getElem?_drop] at hoth
          exact pw_at hcr.lex hone hoth (by omega)
        have m1 := List.mem_of_getElem? hone
        have m2 : oth ∈ c := List.mem_of_mem_drop (List.mem_of_getElem? hoth)
        refine ⟨_, rfl, ?_⟩
        walk_at "dS"
        rw [show pairLe oth one = false by
          rw [Bool.eq_false_iff]
          intro z
          rw [pairLe_iff] at z
          unfold lexLt at hlx
          omega]
        walk_at "dS"
        refine ⟨b, r, one, oth, lag, lo, hi, rfl, (hin _ m1).1, (hin _ m2).1, lexLt_ne hlx, hcr.clash m1 m2, fun s => ?_⟩
        walk_at "dS"
        exact s_less ⟨_, rfl, rfl⟩
  · refine ⟨_, rfl, ?_⟩
    walk_at "dS"
    refine ⟨b, r, p, rfl, lb, lr, (hin p hp).1, ⟨true, rfl, s_iteT ?_⟩⟩
    walk_at "dS"
    refine ⟨prP p, ps.map prP, rfl, rfl, shaped_pr p, shaped_prs ps, ?_⟩
    rw [show (ps.map prP).any (fun z => PyData.eqv z (prP p)) = true from List.any_eq_true.mpr ⟨prP p, List.mem_map.mpr ⟨p, (hin p hp).2, rfl⟩, by rw [eqv_pr]; simp⟩]
    exact ⟨_, rfl, h1 rfl⟩
def encS (S : List (List Pr)) : PyData := .list (S.map encPs)
def f_is_sharing : WF := fun ds M P => ∃ (B R : List Rw) (ps : List Pr) (S : List (List Pr)) (lag lo hi : Int), ds = [.py (encL B), .py (encL R), .py (encPs ps), .py (encS S), .py (.int lag), .py (.int lo), .py (.int hi)] ∧ LogOk B ∧ LogOk R ∧ ps.length ≤ 1000 ∧ (∀ p ∈ ps, IsPair B R p) ∧ ps.Pairwise lexLt ∧ Shar B ps S ∧ P (.py (.bool true)) M
theorem shar_len {B : List Rw} {ps : List Pr} {S : List (List Pr)} (h : Shar B ps S) : S.length ≤ ps.length := by
  rw [← h.perm.length_eq]
  have : ∀ S : List (List Pr), (∀ c ∈ S, c ≠ []) → S.length ≤ S.flatten.length := by
    intro S
    induction S with
    | nil => intro _; exact Nat.le_refl _
    | cons c r ih =>
      intro hc
      have h1 := ih fun x hx => hc x (List.mem_cons_of_mem _ hx)
      have h2 : 0 < c.length := List.length_pos_iff.mpr (hc c List.mem_cons_self)
      rw [List.flatten_cons, List.length_append, List.length_cons]
      omega
  exact this S fun c hc => (h.cr c hc).ne
theorem ok_is_sharing (Fn : FunX K "is_sharing" "is_sharing" s_is_sharing f fd) (B : Bn K w mg) (D_is_crowd : Dn P w K mg base T 6 "is_crowd" ["bridge", "room", "pairs", "thing", "lag", "low", "high"] [] f_is_crowd) : FnOk P w K mg base CX0 7 f fd ["bridge", "room", "pairs", "thing", "lag", "low", "high"] (dSp K T f_is_sharing) := by
  refine dok Fn sc_is_sharing (fun ds M P ⟨b, r, p, q, l, lo, hi, h, _⟩ => by rw [h]; rfl) (fun cdv A outer s H E hr => ⟨_, (have nd := (sc_is_sharing).nd; (dss_cons (ds_if (dt_not (pdt_val (pd_callB call_isi cd_isi (by rfl) B.isinstance_ (by decide +kernel) (da_cons (dv 3) (da_cons (d_ty (n := "list") (by rfl) B.list_ (by decide +kernel)) da_nil))))) (dss_one (ds_ret d_bl)) dss_nil) (dss_cons (ds_if (dt_not (pdt_val (pd_callB (cr_all rfl) cd_all (by rfl) B.all_ (by decide +kernel) (da_cons (d_lcG false (Kx := K) (t := (.nm 7)) rfl nd (di_list (dv 3)) (blkOk_by (own := [("some", 7)]) (N := ["bridge", "room", "pairs", "thing", "lag", "low", "high", "some"]) (sc := defScope s_is_sharing) (by decide +kernel)) (by decide) (fun _ _ _ _ _ => (pg_name (i := 7) nd rfl (by first | exact Or.inl rfl | exact Or.inr rfl))) (fun _ _ _ _ _ => dts_nil) (fun _ _ _ _ _ => (d_callN D_is_crowd (hr.mono (by decide)) (by rfl) (da_cons (dv 0) (da_cons (dv 1) (da_cons (dv 2) (da_cons (dv 7) (da_cons (dv 4) (da_cons (dv 5) (da_cons (dv 6) da_nil)))))))))) da_nil)))) (dss_one (ds_ret d_bl)) dss_nil) (dss_one (ds_ret (d_eq hr.units (pd_callB cr_sortedPO cd_sorted (by rfl) B.sorted_ (by decide +kernel) (da_cons (d_sumL rfl (by rfl) B.sum_ (dv 3) (d_lst da_nil)) da_nil)) (dv 2))))))), fun ds M P h => ?_⟩)
  obtain ⟨b, r, ps, S, lag, lo, hi, rfl, lb, lr, hl, hin, hlx, hsh, k⟩ := h
  have hs : sizeLine = 16777216 := sizeLine_eq
  have hSl := shar_len hsh
  walk_at "dS"
  refine s_lcP S (fun c => Dat.py (encPs c)) (fun _ => true) (fun _ => .bool true) map2 ?_ (by omega) ?_ fun c hc QT QF h1 h2 => ?_
  · trivial
  · walk_at "dS"
    refine fAll_true (fun _ => rfl) ?_
    walk_at "dS"
    refine ⟨_, S.map (fun c => c.map prP), rfl, rfl, ?_, ?_, ?_⟩
    · show _ = _
      rw [List.map_map]
      rfl
    · rw [← List.map_flatten, List.length_map, hsh.perm.length_eq]
      omega
    · rw [← List.map_flatten]
      refine ⟨_, S.flatten, rfl, rfl, fun qs pm pw => ?_⟩
      have eq : qs = ps := sorted_uniq (pm.trans hsh.perm) pw (hlx.imp fun h => pairLe_of_lex h)
      subst eq
      walk_at "dS"
      rw [decide_eq_true rfl]
      exact s_rt k
  · have hmem : ∀ p ∈ c, p ∈ ps := fun p hp => hsh.perm.mem_iff.mp (List.mem_flatten.mpr ⟨c, hc, hp⟩)
    refine ⟨_, rfl, ?_⟩
    walk_at "dS"
    refine ⟨b, r, ps, c, lag, lo, hi, rfl, lb, lr, ?_, fun p hp => ⟨hin p (hmem p hp), hmem p hp⟩, hsh.cr c hc, ⟨_, rfl, h1 rfl⟩⟩
    have h1 : c.length ≤ S.flatten.length := by
      have : ∀ S : List (List Pr), c ∈ S → c.length ≤ S.flatten.length := by
        intro S
        induction S with
        | nil => intro h; cases h
        | cons x r ih =>
          intro h
          rw [List.flatten_cons, List.length_append]
          rcases List.mem_cons.mp h with e | h
          · rw [e]; omega
          · have := ih h; omega
      exact this S hc
    rw [hsh.perm.length_eq] at h1
    omega
theorem nodup_len {α : Type} [DecidableEq α] : ∀ {l m : List α}, l.Nodup → (∀ x ∈ l, x ∈ m) → l.length ≤ m.length
  | [], _, _, _ => Nat.zero_le _
  | x :: r, m, hn, hs => by
    rw [List.nodup_cons] at hn
    have hx := hs x List.mem_cons_self
    have h1 := nodup_len (l := r) (m := m.erase x) hn.2 fun y hy => (List.mem_erase_of_ne (fun e => hn.1 (by rw [← e]; exact hy))).mpr (hs y (List.mem_cons_of_mem _ hy))
    have h2 := List.length_erase_of_mem hx
    have h3 := List.length_pos_of_mem hx
    rw [List.length_cons]
    omega
/-- a joining for a difference -/
structure Jn (B R : List Rw) (lag d : Int) (J : List Pr) : Prop where
  st : St B J
  sub : ∀ p ∈ J, p ∈ pw B R lag d d
theorem Jn.len {B R : List Rw} {lag d : Int} {J : List Pr} (h : Jn B R lag d J) (lb : LogOk B) (lr : LogOk R) : J.length ≤ 324 := by
  refine Nat.le_trans ?_ (pw_len (lag := lag) (lo := d) (hi := d) lb.len lr.len)
  exact nodup_len (nodup_of_lex h.st.lex) h.sub
def f_is_joining : WF := fun ds M P => ∃ (B R : List Rw) (J : List Pr) (d lag : Int), ds = [.py (encL B), .py (encL R), .py (encPs J), .py (.int d), .py (.int lag)] ∧ LogOk B ∧ LogOk R ∧ Jn B R lag d J ∧ P (.py (.bool true)) M
theorem ok_is_joining (Fn : FunX K "is_joining" "is_joining" s_is_joining f fd) (B : Bn K w mg) (D_are_loose : Dn P w K mg base T 4 "are_loose" ["bridge", "room", "thing"] [] f_are_loose) (D_meets : Dn P w K mg base T 5 "meets" ["bridge", "room", "pair", "lag", "low", "high"] [] f_meets) : FnOk P w K mg base CX0 6 f fd ["bridge", "room", "thing", "d", "lag"] (dSp K T f_is_joining) := by
  refine dok Fn sc_is_joining (fun ds M P ⟨b, r, p, q, l, h, _⟩ => by rw [h]; rfl) (fun cdv A outer s H E hr => ⟨_, (have nd := (sc_is_joining).nd; (dss_one (ds_ret (d_and (d_callN D_are_loose (hr.mono (by decide)) (by rfl) (da_cons (dv 0) (da_cons (dv 1) (da_cons (dv 2) da_nil)))) (d_one (pd_callB (cr_all rfl) cd_all (by rfl) B.all_ (by decide +kernel) (da_cons (d_lcG false (Kx := K) (t := (.nm 5)) rfl nd (di_list (dv 2)) (blkOk_by (own := [("pair", 5)]) (N := ["bridge", "room", "thing", "d", "lag", "pair"]) (sc := defScope s_is_joining) (by decide +kernel)) (by decide) (fun _ _ _ _ _ => (pg_name (i := 5) nd rfl (by first | exact Or.inl rfl | exact Or.inr rfl))) (fun _ _ _ _ _ => dts_nil) (fun _ _ _ _ _ => (d_callN D_meets (hr.mono (by decide)) (by rfl) (da_cons (dv 0) (da_cons (dv 1) (da_cons (dv 5) (da_cons (dv 4) (da_cons (dv 3) (da_cons (dv 3) da_nil))))))))) da_nil))))))), fun ds M P h => ?_⟩)
  obtain ⟨b, r, J, d, lag, rfl, lb, lr, hj, k⟩ := h
  have hs : sizeLine = 16777216 := sizeLine_eq
  have hl := hj.len lb lr
  walk_at "dS"
  refine ⟨b, r, J, rfl, lb, lr, by omega, fun p hp => (mem_pw.mp (hj.sub p hp)).1, hj.st, ?_⟩
  walk_at "dS"
  refine s_lcP J (fun p => Dat.py (prP p)) (fun _ => true) (fun _ => .bool true) map2 ?_ (by omega) ?_ fun p hp QT QF h1 h2 => ?_
  · trivial
  · walk_at "dS"
    exact fAll_true (fun _ => rfl) (s_rt k)
  · obtain ⟨m1, m2⟩ := mem_pw.mp (hj.sub p hp)
    refine ⟨_, rfl, ?_⟩
    walk_at "dS"
    refine ⟨b, r, p, lag, d, d, rfl, lb, lr, m1, ?_⟩
    rw [m2]
    exact ⟨_, rfl, h1 rfl⟩
end
end RO
namespace RO
open PySem PySem.Spec PyProof.Rows L2 DL
section
variable {P : Program} {w : World} {K : PySem.W.Frag} {mg : Str → Option Value} {base : Heap} {T : List (Addr × Str)} {f : Addr} {fd : FuncData}
def kT (p : Pr) : List Key := [.inl p.1, .inl p.2]
def encR2 (rank : Pr → Int) (qs : List Pr) : List (List Key × PyData) := qs.map fun p => (kT p, .int (rank p))
def f_ranks : WF := fun ds M P => ∃ ps : List Pr, ds = [.py (encPs ps)] ∧ ps.Nodup ∧ ps.length ≤ 1000 ∧ ∀ rank qs, RankOK ps rank → qs.Perm ps → P (.dT (encR2 rank qs)) M
theorem look_R2 {rank : Pr → Int} {p : Pr} : ∀ {qs : List Pr}, p ∈ qs → lookK (encR2 rank qs) (kT p) = some (.int (rank p))
  | q :: r, h => by
    unfold encR2
    rw [List.map_cons, lookK_cons]
    by_cases e : kT q = kT p
    · have : q = p := by
        unfold kT at e
        simp at e
        exact Prod.ext e.1 e.2
      rw [if_pos e, this]
    · rw [if_neg e]
      rcases List.mem_cons.mp h with z | z
      · exact absurd (by rw [z]) e
      · exact look_R2 z
theorem look_R2_none {rank : Pr → Int} {p : Pr} : ∀ {qs : List Pr}, p ∉ qs → lookK (encR2 rank qs) (kT p) = none
  | [], _ => rfl
  | q :: r, h => by
    unfold encR2
    rw [List.map_cons, lookK_cons]
    have e : ¬ kT q = kT p := fun e => by
      unfold kT at e
      simp at e
      exact h (by rw [show p = q from (Prod.ext e.1 e.2).symm]; exact List.mem_cons_self)
    rw [if_neg e]
    exact look_R2_none fun z => h (List.mem_cons_of_mem _ z)
theorem kT_inj {p q : Pr} (e : kT p = kT q) : p = q := by
  unfold kT at e
  simp at e
  exact Prod.ext e.1 e.2
/-- the state of ranks' loop -/
structure RSt (M M' : Mem) (a b : Addr) (pre : List Pr) (rank : Pr → Int) (m : List (Key × Int)) : Prop where
  rk : RankOK pre rank
  mo : MostOK m pre rank
  ma : M' a = some (.dT ((encR2 rank pre).map fun e => (e.1, .py e.2)))
  mb : M' b = some (.dK (m.map fun e => (e.1, .py (.int e.2))))
  old : ∀ c o, M c = some o → M' c = some o
  len : m.length ≤ pre.length
theorem ok_ranks {c Pt : Addr} (Fn : FunC K "ranks" "ranks" s_ranks f fd c) (B : Bn K w mg) (LT : TbOk base mg T c Pt "ranks.<locals>.<lambda>") : FnOk P w K mg base CX0 1 f fd ["pairs"] (dSp K T f_ranks) := by
  refine dokC Fn sc_ranks (fun ds M P ⟨b, h, _⟩ => by rw [h]; rfl) (fun A outer s H E hr => ⟨_, (have nd := (sc_ranks).nd; (dss_cons (ds_set (i := 1) nd rfl (by first | exact Or.inl rfl | exact Or.inr rfl) (d_newT)) (dss_cons (ds_set (i := 2) nd rfl (by first | exact Or.inl rfl | exact Or.inr rfl) (d_newK)) (dss_cons (ds_for (Kx := K) (t := (.nm 3)) PassesOwn.never rfl (di_list (d_sortedKey2 LT hr (by rfl) B.sorted_ (dv 0) (by constructor <;> decide +kernel))) (pg_name (i := 3) nd rfl (by first | exact Or.inl rfl | exact Or.inr rfl)) (dss_cons (ds_dput (hu1 hr) (d_add d_int (d_maxD (hu1 hr) rfl (by rfl) B.max_ (d_lock 2 (d_lcG false (Kx := K) (t := (.nm 4)) rfl nd (di_keys (dv 2)) (blkOk_by (own := [("r", 4)]) (N := ["pairs", "found", "most", "pair", "r"]) (sc := defScope s_ranks) (by decide +kernel)) (by decide) (fun _ _ _ _ _ => (pg_name (i := 4) nd rfl (by first | exact Or.inl rfl | exact Or.inr rfl))) (fun _ _ _ _ _ => (dts_one (dt_lt (dv 4) (d_ix (dv 3) d_int)))) (fun _ _ _ _ _ => (d_dget (hu1 hr) (dv 2) (dv 4))))) d_int)) (dv 1) (dv 3)) (dss_one (ds_dput (hu1 hr) (pd_callB (call_max2 rfl) cd_max2 (by rfl) B.max_ (by decide +kernel) (da_cons (d_dget (hu1 hr) (dv 1) (dv 3)) (da_cons (d_get2 (hu1 hr) (dv 2) (d_ix (dv 3) d_int) d_int) da_nil))) (dv 2) (d_ix (dv 3) d_int))))) (dss_one (ds_ret (dv 1))))))), fun ds M P h => ?_⟩)
  obtain ⟨ps, rfl, hnd, hl, k⟩ := h
  have hs : sizeLine = 16777216 := sizeLine_eq
  walk_at "dS"
  intro a ha
  walk_at "dS"
  intro b hb
  have hab : b ≠ a := fun z => by rw [z, putM_same] at hb; cases hb
  have hbM : M b = none := by rw [putM_ne hab] at hb; exact hb
  walk_at "dS"
  refine ⟨ps, rfl, fun qs pm pw => ?_⟩
  refine .inl ⟨_, rfl, ?_⟩
  have hqn : qs.Nodup := pm.nodup_iff.mpr hnd
  have hql := pm.length_eq
  refine ⟨fun i δ M' => ∃ o3 o4 rank m, δ = [some (.py (encPs ps)), some (.own a), some (.own b), o3, o4] ∧ RSt M M' a b (qs.take i) rank m, ⟨_, _, fun _ => 0, [], rfl, ⟨⟨fun p hp => (by cases hp), fun p hp => (by cases hp), fun p hp => (by cases hp)⟩, ⟨fun p hp => (by cases hp), fun p hp => (by cases hp)⟩, (by rw [putM_ne (Ne.symm hab), putM_same]; rfl), putM_same, (mle_putM ha).trans (mle_putM hb), Nat.le_refl _⟩⟩, fun _ _ _ _ => trivial, fun δ M' h => ?_, fun i d δ M' hd h => ?_⟩
  · obtain ⟨o3, o4, rank, m, rfl, st⟩ := h
    rw [List.length_map, List.length_map, List.take_length] at st
    walk_at "dS"
    refine ⟨_, _, .trans (.dT (kvs := encR2 rank qs) st.ma) (.le (M' := M) ?_), k rank qs ⟨fun p hp => st.rk.one p (pm.mem_iff.mpr hp), fun p hp h => ?_, fun p hp q hq => st.rk.up p (pm.mem_iff.mpr hp) q (pm.mem_iff.mpr hq)⟩ pm⟩
    · intro x o hx
      unfold delMs
      rw [if_neg]
      · exact st.old x o hx
      · intro z
        rw [List.mem_singleton.mp z, ha] at hx
        cases hx
    · obtain ⟨q, hq, e⟩ := st.rk.back p (pm.mem_iff.mpr hp) h
      exact ⟨q, pm.mem_iff.mp hq, e⟩
  · obtain ⟨o3, o4, rank, m, rfl, st⟩ := h
    obtain ⟨p, hp, rfl⟩ := prs_at hd
    have hlt : i < qs.length := (List.getElem?_eq_some_iff.mp hp).1
    have etk : qs.take (i + 1) = qs.take i ++ [p] := by rw [List.take_add_one, hp]; rfl
    have hmi := st.len
    have hti : (qs.take i).length = i := by rw [List.length_take]; omega
    have hpn : p ∉ qs.take i := fun z => by
      have : (qs.take i ++ [p]).Nodup := by rw [← etk]; exact hqn.sublist (List.take_sublist _ _)
      rw [List.nodup_append] at this
      exact this.2.2 p z p List.mem_cons_self rfl
    have hso : ∀ q ∈ qs.take i, q.1 < p.1 ∨ (q.1 = p.1 ∧ p.2 ≤ q.2) := fun q hq => by
      obtain ⟨j, hj⟩ := List.getElem?_of_mem hq
      rw [List.getElem?_take] at hj
      split at hj
      · exact pw_at (R := fun p q : Pr => p.1 < q.1 ∨ (p.1 = q.1 ∧ q.2 ≤ p.2)) pw hj hp (by assumption)
      · cases hj
    refine ⟨_, rfl, ?_⟩
    walk_at "dS"
    refine ⟨b, m, rfl, st.mb, fun od => ?_⟩
    walk_at "dS"
    refine ⟨b, od, m, rfl, putM_same, ?_⟩
    have hM' : putM (putM M' b (.fK od m)) b (.dK (m.map fun e => (e.1, .py (.int e.2)))) = M' := by rw [putM_putM, putM_id st.mb]
    -- what stands behind the greatest
    have fin : ∀ W, NextW (qs.take i) rank p W → wDPut (wC (.py (.int (1 + W)))) (wVar 1) (wVar 3) { nx := wDPut (wCB fMax2 (wCons (wOp fDGet (wVar 1) (wVar 3)) (wCons (wGet2 (wVar 2) (wOp fIx (wVar 3) (wC (.py (.int 1)))) (wC (.py (.int 0)))) wNil))) (wVar 2) (wOp fIx (wVar 3) (wC (.py (.int 1)))) { nx := less fun δ M'' => ∃ o3 o4 rank m, δ = [some (.py (encPs ps)), some (.own a), some (.own b), o3, o4] ∧ RSt M M'' a b (qs.take (i + 1)) rank m, rt := (dEnds P).rt, bk := wRet (wVar 1) (dEnds P), ct := less fun δ M'' => ∃ o3 o4 rank m, δ = [some (.py (encPs ps)), some (.own a), some (.own b), o3, o4] ∧ RSt M M'' a b (qs.take (i + 1)) rank m }, rt := (dEnds P).rt, bk := wRet (wVar 1) (dEnds P), ct := less fun δ M'' => ∃ o3 o4 rank m, δ = [some (.py (encPs ps)), some (.own a), some (.own b), o3, o4] ∧ RSt M M'' a b (qs.take (i + 1)) rank m } [some (.py (encPs ps)), some (.own a), some (.own b), some (.py (prP p)), o4] M' := fun W hW => by
      have hnk : lookK ((encR2 rank (qs.take i)).map fun e => (e.1, Dat.py e.2)) (kT p) = none := by
        have := look_R2_none (rank := rank) hpn
        cases z : lookK ((encR2 rank (qs.take i)).map fun e => (e.1, Dat.py e.2)) (kT p) with
        | none => rfl
        | some y =>
          obtain ⟨e, he, e2⟩ := List.mem_map.mp (look_mem z)
          have e3 : e.1 = kT p := congrArg Prod.fst e2
          obtain ⟨y', hy'⟩ := look_some (k := kT p) (y := e.2) (by rw [← e3]; exact he)
          rw [this] at hy'
          cases hy'
      have ne : ∀ q ∈ qs.take i, q ≠ p := fun q hq e => hpn (e ▸ hq)
      have enew : (encR2 (rankNext rank p W) (qs.take i ++ [p])).map (fun e => (e.1, Dat.py e.2)) = ((encR2 rank (qs.take i)).map fun e => (e.1, Dat.py e.2)) ++ [(kT p, .py (.int (1 + W)))] := by
        unfold encR2
        rw [List.map_append, List.map_append]
        congr 1
        · congr 1
          refine List.map_congr_left fun q hq => ?_
          rw [rankNext_ne (ne q hq)]
        · show [(kT p, Dat.py (.int (rankNext rank p W p)))] = _
          rw [rankNext_self]
      have hma1 : putM M' a (.dT (putKD ((encR2 rank (qs.take i)).map fun e => (e.1, Dat.py e.2)) (kT p) (.py (.int (1 + W))))) a = some (.dT ((encR2 (rankNext rank p W) (qs.take i ++ [p])).map fun e => (e.1, Dat.py e.2))) := by
        rw [putM_same, putKD_snoc hnk, enew]
      have hmb1 : putM M' a (.dT (putKD ((encR2 rank (qs.take i)).map fun e => (e.1, Dat.py e.2)) (kT p) (.py (.int (1 + W))))) b = some (.dK (m.map fun e => (e.1, .py (.int e.2)))) := by rw [putM_ne hab]; exact st.mb
      refine s_dput ?_
      walk_at "dS"
      refine ⟨a, _, rfl, .t st.ma rfl ?_, ?_⟩
      · rw [List.length_map]
        unfold encR2
        rw [List.length_map, hti]
        omega
      walk_at "dS"
      refine ⟨_, .oT hma1 rfl (?_ : lookK _ (kT p) = some (Dat.py (.int (1 + W)))), ?_⟩
      · rw [enew, lookK_append, hnk, lookK_cons]
        simp
      walk_at "dS"
      refine ⟨⟨b, _, rfl, hmb1⟩, ?_⟩
      walk_at "dS"
      refine ⟨b, _, _, rfl, hmb1, rfl, ?_⟩
      have hgd : (lookK (m.map fun e => (e.1, Dat.py (.int e.2))) (.inl p.2)).getD (.py (.int 0)) = Dat.py (.int ((lookK m (.inl p.2)).getD 0)) := by
        rw [look_map2 (g := fun v => Dat.py (.int v))]
        cases lookK m (.inl p.2) <;> rfl
      rw [hgd]
      walk_at "dS"
      refine ⟨b, _, rfl, .k hmb1 rfl (by rw [List.length_map]; omega), ?_⟩
      refine s_less ⟨_, _, rankNext rank p W, putKD m (.inl p.2) (max (1 + W) ((lookK m (.inl p.2)).getD 0)), rfl, ?_⟩
      rw [etk]
      refine ⟨st.rk.next hpn hso hW, st.mo.next hpn hW, ?_, ?_, fun x o hx => ?_, ?_⟩
      · rw [putM_ne (Ne.symm hab)]
        exact hma1
      · rw [putM_same, put_map (g := fun v => Dat.py (.int v))]
      · rw [putM_ne fun z => by rw [z, hbM] at hx; cases hx]
        rw [putM_ne fun z => by rw [z, ha] at hx; cases hx]
        exact st.old x o hx
      · rw [List.length_append]
        exact Nat.le_trans put_len (Nat.succ_le_succ st.len)
    refine s_lcP m (fun e => keyD e.1) (fun e => match e.1 with | .inl r => decide (r < p.2) | .inr _ => false) (fun e => .int ((lookK m e.1).getD 0)) rfl ?_ (by omega) ?_ fun e he QT QF h1 h2 => ?_
    · exact putM_same
    · refine s_iteF ?_
      refine ⟨putM_same, ?_⟩
      rw [hM']
      walk_at "dS"
      refine ⟨_, (m.filter fun e => match e.1 with | .inl r => decide (r < p.2) | .inr _ => false).map (fun e => (lookK m e.1).getD 0), 0, rfl, rfl, ?_, fun hn => ?_, fun W hW1 hW2 => ?_⟩
      · show _ = _
        rw [List.map_map]
        rfl
      · refine s_addI ?_
        refine fin 0 ⟨fun q hq h => ?_, .inl rfl, Int.le_refl _⟩
        exfalso
        obtain ⟨v, hv, _⟩ := st.mo.up q hq
        rw [List.map_eq_nil_iff, List.filter_eq_nil_iff] at hn
        exact hn _ (look_mem hv) (by simpa using h)
      · refine s_addI ?_
        obtain ⟨e, he, hev⟩ := List.mem_map.mp hW1
        rw [List.mem_filter] at he
        obtain ⟨q, hq, hqe⟩ := st.mo.of e he.1
        obtain ⟨z, hz⟩ := look_some (m := m) (k := .inl q.2) (y := rank q) (by rw [← hqe]; exact he.1)
        obtain ⟨q', hq', hqe'⟩ := st.mo.of _ (look_mem hz)
        have hlt2 : q.2 < p.2 := by
          have := he.2
          rw [hqe] at this
          simpa using this
        have hWz : W = rank q' := by
          rw [← hev, hqe, hz]
          have : z = rank q' := congrArg Prod.snd hqe'
          exact this
        have hq2 : q'.2 = q.2 := by
          have := congrArg Prod.fst hqe'
          exact (Sum.inl.inj this).symm
        have h1 := st.rk.one q' hq'
        refine fin W ⟨fun x hx h => ?_, .inr ⟨q', hq', by omega, hWz.symm⟩, by omega⟩
        obtain ⟨v, hv, hle⟩ := st.mo.up x hx
        refine Int.le_trans hle (hW2 v (List.mem_map.mpr ⟨(.inl x.2, v), List.mem_filter.mpr ⟨look_mem hv, by simpa using h⟩, ?_⟩))
        show (lookK m (.inl x.2)).getD 0 = v
        rw [hv]
        rfl
    · obtain ⟨q, hq, rfl⟩ := st.mo.of e he
      obtain ⟨z, hz⟩ := look_some he
      refine ⟨_, rfl, ?_⟩
      walk_at "dS"
      refine s_IB ?_
      walk_at "dS"
      refine s_ite (fun h => ?_) fun h => ?_
      · walk_at "dS"
        refine ⟨_, .fK putM_same rfl hz, ?_⟩
        refine ⟨_, rfl, ?_⟩
        have := h1 h
        rw [hz] at this
        exact this
      · exact h2 h
theorem atI_last {α : Type} {l : List α} {x : α} : atI (l ++ [x]) (-1) = some x := by
  unfold atI ixN
  rw [List.length_append, if_neg (by omega), if_pos (by simp; omega)]
  have : (-1 + ((l.length + [x].length : Nat) : Int)).toNat = l.length := by simp; omega
  rw [this]
  simp
/-- the state of longest's loop -/
structure LSt (ps qs : List Pr) (rank : Pr → Int) (W : Int) (i : Nat) (F : List Pr) (wd : Int) : Prop where
  ge : 0 ≤ wd
  sum : (F.length : Int) + wd = W
  sub : ∀ p ∈ F, p ∈ ps
  ch : F.Pairwise fun p q => ahead q p = true
  last : ∀ l F0, F = F0 ++ [l] → rank l = wd + 1
  wit : 1 ≤ wd → ∃ x ∈ qs.drop i, rank x = wd ∧ ∀ l F0, F = F0 ++ [l] → ahead x l = true
def f_longest : WF := fun ds M P => ∃ ps : List Pr, ds = [.py (encPs ps)] ∧ ps.Nodup ∧ ps.length ≤ 1000 ∧ ∀ c : List Pr, (∀ p ∈ c, p ∈ ps) → c.Pairwise (fun p q => ahead p q = true) → Lis ps c.length → P (.py (encPs c)) M
theorem maxR_of {ps qs : List Pr} {rank : Pr → Int} (pm : qs.Perm ps) (h : RankOK ps rank) {W : Int} (h1 : (qs.map rank = [] ∧ W = 0) ∨ (W ∈ qs.map rank ∧ ∀ y ∈ qs.map rank, y ≤ W)) : MaxR ps rank W := by
  rcases h1 with ⟨e, rfl⟩ | ⟨hm, hu⟩
  · have : qs = [] := List.map_eq_nil_iff.mp e
    subst this
    have : ps = [] := List.nil_perm.mp pm
    subst this
    exact ⟨fun p hp => (by cases hp), .inl ⟨rfl, rfl⟩⟩
  · obtain ⟨p, hp, e⟩ := List.mem_map.mp hm
    exact ⟨fun p hp => hu _ (List.mem_map.mpr ⟨p, pm.mem_iff.mpr hp, rfl⟩), .inr ⟨p, pm.mem_iff.mp hp, e⟩⟩
theorem ahead_at {a b : Pr} (ha : ahead a b = true) {qs : List Pr} (hd : qs.Pairwise fun p q => pairLe q p = true) {i : Nat} (hb : qs[i]? = some b) (hm : a ∈ qs) : a ∈ qs.drop (i + 1) := by
  obtain ⟨j, hj⟩ := List.getElem?_of_mem hm
  rw [ahead_iff] at ha
  by_cases h : i < j
  · refine List.mem_of_getElem? (i := j - (i + 1)) ?_
    rw [List.getElem?_drop, ← hj]
    congr 1
    omega
  · exfalso
    by_cases e : i = j
    · rw [e, hj] at hb
      cases hb
      omega
    · have := pw_at (R := fun p q : Pr => pairLe q p = true) hd hj hb (by omega)
      rw [pairLe_iff] at this
      omega
theorem ok_longest (Fn : FunX K "longest" "longest" s_longest f fd) (B : Bn K w mg) (D_ranks : Dn P w K mg base T 1 "ranks" ["pairs"] [] f_ranks) : FnOk P w K mg base CX0 2 f fd ["pairs"] (dSp K T f_longest) := by
  refine dok Fn sc_longest (fun ds M P ⟨b, h, _⟩ => by rw [h]; rfl) (fun cdv A outer s H E hr => ⟨_, (have nd := (sc_longest).nd; (dss_cons (ds_set (i := 1) nd rfl (by first | exact Or.inl rfl | exact Or.inr rfl) (d_callN D_ranks (hr.mono (by decide)) (by rfl) (da_cons (dv 0) da_nil))) (dss_cons (ds_set (i := 2) nd rfl (by first | exact Or.inl rfl | exact Or.inr rfl) (d_maxD (hu1 hr) rfl (by rfl) B.max_ (d_listVals rfl (by rfl) B.list_ (dv 1)) d_int)) (dss_cons (ds_set (i := 3) nd rfl (by first | exact Or.inl rfl | exact Or.inr rfl) (d_lstM da_nil)) (dss_cons (ds_for (Kx := K) (t := (.nm 4)) PassesOwn.never rfl (di_list (d_sortedRev (by rfl) B.sorted_ (dv 0) d_bl)) (pg_name (i := 4) nd rfl (by first | exact Or.inl rfl | exact Or.inr rfl)) (dss_one (ds_if (PW.pt (dw_and (dt_eq hr.units (d_dget (hu1 hr) (dv 1) (dv 4)) (dv 2)) (dw_and1 (PW.pt (dw_or (dt_eq hr.units (dv 3) (d_lst da_nil)) (dw_or1 (PW.pt (dw_and (dt_lt (d_ix (dv 4) d_int) (d_ix (d_ix (dv 3) (d_neg d_int)) d_int)) (dw_and1 (dt_lt (d_ix (dv 4) d_int) (d_ix (d_ix (dv 3) (d_neg d_int)) d_int))))))))))) (dss_cons (ds_expr (pd_app (pe_bm PySem.F.plainAttrs_list PySem.F.slot_list_append PySem.F.type_list_append mt_append (dv 3) (da_cons (dv 4) da_nil)))) (dss_one (ds_aug (i := 2) nd rfl (by first | exact Or.inl rfl | exact Or.inr rfl) d_int ip_sub))) dss_nil))) (dss_one (ds_ret (d_rev (dv 3))))))))), fun ds M P h => ?_⟩)
  obtain ⟨ps, rfl, hnd, hl, k⟩ := h
  have hs : sizeLine = 16777216 := sizeLine_eq
  walk_at "dS"
  refine ⟨ps, rfl, hnd, hl, fun rank qs0 rk pm0 => ?_⟩
  walk_at "dS"
  refine ⟨encR2 rank qs0, rfl, ?_⟩
  walk_at "dS"
  have hv : (encR2 rank qs0).map (·.2) = (qs0.map rank).map .int := by
    unfold encR2
    rw [List.map_map, List.map_map]
    rfl
  rw [hv]
  -- what stands behind the greatest rank
  have fin : ∀ W, MaxR ps rank W → (fun d M1 =>
      ∃ δ', bindD (Tgt.nm 2) d (List.set (startD [Str.ofString "pairs", Str.ofString "rank", Str.ofString "wanted", Str.ofString "found", Str.ofString "pair"].length [Dat.py (encPs ps)]) 1 (some (Dat.dT (encR2 rank qs0)))) = some δ' ∧ wSeq (wAsg (wLstM wNil) (Tgt.nm 3)) (wSeq (wFor (wIL (wCBK fSortedR (wCons (wVar 0) wNil) (wCons (wC (Dat.py (PyData.bool true))) wNil))) (Tgt.nm 4) (wIf (wAnd (wB (wOp fEq (wOp fDGet (wVar 1) (wVar 4)) (wVar 2))) (wOr (wB (wOp fEq (wVar 3) (wLst wNil))) (wAnd (wB (wOp fLt (wOp fIx (wVar 4) (wC (Dat.py (PyData.int 0)))) (wOp fIx (wOp fIx (wVar 3) (wUn fNeg (wC (Dat.py (PyData.int 1))))) (wC (Dat.py (PyData.int 0)))))) (wB (wOp fLt (wOp fIx (wVar 4) (wC (Dat.py (PyData.int 1)))) (wOp fIx (wOp fIx (wVar 3) (wUn fNeg (wC (Dat.py (PyData.int 1))))) (wC (Dat.py (PyData.int 1))))))))) (wSeq (wDrop (wApp (wVar 3) (wCons (wVar 4) wNil))) (wAugS 2 (wC (Dat.py (PyData.int 1))) fun i j => i - j)) wNext)) (wRet (wUn fRev (wVar 3)))) (dEnds P) δ' M1) (Dat.py (PyData.int W)) M := fun W hW => by
    walk_at "dS"
    refine s_mk (by decide) fun b hb => ?_
    walk_at "dS"
    refine ⟨_, ps, rfl, rfl, rfl, fun qs pm pw => ?_⟩
    walk_at "dS"
    have hqd : qs.Nodup := pm.nodup_iff.mpr hnd
    have hR : RankOK ps rank := rk
    refine ⟨fun i δ M' => ∃ wd F o4, δ = [some (.py (encPs ps)), some (.dT (encR2 rank qs0)), some (.py (.int wd)), some (.own b), o4] ∧ M' = putM M b (.lst ((F.map prP).map .py)) ∧ LSt ps qs rank W i F wd, ⟨W, [], none, rfl, rfl, ?_⟩, fun _ _ _ _ => trivial, fun δ M' h => ?_, fun i d δ M' hd h => ?_⟩
    · refine ⟨?_, by simp, by simp, List.Pairwise.nil, fun l F0 e => by simp at e, fun h1 => ?_⟩
      · rcases hW.2 with ⟨_, h⟩ | ⟨p, hp, h⟩
        · omega
        · have := hR.one p hp
          omega
      · rcases hW.2 with ⟨_, h⟩ | ⟨p, hp, h⟩
        · omega
        · exact ⟨p, by rw [List.drop_zero]; exact pm.mem_iff.mpr hp, h, fun l F0 e => by simp at e⟩
    · obtain ⟨wd, F, o4, rfl, rfl, st⟩ := h
      rw [List.length_map, List.length_map] at st
      have hw0 : wd = 0 := by
        have h0 := st.ge
        by_cases h1 : 1 ≤ wd
        · obtain ⟨x, hx, _⟩ := st.wit h1
          rw [List.drop_length] at hx
          cases hx
        · omega
      have hlen := st.sum
      walk_at "dS"
      refine s_revO putM_same ?_
      rw [← List.map_reverse]
      refine rt_le (mle_putM hb) (k F.reverse (fun p hp => st.sub p (List.mem_reverse.mp hp)) (List.pairwise_reverse.mpr st.ch) ⟨rank, hR, ?_⟩)
      rw [List.length_reverse, show (F.length : Int) = W by omega]
      exact hW
    · obtain ⟨wd, F, o4, rfl, rfl, st⟩ := h
      obtain ⟨p, hp, rfl⟩ := prs_at hd
      have hpm : p ∈ ps := pm.mem_iff.mp (List.mem_of_getElem? hp)
      have hp0 : p ∈ qs0 := pm0.mem_iff.mpr hpm
      have hFl : F.length ≤ ps.length := by
        have h1 : F.Nodup := st.ch.imp fun {a b} h e => by
          rw [e, ahead_iff] at h
          omega
        exact nodup_len h1 st.sub
      refine ⟨_, rfl, ?_⟩
      have hdrop : qs.drop i = p :: qs.drop (i + 1) := by
        obtain ⟨hlt, e⟩ := List.getElem?_eq_some_iff.mp hp
        rw [List.drop_eq_getElem_cons hlt, e]
      have no : (rank p = wd → ∀ l F0, F = F0 ++ [l] → ahead p l = false) → (rank p = wd → F ≠ []) → LSt ps qs rank W (i + 1) F wd := fun h h' => ⟨st.ge, st.sum, st.sub, st.ch, st.last, fun h1 => by
        obtain ⟨x, hx, hx2, hx3⟩ := st.wit h1
        rw [hdrop] at hx
        rcases List.mem_cons.mp hx with rfl | hx
        · exfalso
          rcases List.eq_nil_or_concat F with e | ⟨F0, l, e⟩
          · exact h' hx2 e
          · rw [List.concat_eq_append] at e
            have h5 := h hx2 l F0 e
            rw [hx3 l F0 e] at h5
            cases h5
        · exact ⟨x, hx, hx2, hx3⟩⟩
      have yes : rank p = wd → (∀ l F0, F = F0 ++ [l] → ahead p l = true) → LSt ps qs rank W (i + 1) (F ++ [p]) (wd - 1) := fun h h2 => by
        have h1 := hR.one p hpm
        refine ⟨by omega, ?_, fun q hq => ?_, ?_, fun l F0 e => ?_, fun h3 => ?_⟩
        · have := st.sum
          rw [List.length_append]
          show ((F.length + 1 : Nat) : Int) + (wd - 1) = W
          omega
        · rcases List.mem_append.mp hq with h | h
          · exact st.sub q h
          · rw [List.mem_singleton.mp h]
            exact hpm
        · rw [List.pairwise_append]
          refine ⟨st.ch, List.pairwise_singleton _ _, fun q hq r hr => ?_⟩
          rw [List.mem_singleton.mp hr]
          rcases List.eq_nil_or_concat F with e | ⟨F0, l, e⟩
          · rw [e] at hq
            cases hq
          · rw [List.concat_eq_append] at e
            have h5 := h2 l F0 e
            rw [e] at hq
            rcases List.mem_append.mp hq with h | h
            · have h6 := st.ch
              rw [e, List.pairwise_append] at h6
              have h7 := h6.2.2 q h l List.mem_cons_self
              rw [ahead_iff] at h5 h7 ⊢
              omega
            · rw [List.mem_singleton.mp h]
              exact h5
        · have := List.append_inj' e rfl
          have h5 : p = l := by simpa using this.2
          rw [← h5]
          omega
        · obtain ⟨q, hq, h5, h6⟩ := hR.back p hpm (by omega)
          refine ⟨q, ahead_at h5 pw hp (pm.mem_iff.mpr hq), by omega, fun l F0 e => ?_⟩
          have := List.append_inj' e rfl
          have h8 : p = l := by simpa using this.2
          rw [← h8]
          exact h5
      have upd : LSt ps qs rank W (i + 1) (F ++ [p]) (wd - 1) → F.length < 16777216 → True := fun _ _ => trivial
      walk_at "dS"
      refine ⟨_, .sT (kvs := encR2 rank qs0) rfl (look_R2 hp0), ?_⟩
      walk_at "dS"
      refine s_iteD (fun hr => ?_) fun hr => ?_
      · walk_at "dS"
        refine s_eqNilO putM_same (shaped_prs F) ?_
        walk_at "dS"
        have app : LSt ps qs rank W (i + 1) (F ++ [p]) (wd - 1) → (wSeq (wDrop (wApp (wVar 3) (wCons (wVar 4) wNil))) (wAugS 2 (wC (Dat.py (PyData.int 1))) fun i j => i - j)
            { nx := less fun δ M' => ∃ wd F o4, δ = [some (Dat.py (encPs ps)), some (Dat.dT (encR2 rank qs0)), some (Dat.py (PyData.int wd)), some (Dat.own b), o4] ∧ M' = putM M b (MO.lst (List.map Dat.py (List.map prP F))) ∧ LSt ps qs rank W (i + 1) F wd,
              rt := (dEnds P).rt, bk := wRet (wUn fRev (wVar 3)) (dEnds P),
              ct := less fun δ M' => ∃ wd F o4, δ = [some (Dat.py (encPs ps)), some (Dat.dT (encR2 rank qs0)), some (Dat.py (PyData.int wd)), some (Dat.own b), o4] ∧ M' = putM M b (MO.lst (List.map Dat.py (List.map prP F))) ∧ LSt ps qs rank W (i + 1) F wd }
            ([some (Dat.py (encPs ps)), some (Dat.dT (encR2 rank qs0)), some (Dat.py (PyData.int wd)), some (Dat.own b), o4].set 4 (some (Dat.py (prP p))))
            (putM M b (MO.lst (List.map Dat.py (List.map prP F))))) := fun hst => by
          walk_at "dS"
          refine s_own putM_same ?_
          walk_at "dS"
          refine ⟨b, _, _, rfl, rfl, putM_same, by rw [List.length_map, List.length_map]; omega, ?_⟩
          walk_at "dS"
          refine s_aug rfl ?_
          walk_at "dS"
          refine s_less ⟨wd - 1, F ++ [p], _, rfl, ?_, hst⟩
          rw [putM_putM, List.map_append, List.map_append]
          rfl
        refine s_iteD (fun hF => ?_) fun hF => ?_
        · have hF2 : F = [] := List.map_eq_nil_iff.mp hF
          refine s_iteT ?_
          exact app (yes hr fun l F0 e => by rw [hF2] at e; simp at e)
        · have hF2 : F ≠ [] := fun e => hF (by rw [e]; rfl)
          rcases List.eq_nil_or_concat F with e | ⟨F0, l, e⟩
          · exact absurd e hF2
          rw [List.concat_eq_append] at e
          have hix : atI ((F.map prP).map Dat.py) (-1) = some (.py (prP l)) := by
            rw [e, List.map_append, List.map_append]
            exact atI_last
          have hl2 : ∀ l' F1, F = F1 ++ [l'] → l' = l := fun l' F1 e' => by
            rw [e] at e'
            have := (List.append_inj' e' rfl).2
            simpa using this.symm
          walk_at "dS"
          refine s_ixO putM_same hix ?_
          walk_at "dS"
          refine s_iteD (fun h1 => ?_) fun h1 => ?_
          · walk_at "dS"
            refine s_ixO putM_same hix ?_
            walk_at "dS"
            refine s_iteD (fun h2 => ?_) fun h2 => ?_
            · exact app (yes hr fun l' F1 e' => by rw [hl2 l' F1 e', ahead_iff]; exact ⟨h1, h2⟩)
            · walk_at "dS"
              exact s_less ⟨wd, F, _, rfl, rfl, no (fun _ l' F1 e' => by rw [hl2 l' F1 e', Bool.eq_false_iff]; intro z; rw [ahead_iff] at z; exact h2 z.2) fun _ => hF2⟩
          · walk_at "dS"
            exact s_less ⟨wd, F, _, rfl, rfl, no (fun _ l' F1 e' => by rw [hl2 l' F1 e', Bool.eq_false_iff]; intro z; rw [ahead_iff] at z; exact h1 z.1) fun _ => hF2⟩
      · walk_at "dS"
        exact s_less ⟨wd, F, _, rfl, rfl, no (fun h => absurd h hr) fun h => absurd h hr⟩
  refine ⟨_, qs0.map rank, 0, rfl, rfl, rfl, fun hn => fin 0 (maxR_of pm0 rk (.inl ⟨hn, rfl⟩)), fun W h1 h2 => fin W (maxR_of pm0 rk (.inr ⟨h1, h2⟩))⟩
end
end RO
namespace RO
open PySem PySem.Spec PyProof.Rows L2 DL
section
variable {P : Program} {w : World} {K : PySem.W.Frag} {mg : Str → Option Value} {base : Heap} {T : List (Addr × Str)} {f : Addr} {fd : FuncData}
theorem flat_perm {κ : Type} [DecidableEq κ] {kf : Pr → κ} : ∀ (ks : List κ), ks.Nodup → ∀ qs : List Pr, (ks.map fun k => qs.filter fun p => decide (kf p = k)).flatten.Perm (qs.filter fun p => decide (kf p ∈ ks))
  | [], _, qs => by simp
  | k :: ks, hn, qs => by
    rw [List.nodup_cons] at hn
    rw [List.map_cons, List.flatten_cons]
    have ih := flat_perm (kf := kf) ks hn.2 qs
    have h := List.filter_append_perm (fun p => decide (kf p = k)) (qs.filter fun p => decide (kf p ∈ k :: ks))
    refine .trans ?_ h
    rw [List.filter_filter, List.filter_filter]
    refine .append ?_ (.trans ih ?_)
    · refine .of_eq (List.filter_congr fun p _ => ?_)
      by_cases e : kf p = k
      · simp [e]
      · simp [e]
    · refine .of_eq (List.filter_congr fun p _ => ?_)
      by_cases e : kf p = k
      · simp [e, hn.1]
      · simp [e]
theorem filter_all {qs : List Pr} {f : Pr → Bool} (h : ∀ p ∈ qs, f p = true) : qs.filter f = qs := List.filter_eq_self.mpr h
/-- the ranks are 1, 2 and so on -/
theorem ranks_count {ps : List Pr} {rank : Pr → Int} (h : RankOK ps rank) {ks : List Int} (hn : ks.Nodup) (h1 : ∀ k ∈ ks, ∃ p ∈ ps, rank p = k) (h2 : ∀ p ∈ ps, rank p ∈ ks) : Lis ps ks.length := by
  have down : ∀ (n : Nat) (p : Pr), p ∈ ps → rank p = n → ∀ m : Nat, 1 ≤ m → m ≤ n → (m : Int) ∈ ks := by
    intro n
    induction n with
    | zero => intro p hp e m h3 h4; omega
    | succ n ih =>
      intro p hp e m h3 h4
      by_cases e2 : m = n + 1
      · rw [e2, ← e]
        exact h2 p hp
      · obtain ⟨q, hq, _, e3⟩ := h.back p hp (by omega)
        exact ih q hq (by rw [e3, e]; push_cast; omega) m h3 (by omega)
  have mx : ∃ W : Int, MaxR ps rank W := by
    have : ∀ l : List Pr, (∀ p ∈ l, p ∈ ps) → (l = [] ∨ ∃ p ∈ l, ∀ q ∈ l, rank q ≤ rank p) := by
      intro l
      induction l with
      | nil => exact fun _ => .inl rfl
      | cons a r ih =>
        intro hs
        refine .inr ?_
        rcases ih fun p hp => hs p (List.mem_cons_of_mem _ hp) with e | ⟨p, hp, hle⟩
        · subst e
          refine ⟨a, List.mem_cons_self, fun q hq => ?_⟩
          rw [List.mem_singleton.mp hq]
          exact Int.le_refl _
        · by_cases c : rank a ≤ rank p
          · refine ⟨p, List.mem_cons_of_mem _ hp, fun q hq => ?_⟩
            rcases List.mem_cons.mp hq with rfl | hq
            · exact c
            · exact hle q hq
          · refine ⟨a, List.mem_cons_self, fun q hq => ?_⟩
            rcases List.mem_cons.mp hq with rfl | hq
            · exact Int.le_refl _
            · exact Int.le_trans (hle q hq) (by omega)
    rcases this ps fun _ h => h with e | ⟨p, hp, hle⟩
    · exact ⟨0, ⟨fun p hp => (by rw [e] at hp; cases hp), .inl ⟨e, rfl⟩⟩⟩
    · exact ⟨rank p, ⟨hle, .inr ⟨p, hp, rfl⟩⟩⟩
  obtain ⟨W, hW⟩ := mx
  have hW0 : 0 ≤ W := by
    rcases hW.2 with ⟨_, h⟩ | ⟨p, hp, e⟩
    · omega
    · have := h.one p hp
      omega
  let rg : List Int := (List.range W.toNat).map fun n : Nat => (n : Int) + 1
  have rgn : rg.Nodup := by
    refine List.Pairwise.map _ (fun a b hab => ?_) (List.nodup_range (n := W.toNat))
    intro e
    exact hab (by omega)
  have a1 : ks.length ≤ rg.length := nodup_len hn fun k hk => by
    obtain ⟨p, hp, e⟩ := h1 k hk
    have e1 := h.one p hp
    have e2 := hW.1 p hp
    refine List.mem_map.mpr ⟨(k - 1).toNat, List.mem_range.mpr (by omega), by omega⟩
  have a2 : rg.length ≤ ks.length := nodup_len rgn fun k hk => by
    obtain ⟨n, hn', e⟩ := List.mem_map.mp hk
    rw [List.mem_range] at hn'
    rcases hW.2 with ⟨_, h⟩ | ⟨p, hp, e2⟩
    · omega
    · have := down W.toNat p hp (by omega) (n + 1) (by omega) (by omega)
      rw [← e]
      exact_mod_cast this
  refine ⟨rank, h, ?_⟩
  have a3 : rg.length = W.toNat := by simp [rg]
  have : (ks.length : Int) = W := by omega
  rw [this]
  exact hW
theorem Gk_ne {κ : Type} [DecidableEq κ] {kf : Pr → κ} : ∀ {qs : List Pr} {g : κ × List Pr}, g ∈ Gk kf qs → g.2 ≠ [] := by
  intro qs
  refine snocRec (motive := fun qs => ∀ {g : κ × List Pr}, g ∈ Gk kf qs → g.2 ≠ []) qs (fun h => by cases h) fun l a ih g h => ?_
  rw [Gk_snoc] at h
  unfold stepG at h
  split at h
  · obtain ⟨g0, h0, e⟩ := List.mem_map.mp h
    split at e
    · rw [← e]
      simp
    · rw [← e]
      exact ih h0
  · rcases List.mem_append.mp h with h | h
    · exact ih h
    · rw [List.mem_singleton.mp h]
      simp
/-- layers of a line's pairs -/
structure Lay (ps : List Pr) (L : List (List Pr)) : Prop where
  perm : L.flatten.Perm ps
  ne : ∀ c ∈ L, c ≠ []
  lex : ∀ c ∈ L, c.Pairwise lexLt
  no : ∀ c ∈ L, ∀ p ∈ c, ∀ q ∈ c, ahead p q = false
  lis : Lis ps L.length
def f_layers : WF := fun ds M P => ∃ ps : List Pr, ds = [.py (encPs ps)] ∧ ps.Nodup ∧ ps.length ≤ 1000 ∧ ∀ L : List (List Pr), Lay ps L → P (.py (encS L)) M
theorem lay_of {ps qs : List Pr} {rank : Pr → Int} (hnd : ps.Nodup) (pm : qs.Perm ps) (pw : qs.Pairwise fun p q => pairLe p q = true) (rk : RankOK ps rank) {ks : List Int} (pk : ks.Perm ((Gk rank qs).map (·.1))) : Lay ps (ks.map fun k => qs.filter fun p => decide (rank p = k)) := by
  have G := Gk_ok (kf := rank) qs
  have hn : ks.Nodup := pk.nodup_iff.mpr G.nd
  have hq : qs.Pairwise lexLt := lex_of_sorted pw (pm.nodup_iff.mpr hnd)
  have k1 : ∀ k ∈ ks, ∃ p ∈ qs, rank p = k := fun k hk => by
    obtain ⟨g, hg, e⟩ := List.mem_map.mp (pk.mem_iff.mp hk)
    have := Gk_ne hg
    have fl := G.fl g hg
    cases z : g.2 with
    | nil => exact absurd z this
    | cons p r =>
      have hp : p ∈ g.2 := by rw [z]; exact List.mem_cons_self
      rw [fl, List.mem_filter] at hp
      exact ⟨p, hp.1, by rw [← e]; simpa using hp.2⟩
  have k2 : ∀ p ∈ qs, rank p ∈ ks := fun p hp => by
    obtain ⟨g, hg, e⟩ := G.all p hp
    exact pk.mem_iff.mpr (List.mem_map.mpr ⟨g, hg, e⟩)
  refine ⟨?_, fun c hc => ?_, fun c hc => ?_, fun c hc p hp q hq' => ?_, ?_⟩
  · refine .trans (flat_perm ks hn qs) (.trans (.of_eq (filter_all fun p hp => ?_)) pm)
    exact decide_eq_true (k2 p hp)
  · obtain ⟨k, hk, rfl⟩ := List.mem_map.mp hc
    obtain ⟨p, hp, e⟩ := k1 k hk
    intro z
    rw [List.filter_eq_nil_iff] at z
    exact z p hp (decide_eq_true e)
  · obtain ⟨k, hk, rfl⟩ := List.mem_map.mp hc
    exact hq.sublist List.filter_sublist
  · obtain ⟨k, hk, rfl⟩ := List.mem_map.mp hc
    rw [List.mem_filter] at hp hq'
    rw [Bool.eq_false_iff]
    intro z
    have := rk.up p (pm.mem_iff.mp hp.1) q (pm.mem_iff.mp hq'.1) z
    have e1 : rank p = k := by simpa using hp.2
    have e2 : rank q = k := by simpa using hq'.2
    omega
  · rw [List.length_map]
    exact ranks_count rk hn (fun k hk => by obtain ⟨p, hp, e⟩ := k1 k hk; exact ⟨p, pm.mem_iff.mp hp, e⟩) fun p hp => k2 p (pm.mem_iff.mpr hp)
theorem ok_layers (Fn : FunX K "layers" "layers" s_layers f fd) (B : Bn K w mg) (D_ranks : Dn P w K mg base T 1 "ranks" ["pairs"] [] f_ranks) : FnOk P w K mg base CX0 2 f fd ["pairs"] (dSp K T f_layers) := by
  refine dok Fn sc_layers (fun ds M P ⟨b, h, _⟩ => by rw [h]; rfl) (fun cdv A outer s H E hr => ⟨_, (have nd := (sc_layers).nd; (dss_cons (ds_set (i := 1) nd rfl (by first | exact Or.inl rfl | exact Or.inr rfl) (d_newK)) (dss_cons (ds_set (i := 2) nd rfl (by first | exact Or.inl rfl | exact Or.inr rfl) (d_callN D_ranks (hr.mono (by decide)) (by rfl) (da_cons (dv 0) da_nil))) (dss_cons (ds_for (Kx := K) (t := (.nm 3)) PassesOwn.never rfl (di_list (pd_callB cr_sortedPO cd_sorted (by rfl) B.sorted_ (by decide +kernel) (da_cons (dv 0) da_nil))) (pg_name (i := 3) nd rfl (by first | exact Or.inl rfl | exact Or.inr rfl)) (dss_one (ds_expr (pd_app (pe_bm PySem.F.plainAttrs_list PySem.F.slot_list_append PySem.F.type_list_append mt_append (d_setdef (dv 1) (d_dget (hu1 hr) (dv 2) (dv 3)) (d_lstM da_nil)) (da_cons (dv 3) da_nil)))))) (dss_one (ds_ret (d_pre 1 (d_lcG false (Kx := K) (t := (.nm 4)) rfl nd (di_list (pd_callB cr_sortedI cd_sortedI (by rfl) B.sorted_ (by decide +kernel) (da_cons (pd_callTy (call_list_dK rfl) cd_listDK (by rfl) B.list_ (by decide +kernel) (da_cons (dv 1) da_nil)) da_nil))) (blkOk_by (own := [("one", 4)]) (N := ["pairs", "found", "rank", "pair", "one"]) (sc := defScope s_layers) (by decide +kernel)) (by decide) (fun _ _ _ _ _ => (pg_name (i := 4) nd rfl (by first | exact Or.inl rfl | exact Or.inr rfl))) (fun _ _ _ _ _ => dts_nil) (fun _ _ _ _ _ => (d_dget (hu1 hr) (dv 1) (dv 4))))))))))), fun ds M P h => ?_⟩)
  obtain ⟨ps, rfl, hnd, hl, k⟩ := h
  have hs : sizeLine = 16777216 := sizeLine_eq
  walk_at "dS"
  intro a ha
  walk_at "dS"
  refine ⟨ps, rfl, hnd, hl, fun rank qs0 rk pm0 => ?_⟩
  walk_at "dS"
  refine ⟨_, ps, rfl, rfl, fun qs pm pw => ?_⟩
  refine .inl ⟨_, rfl, ?_⟩
  have hql := pm.length_eq
  refine ⟨fun i δ M' => ∃ o3 o4 ls, δ = [some (.py (encPs ps)), some (.own a), some (.dT (encR2 rank qs0)), o3, o4] ∧ GSt .inl M M' a (Gk rank (qs.take i)) ls, ⟨_, _, [], rfl, rfl, putM_same, fun g hg => (by cases hg), List.nodup_nil, mle_putM ha⟩, fun _ _ _ _ => trivial, fun δ M' h => ?_, fun i d δ M' hd h => ?_⟩
  · obtain ⟨o3, o4, ls, rfl, st⟩ := h
    rw [List.length_map, List.length_map, List.take_length] at st
    walk_at "dS"
    let kvs : List (Key × Addr × List PyData) := ls.map fun g => (.inl g.1, g.2.1, g.2.2.map prP)
    have e1 : ls.map (fun g => ((Sum.inl g.1 : Key), Dat.own g.2.1)) = kvs.map fun p => (p.1, .own p.2.1) := by rw [List.map_map]; rfl
    have e2 : kvs.map (fun p => p.2.1) = ls.map fun g => g.2.1 := by rw [List.map_map]; rfl
    let gv : List (Int × PyData) := (Gk rank qs).map fun g => (g.1, encPs g.2)
    have e3 : kvs.map (fun p => (p.1, PyData.list p.2.2)) = gv.map fun p => ((Sum.inl p.1 : Key), p.2) := by
      show (ls.map _).map _ = ((Gk rank qs).map _).map _
      rw [← st.eq, List.map_map, List.map_map, List.map_map]
      rfl
    have dk := st.dk
    rw [e1] at dk
    have hle : MLe M (delMs M' (a :: kvs.map fun p => p.2.1)) := fun c o hc => by
      rw [e2]
      unfold delMs
      rw [if_neg]
      · exact st.old c o hc
      · intro z
        rcases List.mem_cons.mp z with z | z
        · rw [z, ha] at hc
          cases hc
        · obtain ⟨g, hg, e⟩ := List.mem_map.mp z
          rw [← e, (st.at_ g hg).2.1] at hc
          cases hc
    refine ⟨_, _, _, rfl, .dKL dk fun p hp => ?_, ?_⟩
    · obtain ⟨g, hg, rfl⟩ := List.mem_map.mp hp
      exact (st.at_ g hg).1
    rw [e3]
    walk_at "dS"
    refine ⟨gv, rfl, ?_⟩
    have e4 : gv.map (fun p => PyData.int p.1) = ((Gk rank qs).map (·.1)).map .int := by
      show ((Gk rank qs).map _).map _ = _
      rw [List.map_map, List.map_map]
      rfl
    rw [e4]
    walk_at "dS"
    refine ⟨_, _, rfl, rfl, fun ks pk _ => ?_⟩
    walk_at "dS"
    have hkl : ks.length ≤ 1000 := by
      have := pk.length_eq
      rw [List.length_map] at this
      have := Gk_len (kf := rank) qs
      omega
    have G := Gk_ok (kf := rank) qs
    refine s_lcP ks (fun k => .py (.int k)) (fun _ => true) (fun k => encPs (qs.filter fun p => decide (rank p = k))) (by rw [List.map_map]; rfl) ?_ (by omega) ?_ fun x hx QT QF h1 h2 => ?_
    · trivial
    · rw [if_neg (by decide)]
      rw [List.filter_eq_self.mpr fun _ _ => rfl]
      have := k _ (lay_of hnd pm pw rk pk)
      refine rt_le hle ?_
      unfold encS at this
      rw [List.map_map] at this
      exact this
    · refine ⟨_, rfl, ?_⟩
      walk_at "dS"
      obtain ⟨g, hg, e⟩ := List.mem_map.mp (pk.mem_iff.mp hx)
      refine ⟨_, .sK (k := .inl x) rfl (y := encPs (qs.filter fun p => decide (rank p = x))) ?_, ?_⟩
      · obtain ⟨z, hz⟩ := look_some (m := gv.map fun p => ((Sum.inl p.1 : Key), p.2)) (k := .inl x) (y := encPs g.2) (by rw [List.map_map]; exact List.mem_map.mpr ⟨g, hg, by rw [← e]; rfl⟩)
        rw [hz]
        obtain ⟨p, hp, e5⟩ := List.mem_map.mp (look_mem hz)
        obtain ⟨g', hg', rfl⟩ := List.mem_map.mp hp
        have e6 : g'.1 = x := Sum.inl.inj (congrArg Prod.fst e5)
        have e7 : encPs g'.2 = z := congrArg Prod.snd e5
        rw [← e7, G.fl g' hg', e6]
      · exact ⟨_, rfl, h1 rfl⟩
  · obtain ⟨o3, o4, ls, rfl, st⟩ := h
    obtain ⟨p, hp, rfl⟩ := prs_at hd
    have hlt : i < qs.length := (List.getElem?_eq_some_iff.mp hp).1
    have hp0 : p ∈ qs0 := pm0.mem_iff.mpr (pm.mem_iff.mp (List.mem_of_getElem? hp))
    have etk : qs.take (i + 1) = qs.take i ++ [p] := by rw [List.take_add_one, hp]; rfl
    refine ⟨_, rfl, ?_⟩
    walk_at "dS"
    refine ⟨⟨a, _, rfl, st.dk⟩, ?_⟩
    walk_at "dS"
    refine ⟨_, .sT (kvs := encR2 rank qs0) rfl (look_R2 hp0), ?_⟩
    walk_at "dS"
    refine s_mk (by decide) fun c hc => ?_
    exact gst_app (kf := rank) (ky := .inl) (p := p) (kd := .py (.int (rank p))) (Nx := fun M2 => less (fun δ M' => ∃ o3 o4 ls, δ = [some (.py (encPs ps)), some (.own a), some (.dT (encR2 rank qs0)), o3, o4] ∧ GSt .inl M M' a (Gk rank (qs.take (i + 1))) ls) [some (.py (encPs ps)), some (.own a), some (.dT (encR2 rank qs0)), some (.py (prP p)), o4] M2) (fun x y e => Sum.inl.inj e) st (by rw [List.length_take]; omega) ha rfl hc (fun M1 M2 ls' e st' => s_lessTo e ⟨_, _, ls', rfl, by rw [etk]; exact st'⟩) fun M3 Q h => ⟨_, rfl, h⟩
end
end RO
namespace DL
open PySem PySem.Spec PyProof.Rows L2
section
variable {M : Mem} {δ : DEnv}
theorem paired_snoc {α β : Type} {R : α → β → Prop} : ∀ {xs : List α} {zs : List β} {x : α} {z : β}, Paired R xs zs → R x z → Paired R (xs ++ [x]) (zs ++ [z])
  | _, _, _, _, .nil, h => .cons h .nil
  | _, _, _, _, .cons h t, h' => .cons h (paired_snoc t h')
theorem paired_len {α β : Type} {R : α → β → Prop} : ∀ {xs : List α} {zs : List β}, Paired R xs zs → xs.length = zs.length
  | _, _, .nil => rfl
  | _, _, .cons _ t => congrArg Nat.succ (paired_len t)
/-- a comprehension that changes nothing, of values that only a relation tells -/
theorem s_lcN {α β : Type} (xs : List α) (enc : α → Dat) (Rel : α → β → Prop) (fn : β → PyData) {tg : Tgt} {vs : List Nat} {tt : WT} {te : WE} {its : List Dat} {Gd : Mem → Prop} (hi : its = xs.map enc) (hG : Gd M) (hl : xs.length ≤ sizeLine) {PE : List PyData → Mem → Prop}
    (hend : ∀ zs, Paired Rel xs zs → PE (zs.map fn) M)
    (hstep : ∀ x ∈ xs, ∀ (QT : PyData → Mem → Prop) (QF : Mem → Prop), (∀ z, Rel x z → QT (fn z) M) → ∃ δ', bindD tg (enc x) (wipeD δ vs) = some δ' ∧ tt δ' M fun b M2 => if b = true then te δ' M2 fun y M3 => ∃ z, y = .py z ∧ QT z M3 else QF M2) :
    ∃ Iv : Nat → List PyData → Mem → Prop, Iv 0 [] M ∧ (∀ i acc M, Iv i acc M → Gd M) ∧
  (∀ acc M, Iv its.length acc M → PE acc M) ∧
  ∀ i d acc M, its[i]? = some d → Iv i acc M → ∃ δ', bindD tg d (wipeD δ vs) = some δ' ∧ tt δ' M fun b M2 => if b = true then te δ' M2 fun y M3 => ∃ z, y = .py z ∧ acc.length < sizeLine ∧ Iv (i + 1) (acc ++ [z]) M3 else Iv (i + 1) acc M2 := by
  subst hi
  refine ⟨fun i acc M' => M' = M ∧ ∃ zs, acc = zs.map fn ∧ Paired Rel (xs.take i) zs, ⟨rfl, [], rfl, .nil⟩, fun i acc M' h => by rw [h.1]; exact hG, fun acc M' h => ?_, fun i d acc M' hd h => ?_⟩
  · obtain ⟨rfl, zs, rfl, hp⟩ := h
    rw [List.length_map, List.take_length] at hp
    exact hend zs hp
  · obtain ⟨rfl, zs, rfl, hp⟩ := h
    rw [List.getElem?_map] at hd
    obtain ⟨x, hx, rfl⟩ := Option.map_eq_some_iff.mp hd
    have hlt : i < xs.length := (List.getElem?_eq_some_iff.mp hx).1
    have e : xs.take (i + 1) = xs.take i ++ [x] := by rw [List.take_add_one, hx]; rfl
    refine hstep x (List.mem_of_getElem? hx) (fun z M3 => (zs.map fn).length < sizeLine ∧ M3 = M' ∧ ∃ zs', zs.map fn ++ [z] = zs'.map fn ∧ Paired Rel (xs.take (i + 1)) zs') (fun M2 => M2 = M' ∧ ∃ zs', zs.map fn = zs'.map fn ∧ Paired Rel (xs.take (i + 1)) zs') fun z hz => ⟨?_, rfl, zs ++ [z], by rw [List.map_append]; rfl, by rw [e]; exact paired_snoc hp hz⟩
    have := paired_len hp
    rw [List.length_take] at this
    rw [List.length_map]
    omega
end
end DL
namespace RO
open PySem PySem.Spec PyProof.Rows L2 DL
section
variable {P : Program} {w : World} {K : PySem.W.Frag} {mg : Str → Option Value} {base : Heap} {T : List (Addr × Str)} {f : Addr} {fd : FuncData} {Bl : List Rw}
/-- what longest answers for a group -/
structure Lng (g : Str × List Pr) (c : List Pr) : Prop where
  sub : ∀ p ∈ c, p ∈ g.2
  ch : c.Pairwise fun p q => ahead p q = true
  lis : Lis g.2 c.length
theorem lng_flat : ∀ {gs : List (Str × List Pr)} {cs : List (List Pr)}, Paired Lng gs cs → (gs.map (·.1)).Nodup → (∀ g ∈ gs, ∀ p ∈ g.2, lineOf Bl p = g.1) →
    cs.flatten.Nodup ∧ (∀ p ∈ cs.flatten, ∃ g ∈ gs, p ∈ g.2) ∧ (∀ p ∈ cs.flatten, ∀ q ∈ cs.flatten, lineOf Bl p = lineOf Bl q → p = q ∨ ahead p q = true ∨ ahead q p = true) ∧ ∃ ws, Paired Lis (gs.map (·.2)) ws ∧ (cs.flatten.length : Int) = ws.sum
  | _, _, .nil, _, _ => ⟨List.nodup_nil, fun p hp => (by cases hp), fun p hp => (by cases hp), [], .nil, rfl⟩
  | g :: gs, c :: cs, .cons h t, hn, hl => by
    rw [List.map_cons, List.nodup_cons] at hn
    obtain ⟨a1, a2, a3, ws, a4, a5⟩ := lng_flat t hn.2 fun g hg => hl g (List.mem_cons_of_mem _ hg)
    have hlc : ∀ p ∈ c, lineOf Bl p = g.1 := fun p hp => hl g List.mem_cons_self p (h.sub p hp)
    have hne : ∀ p ∈ c, ∀ q ∈ cs.flatten, lineOf Bl p ≠ lineOf Bl q := fun p hp q hq e => by
      obtain ⟨g', hg', hq'⟩ := a2 q hq
      refine hn.1 (List.mem_map.mpr ⟨g', hg', ?_⟩)
      rw [← hl g' (List.mem_cons_of_mem _ hg') q hq', ← e, hlc p hp]
    have hcn : c.Nodup := h.ch.imp fun {a b} h e => by
      rw [e, ahead_iff] at h
      omega
    have hpq : ∀ p ∈ c, ∀ q ∈ c, p = q ∨ ahead p q = true ∨ ahead q p = true := by
      have := h.ch
      clear hlc hne hcn a3
      have hx : ∀ l : List Pr, (l.Pairwise fun p q => ahead p q = true) → ∀ p ∈ l, ∀ q ∈ l, p = q ∨ ahead p q = true ∨ ahead q p = true := by
        intro l
        induction l with
        | nil => intro _ p hp; cases hp
        | cons a r ih =>
          intro hp p h1 q h2
          rw [List.pairwise_cons] at hp
          rcases List.mem_cons.mp h1 with e1 | k1
          · rcases List.mem_cons.mp h2 with e2 | k2
            · exact .inl (e1.trans e2.symm)
            · exact .inr (.inl (by rw [e1]; exact hp.1 q k2))
          · rcases List.mem_cons.mp h2 with e2 | k2
            · exact .inr (.inr (by rw [e2]; exact hp.1 p k1))
            · exact ih hp.2 p k1 q k2
      exact hx c this
    refine ⟨?_, fun p hp => ?_, fun p hp q hq e => ?_, c.length :: ws, .cons h.lis a4, ?_⟩
    · rw [List.flatten_cons, List.nodup_append]
      exact ⟨hcn, a1, fun p hp q hq e => hne p hp q hq (by rw [e])⟩
    · rw [List.flatten_cons, List.mem_append] at hp
      rcases hp with hp | hp
      · exact ⟨g, List.mem_cons_self, h.sub p hp⟩
      · obtain ⟨g', hg', h'⟩ := a2 p hp
        exact ⟨g', List.mem_cons_of_mem _ hg', h'⟩
    · rw [List.flatten_cons, List.mem_append] at hp hq
      rcases hp with hp | hp
      · rcases hq with hq | hq
        · exact hpq p hp q hq
        · exact absurd e (hne p hp q hq)
      · rcases hq with hq | hq
        · exact absurd e.symm (hne q hq p hp)
        · exact a3 p hp q hq e
    · rw [List.flatten_cons, List.length_append, List.sum_cons, ← a5]
      push_cast
      rfl
/-- a joining of some pairs with as many pairs as can be -/
structure Grt (B : List Rw) (ps J : List Pr) : Prop where
  st : St B J
  sub : ∀ p ∈ J, p ∈ ps
  mu : Mu B ps J.length
theorem G_line {B : List Rw} {ps : List Pr} : ∀ g ∈ G B ps, ∀ p ∈ g.2, lineOf B p = g.1 := fun g hg p hp => by
  rw [(G_ok B ps).fl g hg, List.mem_filter] at hp
  simpa using hp.2
theorem G_sub {B : List Rw} {ps : List Pr} : ∀ g ∈ G B ps, ∀ p ∈ g.2, p ∈ ps := fun g hg p hp => by
  rw [(G_ok B ps).fl g hg, List.mem_filter] at hp
  exact hp.1
theorem grt_of {B : List Rw} {ps J : List Pr} {cs : List (List Pr)} (h : Paired Lng (G B ps) cs) (pm : J.Perm cs.flatten) (so : J.Pairwise fun p q => pairLe p q = true) : Grt B ps J := by
  obtain ⟨a1, a2, a3, ws, a4, a5⟩ := lng_flat (Bl := B) h (G_ok B ps).nd G_line
  have hlex := lex_of_sorted so (pm.nodup_iff.mpr a1)
  refine ⟨?_, fun p hp => ?_, ws, a4, ?_⟩
  · have hm : ∀ p ∈ J, p ∈ cs.flatten := fun p hp => pm.mem_iff.mp hp
    refine (List.Pairwise.and_mem.mp hlex).imp fun {p q} h => ⟨h.2.2, fun e => ?_⟩
    rcases a3 p (hm p h.1) q (hm q h.2.1) e with z | z | z
    · exact absurd z (lexLt_ne h.2.2)
    · exact z
    · rw [ahead_iff] at z
      have := h.2.2
      unfold lexLt at this
      omega
  · obtain ⟨g, hg, h'⟩ := a2 p (pm.mem_iff.mp hp)
    exact G_sub g hg p h'
  · rw [pm.length_eq, a5]
theorem flat_map {l : List (List Pr)} : (l.map fun c => c.map prP).flatten = l.flatten.map prP := by
  rw [List.map_flatten]
theorem encG_vals {gs : List (Str × List Pr)} : (encG gs).map (fun p => Dat.py p.2) = gs.map fun g => .py (encPs g.2) := by
  unfold encG
  rw [List.map_map]
  rfl
def f_greatest : WF := fun ds M P => ∃ (B R : List Rw) (ps : List Pr) (x y : Dat), ds = [.py (encL B), .py (encL R), .py (encPs ps), x, y] ∧ (∀ p ∈ ps, 0 ≤ p.1 ∧ p.1 < B.length) ∧ ps.Nodup ∧ ps.length ≤ 1000 ∧ ∀ J, Grt B ps J → P (.py (encPs J)) M
theorem ok_greatest (Fn : FunX K "greatest" "greatest" s_greatest f fd) (B : Bn K w mg) (D_by_lines : Dn P w K mg base T 1 "by_lines" ["bridge", "pairs"] [] f_by_lines) (D_longest : Dn P w K mg base T 2 "longest" ["pairs"] [] f_longest) : FnOk P w K mg base CX0 3 f fd ["bridge", "room", "pairs", "d", "lag"] (dSp K T f_greatest) := by
  refine dok Fn sc_greatest (fun ds M P ⟨_, _, _, _, _, h, _⟩ => by rw [h]; rfl) (fun cdv A outer s H E hr => ⟨_, (have nd := (sc_greatest).nd; (dss_one (ds_ret (pd_callB cr_sortedPO cd_sorted (by rfl) B.sorted_ (by decide +kernel) (da_cons (d_sumL rfl (by rfl) B.sum_ (d_lcG false (Kx := K) (t := (.nm 5)) rfl nd (di_values (d_callN D_by_lines (hr.mono (by decide)) (by rfl) (da_cons (dv 0) (da_cons (dv 2) da_nil)))) (blkOk_by (own := [("some", 5)]) (N := ["bridge", "room", "pairs", "d", "lag", "some"]) (sc := defScope s_greatest) (by decide +kernel)) (by decide) (fun _ _ _ _ _ => (pg_name (i := 5) nd rfl (by first | exact Or.inl rfl | exact Or.inr rfl))) (fun _ _ _ _ _ => dts_nil) (fun _ _ _ _ _ => (d_callN D_longest (hr.mono (by decide)) (by rfl) (da_cons (dv 5) da_nil)))) (d_lst da_nil)) da_nil))))), fun ds M P h => ?_⟩)
  obtain ⟨b, r, ps, x, y, rfl, hb, hnd, hl, k⟩ := h
  have hs : sizeLine = 16777216 := sizeLine_eq
  walk_at "dS"
  refine ⟨b, ps, rfl, hb, hl, fun a ha => ⟨a, encG (G b ps), rfl, putM_same, ?_⟩⟩
  rw [delM_putM ha]
  refine s_lcN (G b ps) (fun g => .py (encPs g.2)) Lng encPs encG_vals trivial (by have := G_len b ps; omega) (fun cs hc => ?_) fun g hg QT QF h => ?_
  · rw [if_neg (by decide)]
    walk_at "dS"
    obtain ⟨a1, a2, _, _⟩ := lng_flat (Bl := b) hc (G_ok b ps).nd G_line
    have hlen : cs.flatten.length ≤ ps.length := nodup_len a1 fun p hp => by
      obtain ⟨g, hg, h'⟩ := a2 p hp
      exact G_sub g hg p h'
    refine ⟨_, cs.map fun c => c.map prP, rfl, rfl, ?_, ?_, ?_⟩
    · show _ = _
      rw [List.map_map]
      rfl
    · rw [flat_map, List.length_map]
      omega
    rw [flat_map]
    walk_at "dS"
    refine ⟨_, cs.flatten, rfl, rfl, fun J pm so => ?_⟩
    exact s_rt (k J (grt_of hc pm so))
  · refine ⟨_, rfl, ?_⟩
    walk_at "dS"
    refine ⟨g.2, rfl, ?_, ?_, fun c h1 h2 h3 => ⟨_, rfl, h c ⟨h1, h2, h3⟩⟩⟩
    · rw [(G_ok b ps).fl g hg]
      exact hnd.sublist List.filter_sublist
    · rw [(G_ok b ps).fl g hg]
      exact Nat.le_trans (List.length_filter_le _ _) hl
theorem lay_flat : ∀ {gs : List (Str × List Pr)} {Ls : List (List (List Pr))}, Paired (fun g L => Lay g.2 L) gs Ls → (∀ g ∈ gs, ∀ p ∈ g.2, lineOf Bl p = g.1) →
    (Ls.flatten.flatten.Perm (gs.map (·.2)).flatten) ∧ (∀ c ∈ Ls.flatten, Crowd Bl c) ∧ ∃ ws, Paired Lis (gs.map (·.2)) ws ∧ (Ls.flatten.length : Int) = ws.sum
  | _, _, .nil, _ => ⟨.nil, fun p hp => (by cases hp), [], .nil, rfl⟩
  | g :: gs, L :: Ls, .cons h t, hl => by
    obtain ⟨a1, a2, ws, a4, a5⟩ := lay_flat t fun g hg => hl g (List.mem_cons_of_mem _ hg)
    have hin : ∀ c ∈ L, ∀ p ∈ c, lineOf Bl p = g.1 := fun c hc p hp => hl g List.mem_cons_self p (h.perm.mem_iff.mp (List.mem_flatten.mpr ⟨c, hc, hp⟩))
    refine ⟨?_, fun c hc => ?_, L.length :: ws, .cons h.lis a4, ?_⟩
    · rw [List.flatten_cons, List.flatten_append, List.map_cons, List.flatten_cons]
      exact h.perm.append a1
    · rw [List.flatten_cons, List.mem_append] at hc
      rcases hc with hc | hc
      · exact ⟨h.ne c hc, h.lex c hc, fun p hp q hq => ⟨by rw [hin c hc p hp, hin c hc q hq], h.no c hc p hp q hq⟩⟩
      · exact a2 c hc
    · rw [List.flatten_cons, List.length_append, List.sum_cons, ← a5]
      push_cast
      rfl
theorem G_flat {B : List Rw} {ps : List Pr} : ((G B ps).map (·.2)).flatten.Perm ps := by
  have h1 : (G B ps).map (·.2) = ((G B ps).map (·.1)).map fun k => ps.filter fun p => decide (lineOf B p = k) := by
    rw [List.map_map]
    exact List.map_congr_left fun g hg => (G_ok B ps).fl g hg
  rw [h1]
  refine .trans (flat_perm _ (G_ok B ps).nd ps) (.of_eq (filter_all fun p hp => ?_))
  obtain ⟨g, hg, e⟩ := (G_ok B ps).all p hp
  exact decide_eq_true (List.mem_map.mpr ⟨g, hg, e⟩)
/-- a sharing into as few crowds as can be -/
structure Fsh (B : List Rw) (ps : List Pr) (S : List (List Pr)) : Prop where
  sh : Shar B ps S
  mu : Mu B ps S.length
theorem fsh_of {B : List Rw} {ps : List Pr} {Ls : List (List (List Pr))} (h : Paired (fun g L => Lay g.2 L) (G B ps) Ls) : Fsh B ps Ls.flatten := by
  obtain ⟨a1, a2, ws, a4, a5⟩ := lay_flat (Bl := B) h G_line
  exact ⟨⟨a1.trans G_flat, a2⟩, ws, a4, a5⟩
def f_sharing : WF := fun ds M P => ∃ (B R : List Rw) (ps : List Pr) (x y : Dat), ds = [.py (encL B), .py (encL R), .py (encPs ps), x, y] ∧ (∀ p ∈ ps, 0 ≤ p.1 ∧ p.1 < B.length) ∧ ps.Nodup ∧ ps.length ≤ 1000 ∧ ∀ S, Fsh B ps S → P (.py (encS S)) M
theorem ok_sharing (Fn : FunX K "sharing" "sharing" s_sharing f fd) (B : Bn K w mg) (D_by_lines : Dn P w K mg base T 1 "by_lines" ["bridge", "pairs"] [] f_by_lines) (D_layers : Dn P w K mg base T 2 "layers" ["pairs"] [] f_layers) : FnOk P w K mg base CX0 3 f fd ["bridge", "room", "pairs", "d", "lag"] (dSp K T f_sharing) := by
  refine dok Fn sc_sharing (fun ds M P ⟨_, _, _, _, _, h, _⟩ => by rw [h]; rfl) (fun cdv A outer s H E hr => ⟨_, (have nd := (sc_sharing).nd; (dss_one (ds_ret (d_sumL rfl (by rfl) B.sum_ (d_lcG false (Kx := K) (t := (.nm 5)) rfl nd (di_values (d_callN D_by_lines (hr.mono (by decide)) (by rfl) (da_cons (dv 0) (da_cons (dv 2) da_nil)))) (blkOk_by (own := [("some", 5)]) (N := ["bridge", "room", "pairs", "d", "lag", "some"]) (sc := defScope s_sharing) (by decide +kernel)) (by decide) (fun _ _ _ _ _ => (pg_name (i := 5) nd rfl (by first | exact Or.inl rfl | exact Or.inr rfl))) (fun _ _ _ _ _ => dts_nil) (fun _ _ _ _ _ => (d_callN D_layers (hr.mono (by decide)) (by rfl) (da_cons (dv 5) da_nil)))) (d_lst da_nil))))), fun ds M P h => ?_⟩)
  obtain ⟨b, r, ps, x, y, rfl, hb, hnd, hl, k⟩ := h
  have hs : sizeLine = 16777216 := sizeLine_eq
  walk_at "dS"
  refine ⟨b, ps, rfl, hb, hl, fun a ha => ⟨a, encG (G b ps), rfl, putM_same, ?_⟩⟩
  rw [delM_putM ha]
  refine s_lcN (G b ps) (fun g => .py (encPs g.2)) (fun g L => Lay g.2 L) encS encG_vals trivial (by have := G_len b ps; omega) (fun cs hc => ?_) fun g hg QT QF h => ?_
  · rw [if_neg (by decide)]
    walk_at "dS"
    have hf := fsh_of hc
    have hlen := shar_len hf.sh
    have fe : (cs.map fun L => L.map encPs).flatten = cs.flatten.map encPs := by rw [List.map_flatten]
    refine ⟨_, cs.map fun L => L.map encPs, rfl, rfl, ?_, ?_, ?_⟩
    · show _ = _
      rw [List.map_map]
      rfl
    · rw [fe, List.length_map]
      omega
    rw [fe]
    exact s_rt (k _ hf)
  · refine ⟨_, rfl, ?_⟩
    walk_at "dS"
    refine ⟨g.2, rfl, ?_, ?_, fun c h1 => ⟨_, rfl, h c h1⟩⟩
    · rw [(G_ok b ps).fl g hg]
      exact hnd.sublist List.filter_sublist
    · rw [(G_ok b ps).fl g hg]
      exact Nat.le_trans (List.length_filter_le _ _) hl
def f_joining : WF := fun ds M P => ∃ (B R : List Rw) (d lag : Int), ds = [.py (encL B), .py (encL R), .py (.int d), .py (.int lag)] ∧ LogOk B ∧ LogOk R ∧ ∀ J, Grt B (pw B R lag d d) J → P (.py (encPs J)) M
theorem pw_in {B R : List Rw} {lag lo hi : Int} : ∀ p ∈ pw B R lag lo hi, 0 ≤ p.1 ∧ p.1 < B.length := fun p hp => by
  have := (mem_pw.mp hp).1
  exact ⟨this.1, this.2.1⟩
theorem ok_joining (Fn : FunX K "joining" "joining" s_joining f fd) (B : Bn K w mg) (D_greatest : Dn P w K mg base T 3 "greatest" ["bridge", "room", "pairs", "d", "lag"] [] f_greatest) (D_pairs_at : Dn P w K mg base T 7 "pairs_at" ["bridge", "room", "d", "lag"] [] f_pairs_at) : FnOk P w K mg base CX0 8 f fd ["bridge", "room", "d", "lag"] (dSp K T f_joining) := by
  refine dok Fn sc_joining (fun ds M P ⟨_, _, _, _, h, _⟩ => by rw [h]; rfl) (fun cdv A outer s H E hr => ⟨_, (have nd := (sc_joining).nd; (dss_one (ds_ret (d_callN D_greatest (hr.mono (by decide)) (by rfl) (da_cons (dv 0) (da_cons (dv 1) (da_cons (d_callN D_pairs_at (hr.mono (by decide)) (by rfl) (da_cons (dv 0) (da_cons (dv 1) (da_cons (dv 2) (da_cons (dv 3) da_nil))))) (da_cons (dv 2) (da_cons (dv 3) da_nil))))))))), fun ds M P h => ?_⟩)
  obtain ⟨b, r, d, lag, rfl, lb, lr, k⟩ := h
  have hs : sizeLine = 16777216 := sizeLine_eq
  walk_at "dS"
  refine ⟨b, r, d, lag, rfl, lb, lr, ?_⟩
  walk_at "dS"
  refine ⟨b, r, pw b r lag d d, _, _, rfl, pw_in, nodup_of_lex pw_pw, by have := pw_len (lag := lag) (lo := d) (hi := d) lb.len lr.len; omega, fun J hJ => ?_⟩
  exact s_rt (k J hJ)
end
end RO
namespace RO
open PySem PySem.Spec PyProof.Rows L2 DL
section
variable {P : Program} {w : World} {K : PySem.W.Frag} {mg : Str → Option Value} {base : Heap} {T : List (Addr × Str)} {f : Addr} {fd : FuncData}
/-- stretches, one behind the other -/
inductive Cov {α : Type} (R : Int → Int → α → Prop) (lo : Int) : List (Int × Int × α) → Int → Prop
  | nil : Cov R lo [] lo
  | snoc {l : List (Int × Int × α)} {m n : Int} {x : α} : Cov R lo l m → m ≤ n → R m n x → Cov R lo (l ++ [(m, n, x)]) (n + 1)
theorem Cov.le {α : Type} {R : Int → Int → α → Prop} {lo e : Int} {l : List (Int × Int × α)} (h : Cov R lo l e) : lo ≤ e := by
  induction h with
  | nil => exact Int.le_refl _
  | snoc _ h2 _ ih => omega
theorem Cov.at {α : Type} {R : Int → Int → α → Prop} {lo e : Int} {l : List (Int × Int × α)} (h : Cov R lo l e) : ∀ {i : Nat} {c : Int × Int × α}, l[i]? = some c → Cov R lo (l.take i) c.1 ∧ c.1 ≤ c.2.1 ∧ R c.1 c.2.1 c.2.2 ∧ c.2.1 < e := by
  induction h with
  | nil => intro i c hc; simp at hc
  | snoc h1 h2 h3 ih =>
    rename_i l m n x
    intro i c hc
    by_cases hi : i < l.length
    · rw [List.getElem?_append_left hi] at hc
      obtain ⟨a1, a2, a3, a4⟩ := ih hc
      refine ⟨?_, a2, a3, by omega⟩
      rw [List.take_append_of_le_length (by omega)]
      exact a1
    · by_cases hi2 : i = l.length
      · subst hi2
        rw [List.getElem?_append_right (Nat.le_refl _), Nat.sub_self] at hc
        cases hc
        refine ⟨?_, h2, h3, by show n < n + 1; omega⟩
        rw [List.take_left]
        exact h1
      · rw [List.getElem?_eq_none (by rw [List.length_append]; show l.length + 1 ≤ i; omega)] at hc
        cases hc
theorem Cov.mem {α : Type} {R : Int → Int → α → Prop} {lo e : Int} {l : List (Int × Int × α)} (h : Cov R lo l e) {c : Int × Int × α} (hc : c ∈ l) : lo ≤ c.1 ∧ c.1 ≤ c.2.1 ∧ R c.1 c.2.1 c.2.2 ∧ c.2.1 < e := by
  obtain ⟨i, hi⟩ := List.getElem?_of_mem hc
  obtain ⟨a1, a2, a3, a4⟩ := h.at hi
  exact ⟨a1.le, a2, a3, a4⟩
theorem Cov.find {α : Type} {R : Int → Int → α → Prop} {lo e : Int} {l : List (Int × Int × α)} (h : Cov R lo l e) : ∀ {d : Int}, lo ≤ d → d < e → ∃ c ∈ l, c.1 ≤ d ∧ d ≤ c.2.1 := by
  induction h with
  | nil => intro d h1 h2; omega
  | snoc h1 h2 h3 ih =>
    rename_i l m n x
    intro d k1 k2
    by_cases c : d < m
    · obtain ⟨c, hc, h'⟩ := ih k1 c
      exact ⟨c, List.mem_append_left _ hc, h'⟩
    · exact ⟨(m, n, x), by simp, by show m ≤ d; omega, by show d ≤ n; omega⟩
theorem Cov.len {α : Type} {R : Int → Int → α → Prop} {lo e : Int} {l : List (Int × Int × α)} (h : Cov R lo l e) : (l.length : Int) ≤ e - lo := by
  induction h with
  | nil => simp
  | snoc h1 h2 h3 ih =>
    rename_i l m n x
    rw [List.length_append]
    show ((l.length + 1 : Nat) : Int) ≤ n + 1 - lo
    omega
theorem Cov.take {α : Type} {R : Int → Int → α → Prop} {lo e : Int} {l : List (Int × Int × α)} (h : Cov R lo l e) {i : Nat} {c : Int × Int × α} (hc : l[i]? = some c) : Cov R lo (l.take (i + 1)) (c.2.1 + 1) := by
  obtain ⟨a1, a2, a3, a4⟩ := h.at hc
  rw [List.take_add_one, hc]
  exact .snoc a1 a2 a3
theorem Cov.inv {α : Type} {R : Int → Int → α → Prop} {lo e : Int} {l : List (Int × Int × α)} {t : Int × Int × α} (h : Cov R lo (l ++ [t]) e) : Cov R lo l t.1 ∧ t.1 ≤ t.2.1 ∧ R t.1 t.2.1 t.2.2 ∧ e = t.2.1 + 1 := by
  generalize he : l ++ [t] = l' at h
  cases h with
  | nil => simp at he
  | snoc h1 h2 h3 =>
    obtain ⟨e1, e2⟩ := List.append_inj' he rfl
    have e3 : t = _ := List.head_eq_of_cons_eq e2
    subst e1 e3
    exact ⟨h1, h2, h3, rfl⟩
/-- a stretch in which the pairs stay the same -/
def Same (B R : List Rw) (lag m n : Int) (ps : List Pr) : Prop := ∀ d, m ≤ d → d ≤ n → pw B R lag d d = ps
def encT (t : Int × Int × List Pr) : PyData := .tuple [.int t.1, .int t.2.1, encPs t.2.2]
theorem canLay_T : ∀ l : List (Int × Int × List Pr), PyData.canLayAll0 (l.map encT) = true
  | [] => by simp [PyData.canLayAll0]
  | p :: r => by
    have := canLay_T r
    rw [List.map_cons]
    simp [PyData.canLayAll0, this, encT, PyData.canLay0, canLay_prs]
theorem depth_T : ∀ l : List (Int × Int × List Pr), PyData.depthAll (l.map encT) ≤ 3
  | [] => by simp [PyData.depthAll]
  | p :: r => by
    have h1 := depth_T r
    have h2 := depth_prs p.2.2
    rw [List.map_cons]
    simp [PyData.depthAll, encT, PyData.depth]
    omega
theorem shaped_T (l : List (Int × Int × List Pr)) : SeqAt.shaped (.list (l.map encT)) = true := by
  have := depth_T l
  simp [SeqAt.shaped, PyData.canLay0, canLay_T, PyData.depth]
  omega
def encC (t : Int × Int × Int) : PyData := .tuple [.int t.1, .int t.2.1, .int t.2.2]
theorem canLay_C : ∀ l : List (Int × Int × Int), PyData.canLayAll0 (l.map encC) = true
  | [] => by simp [PyData.canLayAll0]
  | p :: r => by
    have := canLay_C r
    rw [List.map_cons]
    simp [PyData.canLayAll0, this, encC, PyData.canLay0]
theorem depth_C : ∀ l : List (Int × Int × Int), PyData.depthAll (l.map encC) ≤ 3
  | [] => by simp [PyData.depthAll]
  | p :: r => by
    have h1 := depth_C r
    rw [List.map_cons]
    simp [PyData.depthAll, encC, PyData.depth]
    omega
theorem shaped_C (l : List (Int × Int × Int)) : SeqAt.shaped (.list (l.map encC)) = true := by
  have := depth_C l
  simp [SeqAt.shaped, PyData.canLay0, canLay_C, PyData.depth]
  omega
theorem s_ixT0 {M : Mem} {P : Dat → Mem → Prop} {t : Int × Int × List Pr} (h : P (.py (.int t.1)) M) : fIx (.py (encT t)) (.py (.int 0)) M P := ⟨_, ixD_tup rfl, h⟩
theorem s_ixT2 {M : Mem} {P : Dat → Mem → Prop} {t : Int × Int × List Pr} (h : P (.py (encPs t.2.2)) M) : fIx (.py (encT t)) (.py (.int 2)) M P := ⟨_, ixD_tup rfl, h⟩
theorem s_ixC0 {M : Mem} {P : Dat → Mem → Prop} {t : Int × Int × Int} (h : P (.py (.int t.1)) M) : fIx (.py (encC t)) (.py (.int 0)) M P := ⟨_, ixD_tup rfl, h⟩
theorem s_ixC2 {M : Mem} {P : Dat → Mem → Prop} {t : Int × Int × Int} (h : P (.py (.int t.2.2)) M) : fIx (.py (encC t)) (.py (.int 2)) M P := ⟨_, ixD_tup rfl, h⟩
theorem atI_lastM {α : Type} {f : α → PyData} {l : List α} {t : α} : atI (((l ++ [t]).map f).map Dat.py) (-1) = some (.py (f t)) := by
  rw [List.map_append, List.map_append]
  exact atI_last
theorem ixN_last {n : Nat} : ixN (n + 1) (-1) = some n := by
  unfold ixN
  rw [if_neg (by omega), if_pos (by omega)]
  congr 1
  omega
theorem set_last {α : Type} {l : List α} {x y : α} : (l ++ [x]).set l.length y = l ++ [y] := by
  rw [List.set_append_right _ _ (Nat.le_refl _), Nat.sub_self]
  rfl
theorem set_lastM {α : Type} {f : α → PyData} {l : List α} {t u : α} : (((l ++ [t]).map f).map Dat.py).set l.length (.py (f u)) = ((l ++ [u]).map f).map Dat.py := by
  rw [List.map_append, List.map_append, List.map_append, List.map_append]
  have : l.length = ((l.map f).map Dat.py).length := by rw [List.length_map, List.length_map]
  rw [this]
  exact set_last
theorem app_lastM {α : Type} {f : α → PyData} {l : List α} {u : α} : ((l.map f).map Dat.py) ++ [.py (f u)] = ((l ++ [u]).map f).map Dat.py := by
  rw [List.map_append, List.map_append]
  rfl
theorem enc_at {α : Type} {f : α → PyData} {l : List α} {i : Nat} {d : Dat} (h : ((l.map f).map Dat.py)[i]? = some d) : ∃ t, l[i]? = some t ∧ d = .py (f t) := by
  rw [List.map_map, List.getElem?_map] at h
  obtain ⟨p, hp, e⟩ := Option.map_eq_some_iff.mp h
  exact ⟨p, hp, e.symm⟩
theorem rg_at {lo hi : Int} {i : Nat} {d : Dat} (h : ((rgI lo hi).map fun n => Dat.py (.int n))[i]? = some d) : d = .py (.int (lo + i)) ∧ lo + i < hi := by
  refine ⟨rgI_get h, ?_⟩
  have := (List.getElem?_eq_some_iff.mp h).1
  rw [List.length_map, rgI_len] at this
  omega
theorem zip_map2 {α : Type} {f g : α → PyData} : ∀ l : List α, zipP (l.map f) (l.map g) = l.map fun x => .tuple [f x, g x]
  | [] => rfl
  | x :: r => by
    rw [List.map_cons, List.map_cons, List.map_cons, ← zip_map2 r]
    rfl
def f_changes : WF := fun ds M P => ∃ (B R : List Rw) (lag lo hi : Int), ds = [.py (encL B), .py (encL R), .py (.int lag), .py (.int lo), .py (.int hi)] ∧ LogOk B ∧ LogOk R ∧ 0 ≤ lag ∧ lo ≤ hi ∧ (-5000 ≤ lo ∧ hi ≤ 5000) ∧ ∀ l, Cov (Same B R lag) lo l (hi + 1) → P (.py (.list (l.map encT))) M
theorem ok_changes (Fn : FunX K "changes" "changes" s_changes f fd) (B : Bn K w mg) (D_pairs_within : Dn P w K mg base T 6 "pairs_within" ["bridge", "room", "lag", "low", "high"] [] f_pairs_within) (D_span : Dn P w K mg base T 4 "span" ["bridge", "room", "pair", "lag"] [] f_span) (D_fits : Dn P w K mg base T 1 "fits" ["where", "d"] [] f_fits) : FnOk P w K mg base CX0 7 f fd ["bridge", "room", "lag", "low", "high"] (dSp K T f_changes) := by
  refine dok Fn sc_changes (fun ds M P ⟨_, _, _, _, _, h, _⟩ => by rw [h]; rfl) (fun cdv A outer s H E hr => ⟨_, (have nd := (sc_changes).nd; (dss_cons (ds_set (i := 5) nd rfl (by first | exact Or.inl rfl | exact Or.inr rfl) (d_callN D_pairs_within (hr.mono (by decide)) (by rfl) (da_cons (dv 0) (da_cons (dv 1) (da_cons (dv 2) (da_cons (dv 3) (da_cons (dv 4) da_nil))))))) (dss_cons (ds_setLcG false (Kx := K) (i := 6) (t := (.nm 10)) rfl nd rfl rfl (sw_true rfl rfl rfl (by decide +kernel)) (di_list (dv 5)) (blkOk_by (own := [("pair", 10)]) (N := ["bridge", "room", "lag", "low", "high", "some", "spans", "found", "d", "here", "pair", "where"]) (sc := defScope s_changes) (by decide +kernel)) (by decide) (fun _ _ _ _ _ => (pg_name (i := 10) nd rfl (by first | exact Or.inl rfl | exact Or.inr rfl))) (fun _ _ _ _ _ => dts_nil) (fun _ _ _ _ _ => (d_callN D_span (hr.mono (by decide)) (by rfl) (da_cons (dv 0) (da_cons (dv 1) (da_cons (dv 10) (da_cons (dv 2) da_nil))))))) (dss_cons (ds_set (i := 7) nd rfl (by first | exact Or.inl rfl | exact Or.inr rfl) (d_lstM da_nil)) (dss_cons (ds_for (Kx := K) (t := (.nm 8)) PassesOwn.never rfl (di_range2 (by rfl) B.range_ (da_cons (dv 3) (da_cons (d_add (dv 4) d_int) da_nil))) (pg_name (i := 8) nd rfl (by first | exact Or.inl rfl | exact Or.inr rfl)) (dss_cons (ds_setLcG false (Kx := K) (i := 9) (t := (.tp [10, 11])) rfl nd rfl rfl (sw_true rfl rfl rfl (by decide +kernel)) (di_zipS (by rfl) B.zip_ (da_cons (dv 5) (da_cons (dv 6) da_nil))) (blkOk_by (own := [("pair", 10), ("where", 11)]) (N := ["bridge", "room", "lag", "low", "high", "some", "spans", "found", "d", "here", "pair", "where"]) (sc := defScope s_changes) (by decide +kernel)) (by decide) (fun _ _ _ _ _ => (pg_tup rfl (pgs_cons (pg_name (i := 10) nd rfl (by first | exact Or.inl rfl | exact Or.inr rfl)) (pgs_cons (pg_name (i := 11) nd rfl (by first | exact Or.inl rfl | exact Or.inr rfl)) pgs_nil)))) (fun _ _ _ _ _ => (dts_one (pdt_val (d_callN D_fits (hr.mono (by decide)) (by rfl) (da_cons (dv 11) (da_cons (dv 8) da_nil)))))) (fun _ _ _ _ _ => (dv 10))) (dss_one (ds_if (PW.pt (dw_and (dt_ne hr.units (dv 7) (d_lst da_nil)) (dw_and1 (dt_eq hr.units (d_ix (d_ix (dv 7) (d_neg d_int)) d_int) (dv 9))))) (dss_one (ds_setI (d_tup (da_cons (d_ix (d_ix (dv 7) (d_neg d_int)) d_int) (da_cons (dv 8) (da_cons (dv 9) da_nil)))) (dv 7) (d_neg d_int))) (dss_one (ds_expr (pd_app (pe_bm PySem.F.plainAttrs_list PySem.F.slot_list_append PySem.F.type_list_append mt_append (dv 7) (da_cons (d_tup (da_cons (dv 8) (da_cons (dv 8) (da_cons (dv 9) da_nil)))) da_nil))))))))) (dss_one (ds_ret (dv 7)))))))), fun ds M P h => ?_⟩)
  obtain ⟨b, r, lag, lo, hi, rfl, lb, lr, hlag, hlo, hb, k⟩ := h
  have hs : sizeLine = 16777216 := sizeLine_eq
  have hpl := pw_len (lag := lag) (lo := lo) (hi := hi) lb.len lr.len
  walk_at "dS"
  refine ⟨b, r, lag, lo, hi, rfl, lb, lr, ?_⟩
  walk_at "dS"
  refine s_lcP (pw b r lag lo hi) (fun p => .py (prP p)) (fun _ => true) (fun p => prP (spanF b r lag p)) (by rw [List.map_map]; rfl) trivial (by omega) ?_ fun p hp QT QF h1 h2 => ?_
  · rw [if_neg (by decide), List.filter_eq_self.mpr fun _ _ => rfl]
    walk_at "dS"
    refine s_mk (by decide) fun a ha => ?_
    walk_at "dS"
    refine ⟨lo, hi + 1, rfl, ⟨by omega, by omega, by omega, by omega⟩, ?_⟩
    refine ⟨fun i δ M' => ∃ o8 o9 o10 o11 l, δ = [some (.py (encL b)), some (.py (encL r)), some (.py (.int lag)), some (.py (.int lo)), some (.py (.int hi)), some (.py (encPs (pw b r lag lo hi))), some (.py (.list ((pw b r lag lo hi).map fun p => prP (spanF b r lag p)))), some (.own a), o8, o9, o10, o11] ∧ M' = putM M a (.lst ((l.map encT).map .py)) ∧ Cov (Same b r lag) lo l (lo + i), ⟨_, _, _, _, [], rfl, rfl, by rw [show lo + ((0 : Nat) : Int) = lo by omega]; exact .nil⟩, fun _ _ _ _ => trivial, fun δ M' h => ?_, fun i d δ M' hd h => ?_⟩
    · obtain ⟨o8, o9, o10, o11, l, rfl, rfl, hc⟩ := h
      rw [List.length_map, rgI_len, show lo + ((hi + 1 - lo).toNat : Int) = hi + 1 by omega] at hc
      walk_at "dS"
      exact rt_own ha (k l hc)
    · obtain ⟨o8, o9, o10, o11, l, rfl, rfl, hc⟩ := h
      obtain ⟨rfl, hd2⟩ := rg_at hd
      refine ⟨_, rfl, ?_⟩
      have hll := hc.len
      walk_at "dS"
      refine ⟨_, _, rfl, by rw [List.length_map, List.length_map], ?_⟩
      rw [zip_map2]
      refine s_lcP (pw b r lag lo hi) (fun p => .py (.tuple [prP p, prP (spanF b r lag p)])) (fun p => fit (spanF b r lag p) (lo + i)) prP (by rw [List.map_map]; rfl) trivial (by omega) ?_ fun p hp QT QF h1 h2 => ?_
      · rw [if_neg (by decide), pw_fit (by omega) (by omega)]
        walk_at "dS"
        refine s_neNilO putM_same (shaped_T l) ?_
        walk_at "dS"
        have hsame : Same b r lag (lo + i) (lo + i) (pw b r lag (lo + i) (lo + i)) := fun d h1 h2 => by rw [show d = lo + i by omega]
        rcases List.eq_nil_or_concat l with e | ⟨l0, t, e⟩
        · subst e
          walk_at "dS"
          refine s_own putM_same ?_
          walk_at "dS"
          refine ⟨a, _, _, rfl, rfl, putM_same, by rw [List.length_map, List.length_map]; omega, ?_⟩
          refine s_less ⟨_, _, _, _, [] ++ [(lo + i, lo + i, pw b r lag (lo + i) (lo + i))], rfl, ?_, ?_⟩
          · rw [putM_putM]
            exact congrArg (fun x => putM M a (.lst x)) (app_lastM (f := encT) (u := (lo + i, lo + i, pw b r lag (lo + i) (lo + i))))
          · rw [show lo + ((i + 1 : Nat) : Int) = lo + i + 1 by push_cast; omega]
            exact .snoc hc (Int.le_refl _) hsame
        · rw [List.concat_eq_append] at e
          subst e
          refine s_iteC (by simp) ?_
          obtain ⟨c1, c2, c3, c4⟩ := hc.inv
          walk_at "dS"
          refine s_ixO putM_same atI_lastM ?_
          walk_at "dS"
          refine s_ixT2 ?_
          walk_at "dS"
          refine s_iteD (fun hh => ?_) fun hh => ?_
          · walk_at "dS"
            refine s_ixO putM_same atI_lastM ?_
            walk_at "dS"
            refine s_ixT0 ?_
            walk_at "dS"
            refine ⟨a, _, -1, l0.length, rfl, rfl, putM_same, by rw [List.length_map, List.length_map, List.length_append]; exact ixN_last, ?_⟩
            refine s_less ⟨_, _, _, _, l0 ++ [(t.1, lo + i, pw b r lag (lo + i) (lo + i))], rfl, ?_, ?_⟩
            · rw [putM_putM]
              congr 2
              exact set_lastM (f := encT) (u := (t.1, lo + i, pw b r lag (lo + i) (lo + i)))
            · rw [show lo + ((i + 1 : Nat) : Int) = lo + i + 1 by push_cast; omega]
              refine .snoc c1 (by omega) fun d k1 k2 => ?_
              by_cases k3 : d = lo + i
              · rw [k3]
              · rw [c3 d k1 (by omega), hh]
          · walk_at "dS"
            refine s_own putM_same ?_
            walk_at "dS"
            refine ⟨a, _, _, rfl, rfl, putM_same, by rw [List.length_map, List.length_map]; omega, ?_⟩
            refine s_less ⟨_, _, _, _, (l0 ++ [t]) ++ [(lo + i, lo + i, pw b r lag (lo + i) (lo + i))], rfl, ?_, ?_⟩
            · rw [putM_putM]
              exact congrArg (fun x => putM M a (.lst x)) (app_lastM (f := encT) (u := (lo + i, lo + i, pw b r lag (lo + i) (lo + i))))
            · rw [show lo + ((i + 1 : Nat) : Int) = lo + i + 1 by push_cast; omega]
              exact .snoc hc (Int.le_refl _) hsame
      · refine ⟨_, rfl, ?_⟩
        walk_at "dS"
        refine ⟨spanF b r lag p, lo + i, rfl, ?_⟩
        walk_at "dS"
        refine s_ite (fun h => ?_) fun h => ?_
        · walk_at "dS"
          exact ⟨_, rfl, h1 h⟩
        · exact h2 h
  · refine ⟨_, rfl, ?_⟩
    walk_at "dS"
    refine ⟨b, r, p, lag, rfl, lb, lr, (mem_pw.mp hp).1, ⟨_, rfl, h1 rfl⟩⟩
end
end RO
namespace RO
open PySem PySem.Spec PyProof.Rows L2 DL
section
variable {P : Program} {w : World} {K : PySem.W.Frag} {mg : Str → Option Value} {base : Heap} {T : List (Addr × Str)} {f : Addr} {fd : FuncData}
def Cnt (B R : List Rw) (lag m n : Int) (c : Int) : Prop := ∀ d, m ≤ d → d ≤ n → Mu B (pw B R lag d d) c
def Shs (B R : List Rw) (lag m n : Int) (S : List (List Pr)) : Prop := Fsh B (pw B R lag m n) S ∧ Cnt B R lag m n S.length
theorem Cov.uniq {α : Type} {R : Int → Int → α → Prop} {lo e e' : Int} {l : List (Int × Int × α)} (h : Cov R lo l e) (h' : Cov R lo l e') : e = e' := by
  rcases List.eq_nil_or_concat l with z | ⟨l0, t, z⟩
  · have key : ∀ {l : List (Int × Int × α)} {e : Int}, Cov R lo l e → l = [] → e = lo := fun {l e} h hz => by
      cases h with
      | nil => rfl
      | snoc => simp at hz
    rw [key h z, key h' z]
  · rw [List.concat_eq_append] at z
    subst z
    rw [h.inv.2.2.2, h'.inv.2.2.2]
def f_counts : WF := fun ds M P => ∃ (B R : List Rw) (lag lo hi : Int), ds = [.py (encL B), .py (encL R), .py (.int lag), .py (.int lo), .py (.int hi)] ∧ LogOk B ∧ LogOk R ∧ 0 ≤ lag ∧ lo ≤ hi ∧ (-5000 ≤ lo ∧ hi ≤ 5000) ∧ ∀ l, Cov (Cnt B R lag) lo l (hi + 1) → P (.py (.list (l.map encC))) M
theorem ok_counts (Fn : FunX K "counts" "counts" s_counts f fd) (B : Bn K w mg) (D_changes : Dn P w K mg base T 7 "changes" ["bridge", "room", "lag", "low", "high"] [] f_changes) (D_greatest_2 : Dn P w K mg base T 3 "greatest" ["bridge", "room", "pairs", "d", "lag"] [.py (.int 0), .py (.int 0)] f_greatest) : FnOk P w K mg base CX0 8 f fd ["bridge", "room", "lag", "low", "high"] (dSp K T f_counts) := by
  refine dok Fn sc_counts (fun ds M P ⟨_, _, _, _, _, h, _⟩ => by rw [h]; rfl) (fun cdv A outer s H E hr => ⟨_, (have nd := (sc_counts).nd; (dss_cons (ds_set (i := 5) nd rfl (by first | exact Or.inl rfl | exact Or.inr rfl) (d_lstM da_nil)) (dss_cons (ds_for (Kx := K) (t := (.tp [6, 7, 8])) PassesOwn.never rfl (di_list (d_callN D_changes (hr.mono (by decide)) (by rfl) (da_cons (dv 0) (da_cons (dv 1) (da_cons (dv 2) (da_cons (dv 3) (da_cons (dv 4) da_nil))))))) (pg_tup rfl (pgs_cons (pg_name (i := 6) nd rfl (by first | exact Or.inl rfl | exact Or.inr rfl)) (pgs_cons (pg_name (i := 7) nd rfl (by first | exact Or.inl rfl | exact Or.inr rfl)) (pgs_cons (pg_name (i := 8) nd rfl (by first | exact Or.inl rfl | exact Or.inr rfl)) pgs_nil)))) (dss_cons (ds_set (i := 9) nd rfl (by first | exact Or.inl rfl | exact Or.inr rfl) (pd_callB call_len_seq cd_len (by rfl) B.len_ PySem.boot_len (da_cons (d_callN D_greatest_2 (hr.mono (by decide)) (by rfl) (da_cons (dv 0) (da_cons (dv 1) (da_cons (dv 8) da_nil)))) da_nil))) (dss_one (ds_if (PW.pt (dw_and (dt_ne hr.units (dv 5) (d_lst da_nil)) (dw_and1 (dt_eq hr.units (d_ix (d_ix (dv 5) (d_neg d_int)) d_int) (dv 9))))) (dss_one (ds_setI (d_tup (da_cons (d_ix (d_ix (dv 5) (d_neg d_int)) d_int) (da_cons (dv 7) (da_cons (dv 9) da_nil)))) (dv 5) (d_neg d_int))) (dss_one (ds_expr (pd_app (pe_bm PySem.F.plainAttrs_list PySem.F.slot_list_append PySem.F.type_list_append mt_append (dv 5) (da_cons (d_tup (da_cons (dv 6) (da_cons (dv 7) (da_cons (dv 9) da_nil)))) da_nil))))))))) (dss_one (ds_ret (dv 5)))))), fun ds M P h => ?_⟩)
  obtain ⟨b, r, lag, lo, hi, rfl, lb, lr, hlag, hlo, hb, k⟩ := h
  have hs : sizeLine = 16777216 := sizeLine_eq
  walk_at "dS"
  refine s_mk (by decide) fun a ha => ?_
  walk_at "dS"
  refine ⟨b, r, lag, lo, hi, rfl, lb, lr, hlag, hlo, hb, fun l hl => ?_⟩
  refine .inl ⟨_, rfl, ?_⟩
  have hll := hl.len
  refine ⟨fun i δ M' => ∃ o6 o7 o8 o9 rows e, δ = [some (.py (encL b)), some (.py (encL r)), some (.py (.int lag)), some (.py (.int lo)), some (.py (.int hi)), some (.own a), o6, o7, o8, o9] ∧ M' = putM M a (.lst ((rows.map encC).map .py)) ∧ Cov (Same b r lag) lo (l.take i) e ∧ Cov (Cnt b r lag) lo rows e ∧ e ≤ hi + 1, ⟨_, _, _, _, [], lo, rfl, rfl, .nil, .nil, by omega⟩, fun _ _ _ _ => trivial, fun δ M' h => ?_, fun i d δ M' hd h => ?_⟩
  · obtain ⟨o6, o7, o8, o9, rows, e, rfl, rfl, h1, h2, _⟩ := h
    rw [List.length_map, List.length_map, List.take_length] at h1
    rw [h1.uniq hl] at h2
    walk_at "dS"
    exact rt_own ha (k rows h2)
  · obtain ⟨o6, o7, o8, o9, rows, e, rfl, rfl, h1, h2, h3⟩ := h
    obtain ⟨t, ht, rfl⟩ := enc_at hd
    obtain ⟨c1, c2, c3, c4⟩ := hl.at ht
    have he := h1.uniq c1
    subst he
    have hnx := hl.take ht
    have hrl := h2.len
    have hpw : pw b r lag t.1 t.1 = t.2.2 := c3 t.1 (Int.le_refl _) c2
    refine ⟨_, rfl, ?_⟩
    walk_at "dS"
    refine ⟨b, r, t.2.2, _, _, rfl, by rw [← hpw]; exact pw_in, by rw [← hpw]; exact nodup_of_lex pw_pw, by rw [← hpw]; have := pw_len (lag := lag) (lo := t.1) (hi := t.1) lb.len lr.len; omega, fun J hJ => ?_⟩
    walk_at "dS"
    have hcnt : Cnt b r lag t.1 t.2.1 ((J.map prP).length : Nat) := fun d k1 k2 => by
      rw [c3 d k1 k2, List.length_map]
      exact hJ.mu
    generalize (J.map prP).length = many at hcnt ⊢
    refine s_neNilO putM_same (shaped_C rows) ?_
    walk_at "dS"
    rcases List.eq_nil_or_concat rows with e | ⟨l0, u, e⟩
    · subst e
      walk_at "dS"
      refine s_own putM_same ?_
      walk_at "dS"
      refine ⟨a, _, _, rfl, rfl, putM_same, by rw [List.length_map, List.length_map]; omega, ?_⟩
      refine s_less ⟨_, _, _, _, [] ++ [(t.1, t.2.1, (many : Int))], _, rfl, ?_, hnx, .snoc h2 c2 hcnt, by omega⟩
      rw [putM_putM]
      exact congrArg (fun x => putM M a (.lst x)) (app_lastM (f := encC) (u := (t.1, t.2.1, (many : Int))))
    · rw [List.concat_eq_append] at e
      subst e
      refine s_iteC (by simp) ?_
      obtain ⟨g1, g2, g3, g4⟩ := h2.inv
      walk_at "dS"
      refine s_ixO putM_same atI_lastM ?_
      walk_at "dS"
      refine s_ixC2 ?_
      walk_at "dS"
      refine s_iteD (fun hh => ?_) fun hh => ?_
      · walk_at "dS"
        refine s_ixO putM_same atI_lastM ?_
        walk_at "dS"
        refine s_ixC0 ?_
        walk_at "dS"
        refine ⟨a, _, -1, l0.length, rfl, rfl, putM_same, by rw [List.length_map, List.length_map, List.length_append]; exact ixN_last, ?_⟩
        refine s_less ⟨_, _, _, _, l0 ++ [(u.1, t.2.1, (many : Int))], _, rfl, ?_, hnx, ?_, by omega⟩
        · rw [putM_putM]
          congr 2
          exact set_lastM (f := encC) (u := (u.1, t.2.1, (many : Int)))
        · refine .snoc g1 (by omega) fun d k1 k2 => ?_
          by_cases k3 : d ≤ u.2.1
          · have := g3 d k1 k3
            rw [hh] at this
            exact this
          · exact hcnt d (by omega) k2
      · walk_at "dS"
        refine s_own putM_same ?_
        walk_at "dS"
        refine ⟨a, _, _, rfl, rfl, putM_same, by rw [List.length_map, List.length_map]; omega, ?_⟩
        refine s_less ⟨_, _, _, _, (l0 ++ [u]) ++ [(t.1, t.2.1, (many : Int))], _, rfl, ?_, hnx, .snoc h2 c2 hcnt, by omega⟩
        rw [putM_putM]
        exact congrArg (fun x => putM M a (.lst x)) (app_lastM (f := encC) (u := (t.1, t.2.1, (many : Int))))
end
end RO
namespace RO
open PySem PySem.Spec PyProof.Rows L2 DL
section
variable {P : Program} {w : World} {K : PySem.W.Frag} {mg : Str → Option Value} {base : Heap} {T : List (Addr × Str)} {f : Addr} {fd : FuncData}
/-- a difference and a joining that no joining of the stretch is greater than -/
structure Bst (B R : List Rw) (lag lo hi d : Int) (J : List Pr) : Prop where
  lo_ : lo ≤ d
  hi_ : d ≤ hi
  grt : Grt B (pw B R lag d d) J
  mst : ∀ e, lo ≤ e → e ≤ hi → ∀ n, Mu B (pw B R lag e e) n → n ≤ J.length
def encD (d : Int) (J : List Pr) : PyData := .tuple [.int d, encPs J]
def f_best : WF := fun ds M P => ∃ (B R : List Rw) (lag lo hi : Int), ds = [.py (encL B), .py (encL R), .py (.int lag), .py (.int lo), .py (.int hi)] ∧ LogOk B ∧ LogOk R ∧ 0 ≤ lag ∧ lo ≤ hi ∧ (-5000 ≤ lo ∧ hi ≤ 5000) ∧ ∀ d J, Bst B R lag lo hi d J → P (.py (encD d J)) M
theorem ok_best (Fn : FunX K "best" "best" s_best f fd) (B : Bn K w mg) (D_counts : Dn P w K mg base T 8 "counts" ["bridge", "room", "lag", "low", "high"] [] f_counts) (D_joining : Dn P w K mg base T 8 "joining" ["bridge", "room", "d", "lag"] [] f_joining) : FnOk P w K mg base CX0 9 f fd ["bridge", "room", "lag", "low", "high"] (dSp K T f_best) := by
  refine dok Fn sc_best (fun ds M P ⟨_, _, _, _, _, h, _⟩ => by rw [h]; rfl) (fun cdv A outer s H E hr => ⟨_, (have nd := (sc_best).nd; (dss_cons (ds_set (i := 5) nd rfl (by first | exact Or.inl rfl | exact Or.inr rfl) (d_callN D_counts (hr.mono (by decide)) (by rfl) (da_cons (dv 0) (da_cons (dv 1) (da_cons (dv 2) (da_cons (dv 3) (da_cons (dv 4) da_nil))))))) (dss_cons (ds_set (i := 6) nd rfl (by first | exact Or.inl rfl | exact Or.inr rfl) (pd_callB (cr_max rfl) cd_maxL (by rfl) B.max_ (by decide +kernel) (da_cons (d_lcG false (Kx := K) (t := (.nm 8)) rfl nd (di_list (dv 5)) (blkOk_by (own := [("row", 8)]) (N := ["bridge", "room", "lag", "low", "high", "rows", "most", "d", "row"]) (sc := defScope s_best) (by decide +kernel)) (by decide) (fun _ _ _ _ _ => (pg_name (i := 8) nd rfl (by first | exact Or.inl rfl | exact Or.inr rfl))) (fun _ _ _ _ _ => dts_nil) (fun _ _ _ _ _ => (d_ix (dv 8) d_int))) da_nil))) (dss_cons (ds_set (i := 7) nd rfl (by first | exact Or.inl rfl | exact Or.inr rfl) (pd_callB (cr_min rfl) cd_minL (by rfl) B.min_ (by decide +kernel) (da_cons (d_lcG false (Kx := K) (t := (.nm 8)) rfl nd (di_list (dv 5)) (blkOk_by (own := [("row", 8)]) (N := ["bridge", "room", "lag", "low", "high", "rows", "most", "d", "row"]) (sc := defScope s_best) (by decide +kernel)) (by decide) (fun _ _ _ _ _ => (pg_name (i := 8) nd rfl (by first | exact Or.inl rfl | exact Or.inr rfl))) (fun _ _ _ _ _ => (dts_one (dt_eq hr.units (d_ix (dv 8) d_int) (dv 6)))) (fun _ _ _ _ _ => (d_ix (dv 8) d_int))) da_nil))) (dss_one (ds_ret (d_tup (da_cons (dv 7) (da_cons (d_callN D_joining (hr.mono (by decide)) (by rfl) (da_cons (dv 0) (da_cons (dv 1) (da_cons (dv 7) (da_cons (dv 2) da_nil))))) da_nil))))))))), fun ds M P h => ?_⟩)
  obtain ⟨b, r, lag, lo, hi, rfl, lb, lr, hlag, hlo, hb, k⟩ := h
  have hs : sizeLine = 16777216 := sizeLine_eq
  walk_at "dS"
  refine ⟨b, r, lag, lo, hi, rfl, lb, lr, hlag, hlo, hb, fun rows hc => ?_⟩
  have hll := hc.len
  walk_at "dS"
  refine s_lcP rows (fun t => .py (encC t)) (fun _ => true) (fun t => .int t.2.2) (by rw [List.map_map]; rfl) trivial (by omega) ?_ fun t ht QT QF h1 h2 => ?_
  · rw [if_neg (by decide), List.filter_eq_self.mpr fun _ _ => rfl]
    walk_at "dS"
    refine ⟨_, rows.map (·.2.2), rfl, ?_, ?_, fun m hm hle => ?_⟩
    · show _ = _
      rw [List.map_map]
      rfl
    · obtain ⟨c, h', _⟩ := hc.find (Int.le_refl lo) (by omega)
      rw [List.length_map]
      exact List.length_pos_of_mem h'
    walk_at "dS"
    obtain ⟨t0, ht0, hm0⟩ := List.mem_map.mp hm
    refine s_lcP rows (fun t => .py (encC t)) (fun t => decide (t.2.2 = m)) (fun t => .int t.1) (by rw [List.map_map]; rfl) trivial (by omega) ?_ fun t ht QT QF h1 h2 => ?_
    · rw [if_neg (by decide)]
      walk_at "dS"
      refine ⟨_, (rows.filter fun t => decide (t.2.2 = m)).map (·.1), rfl, ?_, ?_, fun d hd _ => ?_⟩
      · show _ = _
        rw [List.map_map]
        rfl
      · rw [List.length_map]
        exact List.length_pos_of_mem (List.mem_filter.mpr ⟨ht0, by simpa using hm0⟩)
      obtain ⟨t, ht, htd⟩ := List.mem_map.mp hd
      rw [List.mem_filter] at ht
      obtain ⟨c1, c2, c3, c4⟩ := hc.mem ht.1
      have hm1 : t.2.2 = m := by simpa using ht.2
      walk_at "dS"
      refine ⟨b, r, d, lag, rfl, lb, lr, fun J hJ => ?_⟩
      walk_at "dS"
      refine s_rt (k d J ⟨by omega, by omega, hJ, fun e he1 he2 n hn => ?_⟩)
      have hd1 := c3 d (by omega) (by omega)
      have e1 : (J.length : Int) = m := by rw [← hm1]; exact hJ.mu.uniq hd1
      obtain ⟨u, hu, hu1, hu2⟩ := hc.find he1 (by omega)
      have hu3 := (hc.mem hu).2.2.1 e hu1 hu2
      rw [hn.uniq hu3, e1]
      exact hle _ (List.mem_map.mpr ⟨u, hu, rfl⟩)
    · refine ⟨_, rfl, ?_⟩
      walk_at "dS"
      refine s_ixC2 ?_
      walk_at "dS"
      refine s_iteD (fun h => ?_) fun h => ?_
      · walk_at "dS"
        refine s_ixC0 ?_
        exact ⟨_, rfl, h1 (decide_eq_true h)⟩
      · exact h2 (decide_eq_false h)
  · refine ⟨_, rfl, ?_⟩
    walk_at "dS"
    refine s_ixC2 ?_
    exact ⟨_, rfl, h1 rfl⟩
def encK (t : Int × Int × List (List Pr)) : PyData := .tuple [.int t.1, .int t.2.1, encS t.2.2]
def encP (d : Int) (J : List Pr) (C : List (Int × Int × List (List Pr))) : PyData := .tuple [.int d, encPs J, .list (C.map encK)]
def f_best_paper : WF := fun ds M P => ∃ (B R : List Rw) (lag lo hi : Int), ds = [.py (encL B), .py (encL R), .py (.int lag), .py (.int lo), .py (.int hi)] ∧ LogOk B ∧ LogOk R ∧ 0 ≤ lag ∧ lo ≤ hi ∧ (-5000 ≤ lo ∧ hi ≤ 5000) ∧ ∀ d J C, Bst B R lag lo hi d J → Cov (Shs B R lag) lo C (hi + 1) → P (.py (encP d J C)) M
theorem ok_best_paper (Fn : FunX K "best_paper" "best_paper" s_best_paper f fd) (B : Bn K w mg) (D_best : Dn P w K mg base T 9 "best" ["bridge", "room", "lag", "low", "high"] [] f_best) (D_changes : Dn P w K mg base T 7 "changes" ["bridge", "room", "lag", "low", "high"] [] f_changes) (D_sharing_2 : Dn P w K mg base T 3 "sharing" ["bridge", "room", "pairs", "d", "lag"] [.py (.int 0), .py (.int 0)] f_sharing) : FnOk P w K mg base CX0 10 f fd ["bridge", "room", "lag", "low", "high"] (dSp K T f_best_paper) := by
  refine dok Fn sc_best_paper (fun ds M P ⟨_, _, _, _, _, h, _⟩ => by rw [h]; rfl) (fun cdv A outer s H E hr => ⟨_, (have nd := (sc_best_paper).nd; (dss_cons (ds_asg (Kx := K) (t := (.tp [5, 6])) (d_callN D_best (hr.mono (by decide)) (by rfl) (da_cons (dv 0) (da_cons (dv 1) (da_cons (dv 2) (da_cons (dv 3) (da_cons (dv 4) da_nil)))))) (pg_tup rfl (pgs_cons (pg_name (i := 5) nd rfl (by first | exact Or.inl rfl | exact Or.inr rfl)) (pgs_cons (pg_name (i := 6) nd rfl (by first | exact Or.inl rfl | exact Or.inr rfl)) pgs_nil)))) (dss_cons (ds_set (i := 7) nd rfl (by first | exact Or.inl rfl | exact Or.inr rfl) (d_lstM da_nil)) (dss_cons (ds_for (Kx := K) (t := (.tp [8, 9, 10])) PassesOwn.never rfl (di_list (d_callN D_changes (hr.mono (by decide)) (by rfl) (da_cons (dv 0) (da_cons (dv 1) (da_cons (dv 2) (da_cons (dv 3) (da_cons (dv 4) da_nil))))))) (pg_tup rfl (pgs_cons (pg_name (i := 8) nd rfl (by first | exact Or.inl rfl | exact Or.inr rfl)) (pgs_cons (pg_name (i := 9) nd rfl (by first | exact Or.inl rfl | exact Or.inr rfl)) (pgs_cons (pg_name (i := 10) nd rfl (by first | exact Or.inl rfl | exact Or.inr rfl)) pgs_nil)))) (dss_one (ds_expr (pd_app (pe_bm PySem.F.plainAttrs_list PySem.F.slot_list_append PySem.F.type_list_append mt_append (dv 7) (da_cons (d_tup (da_cons (dv 8) (da_cons (dv 9) (da_cons (d_callN D_sharing_2 (hr.mono (by decide)) (by rfl) (da_cons (dv 0) (da_cons (dv 1) (da_cons (dv 10) da_nil)))) da_nil)))) da_nil)))))) (dss_one (ds_ret (d_tup (da_cons (dv 5) (da_cons (dv 6) (da_cons (dvF 7) da_nil)))))))))), fun ds M P h => ?_⟩)
  obtain ⟨b, r, lag, lo, hi, rfl, lb, lr, hlag, hlo, hb, k⟩ := h
  have hs : sizeLine = 16777216 := sizeLine_eq
  walk_at "dS"
  refine ⟨b, r, lag, lo, hi, rfl, lb, lr, hlag, hlo, hb, fun d0 J0 hB => ?_⟩
  walk_at "dS"
  refine s_mk (by decide) fun a ha => ?_
  walk_at "dS"
  refine ⟨b, r, lag, lo, hi, rfl, lb, lr, hlag, hlo, hb, fun l hl => ?_⟩
  refine .inl ⟨_, rfl, ?_⟩
  have hll := hl.len
  refine ⟨fun i δ M' => ∃ o8 o9 o10 rows e, δ = [some (.py (encL b)), some (.py (encL r)), some (.py (.int lag)), some (.py (.int lo)), some (.py (.int hi)), some (.py (.int d0)), some (.py (encPs J0)), some (.own a), o8, o9, o10] ∧ M' = putM M a (.lst ((rows.map encK).map .py)) ∧ Cov (Same b r lag) lo (l.take i) e ∧ Cov (Shs b r lag) lo rows e ∧ e ≤ hi + 1, ⟨_, _, _, [], lo, rfl, rfl, .nil, .nil, by omega⟩, fun _ _ _ _ => trivial, fun δ M' h => ?_, fun i d δ M' hd h => ?_⟩
  · obtain ⟨o8, o9, o10, rows, e, rfl, rfl, h1, h2, _⟩ := h
    rw [List.length_map, List.length_map, List.take_length] at h1
    rw [h1.uniq hl] at h2
    walk_at "dS"
    refine s_varF rfl putM_same ?_
    rw [delM_putM ha]
    walk_at "dS"
    exact s_rt (k d0 J0 rows hB h2)
  · obtain ⟨o8, o9, o10, rows, e, rfl, rfl, h1, h2, h3⟩ := h
    obtain ⟨t, ht, rfl⟩ := enc_at hd
    obtain ⟨c1, c2, c3, c4⟩ := hl.at ht
    have he := h1.uniq c1
    subst he
    have hnx := hl.take ht
    have hrl := h2.len
    have hpw : pw b r lag t.1 t.2.1 = t.2.2 := pw_const c2 hlag c3
    refine ⟨_, rfl, ?_⟩
    walk_at "dS"
    refine s_own putM_same ?_
    walk_at "dS"
    refine ⟨b, r, t.2.2, _, _, rfl, by rw [← hpw]; exact pw_in, by rw [← hpw]; exact nodup_of_lex pw_pw, by rw [← hpw]; have := pw_len (lag := lag) (lo := t.1) (hi := t.2.1) lb.len lr.len; omega, fun S hS => ?_⟩
    walk_at "dS"
    refine ⟨a, _, _, rfl, rfl, putM_same, by rw [List.length_map, List.length_map]; omega, ?_⟩
    refine s_less ⟨_, _, _, rows ++ [(t.1, t.2.1, S)], _, rfl, ?_, hnx, .snoc h2 c2 ⟨by rw [hpw]; exact hS, fun d k1 k2 => by rw [c3 d k1 k2]; exact hS.mu⟩, by omega⟩
    rw [putM_putM]
    exact congrArg (fun x => putM M a (.lst x)) (app_lastM (f := encK) (u := (t.1, t.2.1, S)))
def f_is_case : WF := fun ds M P => ∃ (B R : List Rw) (c : Int × Int × List (List Pr)) (many lag hi : Int), ds = [.py (encL B), .py (encL R), .py (encK c), .py (.int many), .py (.int lag), .py (.int c.1), .py (.int hi)] ∧ LogOk B ∧ LogOk R ∧ c.1 ≤ c.2.1 ∧ c.2.1 ≤ hi ∧ Shar B (pw B R lag c.1 c.2.1) c.2.2 ∧ P (.py (.bool (decide ((c.2.2.length : Int) ≤ many)))) M
theorem ok_is_case (Fn : FunX K "is_case" "is_case" s_is_case f fd) (B : Bn K w mg) (D_is_from_to : Dn P w K mg base T 2 "is_from_to" ["thing", "least", "most"] [] f_is_from_to) (D_pairs_within : Dn P w K mg base T 6 "pairs_within" ["bridge", "room", "lag", "low", "high"] [] f_pairs_within) (D_is_sharing : Dn P w K mg base T 7 "is_sharing" ["bridge", "room", "pairs", "thing", "lag", "low", "high"] [] f_is_sharing) : FnOk P w K mg base CX0 8 f fd ["bridge", "room", "thing", "many", "lag", "first", "high"] (dSp K T f_is_case) := by
  refine dok Fn sc_is_case (fun ds M P ⟨_, _, _, _, _, _, h, _⟩ => by rw [h]; rfl) (fun cdv A outer s H E hr => ⟨_, (have nd := (sc_is_case).nd; (dss_cons (ds_if (PW.pt (dw_or (dt_not (pdt_val (pd_callB call_isi cd_isi (by rfl) B.isinstance_ (by decide +kernel) (da_cons (dv 2) (da_cons (d_ty (n := "tuple") (by rfl) B.tuple_ (by decide +kernel)) da_nil))))) (dw_or1 (dt_ne hr.units (pd_callB call_len_seq cd_len (by rfl) B.len_ PySem.boot_len (da_cons (dv 2) da_nil)) d_int)))) (dss_one (ds_ret d_bl)) dss_nil) (dss_cons (ds_if (PW.pt (dw_or (dt_not (pdt_val (d_callN D_is_from_to (hr.mono (by decide)) (by rfl) (da_cons (d_ix (dv 2) d_int) (da_cons (dv 5) (da_cons (dv 5) da_nil)))))) (dw_or1 (dt_not (pdt_val (d_callN D_is_from_to (hr.mono (by decide)) (by rfl) (da_cons (d_ix (dv 2) d_int) (da_cons (dv 5) (da_cons (dv 6) da_nil))))))))) (dss_one (ds_ret d_bl)) dss_nil) (dss_cons (ds_set (i := 7) nd rfl (by first | exact Or.inl rfl | exact Or.inr rfl) (d_callN D_pairs_within (hr.mono (by decide)) (by rfl) (da_cons (dv 0) (da_cons (dv 1) (da_cons (dv 4) (da_cons (dv 5) (da_cons (d_ix (dv 2) d_int) da_nil))))))) (dss_one (ds_ret (d_and (d_callN D_is_sharing (hr.mono (by decide)) (by rfl) (da_cons (dv 0) (da_cons (dv 1) (da_cons (dv 7) (da_cons (d_ix (dv 2) d_int) (da_cons (dv 4) (da_cons (dv 5) (da_cons (d_ix (dv 2) d_int) da_nil)))))))) (d_one (d_le hr.units0 (pd_callB call_len_seq cd_len (by rfl) B.len_ PySem.boot_len (da_cons (d_ix (dv 2) d_int) da_nil)) (dv 3)))))))))), fun ds M P h => ?_⟩)
  obtain ⟨b, r, ⟨m, n, S⟩, many, lag, hi, rfl, lb, lr, hmn, hnh, hsh, k⟩ := h
  have hs : sizeLine = 16777216 := sizeLine_eq
  unfold encK
  walk_at "dS"
  refine s_ixT rfl ?_
  walk_at "dS"
  refine ⟨m, m, m, rfl, ?_⟩
  walk_at "dS"
  refine s_iteC' (by simp) ?_
  walk_at "dS"
  refine s_ixT rfl ?_
  walk_at "dS"
  refine ⟨n, m, hi, rfl, ?_⟩
  walk_at "dS"
  refine s_iteC' (by simp; exact ⟨hmn, hnh⟩) ?_
  walk_at "dS"
  refine s_ixT rfl ?_
  walk_at "dS"
  refine ⟨b, r, lag, m, n, rfl, lb, lr, ?_⟩
  walk_at "dS"
  refine s_ixT rfl ?_
  walk_at "dS"
  refine s_ixT rfl ?_
  walk_at "dS"
  refine ⟨b, r, pw b r lag m n, S, lag, m, n, rfl, lb, lr, by have := pw_len (lag := lag) (lo := m) (hi := n) lb.len lr.len; omega, fun p hp => (mem_pw.mp hp).1, pw_pw, hsh, ?_⟩
  walk_at "dS"
  refine s_ixT rfl ?_
  walk_at "dS"
  refine s_lenL (ds := S.map encPs) ?_
  walk_at "dS"
  refine s_rt ?_
  rw [List.length_map]
  exact k
def f_is_best : WF := fun ds M P => ∃ (B R : List Rw) (d : Int) (J : List Pr) (C : List (Int × Int × List (List Pr))) (lag lo hi : Int), ds = [.py (encL B), .py (encL R), .py (encP d J C), .py (.int lag), .py (.int lo), .py (.int hi)] ∧ LogOk B ∧ LogOk R ∧ lo ≤ d ∧ d ≤ hi ∧ Jn B R lag d J ∧ Cov (fun m n S => Shar B (pw B R lag m n) S) lo C (hi + 1) ∧ (-5000 ≤ lo ∧ hi ≤ 5000) ∧ P (.py (.bool (C.all fun c => decide ((c.2.2.length : Int) ≤ J.length)))) M
theorem ok_is_best (Fn : FunX K "is_best" "is_best" s_is_best f fd) (B : Bn K w mg) (D_is_from_to : Dn P w K mg base T 2 "is_from_to" ["thing", "least", "most"] [] f_is_from_to) (D_is_joining : Dn P w K mg base T 6 "is_joining" ["bridge", "room", "thing", "d", "lag"] [] f_is_joining) (D_is_case : Dn P w K mg base T 8 "is_case" ["bridge", "room", "thing", "many", "lag", "first", "high"] [] f_is_case) : FnOk P w K mg base CX0 9 f fd ["bridge", "room", "thing", "lag", "low", "high"] (dSp K T f_is_best) := by
  refine dok Fn sc_is_best (fun ds M P ⟨_, _, _, _, _, _, _, _, h, _⟩ => by rw [h]; rfl) (fun cdv A outer s H E hr => ⟨_, (have nd := (sc_is_best).nd; (dss_cons (ds_if (PW.pt (dw_or (dt_not (pdt_val (pd_callB call_isi cd_isi (by rfl) B.isinstance_ (by decide +kernel) (da_cons (dv 2) (da_cons (d_ty (n := "tuple") (by rfl) B.tuple_ (by decide +kernel)) da_nil))))) (dw_or (dt_ne hr.units (pd_callB call_len_seq cd_len (by rfl) B.len_ PySem.boot_len (da_cons (dv 2) da_nil)) d_int) (dw_or1 (dt_not (pdt_val (d_callN D_is_from_to (hr.mono (by decide)) (by rfl) (da_cons (d_ix (dv 2) d_int) (da_cons (dv 4) (da_cons (dv 5) da_nil)))))))))) (dss_one (ds_ret d_bl)) dss_nil) (dss_cons (ds_if (PW.pt (dw_or (dt_not (pdt_val (d_callN D_is_joining (hr.mono (by decide)) (by rfl) (da_cons (dv 0) (da_cons (dv 1) (da_cons (d_ix (dv 2) d_int) (da_cons (d_ix (dv 2) d_int) (da_cons (dv 3) da_nil)))))))) (dw_or1 (dt_not (pdt_val (pd_callB call_isi cd_isi (by rfl) B.isinstance_ (by decide +kernel) (da_cons (d_ix (dv 2) d_int) (da_cons (d_ty (n := "list") (by rfl) B.list_ (by decide +kernel)) da_nil)))))))) (dss_one (ds_ret d_bl)) dss_nil) (dss_cons (ds_set (i := 6) nd rfl (by first | exact Or.inl rfl | exact Or.inr rfl) (dv 4)) (dss_cons (ds_for (Kx := K) (t := (.nm 7)) PassesOwn.never rfl (di_list (d_ix (dv 2) d_int)) (pg_name (i := 7) nd rfl (by first | exact Or.inl rfl | exact Or.inr rfl)) (dss_cons (ds_if (dt_not (pdt_val (d_callN D_is_case (hr.mono (by decide)) (by rfl) (da_cons (dv 0) (da_cons (dv 1) (da_cons (dv 7) (da_cons (pd_callB call_len_seq cd_len (by rfl) B.len_ PySem.boot_len (da_cons (d_ix (dv 2) d_int) da_nil)) (da_cons (dv 3) (da_cons (dv 6) (da_cons (dv 5) da_nil)))))))))) (dss_one (ds_ret d_bl)) dss_nil) (dss_one (ds_set (i := 6) nd rfl (by first | exact Or.inl rfl | exact Or.inr rfl) (d_add (d_ix (dv 7) d_int) d_int))))) (dss_one (ds_ret (d_eq hr.units (dv 6) (d_add (dv 5) d_int))))))))), fun ds M P h => ?_⟩)
  obtain ⟨b, r, d, J, C, lag, lo, hi, rfl, lb, lr, hlo, hhi, hJ, hC, hb, k⟩ := h
  have hs : sizeLine = 16777216 := sizeLine_eq
  have hll := hC.len
  unfold encP
  walk_at "dS"
  refine s_ixT rfl ?_
  walk_at "dS"
  refine ⟨d, lo, hi, rfl, ?_⟩
  walk_at "dS"
  refine s_iteC' (by simp; exact ⟨hlo, hhi⟩) ?_
  walk_at "dS"
  refine s_ixT rfl ?_
  walk_at "dS"
  refine s_ixT rfl ?_
  walk_at "dS"
  refine ⟨b, r, J, d, lag, rfl, lb, lr, hJ, ?_⟩
  walk_at "dS"
  refine s_ixT rfl ?_
  walk_at "dS"
  refine s_ixT rfl ?_
  walk_at "dS"
  refine ⟨fun i δ M' => ∃ fi o7, δ = [some (.py (encL b)), some (.py (encL r)), some (.py (encP d J C)), some (.py (.int lag)), some (.py (.int lo)), some (.py (.int hi)), some (.py (.int fi)), o7] ∧ M' = M ∧ Cov (fun m n S => Shar b (pw b r lag m n) S) lo (C.take i) fi ∧ ∀ c ∈ C.take i, (c.2.2.length : Int) ≤ J.length, ⟨lo, _, rfl, rfl, .nil, fun c hc => (by cases hc)⟩, fun _ _ _ _ => trivial, fun δ M' h => ?_, fun i y δ M' hd h => ?_⟩
  · obtain ⟨fi, o7, rfl, rfl, h1, h2⟩ := h
    rw [List.length_map, List.length_map, List.take_length] at h1 h2
    have he := h1.uniq hC
    subst he
    have e1 : (C.all fun c => decide ((c.2.2.length : Int) ≤ J.length)) = true := List.all_eq_true.mpr fun c hc => decide_eq_true (h2 c hc)
    rw [e1] at k
    walk_at "dS"
    refine s_rt ?_
    rw [decide_eq_true (p := hi + 1 = hi + 1) rfl]
    exact k
  · obtain ⟨fi, o7, rfl, rfl, h1, h2⟩ := h
    obtain ⟨c, hc, rfl⟩ := enc_at hd
    obtain ⟨c1, c2, c3, c4⟩ := hC.at hc
    have he := h1.uniq c1
    subst he
    have hnx := hC.take hc
    refine ⟨_, rfl, ?_⟩
    unfold encP
    walk_at "dS"
    refine s_ixT rfl ?_
    walk_at "dS"
    refine ⟨b, r, c, _, lag, hi, rfl, lb, lr, c2, by omega, c3, ?_⟩
    rw [List.length_map]
    walk_at "dS"
    refine s_iteN (fun h => ?_) fun h => ?_
    · walk_at "dS"
      have e1 : (C.all fun c => decide ((c.2.2.length : Int) ≤ J.length)) = false := by
        rw [List.all_eq_false]
        exact ⟨c, List.mem_of_getElem? hc, by simpa using h⟩
      rw [e1] at k
      exact s_rt k
    · walk_at "dS"
      refine ⟨_, ixD_tup rfl, ?_⟩
      walk_at "dS"
      refine s_less ⟨_, _, rfl, rfl, hnx, fun u hu => ?_⟩
      rw [List.take_add_one, hc] at hu
      rcases List.mem_append.mp hu with hu | hu
      · exact h2 u hu
      · have : u = c := by simpa using hu
        rw [this]
        exact of_decide_eq_true h
end
end RO
namespace RO
open PySem PySem.Spec PyProof.Rows L2 DL
section
variable {P : Program} {w : World} {K : PySem.W.Frag} {mg : Str → Option Value} {base : Heap} {T : List (Addr × Str)} {f : Addr} {fd : FuncData}
/-- a pen: its cells, its place, what it has left -/
def penO (c : List Int) (p l : Int) : MO := .lst [.py (.list (c.map .int)), .py (.int p), .py (.int l)]
/-- the pen at a: its place is at most n -/
def Pen (M : Mem) (a : Addr) (n : Int) : Prop := ∃ c p l, M a = some (penO c p l) ∧ 0 ≤ p ∧ p ≤ n
theorem canLay_I : ∀ l : List Int, PyData.canLayAll0 (l.map .int) = true
  | [] => by simp [PyData.canLayAll0]
  | p :: r => by
    have := canLay_I r
    rw [List.map_cons]
    simp [PyData.canLayAll0, this, PyData.canLay0]
theorem depth_I : ∀ l : List Int, PyData.depthAll (l.map .int) ≤ 3
  | [] => by simp [PyData.depthAll]
  | p :: r => by
    have h1 := depth_I r
    rw [List.map_cons]
    simp [PyData.depthAll, PyData.depth]
    omega
theorem shaped_I (l : List Int) : SeqAt.shaped (.list (l.map .int)) = true := by
  have := depth_I l
  simp [SeqAt.shaped, PyData.canLay0, canLay_I, PyData.depth]
  omega
theorem s_neNilP {M : Mem} {P : Dat → Mem → Prop} {ds : List PyData} (hs : SeqAt.shaped (.list ds) = true) (h : P (.py (.bool (!decide (ds = [])))) M) : fNe (.py (.list ds)) (.py (.list [])) M P :=
  ⟨_, ⟨.list ds, .list [], rfl, rfl, hs, by decide +kernel, rfl⟩, by rw [PyData.eqv, eqvAll_nil]; exact h⟩
theorem atI_at {α : Type} {l : List α} {i : Int} (h0 : 0 ≤ i) (h1 : i < l.length) : ∃ x, x ∈ l ∧ atI l i = some x := by
  obtain ⟨n, rfl⟩ := Int.eq_ofNat_of_zero_le h0
  have hn : n < l.length := by omega
  refine ⟨l[n], List.getElem_mem hn, ?_⟩
  unfold atI ixN
  rw [if_pos h0, if_pos h1]
  simp [hn]
theorem atI_map {α β : Type} {g : α → β} {l : List α} {i : Int} {x : α} (h : atI l i = some x) : atI (l.map g) i = some (g x) := by
  unfold atI at h ⊢
  rw [List.length_map]
  cases e : ixN l.length i with
  | none => rw [e] at h; cases h
  | some j =>
    rw [e] at h
    simp only [Option.bind_some] at h ⊢
    rw [List.getElem?_map, h]
    rfl
def f_draw : WF := fun ds M P => ∃ (a : Addr) (n many : Int), ds = [.own a, .py (.int many)] ∧ Pen M a n ∧ n ≤ 1000000 ∧ 0 < many ∧ many ≤ 1000000 ∧ ∀ v c p l, 0 ≤ v → v < many → 0 ≤ p → p ≤ n + 1 → P (.py (.int v)) (putM M a (penO c p l))
theorem ok_draw (Fn : FunX K "_law_draw" "_law_draw" s__law_draw f fd) (B : Bn K w mg) : FnOk P w K mg base CX0 1 f fd ["_law_pen", "_law_many"] (dSp K T f_draw) := by
  refine dok Fn sc__law_draw (fun ds M P ⟨_, _, _, h, _⟩ => by rw [h]; rfl) (fun cdv A outer s H E hr => ⟨_, (have nd := (sc__law_draw).nd; (dss_cons (ds_if (dt_gt (d_ix (dv 0) d_int) d_int) (dss_cons (ds_set (i := 5) nd rfl (by first | exact Or.inl rfl | exact Or.inr rfl) (d_mod (d_ix (dv 0) d_int) (dv 1))) (dss_cons (ds_setI (d_div (d_ix (dv 0) d_int) (dv 1)) (dv 0) d_int) (dss_one (ds_ret (dv 5))))) dss_nil) (dss_cons (ds_set (i := 2) nd rfl (by first | exact Or.inl rfl | exact Or.inr rfl) (d_ix (dv 0) d_int)) (dss_cons (ds_setI (d_add (dv 2) d_int) (dv 0) d_int) (dss_cons (ds_set (i := 3) nd rfl (by first | exact Or.inl rfl | exact Or.inr rfl) (d_add (d_mul d_int (dv 2)) d_int)) (dss_cons (ds_if (dt_ne hr.units (d_ix (dv 0) d_int) (d_lst da_nil)) (dss_one (ds_set (i := 3) nd rfl (by first | exact Or.inl rfl | exact Or.inr rfl) (d_ix (d_ix (dv 0) d_int) (d_mod (dv 2) (pd_callB call_len_seq cd_len (by rfl) B.len_ PySem.boot_len (da_cons (d_ix (dv 0) d_int) da_nil)))))) dss_nil) (dss_cons (ds_if (PW.pt (dw_and (dt_lt (dv 2) (pd_callB call_len_seq cd_len (by rfl) B.len_ PySem.boot_len (da_cons (d_ix (dv 0) d_int) da_nil))) (dw_and1 (dt_ge (pd_callB call_abs cd_abs (by rfl) B.abs_ (by decide +kernel) (da_cons (dv 3) da_nil)) (d_pow d_int d_int))))) (dss_cons (ds_setI (d_div (pd_callB call_abs cd_abs (by rfl) B.abs_ (by decide +kernel) (da_cons (dv 3) da_nil)) (dv 1)) (dv 0) d_int) (dss_one (ds_ret (d_mod (pd_callB call_abs cd_abs (by rfl) B.abs_ (by decide +kernel) (da_cons (dv 3) da_nil)) (dv 1))))) dss_nil) (dss_cons (ds_set (i := 4) nd rfl (by first | exact Or.inl rfl | exact Or.inr rfl) (d_mod (d_pow (d_add (d_add (d_mod (dv 3) d_int) (d_mul d_int (dv 2))) d_int) d_int) d_int)) (dss_cons (ds_set (i := 4) nd rfl (by first | exact Or.inl rfl | exact Or.inr rfl) (d_mod (d_pow (d_add (d_add (dv 4) (d_mul (d_mul d_int (dv 2)) (dv 2))) d_int) d_int) d_int)) (dss_one (ds_ret (d_mod (d_div (d_mod (d_add (d_mul (dv 4) (d_add (dv 2) d_int)) d_int) d_int) d_int) (dv 1))))))))))))), fun ds M P h => ?_⟩)
  obtain ⟨a, n, many, rfl, ⟨c, p, l, hM, hp0, hpn⟩, hn, hm, hm2, k⟩ := h
  have hs : sizeLine = 16777216 := sizeLine_eq
  unfold penO at hM
  walk_at "dS"
  refine s_ixO hM rfl ?_
  walk_at "dS"
  refine s_iteD (fun hl => ?_) fun hl => ?_
  · walk_at "dS"
    refine s_ixO hM rfl ?_
    walk_at "dS"
    refine s_I hm ?_
    walk_at "dS"
    refine s_ixO hM rfl ?_
    walk_at "dS"
    refine s_I ⟨hm, by omega⟩ ?_
    walk_at "dS"
    refine ⟨a, _, 2, 2, rfl, rfl, hM, rfl, ?_⟩
    walk_at "dS"
    exact s_rt (k _ c p _ (Int.emod_nonneg _ (by omega)) (Int.emod_lt_of_pos _ hm) hp0 (by omega))
  · walk_at "dS"
    refine s_ixO hM rfl ?_
    walk_at "dS"
    refine ⟨a, _, 1, 1, rfl, rfl, hM, rfl, ?_⟩
    walk_at "dS"
    refine s_I (.inl ⟨by omega, by omega⟩) ?_
    walk_at "dS"
    refine s_ixO putM_same rfl ?_
    walk_at "dS"
    refine s_neNilP (shaped_I c) ?_
    walk_at "dS"
    have fin : ∀ z : Int, wSeq (wIf (wAnd (wB (wOp fLt (wVar 2) (wCB fLen (wCons (wOp fIx (wVar 0) (wC (Dat.py (PyData.int 0)))) wNil)))) (wB (wOp fGe (wCB fAbs (wCons (wVar 3) wNil)) (wOp (fI CPow fun i j => i ^ j.toNat) (wC (Dat.py (PyData.int 10))) (wC (Dat.py (PyData.int 18))))))) (wSeq (wSetI (wOp (fI CDiv fun i j => i / j) (wCB fAbs (wCons (wVar 3) wNil)) (wVar 1)) (wVar 0) (wC (Dat.py (PyData.int 2)))) (wRet (wOp (fI (fun x j => 0 < j) fun i j => i % j) (wCB fAbs (wCons (wVar 3) wNil)) (wVar 1)))) wNext) (wSeq (wAsg (wOp (fI (fun x j => 0 < j) fun i j => i % j) (wOp (fI CPow fun i j => i ^ j.toNat) (wOp fAdd (wOp fAdd (wOp (fI (fun x j => 0 < j) fun i j => i % j) (wVar 3) (wC (Dat.py (PyData.int 2147483563)))) (wOp (fI CMul fun i j => i * j) (wC (Dat.py (PyData.int 30011))) (wVar 2))) (wC (Dat.py (PyData.int 19)))) (wC (Dat.py (PyData.int 3)))) (wC (Dat.py (PyData.int 2147483629)))) (Tgt.nm 4)) (wSeq (wAsg (wOp (fI (fun x j => 0 < j) fun i j => i % j) (wOp (fI CPow fun i j => i ^ j.toNat) (wOp fAdd (wOp fAdd (wVar 4) (wOp (fI CMul fun i j => i * j) (wOp (fI CMul fun i j => i * j) (wC (Dat.py (PyData.int 60013))) (wVar 2)) (wVar 2))) (wC (Dat.py (PyData.int 5)))) (wC (Dat.py (PyData.int 5)))) (wC (Dat.py (PyData.int 2147483543)))) (Tgt.nm 4)) (wRet (wOp (fI (fun x j => 0 < j) fun i j => i % j) (wOp (fI CDiv fun i j => i / j) (wOp (fI (fun x j => 0 < j) fun i j => i % j) (wOp fAdd (wOp (fI CMul fun i j => i * j) (wVar 4) (wOp fAdd (wVar 2) (wC (Dat.py (PyData.int 11))))) (wC (Dat.py (PyData.int 41)))) (wC (Dat.py (PyData.int 2147483647)))) (wC (Dat.py (PyData.int 16)))) (wVar 1))))) (dEnds P) [some (.own a), some (.py (.int many)), some (.py (.int p)), some (.py (.int z)), none, none] (putM M a (.lst [.py (.list (c.map .int)), .py (.int (p + 1)), .py (.int l)])) := fun z => by
      walk_at "dS"
      refine s_ixO putM_same rfl ?_
      walk_at "dS"
      have rest : wSeq (wAsg (wOp (fI (fun x j => 0 < j) fun i j => i % j) (wOp (fI CPow fun i j => i ^ j.toNat) (wOp fAdd (wOp fAdd (wOp (fI (fun x j => 0 < j) fun i j => i % j) (wVar 3) (wC (Dat.py (PyData.int 2147483563)))) (wOp (fI CMul fun i j => i * j) (wC (Dat.py (PyData.int 30011))) (wVar 2))) (wC (Dat.py (PyData.int 19)))) (wC (Dat.py (PyData.int 3)))) (wC (Dat.py (PyData.int 2147483629)))) (Tgt.nm 4)) (wSeq (wAsg (wOp (fI (fun x j => 0 < j) fun i j => i % j) (wOp (fI CPow fun i j => i ^ j.toNat) (wOp fAdd (wOp fAdd (wVar 4) (wOp (fI CMul fun i j => i * j) (wOp (fI CMul fun i j => i * j) (wC (Dat.py (PyData.int 60013))) (wVar 2)) (wVar 2))) (wC (Dat.py (PyData.int 5)))) (wC (Dat.py (PyData.int 5)))) (wC (Dat.py (PyData.int 2147483543)))) (Tgt.nm 4)) (wRet (wOp (fI (fun x j => 0 < j) fun i j => i % j) (wOp (fI CDiv fun i j => i / j) (wOp (fI (fun x j => 0 < j) fun i j => i % j) (wOp fAdd (wOp (fI CMul fun i j => i * j) (wVar 4) (wOp fAdd (wVar 2) (wC (Dat.py (PyData.int 11))))) (wC (Dat.py (PyData.int 41)))) (wC (Dat.py (PyData.int 2147483647)))) (wC (Dat.py (PyData.int 16)))) (wVar 1)))) (dEnds P) [some (.own a), some (.py (.int many)), some (.py (.int p)), some (.py (.int z)), none, none] (putM M a (.lst [.py (.list (c.map .int)), .py (.int (p + 1)), .py (.int l)])) := by
        have h1 := Int.emod_nonneg z (show (2147483563 : Int) ≠ 0 by decide)
        have h2 := Int.emod_lt_of_pos z (show (0 : Int) < 2147483563 by decide)
        walk_at "dS"
        refine s_I (show (0 : Int) < 2147483563 by decide) ?_
        walk_at "dS"
        refine s_I (.inl ⟨by decide, by decide⟩) ?_
        walk_at "dS"
        refine s_I ⟨by decide, by decide, by omega⟩ ?_
        walk_at "dS"
        refine s_I (show (0 : Int) < 2147483629 by decide) ?_
        generalize hn1 : ((z % 2147483563 + 30011 * p + 19) ^ Int.toNat 3 : Int) = n1
        have h3 := Int.emod_nonneg n1 (show (2147483629 : Int) ≠ 0 by decide)
        have h4 := Int.emod_lt_of_pos n1 (show (0 : Int) < 2147483629 by decide)
        generalize n1 % 2147483629 = n2 at h3 h4 ⊢
        walk_at "dS"
        refine s_I (.inl ⟨by decide, by decide⟩) ?_
        walk_at "dS"
        refine s_I (.inl ⟨by omega, by omega⟩) ?_
        walk_at "dS"
        have h5 : 0 ≤ 60013 * p * p := Int.mul_nonneg (by omega) hp0
        have h6 : 60013 * p * p ≤ 60013 * 1000000 * 1000000 := Int.mul_le_mul (by omega) (by omega) hp0 (by omega)
        refine s_I ⟨by decide, by decide, by omega⟩ ?_
        walk_at "dS"
        refine s_I (show (0 : Int) < 2147483543 by decide) ?_
        walk_at "dS"
        refine s_I (.inr ⟨by omega, by omega⟩) ?_
        walk_at "dS"
        refine s_I (show (0 : Int) < 2147483647 by decide) ?_
        walk_at "dS"
        refine s_I ⟨by decide, by decide⟩ ?_
        walk_at "dS"
        refine s_I hm ?_
        exact s_rt (k _ c _ _ (Int.emod_nonneg _ (by omega)) (Int.emod_lt_of_pos _ hm) (by omega) (by omega))
      refine s_iteD (fun hlt => ?_) fun hlt => ?_
      · walk_at "dS"
        refine s_I ⟨by decide, by decide, by decide⟩ ?_
        walk_at "dS"
        refine s_iteD (fun hge => ?_) fun hge => ?_
        · walk_at "dS"
          refine s_I ⟨hm, by omega⟩ ?_
          walk_at "dS"
          refine ⟨a, _, 2, 2, rfl, rfl, putM_same, rfl, ?_⟩
          walk_at "dS"
          refine s_I hm ?_
          rw [putM_putM]
          exact s_rt (k _ c _ _ (Int.emod_nonneg _ (by omega)) (Int.emod_lt_of_pos _ hm) (by omega) (by omega))
        · refine s_next ?_
          exact rest
      · refine s_iteF ?_
        refine s_next ?_
        exact rest
    refine s_iteN (fun hc => ?_) fun hc => ?_
    · walk_at "dS"
      refine s_ixO putM_same rfl ?_
      walk_at "dS"
      refine s_ixO putM_same rfl ?_
      walk_at "dS"
      have hc0 : 0 < (c.map PyData.int).length := List.length_pos_iff.mpr (by simpa using hc)
      refine s_I (show (0 : Int) < ((c.map PyData.int).length : Nat) by omega) ?_
      obtain ⟨z, _, hz⟩ := atI_at (l := c) (i := p % ((c.map PyData.int).length : Nat)) (Int.emod_nonneg _ (by omega)) (by
        have := Int.emod_lt_of_pos p (show (0 : Int) < ((c.map PyData.int).length : Nat) by omega)
        rw [List.length_map] at this ⊢
        exact this)
      refine s_ixL (atI_map hz) ?_
      refine ⟨_, rfl, ?_⟩
      exact fin z
    · refine s_next ?_
      exact fin _
end
end RO
namespace RO
open PySem PySem.Spec PyProof.Rows L2 DL
section
variable {P : Program} {w : World} {K : PySem.W.Frag} {mg : Str → Option Value} {base : Heap} {T : List (Addr × Str)} {f : Addr} {fd : FuncData} {M M' M'' : Mem} {a b : Addr} {n m : Int}
/-- the pen at a has moved, and nothing else -/
def PenAt (M : Mem) (a : Addr) (n : Int) (M' : Mem) : Prop := ∃ c p l, M' = putM M a (penO c p l) ∧ 0 ≤ p ∧ p ≤ n
theorem PenAt.pen (h : PenAt M a n M') : Pen M' a n := by
  obtain ⟨c, p, l, rfl, h1, h2⟩ := h
  exact ⟨c, p, l, putM_same, h1, h2⟩
theorem Pen.at (h : Pen M a n) : PenAt M a n M := by
  obtain ⟨c, p, l, hM, h1, h2⟩ := h
  exact ⟨c, p, l, (putM_id hM).symm, h1, h2⟩
theorem Pen.mono (h : Pen M a n) (e : n ≤ m) : Pen M a m := by
  obtain ⟨c, p, l, hM, h1, h2⟩ := h
  exact ⟨c, p, l, hM, h1, by omega⟩
theorem PenAt.mono (h : PenAt M a n M') (e : n ≤ m) : PenAt M a m M' := by
  obtain ⟨c, p, l, hM, h1, h2⟩ := h
  exact ⟨c, p, l, hM, h1, by omega⟩
theorem PenAt.trans (h : PenAt M a n M') (h' : PenAt M' a m M'') : PenAt M a m M'' := by
  obtain ⟨c, p, l, rfl, h1, h2⟩ := h
  obtain ⟨c', p', l', rfl, h1', h2'⟩ := h'
  exact ⟨c', p', l', by rw [putM_putM], h1', h2'⟩
theorem PenAt.ne (h : PenAt M a n M') {x : Addr} (e : x ≠ a) : M' x = M x := by
  obtain ⟨c, p, l, rfl, h1, h2⟩ := h
  exact putM_ne e
theorem Pen.some_ (h : Pen M a n) : M a ≠ none := by
  obtain ⟨c, p, l, hM, _⟩ := h
  rw [hM]
  intro z
  cases z
theorem s_draw {many : Int} {P : Dat → Mem → Prop} (h : PenAt M a n M') (hn : n ≤ 1000000) (hm : 0 < many) (hm2 : many ≤ 1000000) (k : ∀ v M'', 0 ≤ v → v < many → PenAt M a (n + 1) M'' → P (.py (.int v)) M'') : f_draw [.own a, .py (.int many)] M' P :=
  ⟨a, n, many, rfl, h.pen, hn, hm, hm2, fun v c p l h1 h2 h3 h4 => k v _ h1 h2 (h.trans ⟨c, p, l, rfl, h3, h4⟩)⟩
/-- the pen moved and some new things stand beside -/
structure PenLe (M : Mem) (a : Addr) (n : Int) (M' : Mem) : Prop where
  pen : Pen M' a n
  old : ∀ x o, x ≠ a → M x = some o → M' x = some o
theorem PenLe.down (h : PenLe M a n M') : ∃ M'', PenAt M a n M'' ∧ MLe M'' M' := by
  obtain ⟨c, p, l, hM, h1, h2⟩ := h.pen
  refine ⟨_, ⟨c, p, l, rfl, h1, h2⟩, fun x o hx => ?_⟩
  by_cases e : x = a
  · rw [e, putM_same] at hx
    rw [e, hM]
    exact hx
  · rw [putM_ne e] at hx
    exact h.old x o e hx
theorem PenAt.le (h : PenAt M a n M') : PenLe M a n M' := ⟨h.pen, fun x o e hx => by rw [h.ne e]; exact hx⟩
def six : List Str := ["port", "star", "aport", "astar", "down", "up"]
def LinesOk (ls : List Str) : Prop := ls ≠ [] ∧ ls.length ≤ 6 ∧ ∀ x ∈ ls, x ∈ six
theorem six_tab : ∀ x ∈ six, ∃ h, sentTab x = some h := by
  intro x hx
  simp [six] at hx
  rcases hx with rfl | rfl | rfl | rfl | rfl | rfl
  · exact ⟨_, rfl⟩
  · exact ⟨_, rfl⟩
  · exact ⟨_, rfl⟩
  · exact ⟨_, rfl⟩
  · exact ⟨_, rfl⟩
  · exact ⟨_, rfl⟩
def f_lines : WF := fun ds M P => ∃ (a : Addr) (n : Int), ds = [.own a] ∧ Pen M a n ∧ n ≤ 900000 ∧ ∀ ls M', LinesOk ls → PenAt M a (n + 2) M' → P (.py (.list (ls.map .str))) M'
theorem cut_map {α β : Type} {g : α → β} (l : List α) (lo hi : Option Int) : cutP (l.map g) lo hi = (cutP l lo hi).map g := by
  unfold cutP
  rw [List.length_map, ← List.map_drop, ← List.map_take]
theorem v6 {v : Int} (h0 : 0 ≤ v) (h1 : v < 6) : v = 0 ∨ v = 1 ∨ v = 2 ∨ v = 3 ∨ v = 4 ∨ v = 5 := by omega
theorem v5 {v : Int} (h0 : 0 ≤ v) (h1 : v < 5) : v = 0 ∨ v = 1 ∨ v = 2 ∨ v = 3 ∨ v = 4 := by omega
theorem lines_1 {v : Int} (h0 : 0 ≤ v) (h1 : v < 6) : LinesOk (cutP six (some v) (some (v + 1))) := by
  rcases v6 h0 h1 with rfl | rfl | rfl | rfl | rfl | rfl <;> (unfold LinesOk; decide +kernel)
theorem lines_2 {v : Int} (h0 : 0 ≤ v) (h1 : v < 6) : LinesOk (cutP six (some (v / 2)) none) := by
  rcases v6 h0 h1 with rfl | rfl | rfl | rfl | rfl | rfl <;> (unfold LinesOk; decide +kernel)
theorem ok_lines (Fn : FunX K "_law_lines" "_law_lines" s__law_lines f fd) (B : Bn K w mg) (D__law_draw : Dn P w K mg base T 1 "_law_draw" ["_law_pen", "_law_many"] [] f_draw) : FnOk P w K mg base CX0 2 f fd ["_law_pen"] (dSp K T f_lines) := by
  refine dok Fn sc__law_lines (fun ds M P ⟨_, _, h, _⟩ => by rw [h]; rfl) (fun cdv A outer s H E hr => ⟨_, (have nd := (sc__law_lines).nd; (dss_cons (ds_set (i := 1) nd rfl (by first | exact Or.inl rfl | exact Or.inr rfl) (d_lst (da_cons d_str (da_cons d_str (da_cons d_str (da_cons d_str (da_cons d_str (da_cons d_str da_nil)))))))) (dss_cons (ds_set (i := 2) nd rfl (by first | exact Or.inl rfl | exact Or.inr rfl) (d_callN D__law_draw (hr.mono (by decide)) (by rfl) (da_cons (dv 0) (da_cons d_int da_nil)))) (dss_one (ds_ret (d_ix (d_lst (da_cons (dv 1) (da_cons (d_slL (dv 1) (do_some (dv 2)) (do_some (d_add (dv 2) d_int))) (da_cons (d_add (d_slL (dv 1) do_none (do_some d_int)) (d_slL (dv 1) (do_some d_int) (do_some d_int))) (da_cons (d_slL (dv 1) (do_some d_int) do_none) (da_cons (d_slL (dv 1) (do_some (d_div (dv 2) d_int)) do_none) da_nil)))))) (d_callN D__law_draw (hr.mono (by decide)) (by rfl) (da_cons (dv 0) (da_cons d_int da_nil))))))))), fun ds M P h => ?_⟩)
  obtain ⟨a, n, rfl, hp, hn, k⟩ := h
  have hs : sizeLine = 16777216 := sizeLine_eq
  walk_at "dS"
  refine s_draw hp.at (by omega) (by decide) (by decide) fun v M1 h0 h1 p1 => ?_
  walk_at "dS"
  refine s_addL (by rw [hs]; decide +kernel) ?_
  walk_at "dS"
  refine s_I ⟨by decide, by decide⟩ ?_
  walk_at "dS"
  refine s_draw p1 (by omega) (by decide) (by decide) fun j M2 j0 j1 p2 => ?_
  have p3 : PenAt M a (n + 2) M2 := p2.mono (by omega)
  rcases v5 j0 j1 with rfl | rfl | rfl | rfl | rfl
  · exact s_ixL rfl (s_rt (k six M2 (by unfold LinesOk; decide +kernel) p3))
  · refine s_ixL rfl (s_rt ?_)
    have := k _ M2 (lines_1 h0 h1) p3
    rw [← cut_map] at this
    exact this
  · exact s_ixL rfl (s_rt (k ["port", "aport"] M2 (by unfold LinesOk; decide +kernel) p3))
  · exact s_ixL rfl (s_rt (k ["down", "up"] M2 (by unfold LinesOk; decide +kernel) p3))
  · refine s_ixL rfl (s_rt ?_)
    have := k _ M2 (lines_2 h0 h1) p3
    rw [← cut_map] at this
    exact this
def words6 : List Str := ["port", "stop", "none", "bridge", "abcdefgh", "z"]
def f_whats : WF := fun ds M P => ∃ (a : Addr) (n : Int), ds = [.own a] ∧ Pen M a n ∧ n ≤ 900000 ∧ ∀ (os : List Int) (ws : List Str) M', os ≠ [] → os.length ≤ 3 → ws.length = 2 → (∀ x ∈ ws, x ∈ words6) → PenAt M a (n + 20) M' → P (.py (.tuple [.list (os.map .int), .list (ws.map .str)])) M'
theorem ok_whats (Fn : FunX K "_law_whats" "_law_whats" s__law_whats f fd) (B : Bn K w mg) (D__law_draw : Dn P w K mg base T 1 "_law_draw" ["_law_pen", "_law_many"] [] f_draw) : FnOk P w K mg base CX0 2 f fd ["_law_pen"] (dSp K T f_whats) := by
  refine dok Fn sc__law_whats (fun ds M P ⟨_, _, h, _⟩ => by rw [h]; rfl) (fun cdv A outer s H E hr => ⟨_, (have nd := (sc__law_whats).nd; (dss_cons (ds_set (i := 1) nd rfl (by first | exact Or.inl rfl | exact Or.inr rfl) (d_add d_int (d_callN D__law_draw (hr.mono (by decide)) (by rfl) (da_cons (dv 0) (da_cons d_int da_nil))))) (dss_cons (ds_setLcG false (Kx := K) (i := 2) (t := (.nm 5)) rfl nd rfl rfl (sw_true rfl rfl rfl (by decide +kernel)) (di_range1 (by rfl) B.range_ (da_cons (dv 1) da_nil)) (blkOk_by (own := [("_law_k", 5)]) (N := ["_law_pen", "_law_few", "_law_orders", "_law_words", "_law_first", "_law_k"]) (sc := defScope s__law_whats) (by decide +kernel)) (by decide) (fun _ _ _ _ _ => (pg_name (i := 5) nd rfl (by first | exact Or.inl rfl | exact Or.inr rfl))) (fun _ _ _ _ _ => dts_nil) (fun _ _ _ _ _ => (d_ix (d_lst (da_cons (d_sub (d_callN D__law_draw (hr.mono (by decide)) (by rfl) (da_cons (dv 0) (da_cons d_int da_nil))) d_int) (da_cons (d_neg d_int) (da_cons d_int (da_cons d_int da_nil))))) (d_callN D__law_draw (hr.mono (by decide)) (by rfl) (da_cons (dv 0) (da_cons d_int da_nil)))))) (dss_cons (ds_set (i := 3) nd rfl (by first | exact Or.inl rfl | exact Or.inr rfl) (d_lst (da_cons d_str (da_cons d_str (da_cons d_str (da_cons d_str (da_cons d_str (da_cons d_str da_nil)))))))) (dss_cons (ds_set (i := 4) nd rfl (by first | exact Or.inl rfl | exact Or.inr rfl) (d_callN D__law_draw (hr.mono (by decide)) (by rfl) (da_cons (dv 0) (da_cons d_int da_nil)))) (dss_one (ds_ret (d_tup (da_cons (dv 2) (da_cons (d_lst (da_cons (d_ix (dv 3) (dv 4)) (da_cons (d_ix (dv 3) (d_mod (d_add (d_add (dv 4) d_int) (d_callN D__law_draw (hr.mono (by decide)) (by rfl) (da_cons (dv 0) (da_cons d_int da_nil)))) d_int)) da_nil))) da_nil)))))))))), fun ds M P h => ?_⟩)
  obtain ⟨a, n, rfl, hp, hn, k⟩ := h
  have hs : sizeLine = 16777216 := sizeLine_eq
  walk_at "dS"
  refine s_draw hp.at (by omega) (by decide) (by decide) fun v M1 h0 h1 p1 => ?_
  walk_at "dS"
  refine ⟨1 + v, rfl, by omega, by omega, ?_⟩
  refine ⟨fun i acc M' => ∃ os : List Int, acc = os.map .int ∧ os.length = i ∧ PenAt M a (n + 1 + 2 * i) M' ∧ (i : Int) ≤ 1 + v, ⟨[], rfl, rfl, p1.mono (by omega), by omega⟩, fun _ _ _ _ => trivial, fun acc M' h => ?_, fun i d acc M' hd h => ?_⟩
  · obtain ⟨os, rfl, hl, hp', _⟩ := h
    rw [List.length_map, rgI_len] at hl hp'
    rw [if_neg (by decide)]
    walk_at "dS"
    refine s_draw hp' (by omega) (by decide) (by decide) fun u M2 h2 h3 p2 => ?_
    walk_at "dS"
    obtain ⟨x, hx6, hx⟩ := atI_at (l := words6) h2 h3
    refine s_ixL (atI_map (g := PyData.str) hx) ?_
    walk_at "dS"
    refine s_draw p2 (by omega) (by decide) (by decide) fun j M3 j0 j1 p3 => ?_
    walk_at "dS"
    refine s_I (show (0 : Int) < 6 by decide) ?_
    obtain ⟨y, hy6, hy⟩ := atI_at (l := words6) (i := (u + 1 + j) % 6) (Int.emod_nonneg _ (by decide)) (Int.emod_lt_of_pos _ (by decide))
    refine s_ixL (atI_map (g := PyData.str) hy) ?_
    walk_at "dS"
    exact s_rt (k os [x, y] M3 (fun e => by rw [e] at hl; simp at hl; omega) (by omega) rfl (fun z hz => by rcases List.mem_cons.mp hz with e | hz; exact e ▸ hx6; exact (List.mem_singleton.mp hz) ▸ hy6) (p3.mono (by omega)))
  · obtain ⟨os, rfl, hl, hp', hi⟩ := h
    obtain ⟨rfl, hd2⟩ := rg_at hd
    refine ⟨_, rfl, ?_⟩
    walk_at "dS"
    refine s_draw hp' (by omega) (by decide) (by decide) fun u M2 h2 h3 p2 => ?_
    walk_at "dS"
    refine s_draw p2 (by omega) (by decide) (by decide) fun j M3 j0 j1 p3 => ?_
    have fin : ∀ x : Int, ∃ z, Dat.py (.int x) = .py z ∧ (os.map PyData.int).length < sizeLine ∧ ∃ os' : List Int, os.map .int ++ [z] = os'.map .int ∧ os'.length = i + 1 ∧ PenAt M a (n + 1 + 2 * ((i + 1 : Nat) : Int)) M3 ∧ ((i + 1 : Nat) : Int) ≤ 1 + v := fun x => ⟨_, rfl, by rw [List.length_map]; omega, os ++ [x], by rw [List.map_append]; rfl, by rw [List.length_append]; exact congrArg Nat.succ hl, p3.mono (by omega), by omega⟩
    have j4 : j = 0 ∨ j = 1 ∨ j = 2 ∨ j = 3 := by omega
    rcases j4 with rfl | rfl | rfl | rfl
    · exact s_ixL rfl (fin _)
    · exact s_ixL rfl (fin _)
    · exact s_ixL rfl (fin _)
    · exact s_ixL rfl (fin _)
end
end RO
namespace RO
open PySem PySem.Spec PyProof.Rows L2 DL
section
variable {P : Program} {w : World} {K : PySem.W.Frag} {mg : Str → Option Value} {base : Heap} {T : List (Addr × Str)} {f : Addr} {fd : FuncData} {M M' M'' : Mem} {a b : Addr} {n m : Int}
theorem sum_nonneg : ∀ l : List Int, (∀ x ∈ l, 0 ≤ x) → 0 ≤ l.sum
  | [], _ => by simp
  | x :: r, h => by
    have h1 := h x List.mem_cons_self
    have h2 := sum_nonneg r fun y hy => h y (List.mem_cons_of_mem _ hy)
    rw [List.sum_cons]
    omega
def f_alike : WF := fun ds M P => ∃ B R : List Rw, ds = [.py (encL B), .py (encL R)] ∧ LogOk B ∧ LogOk R ∧ ∀ n : Int, 0 ≤ n → P (.py (.int n)) M
def likeN (R : List Rw) (r : Rw) : Int := ((R.filter fun y => decide (Alike y r)).map fun _ => PyData.int 1).length
theorem ok_alike (Fn : FunX K "_law_alike" "_law_alike" s__law_alike f fd) (B : Bn K w mg) : FnOk P w K mg base CX0 1 f fd ["_law_deck", "_law_hold"] (dSp K T f_alike) := by
  refine dok Fn sc__law_alike (fun ds M P ⟨_, _, h, _⟩ => by rw [h]; rfl) (fun cdv A outer s H E hr => ⟨_, (have nd := (sc__law_alike).nd; (dss_one (ds_ret (pd_callB (cr_sum rfl) cd_sumI (by rfl) B.sum_ (by decide +kernel) (da_cons (d_lcG false (Kx := K) (t := (.nm 2)) rfl nd (di_tup (dv 0)) (blkOk_by (own := [("_law_mine", 2)]) (N := ["_law_deck", "_law_hold", "_law_mine", "_law_yours"]) (sc := defScope s__law_alike) (by decide +kernel)) (by decide) (fun _ _ _ _ _ => (pg_name (i := 2) nd rfl (by first | exact Or.inl rfl | exact Or.inr rfl))) (fun _ _ _ _ _ => dts_nil) (fun _ _ _ _ _ => (pd_callB call_len_seq cd_len (by rfl) B.len_ PySem.boot_len (da_cons (d_lcG false (Kx := K) (t := (.nm 3)) rfl nd (di_tup (dv 1)) (blkOk_by (own := [("_law_yours", 3)]) (N := ["_law_deck", "_law_hold", "_law_mine", "_law_yours"]) (sc := { kind := .function, names := [(".0", .local), ("_law_mine", .cell), ("len", .globalImplicit), ("_law_hold", .cell)], isGenerator := false, isCoroutine := false }) (by decide +kernel)) (by decide) (fun _ _ _ _ _ => (pg_name (i := 3) nd rfl (by first | exact Or.inl rfl | exact Or.inr rfl))) (fun _ _ _ _ _ => (dts_one (dt_eq hr.units (d_slT (dv 3) (do_some d_int) do_none) (d_slT (dv 2) (do_some d_int) do_none)))) (fun _ _ _ _ _ => d_int)) da_nil)))) da_nil))))), fun ds M P h => ?_⟩)
  obtain ⟨b, r, rfl, lb, lr, k⟩ := h
  have hs : sizeLine = 16777216 := sizeLine_eq
  have h1 := lb.len
  have h2 := lr.len
  walk_at "dS"
  refine ⟨b.map encR, rfl, ?_⟩
  refine s_lcP b (fun t => .py (encR t)) (fun _ => true) (fun t => .int (likeN r t)) (by rw [List.map_map]; rfl) trivial (by omega) ?_ fun t ht QT QF q1 q2 => ?_
  · rw [if_neg (by decide), List.filter_eq_self.mpr fun _ _ => rfl]
    walk_at "dS"
    refine ⟨_, b.map (likeN r), rfl, ?_, ?_⟩
    · show _ = _
      rw [List.map_map]
      rfl
    · refine s_rt (k _ (sum_nonneg _ fun x hx => ?_))
      obtain ⟨t, _, rfl⟩ := List.mem_map.mp hx
      unfold likeN
      omega
  · refine ⟨_, rfl, ?_⟩
    walk_at "dS"
    refine ⟨r.map encR, rfl, ?_⟩
    refine s_lcP r (fun t => .py (encR t)) (fun y => decide (Alike y t)) (fun _ => .int 1) (by rw [List.map_map]; rfl) trivial (by omega) ?_ fun y hy QT2 QF2 q3 q4 => ?_
    · rw [if_neg (by decide)]
      walk_at "dS"
      exact ⟨_, rfl, q1 rfl⟩
    · refine ⟨_, rfl, ?_⟩
      walk_at "dS"
      refine s_eqTl (lr.sh y hy) (lb.sh t ht) ?_
      walk_at "dS"
      refine s_ite (fun h => ?_) fun h => ?_
      · walk_at "dS"
        exact ⟨_, rfl, q3 h⟩
      · exact q4 h
def f_stretch : WF := fun ds M P => ∃ (a : Addr) (n far : Int), ds = [.own a, .py (.int far)] ∧ Pen M a n ∧ n ≤ 900000 ∧ ∀ (x y : Int) M', -1440 ≤ x → x ≤ y → y ≤ 1440 → PenAt M a (n + 3) M' → P (.py (.tuple [.int x, .int y])) M'
theorem ok_stretch (Fn : FunX K "_law_stretch" "_law_stretch" s__law_stretch f fd) (B : Bn K w mg) (D__law_draw : Dn P w K mg base T 1 "_law_draw" ["_law_pen", "_law_many"] [] f_draw) : FnOk P w K mg base CX0 2 f fd ["_law_pen", "_law_far"] (dSp K T f_stretch) := by
  refine dok Fn sc__law_stretch (fun ds M P ⟨_, _, _, h, _⟩ => by rw [h]; rfl) (fun cdv A outer s H E hr => ⟨_, (have nd := (sc__law_stretch).nd; (dss_cons (ds_set (i := 2) nd rfl (by first | exact Or.inl rfl | exact Or.inr rfl) (d_ix (d_lst (da_cons d_int (da_cons d_int (da_cons d_int (da_cons d_int (da_cons d_int da_nil)))))) (d_callN D__law_draw (hr.mono (by decide)) (by rfl) (da_cons (dv 0) (da_cons d_int da_nil))))) (dss_cons (ds_set (i := 3) nd rfl (by first | exact Or.inl rfl | exact Or.inr rfl) (d_add (d_sub (dv 1) (d_callN D__law_draw (hr.mono (by decide)) (by rfl) (da_cons (dv 0) (da_cons (d_add (dv 2) d_int) da_nil)))) (d_ix (d_lst (da_cons d_int (da_cons d_int (da_cons d_int (da_cons d_int (da_cons (d_neg d_int) da_nil)))))) (d_callN D__law_draw (hr.mono (by decide)) (by rfl) (da_cons (dv 0) (da_cons d_int da_nil)))))) (dss_cons (ds_set (i := 3) nd rfl (by first | exact Or.inl rfl | exact Or.inr rfl) (pd_callB (call_max2 rfl) cd_max2 (by rfl) B.max_ (by decide +kernel) (da_cons (d_neg d_int) (da_cons (pd_callB (call_min2 rfl) cd_min2 (by rfl) B.min_ (by decide +kernel) (da_cons d_int (da_cons (dv 3) da_nil))) da_nil)))) (dss_one (ds_ret (d_tup (da_cons (dv 3) (da_cons (pd_callB (call_min2 rfl) cd_min2 (by rfl) B.min_ (by decide +kernel) (da_cons d_int (da_cons (d_add (dv 3) (dv 2)) da_nil))) da_nil))))))))), fun ds M P h => ?_⟩)
  obtain ⟨a, n, far, rfl, hp, hn, k⟩ := h
  have hs : sizeLine = 16777216 := sizeLine_eq
  walk_at "dS"
  refine s_draw hp.at (by omega) (by decide) (by decide) fun v M1 h0 h1 p1 => ?_
  have hw : ∃ wd : Int, atI [PyData.int 0, .int 1, .int 4, .int 12, .int 30] v = some (.int wd) ∧ 0 ≤ wd ∧ wd ≤ 30 := by
    rcases v5 h0 h1 with rfl | rfl | rfl | rfl | rfl
    · exact ⟨_, rfl, by decide, by decide⟩
    · exact ⟨_, rfl, by decide, by decide⟩
    · exact ⟨_, rfl, by decide, by decide⟩
    · exact ⟨_, rfl, by decide, by decide⟩
    · exact ⟨_, rfl, by decide, by decide⟩
  obtain ⟨wd, e, w0, w1⟩ := hw
  refine s_ixL e ?_
  walk_at "dS"
  refine s_draw p1 (by omega) (by omega) (by omega) fun u M2 h2 h3 p2 => ?_
  walk_at "dS"
  refine s_draw p2 (by omega) (by omega) (by omega) fun j M3 j0 j1 p3 => ?_
  have hq : ∃ z : Int, atI [PyData.int 0, .int 0, .int 0, .int 9, .int (-9)] j = some (.int z) := by
    rcases v5 j0 j1 with rfl | rfl | rfl | rfl | rfl
    · exact ⟨_, rfl⟩
    · exact ⟨_, rfl⟩
    · exact ⟨_, rfl⟩
    · exact ⟨_, rfl⟩
    · exact ⟨_, rfl⟩
  obtain ⟨z, e2⟩ := hq
  refine s_ixL e2 ?_
  walk_at "dS"
  exact s_rt (k _ _ M3 (by omega) (by omega) (by omega) (p3.mono (by omega)))
/-- a list of counts, difference by difference -/
def flatR (rows : List (Int × Int × Int)) : List Pr := rows.flatMap fun t => (rgI t.1 (t.2.1 + 1)).map fun x => (x, t.2.2)
theorem flatR_snoc (l : List (Int × Int × Int)) (t : Int × Int × Int) : flatR (l ++ [t]) = flatR l ++ (rgI t.1 (t.2.1 + 1)).map fun x => (x, t.2.2) := by
  unfold flatR
  rw [List.flatMap_append]
  simp
theorem flat_len {R : Int → Int → Int → Prop} {lo e : Int} {l : List (Int × Int × Int)} (h : Cov R lo l e) : ((flatR l).length : Int) = e - lo := by
  induction h with
  | nil => simp [flatR]
  | snoc h1 h2 h3 ih =>
    rename_i l m n x
    rw [flatR_snoc, List.length_append, List.length_map, rgI_len]
    show ((_ + (n + 1 - m).toNat : Nat) : Int) = _
    have := h1.le
    omega
def f_flat : WF := fun ds M P => ∃ (B R : List Rw) (lag lo e : Int) (rows : List (Int × Int × Int)), ds = [.py (.list (rows.map encC))] ∧ Cov (Cnt B R lag) lo rows e ∧ (-5000 ≤ lo ∧ e ≤ 5001) ∧ P (.py (encPs (flatR rows))) M
theorem ok_flat (Fn : FunX K "_law_flat" "_law_flat" s__law_flat f fd) (B : Bn K w mg) : FnOk P w K mg base CX0 1 f fd ["_law_rows"] (dSp K T f_flat) := by
  refine dok Fn sc__law_flat (fun ds M P ⟨_, _, _, _, _, _, h, _⟩ => by rw [h]; rfl) (fun cdv A outer s H E hr => ⟨_, (have nd := (sc__law_flat).nd; (dss_cons (ds_set (i := 1) nd rfl (by first | exact Or.inl rfl | exact Or.inr rfl) (d_lst da_nil)) (dss_cons (ds_for (Kx := K) (t := (.tp [2, 3, 4])) PassesOwn.never rfl (di_list (dv 0)) (pg_tup rfl (pgs_cons (pg_name (i := 2) nd rfl (by first | exact Or.inl rfl | exact Or.inr rfl)) (pgs_cons (pg_name (i := 3) nd rfl (by first | exact Or.inl rfl | exact Or.inr rfl)) (pgs_cons (pg_name (i := 4) nd rfl (by first | exact Or.inl rfl | exact Or.inr rfl)) pgs_nil)))) (dss_one (ds_set (i := 1) nd rfl (by first | exact Or.inl rfl | exact Or.inr rfl) (d_add (dv 1) (d_lcG false (Kx := K) (t := (.nm 5)) rfl nd (di_range2 (by rfl) B.range_ (da_cons (dv 2) (da_cons (d_add (dv 3) d_int) da_nil))) (blkOk_by (own := [("_law_x", 5)]) (N := ["_law_rows", "_law_found", "_law_first", "_law_last", "_law_many", "_law_x"]) (sc := defScope s__law_flat) (by decide +kernel)) (by decide) (fun _ _ _ _ _ => (pg_name (i := 5) nd rfl (by first | exact Or.inl rfl | exact Or.inr rfl))) (fun _ _ _ _ _ => dts_nil) (fun _ _ _ _ _ => (d_tup (da_cons (dv 5) (da_cons (dv 4) da_nil))))))))) (dss_one (ds_ret (dv 1)))))), fun ds M P h => ?_⟩)
  obtain ⟨b, r, lag, lo, e, rows, rfl, hc, hb, k⟩ := h
  have hs : sizeLine = 16777216 := sizeLine_eq
  have hll := hc.len
  walk_at "dS"
  refine ⟨fun i δ M' => ∃ F o2 o3 o4 o5, δ = [some (.py (.list (rows.map encC))), some (.py (encPs F)), o2, o3, o4, o5] ∧ M' = M ∧ F = flatR (rows.take i), ⟨[], _, _, _, _, rfl, rfl, rfl⟩, fun _ _ _ _ => trivial, fun δ M' h => ?_, fun i d δ M' hd h => ?_⟩
  · obtain ⟨F, o2, o3, o4, o5, rfl, rfl, hF⟩ := h
    rw [List.length_map, List.length_map, List.take_length] at hF
    walk_at "dS"
    rw [hF]
    exact s_rt k
  · obtain ⟨F, o2, o3, o4, o5, rfl, rfl, hF⟩ := h
    subst hF
    generalize hF : flatR (rows.take i) = F
    obtain ⟨t, ht, rfl⟩ := enc_at hd
    obtain ⟨c1, c2, c3, c4⟩ := hc.at ht
    have hlt : i < rows.length := (List.getElem?_eq_some_iff.mp ht).1
    have hlo := c1.le
    refine ⟨_, rfl, ?_⟩
    walk_at "dS"
    refine ⟨t.1, t.2.1 + 1, rfl, ⟨by omega, by omega, by omega, by omega⟩, ?_⟩
    have hrl := rgI_len t.1 (t.2.1 + 1)
    refine s_lcP (rgI t.1 (t.2.1 + 1)) (fun x => .py (.int x)) (fun _ => true) (fun x => prP (x, t.2.2)) rfl trivial (by omega) ?_ fun x hx QT QF q1 q2 => ?_
    · rw [if_neg (by decide), List.filter_eq_self.mpr fun _ _ => rfl]
      have hi := flat_len c1
      rw [hF] at hi
      have hi2 : ((rgI t.1 (t.2.1 + 1)).map fun x => prP (x, t.2.2)).length ≤ 20000 := by rw [List.length_map]; omega
      refine s_addL (by rw [List.length_map]; omega) ?_
      have e1 : F.map prP ++ (rgI t.1 (t.2.1 + 1)).map (fun x => prP (x, t.2.2)) = (F ++ (rgI t.1 (t.2.1 + 1)).map fun x => (x, t.2.2)).map prP := by
        rw [List.map_append, List.map_map]
        rfl
      rw [e1]
      refine ⟨_, rfl, ?_⟩
      refine s_less ⟨_, _, _, _, _, rfl, rfl, ?_⟩
      rw [List.take_add_one, ht]
      show _ = flatR (rows.take i ++ [t])
      rw [flatR_snoc, hF]
    · refine ⟨_, rfl, ?_⟩
      walk_at "dS"
      exact ⟨_, rfl, q1 rfl⟩
end
end RO
namespace RO
open PySem PySem.Spec PyProof.Rows L2 DL
section
variable {P : Program} {w : World} {K : PySem.W.Frag} {mg : Str → Option Value} {base : Heap} {T : List (Addr × Str)} {f : Addr} {fd : FuncData} {M M' M'' : Mem} {a b : Addr} {n m : Int}
theorem PenLe.step (h : PenLe M a n M') (h' : PenAt M' a m M'') : PenLe M a m M'' := ⟨h'.pen, fun x o e hx => by rw [h'.ne e]; exact h.old x o e hx⟩
theorem PenLe.put {x : Addr} {o : MO} (h : PenLe M a n M') (e : x ≠ a) (hx : M x = none) : PenLe M a n (putM M' x o) := by
  refine ⟨?_, fun y u hy hM => ?_⟩
  · obtain ⟨c, p, l, hM, h1, h2⟩ := h.pen
    exact ⟨c, p, l, by rw [putM_ne (Ne.symm e)]; exact hM, h1, h2⟩
  · rw [putM_ne fun z => by rw [z, hx] at hM; cases hM]
    exact h.old y u hy hM
theorem PenLe.none_ {x : Addr} (h : PenLe M a n M') (hx : M' x = none) : M x = none ∧ x ≠ a := by
  have e : x ≠ a := fun z => by
    obtain ⟨c, p, l, hM, _⟩ := h.pen
    rw [z, hM] at hx
    cases hx
  refine ⟨?_, e⟩
  cases z : M x with
  | none => rfl
  | some o => rw [h.old x o e z] at hx; cases hx
theorem PenLe.mono (h : PenLe M a n M') (e : n ≤ m) : PenLe M a m M' := ⟨h.pen.mono e, h.old⟩
theorem erase_perm {α : Type} : ∀ {l : List α} {i : Nat} {p : α}, l[i]? = some p → (p :: l.eraseIdx i).Perm l
  | x :: r, 0, p, h => by
    simp at h
    subst h
    exact .refl _
  | x :: r, i + 1, p, h => by
    rw [List.getElem?_cons_succ] at h
    rw [List.eraseIdx_cons_succ]
    exact .trans (.swap _ _ _) (.cons _ (erase_perm h))
theorem erase_map {α β : Type} {g : α → β} : ∀ {l : List α} {i : Nat}, (l.map g).eraseIdx i = (l.eraseIdx i).map g
  | [], i => by simp
  | x :: r, 0 => by simp
  | x :: r, i + 1 => by
    rw [List.map_cons, List.eraseIdx_cons_succ, List.eraseIdx_cons_succ, List.map_cons, erase_map]
/-- two found pairs stand together -/
def Pal (B : List Rw) (p q : Pr) : Prop := lineOf B p = lineOf B q → ahead p q = true ∨ ahead q p = true
structure MdSt (B : List Rw) (every : List Pr) (M M' : Mem) (a l f : Addr) (n : Int) (left found : List Pr) : Prop where
  pen : PenLe M a (n + 2 * (every.length - left.length)) M'
  ml : M' l = some (.lst ((left.map prP).map .py))
  mf : M' f = some (.lst ((found.map prP).map .py))
  nd : (found ++ left).Nodup
  sub : ∀ p ∈ found ++ left, p ∈ every
  ok : ∀ p ∈ found, ∀ q ∈ found, p ≠ q → Pal B p q
def f_made : WF := fun ds M P => ∃ (a : Addr) (n : Int) (B : List Rw) (every : List Pr), ds = [.own a, .py (encL B), .py (encPs every)] ∧ LogOk B ∧ (∀ p ∈ every, 0 ≤ p.1 ∧ p.1 < B.length) ∧ every.Nodup ∧ every.length ≤ 324 ∧ Pen M a n ∧ n ≤ 900000 ∧ ∀ J M', St B J → (∀ p ∈ J, p ∈ every) → PenAt M a (n + 700) M' → P (.py (encPs J)) M'
theorem st_of {B : List Rw} {found J : List Pr} (nd : found.Nodup) (ok : ∀ p ∈ found, ∀ q ∈ found, p ≠ q → Pal B p q) (pm : J.Perm found) (so : J.Pairwise fun p q => pairLe p q = true) : St B J := by
  have hlex := lex_of_sorted so (pm.nodup_iff.mpr nd)
  refine (List.Pairwise.and_mem.mp hlex).imp fun {p q} h => ⟨h.2.2, fun e => ?_⟩
  rcases ok p (pm.mem_iff.mp h.1) q (pm.mem_iff.mp h.2.1) (lexLt_ne h.2.2) e with z | z
  · exact z
  · rw [ahead_iff] at z
    have := h.2.2
    unfold lexLt at this
    omega
theorem ok_made (Fn : FunX K "_law_made" "_law_made" s__law_made f fd) (B : Bn K w mg) (D__law_draw : Dn P w K mg base T 1 "_law_draw" ["_law_pen", "_law_many"] [] f_draw) : FnOk P w K mg base CX0 2 f fd ["_law_pen", "_law_deck", "_law_every"] (dSp K T f_made) := by
  refine dok Fn sc__law_made (fun ds M P ⟨_, _, _, _, h, _⟩ => by rw [h]; rfl) (fun cdv A outer s H E hr => ⟨_, (have nd := (sc__law_made).nd; (dss_cons (ds_set (i := 3) nd rfl (by first | exact Or.inl rfl | exact Or.inr rfl) (pd_callTy call_list_of cd_listM (by rfl) B.list_ (by decide +kernel) (da_cons (dv 2) da_nil))) (dss_cons (ds_set (i := 4) nd rfl (by first | exact Or.inl rfl | exact Or.inr rfl) (d_lstM da_nil)) (dss_cons (ds_while PassesOwn.never (dt_ne hr.units (dv 3) (d_lst da_nil)) (dss_cons (ds_asg (Kx := K) (t := (.tp [5, 6])) (pd_pop (pe_bm PySem.F.plainAttrs_list PySem.F.slot_list_pop PySem.F.type_list_pop mt_popAt (dv 3) (da_cons (d_callN D__law_draw (hr.mono (by decide)) (by rfl) (da_cons (dv 0) (da_cons (pd_callB call_len_seq cd_len (by rfl) B.len_ PySem.boot_len (da_cons (dv 3) da_nil)) da_nil))) da_nil))) (pg_tup rfl (pgs_cons (pg_name (i := 5) nd rfl (by first | exact Or.inl rfl | exact Or.inr rfl)) (pgs_cons (pg_name (i := 6) nd rfl (by first | exact Or.inl rfl | exact Or.inr rfl)) pgs_nil)))) (dss_cons (ds_setLcG true (Kx := K) (i := 7) (t := (.nm 8)) rfl nd rfl rfl (sw_true rfl rfl rfl (by decide +kernel)) (di_list (dv 4)) (blkOk_by (own := [("_law_one", 8)]) (N := ["_law_pen", "_law_deck", "_law_every", "_law_left", "_law_found", "_law_b", "_law_r", "_law_bad", "_law_one"]) (sc := defScope s__law_made) (by decide +kernel)) (by decide) (fun _ _ _ _ _ => (pg_name (i := 8) nd rfl (by first | exact Or.inl rfl | exact Or.inr rfl))) (fun _ _ _ _ _ => (dts_one (PW.pt (dw_or (dt_eq hr.units (d_ix (dv 8) d_int) (dv 5)) (dw_or1 (dt_eq hr.units (d_ix (dv 8) d_int) (dv 6))))))) (fun _ _ _ _ _ => d_int)) (dss_cons (ds_for (Kx := K) (t := (.nm 8)) PassesOwn.never rfl (di_list (dv 4)) (pg_name (i := 8) nd rfl (by first | exact Or.inl rfl | exact Or.inr rfl)) (dss_one (ds_if (PW.pt (dw_and (dt_eq hr.units (d_ix (d_ix (dv 1) (d_ix (dv 8) d_int)) d_int) (d_ix (d_ix (dv 1) (dv 5)) d_int)) (dw_and1 (dt_ne hr.units (d_lt (d_ix (dv 8) d_int) (dv 5)) (d_lt (d_ix (dv 8) d_int) (dv 6)))))) (dss_one (ds_expr (pd_app (pe_bm PySem.F.plainAttrs_list PySem.F.slot_list_append PySem.F.type_list_append mt_append (dv 7) (da_cons d_int da_nil))))) dss_nil))) (dss_one (ds_if (PW.pt (dw_and (dt_eq hr.units (dv 7) (d_lst da_nil)) (dw_and1 (dt_gt (d_callN D__law_draw (hr.mono (by decide)) (by rfl) (da_cons (dv 0) (da_cons d_int da_nil))) d_int)))) (dss_one (ds_expr (pd_app (pe_bm PySem.F.plainAttrs_list PySem.F.slot_list_append PySem.F.type_list_append mt_append (dv 4) (da_cons (d_tup (da_cons (dv 5) (da_cons (dv 6) da_nil))) da_nil))))) dss_nil)))))) (dss_one (ds_ret (pd_callB cr_sortedPO cd_sorted (by rfl) B.sorted_ (by decide +kernel) (da_cons (dv 4) da_nil)))))))), fun ds M P h => ?_⟩)
  obtain ⟨a, n, b, every, rfl, lb, hb, hnd, hl, hp, hn, k⟩ := h
  have hs : sizeLine = 16777216 := sizeLine_eq
  walk_at "dS"
  refine ⟨_, every.map prP, rfl, .inl rfl, fun l hlN => ?_⟩
  walk_at "dS"
  refine s_mk (by decide) fun f hfN => ?_
  have hla : l ≠ a := fun z => hp.some_ (by rw [← z]; exact hlN)
  have hfl : f ≠ l := fun z => by rw [z, putM_same] at hfN; cases hfN
  have hfM : M f = none := by rw [putM_ne hfl] at hfN; exact hfN
  have hfa : f ≠ a := fun z => hp.some_ (by rw [← z]; exact hfM)
  walk_at "dS"
  refine ⟨fun m δ M' => ∃ left found o5 o6 o7 o8, δ = [some (.own a), some (.py (encL b)), some (.py (encPs every)), some (.own l), some (.own f), o5, o6, o7, o8] ∧ m = left.length ∧ MdSt b every M M' a l f n left found, ⟨every.length, every, [], _, _, _, _, rfl, rfl, ?_⟩, fun m δ M' h => ?_⟩
  · refine ⟨(hp.at.le.put hla hlN |>.put hfa hfM).mono (by omega), by rw [putM_ne (Ne.symm hfl)]; exact putM_same, putM_same, hnd, fun p hp => hp, fun p hp => by cases hp⟩
  · obtain ⟨left, found, o5, o6, o7, o8, rfl, rfl, st⟩ := h
    walk_at "dS"
    have hml : left.length ≤ 324 := by
      refine Nat.le_trans (nodup_len (m := every) ?_ fun p hp => st.sub p (List.mem_append_right _ hp)) hl
      exact (List.nodup_append.mp st.nd).2.1
    have hmf : found.length ≤ 324 := by
      refine Nat.le_trans (nodup_len (m := every) ?_ fun p hp => st.sub p (List.mem_append_left _ hp)) hl
      exact (List.nodup_append.mp st.nd).1
    refine s_neNilO st.ml (shaped_prs left) ?_
    walk_at "dS"
    refine s_iteN (fun hne => ?_) fun he => ?_
    · walk_at "dS"
      refine s_own st.ml ?_
      walk_at "dS"
      refine s_lenO st.ml ?_
      walk_at "dS"
      have hpos : 0 < left.length := List.length_pos_iff.mpr fun z => by rw [z] at hne; simp at hne
      rw [List.length_map, List.length_map]
      refine s_draw st.pen.pen.at (by omega) (by omega) (by omega) fun v M1 h0 h1 p1 => ?_
      walk_at "dS"
      obtain ⟨i, rfl⟩ := Int.eq_ofNat_of_zero_le h0
      have hi : i < left.length := by omega
      have hpi : left[i]? = some left[i] := by simp [hi]
      generalize left[i] = p at hpi
      have hM1l : M1 l = some (.lst ((left.map prP).map .py)) := by rw [p1.ne hla]; exact st.ml
      have hM1f : M1 f = some (.lst ((found.map prP).map .py)) := by rw [p1.ne hfa]; exact st.mf
      refine ⟨l, i, _, .py (prP p), rfl, rfl, hM1l, by rw [List.length_map, List.length_map]; omega, by rw [List.getElem?_map, List.getElem?_map, hpi]; rfl, ?_⟩
      rw [erase_map, erase_map]
      have pm := erase_perm hpi
      have st1 : PenLe M a (n + 2 * (every.length - left.length) + 1) (putM M1 l (.lst (((left.eraseIdx i).map prP).map .py))) := (st.pen.step p1).put hla hlN
      generalize hM2 : putM M1 l (.lst (((left.eraseIdx i).map prP).map .py)) = M2 at st1 ⊢
      have hM2l : M2 l = some (.lst (((left.eraseIdx i).map prP).map .py)) := by rw [← hM2]; exact putM_same
      have hM2f : M2 f = some (.lst ((found.map prP).map .py)) := by rw [← hM2, putM_ne hfl]; exact hM1f
      refine ⟨_, rfl, ?_⟩
      have hplen : left.length = (left.eraseIdx i).length + 1 := by rw [← pm.length_eq]; rfl
      generalize left.eraseIdx i = left' at *
      have hpe : p ∈ every := st.sub p (List.mem_append_right _ (pm.mem_iff.mp List.mem_cons_self))
      have hfe : ∀ q ∈ found, q ∈ every := fun q hq => st.sub q (List.mem_append_left _ hq)
      have hnd2 : (found ++ p :: left').Nodup := ((List.Perm.refl found).append pm).nodup_iff.mpr st.nd
      walk_at "dS"
      refine .inr ⟨f, _, rfl, hM2f, ?_⟩
      refine s_lcP found (fun q => .py (prP q)) (fun q => decide (q.1 = p.1) || decide (q.2 = p.2)) (fun _ => .int 1) (by rw [List.map_map]; rfl) hM2f (by omega) ?_ fun q hq QT QF q1 q2 => ?_
      · rw [if_pos rfl]
        intro D hD
        walk_at "dS"
        have hDf : f ≠ D := fun z => by rw [← z, hM2f] at hD; cases hD
        have hDl : l ≠ D := fun z => by rw [← z, hM2l] at hD; cases hD
        have hDn := st1.none_ hD
        refine .inr ⟨f, _, rfl, by rw [putM_ne hDf]; exact hM2f, ?_⟩
        refine ⟨fun i δ M' => ∃ o8 us, δ = [some (.own a), some (.py (encL b)), some (.py (encPs every)), some (.own l), some (.own f), some (.py (.int p.1)), some (.py (.int p.2)), some (.own D), o8] ∧ M' = putM M2 D (.lst (((us : List Int).map PyData.int).map .py)) ∧ (us = [] → (∀ q ∈ found, q.1 ≠ p.1 ∧ q.2 ≠ p.2) ∧ ∀ q ∈ found.take i, lineOf b q = lineOf b p → (decide (q.1 < p.1)) = decide (q.2 < p.2)) ∧ us.length ≤ 324 + i, ⟨_, (found.filter fun q => decide (q.1 = p.1) || decide (q.2 = p.2)).map fun _ => 1, rfl, by simp only [List.map_map]; rfl, fun e => ⟨fun q hq => ?_, fun q hq => by cases hq⟩, ?_⟩, fun i δ M' h => ?_, fun δ M' h => ?_, fun i d δ M' hd h => ?_⟩
        · rw [List.map_eq_nil_iff, List.filter_eq_nil_iff] at e
          have := e q hq
          simp at this
          exact this
        · rw [List.length_map]
          have := List.length_filter_le (fun q : Pr => decide (q.1 = p.1) || decide (q.2 = p.2)) found
          omega
        · obtain ⟨o8, us, _, rfl, _⟩ := h
          rw [putM_ne hDf]
          exact hM2f
        · obtain ⟨o8, us, rfl, rfl, hus, _⟩ := h
          rw [List.length_map, List.length_map, List.take_length] at hus
          walk_at "dS"
          refine s_eqNilO putM_same (shaped_I us) ?_
          walk_at "dS"
          have stay : ∀ M3 o5 o6 o7 o8, PenAt (putM M2 D (.lst ((us.map PyData.int).map .py))) a (n + 2 * (every.length - left.length) + 2) M3 → less (fun δ M_2 => ∃ m', m' < left.length ∧ ∃ left found o5 o6 o7 o8, δ = [some (.own a), some (.py (encL b)), some (.py (encPs every)), some (.own l), some (.own f), o5, o6, o7, o8] ∧ m' = left.length ∧ MdSt b every M M_2 a l f n left found) [some (.own a), some (.py (encL b)), some (.py (encPs every)), some (.own l), some (.own f), o5, o6, o7, o8] M3 := fun M3 o5 o6 o7 o8 h3 => by
            refine s_less ⟨_, (by omega : left'.length < left.length), left', found, _, _, _, _, rfl, rfl, ?_⟩
            refine ⟨((st1.put hDn.2 hDn.1).step h3).mono (by omega), by rw [h3.ne hla, putM_ne hDl]; exact hM2l, by rw [h3.ne hfa, putM_ne hDf]; exact hM2f, ?_, fun q hq => ?_, st.ok⟩
            · exact hnd2.sublist ((List.Sublist.refl found).append (List.sublist_cons_self p left'))
            · rcases List.mem_append.mp hq with hq | hq
              · exact hfe q hq
              · exact st.sub q (List.mem_append_right _ (pm.mem_iff.mp (List.mem_cons_of_mem _ hq)))
          have pen0 : PenAt (putM M2 D (.lst ((us.map PyData.int).map .py))) a (n + 2 * (every.length - left.length) + 1) (putM M2 D (.lst ((us.map PyData.int).map .py))) := (st1.put hDn.2 hDn.1).pen.at
          refine s_iteD (fun h => ?_) fun h => ?_
          · walk_at "dS"
            refine s_draw pen0 (by omega) (by decide) (by decide) fun u M3 u0 u1 p3 => ?_
            have husn : us = [] := List.map_eq_nil_iff.mp h
            obtain ⟨hu1, hu2⟩ := hus husn
            walk_at "dS"
            refine s_iteD (fun h => ?_) fun h => ?_
            · walk_at "dS"
              have hM3f : M3 f = some (.lst ((found.map prP).map .py)) := by rw [p3.ne hfa, putM_ne hDf]; exact hM2f
              refine s_own hM3f ?_
              walk_at "dS"
              refine ⟨f, _, _, rfl, rfl, hM3f, by rw [List.length_map, List.length_map]; omega, ?_⟩
              refine s_less ⟨_, (by omega : left'.length < left.length), left', found ++ [p], _, _, _, _, rfl, rfl, ?_⟩
              refine ⟨(((st1.put hDn.2 hDn.1).step p3).put hfa hfM).mono (by omega), by rw [putM_ne (Ne.symm hfl), p3.ne hla, putM_ne hDl]; exact hM2l, ?_, ?_, fun q hq => ?_, fun q hq r hr hqr => ?_⟩
              · rw [putM_same]
                exact congrArg (fun x => some (MO.lst x)) (app_lastM (f := prP) (u := p))
              · rw [List.append_assoc]
                exact hnd2
              · rw [List.append_assoc] at hq
                rcases List.mem_append.mp hq with hq | hq
                · exact hfe q hq
                · exact st.sub q (List.mem_append_right _ (pm.mem_iff.mp hq))
              · have key : ∀ q ∈ found, lineOf b q = lineOf b p → ahead q p = true ∨ ahead p q = true := fun q hq e => by
                  have h1 := hu1 q hq
                  have h2 := hu2 q hq e
                  rw [ahead_iff, ahead_iff]
                  have h3 : q.1 < p.1 ↔ q.2 < p.2 := by simpa using h2
                  omega
                rcases List.mem_append.mp hq with hq | hq
                · rcases List.mem_append.mp hr with hr | hr
                  · exact st.ok q hq r hr hqr
                  · rw [List.mem_singleton.mp hr]
                    exact key q hq
                · rw [List.mem_singleton.mp hq] at hqr ⊢
                  rcases List.mem_append.mp hr with hr | hr
                  · exact fun e => (key r hr e.symm).symm
                  · exact absurd (List.mem_singleton.mp hr).symm hqr
            · refine s_next ?_
              exact stay M3 _ _ _ _ (p3.mono (by omega))
          · refine s_iteF ?_
            refine s_next ?_
            exact stay _ _ _ _ _ (pen0.mono (by omega))
        · obtain ⟨o8, us, rfl, rfl, hus, hul⟩ := h
          obtain ⟨q, hq, rfl⟩ := prs_at hd
          have hqf := hfe q (List.mem_of_getElem? hq)
          have hlt : i < found.length := (List.getElem?_eq_some_iff.mp hq).1
          refine ⟨_, rfl, ?_⟩
          have nxt : (lineOf b q = lineOf b p → decide (q.1 < p.1) = decide (q.2 < p.2)) → less (fun δ M' => ∃ o8 us, δ = [some (.own a), some (.py (encL b)), some (.py (encPs every)), some (.own l), some (.own f), some (.py (.int p.1)), some (.py (.int p.2)), some (.own D), o8] ∧ M' = putM M2 D (.lst (((us : List Int).map PyData.int).map .py)) ∧ (us = [] → (∀ q ∈ found, q.1 ≠ p.1 ∧ q.2 ≠ p.2) ∧ ∀ q ∈ found.take (i + 1), lineOf b q = lineOf b p → (decide (q.1 < p.1)) = decide (q.2 < p.2)) ∧ us.length ≤ 324 + (i + 1)) [some (.own a), some (.py (encL b)), some (.py (encPs every)), some (.own l), some (.own f), some (.py (.int p.1)), some (.py (.int p.2)), some (.own D), some (.py (prP q))] (putM M2 D (.lst ((us.map PyData.int).map .py))) := fun hh => by
            refine s_less ⟨_, us, rfl, rfl, fun e => ⟨(hus e).1, fun r hr => ?_⟩, by omega⟩
            rw [List.take_add_one, hq] at hr
            rcases List.mem_append.mp hr with hr | hr
            · exact (hus e).2 r hr
            · have : r = q := by simpa using hr
              rw [this]
              exact hh
          walk_at "dS"
          refine s_ixR (hb q hqf).1 (hb q hqf).2 ?_
          walk_at "dS"
          refine s_ixR (hb p hpe).1 (hb p hpe).2 ?_
          walk_at "dS"
          refine s_iteD (fun h => ?_) fun h => ?_
          · walk_at "dS"
            refine s_iteN (fun h2 => ?_) fun h2 => ?_
            · walk_at "dS"
              refine s_own putM_same ?_
              walk_at "dS"
              refine ⟨D, _, _, rfl, rfl, putM_same, by rw [List.length_map, List.length_map]; omega, ?_⟩
              refine s_less ⟨_, us ++ [1], rfl, ?_, fun e => absurd e (by simp), by rw [List.length_append]; show us.length + 1 ≤ _; omega⟩
              rw [putM_putM]
              exact congrArg (fun x => putM M2 D (.lst x)) (app_lastM (f := PyData.int) (u := 1))
            · refine s_next ?_
              exact nxt fun _ => of_decide_eq_true h2
          · refine s_iteF ?_
            refine s_next ?_
            exact nxt fun e => absurd e h
      · refine ⟨_, rfl, ?_⟩
        walk_at "dS"
        refine s_iteD (fun h => ?_) fun h => ?_
        · refine s_iteT ?_
          exact ⟨_, rfl, q1 (by simp [h])⟩
        · walk_at "dS"
          refine s_iteD (fun h' => ?_) fun h' => ?_
          · exact ⟨_, rfl, q1 (by simp [h'])⟩
          · exact q2 (by simp [h, h'])
    · walk_at "dS"
      refine ⟨_, found, rfl, ⟨_, rfl, st.mf⟩, fun J pm so => ?_⟩
      obtain ⟨M'', h1, h2⟩ := st.pen.down
      have hnf := (List.nodup_append.mp st.nd).1
      exact rt_le h2 (k J M'' (st_of hnf st.ok pm so) (fun p hp => st.sub p (List.mem_append_left _ (pm.mem_iff.mp hp))) (h1.mono (by omega)))
end
end RO
namespace RO
open PySem PySem.Spec PyProof.Rows L2 DL
section
variable {P : Program} {w : World} {K : PySem.W.Frag} {mg : Str → Option Value} {base : Heap} {T : List (Addr × Str)} {f : Addr} {fd : FuncData} {M M' M'' : Mem} {a b : Addr} {n m : Int}
theorem perm_map_inv {α β : Type} {g : α → β} {x y : List β} (h : x.Perm y) : ∀ {l : List α}, y = l.map g → ∃ l' : List α, x = l'.map g ∧ l'.Perm l := by
  induction h with
  | nil => exact fun {l} e => ⟨[], rfl, by have := List.map_eq_nil_iff.mp e.symm; rw [this]⟩
  | cons x h ih =>
    intro l e
    cases l with
    | nil => cases e
    | cons z r =>
      rw [List.map_cons] at e
      obtain ⟨l', e1, e2⟩ := ih (List.tail_eq_of_cons_eq e)
      exact ⟨z :: l', by rw [List.map_cons, ← e1, List.head_eq_of_cons_eq e], .cons _ e2⟩
  | swap x y l0 =>
    intro l e
    cases l with
    | nil => cases e
    | cons z r =>
      cases r with
      | nil => cases e
      | cons z' r =>
        rw [List.map_cons, List.map_cons] at e
        have e1 := List.head_eq_of_cons_eq e
        have e2 := List.tail_eq_of_cons_eq e
        have e3 := List.head_eq_of_cons_eq e2
        have e4 := List.tail_eq_of_cons_eq e2
        exact ⟨z' :: z :: r, by rw [List.map_cons, List.map_cons, e1, e3, e4], .swap _ _ _⟩
  | trans h1 h2 ih1 ih2 =>
    intro l e
    obtain ⟨l1, e1, p1⟩ := ih2 e
    obtain ⟨l2, e2, p2⟩ := ih1 e1
    exact ⟨l2, e2, p2.trans p1⟩
def RowOk (r : Rw) : Prop := r.ln ∈ six ∧ match r.wh with | .i _ => True | .s x => x ∈ words6
theorem six_str : ∀ x ∈ six, PyData.strOk x = true := by decide +kernel
theorem words_str : ∀ x ∈ words6, PyData.strOk x = true := by decide +kernel
theorem row_sh (r : Rw) (h : RowOk r) : SeqAt.shaped (tlP r) = true := by
  obtain ⟨m, ln, wh⟩ := r
  have h1 := six_str _ h.1
  cases wh with
  | i n =>
    simp [tlP, whP, SeqAt.shaped, PyData.canLay0, PyData.canLayAll0, PyData.depth, PyData.depthAll]
    exact h1
  | s x =>
    have h2 := words_str _ h.2
    simp [tlP, whP, SeqAt.shaped, PyData.canLay0, PyData.canLayAll0, PyData.depth, PyData.depthAll]
    exact ⟨h1, h2⟩
theorem logOk_of {l : List Rw} (h : l.length ≤ 18) (hr : ∀ r ∈ l, RowOk r) : LogOk l := ⟨h, fun x hx => six_tab _ (hr x hx).1, fun x hx => row_sh x (hr x hx)⟩
theorem head_encR (r : Rw) : ∃ n, headI (encR r) = some n := ⟨r.m, rfl⟩
theorem s_pick {P : Dat → Mem → Prop} {l : List Int} {j : Int} (j0 : 0 ≤ j) (j1 : j < l.length) (k : ∀ z ∈ l, P (.py (.int z)) M) : fIx (.py (.list (l.map .int))) (.py (.int j)) M P := by
  obtain ⟨z, hz, e⟩ := atI_at j0 j1
  exact s_ixL (atI_map (g := PyData.int) e) (k z hz)
theorem s_seqI {δ : DEnv} {G G' : WS} {E : DEnds} (I : DEnv → Mem → Prop) (h2 : ∀ δ M, I δ M → G' E δ M) (h1 : ∀ nx : DEnv → Mem → Prop, (∀ δ M, I δ M → nx δ M) → G { E with nx := nx } δ M) : wSeq G G' E δ M := h1 (G' E) h2
/-- the state of two's loop -/
structure TwSt (M M' : Mem) (a d1 d2 : Addr) (n : Int) (deck hold : List Rw) (i j : Nat) : Prop where
  pen : PenLe M a n M'
  m1 : M' d1 = some (.lst ((deck.map encR).map .py))
  m2 : M' d2 = some (.lst ((hold.map encR).map .py))
  l1 : deck.length ≤ i
  l2 : hold.length ≤ j
  r1 : ∀ r ∈ deck, RowOk r
  r2 : ∀ r ∈ hold, RowOk r
theorem TwSt.step {d1 d2 : Addr} {deck hold : List Rw} {i j : Nat} (h : TwSt M M' a d1 d2 n deck hold i j) (h1 : d1 ≠ a) (h2 : d2 ≠ a) (p : PenAt M' a m M'') : TwSt M M'' a d1 d2 m deck hold i j := ⟨h.pen.step p, by rw [p.ne h1]; exact h.m1, by rw [p.ne h2]; exact h.m2, h.l1, h.l2, h.r1, h.r2⟩
def f_two : WF := fun ds M P => ∃ (a : Addr) (n most : Int), ds = [.own a, .py (.int most)] ∧ Pen M a n ∧ n ≤ 800000 ∧ 0 ≤ most ∧ most ≤ 18 ∧ ∀ (B R : List Rw) (far slow : Int) M', LogOk B → LogOk R → 0 ≤ slow → PenAt M a (n + 1000) M' → P (.py (.tuple [encL B, encL R, .int far, .int slow])) M'
theorem ok_two {c Pt : Addr} (Fn : FunC K "_law_two" "_law_two" s__law_two f fd c) (B : Bn K w mg) (LT : TbOk base mg T c Pt "_law_two.<locals>.<lambda>") (D__law_draw : Dn P w K mg base T 1 "_law_draw" ["_law_pen", "_law_many"] [] f_draw) (D__law_lines : Dn P w K mg base T 2 "_law_lines" ["_law_pen"] [] f_lines) (D__law_whats : Dn P w K mg base T 2 "_law_whats" ["_law_pen"] [] f_whats) : FnOk P w K mg base CX0 3 f fd ["_law_pen", "_law_most"] (dSp K T f_two) := by
  refine dokC Fn sc__law_two (fun ds M P ⟨_, _, _, h, _⟩ => by rw [h]; rfl) (fun A outer s H E hr => ⟨_, (have nd := (sc__law_two).nd; (dss_cons (ds_set (i := 2) nd rfl (by first | exact Or.inl rfl | exact Or.inr rfl) (d_ix (d_lst (da_cons d_int (da_cons d_int (da_cons d_int (da_cons d_int (da_cons (d_callN D__law_draw (hr.mono (by decide)) (by rfl) (da_cons (dv 0) (da_cons d_int da_nil))) da_nil)))))) (d_callN D__law_draw (hr.mono (by decide)) (by rfl) (da_cons (dv 0) (da_cons d_int da_nil))))) (dss_cons (ds_set (i := 3) nd rfl (by first | exact Or.inl rfl | exact Or.inr rfl) (d_ix (d_lst (da_cons d_int (da_cons (d_sub (d_callN D__law_draw (hr.mono (by decide)) (by rfl) (da_cons (dv 0) (da_cons d_int da_nil))) d_int) (da_cons (d_sub (d_callN D__law_draw (hr.mono (by decide)) (by rfl) (da_cons (dv 0) (da_cons d_int da_nil))) d_int) (da_cons d_int (da_cons (d_neg d_int) da_nil)))))) (d_callN D__law_draw (hr.mono (by decide)) (by rfl) (da_cons (dv 0) (da_cons d_int da_nil))))) (dss_cons (ds_set (i := 4) nd rfl (by first | exact Or.inl rfl | exact Or.inr rfl) (d_callN D__law_lines (hr.mono (by decide)) (by rfl) (da_cons (dv 0) da_nil))) (dss_cons (ds_asg (Kx := K) (t := (.tp [5, 6])) (d_callN D__law_whats (hr.mono (by decide)) (by rfl) (da_cons (dv 0) da_nil)) (pg_tup rfl (pgs_cons (pg_name (i := 5) nd rfl (by first | exact Or.inl rfl | exact Or.inr rfl)) (pgs_cons (pg_name (i := 6) nd rfl (by first | exact Or.inl rfl | exact Or.inr rfl)) pgs_nil)))) (dss_cons (ds_set (i := 7) nd rfl (by first | exact Or.inl rfl | exact Or.inr rfl) (d_ix (d_lst (da_cons (pd_callB (call_max2 rfl) cd_max2 (by rfl) B.max_ (by decide +kernel) (da_cons d_int (da_cons (d_sub d_int (dv 3)) da_nil))) (da_cons (d_add d_int (d_callN D__law_draw (hr.mono (by decide)) (by rfl) (da_cons (dv 0) (da_cons d_int da_nil)))) (da_cons (d_sub d_int (pd_callB (call_max2 rfl) cd_max2 (by rfl) B.max_ (by decide +kernel) (da_cons d_int (da_cons (dv 3) da_nil)))) da_nil)))) (d_callN D__law_draw (hr.mono (by decide)) (by rfl) (da_cons (dv 0) (da_cons d_int da_nil))))) (dss_cons (ds_set (i := 8) nd rfl (by first | exact Or.inl rfl | exact Or.inr rfl) (d_lstM da_nil)) (dss_cons (ds_set (i := 9) nd rfl (by first | exact Or.inl rfl | exact Or.inr rfl) (d_lstM da_nil)) (dss_cons (ds_for (Kx := K) (t := (.nm 10)) PassesOwn.never rfl (di_range1 (by rfl) B.range_ (da_cons (d_ix (d_lst (da_cons (dv 1) (da_cons (d_callN D__law_draw (hr.mono (by decide)) (by rfl) (da_cons (dv 0) (da_cons (d_add (dv 1) d_int) da_nil))) (da_cons (d_add d_int (d_div (dv 1) d_int)) da_nil)))) (d_callN D__law_draw (hr.mono (by decide)) (by rfl) (da_cons (dv 0) (da_cons d_int da_nil)))) da_nil)) (pg_name (i := 10) nd rfl (by first | exact Or.inl rfl | exact Or.inr rfl)) (dss_cons (ds_set (i := 7) nd rfl (by first | exact Or.inl rfl | exact Or.inr rfl) (d_add (dv 7) (d_ix (d_lst (da_cons d_int (da_cons d_int (da_cons d_int (da_cons d_int (da_cons (d_callN D__law_draw (hr.mono (by decide)) (by rfl) (da_cons (dv 0) (da_cons (d_add (dv 2) d_int) da_nil))) da_nil)))))) (d_callN D__law_draw (hr.mono (by decide)) (by rfl) (da_cons (dv 0) (da_cons d_int da_nil)))))) (dss_cons (ds_set (i := 11) nd rfl (by first | exact Or.inl rfl | exact Or.inr rfl) (d_ix (dv 4) (d_callN D__law_draw (hr.mono (by decide)) (by rfl) (da_cons (dv 0) (da_cons (pd_callB call_len_seq cd_len (by rfl) B.len_ PySem.boot_len (da_cons (dv 4) da_nil)) da_nil))))) (dss_cons (ds_set (i := 12) nd rfl (by first | exact Or.inl rfl | exact Or.inr rfl) (d_ix (dv 5) (d_callN D__law_draw (hr.mono (by decide)) (by rfl) (da_cons (dv 0) (da_cons (pd_callB call_len_seq cd_len (by rfl) B.len_ PySem.boot_len (da_cons (dv 5) da_nil)) da_nil))))) (dss_cons (ds_if (dt_inS (dv 11) (d_tup (da_cons d_str (da_cons d_str da_nil)))) (dss_one (ds_set (i := 12) nd rfl (by first | exact Or.inl rfl | exact Or.inr rfl) (d_ix (dv 6) (d_callN D__law_draw (hr.mono (by decide)) (by rfl) (da_cons (dv 0) (da_cons d_int da_nil)))))) dss_nil) (dss_cons (ds_set (i := 13) nd rfl (by first | exact Or.inl rfl | exact Or.inr rfl) (d_callN D__law_draw (hr.mono (by decide)) (by rfl) (da_cons (dv 0) (da_cons d_int da_nil)))) (dss_cons (ds_set (i := 14) nd rfl (by first | exact Or.inl rfl | exact Or.inr rfl) (d_add (d_callN D__law_draw (hr.mono (by decide)) (by rfl) (da_cons (dv 0) (da_cons (d_add (dv 2) d_int) da_nil))) (d_mul (pd_callTy call_int1 cd_intB (by rfl) B.int_ (by decide +kernel) (da_cons (d_eq hr.units (dv 13) d_int) da_nil)) (d_add (dv 2) d_int)))) (dss_cons (ds_if (dt_inS (dv 11) (d_tup (da_cons d_str (da_cons d_str (da_cons d_str da_nil))))) (dss_one (ds_set (i := 14) nd rfl (by first | exact Or.inl rfl | exact Or.inr rfl) (d_sub d_int (dv 14)))) dss_nil) (dss_cons (ds_if (dt_ne hr.units (dv 13) d_int) (dss_one (ds_expr (pd_app (pe_bm PySem.F.plainAttrs_list PySem.F.slot_list_append PySem.F.type_list_append mt_append (dv 8) (da_cons (d_tup (da_cons (pd_callB (call_min2 rfl) cd_min2 (by rfl) B.min_ (by decide +kernel) (da_cons d_int (da_cons (pd_callB (call_max2 rfl) cd_max2 (by rfl) B.max_ (by decide +kernel) (da_cons d_int (da_cons (dv 7) da_nil))) da_nil))) (da_cons (dv 11) (da_cons (dv 12) da_nil)))) da_nil))))) dss_nil) (dss_one (ds_if (dt_ne hr.units (dv 13) d_int) (dss_one (ds_expr (pd_app (pe_bm PySem.F.plainAttrs_list PySem.F.slot_list_append PySem.F.type_list_append mt_append (dv 9) (da_cons (d_tup (da_cons (pd_callB (call_min2 rfl) cd_min2 (by rfl) B.min_ (by decide +kernel) (da_cons d_int (da_cons (pd_callB (call_max2 rfl) cd_max2 (by rfl) B.max_ (by decide +kernel) (da_cons d_int (da_cons (d_add (d_add (dv 7) (dv 3)) (dv 14)) da_nil))) da_nil))) (da_cons (dv 11) (da_cons (dv 12) da_nil)))) da_nil))))) dss_nil))))))))))) (dss_cons (ds_set (i := 9) nd rfl (by first | exact Or.inl rfl | exact Or.inr rfl) (d_sortedKey1 LT hr (by rfl) B.sorted_ (dv 9) (by constructor <;> decide +kernel))) (dss_one (ds_ret (d_tup (da_cons (pd_callTy call_tuple_of cd_tuple (by rfl) B.tuple_ (by decide +kernel) (da_cons (dv 8) da_nil)) (da_cons (pd_callTy call_tuple_of cd_tuple (by rfl) B.tuple_ (by decide +kernel) (da_cons (dv 9) da_nil)) (da_cons (dv 3) (da_cons (dv 2) da_nil))))))))))))))))), fun ds M P h => ?_⟩)
  obtain ⟨a, n, most, rfl, hp, hn, hm0, hm1, k⟩ := h
  have hs : sizeLine = 16777216 := sizeLine_eq
  walk_at "dS"
  refine s_draw hp.at (by omega) (by decide) (by decide) fun v M1 h0 h1 p1 => ?_
  walk_at "dS"
  refine s_draw p1 (by omega) (by decide) (by decide) fun j M2 j0 j1 p2 => ?_
  refine s_pick (l := [0, 1, 3, 60, v]) j0 j1 fun slow hslow => ?_
  have hs0 : 0 ≤ slow ∧ slow ≤ 60 := by simp at hslow; omega
  clear hslow
  walk_at "dS"
  refine s_draw p2 (by omega) (by decide) (by decide) fun v2 M3 g0 g1 p3 => ?_
  walk_at "dS"
  refine s_draw p3 (by omega) (by decide) (by decide) fun v3 M4 g2 g3 p4 => ?_
  walk_at "dS"
  refine s_draw p4 (by omega) (by decide) (by decide) fun j2 M5 j2a j2b p5 => ?_
  refine s_pick (l := [0, v2 - 4, v3 - 1440, 1440, -1440]) j2a j2b fun far hfar => ?_
  clear hfar
  walk_at "dS"
  refine ⟨a, _, rfl, p5.pen, by omega, fun ls M6 hls p6 => ?_⟩
  replace p6 := p5.trans p6
  walk_at "dS"
  refine ⟨a, _, rfl, p6.pen, by omega, fun os ws M7 hos hosl hws hww p7 => ?_⟩
  replace p7 := p6.trans p7
  walk_at "dS"
  refine s_draw p7 (by omega) (by decide) (by decide) fun v4 M8 g4 g5 p8 => ?_
  walk_at "dS"
  refine s_draw p8 (by omega) (by decide) (by decide) fun j3 M9 j3a j3b p9 => ?_
  refine s_pick (l := [max 0 (0 - far), 2000 + v4, 99990 - max 0 far]) j3a j3b fun at_ hat => ?_
  clear hat
  walk_at "dS"
  refine s_mk (by decide) fun d1 hd1 => ?_
  have hd1a : d1 ≠ a := fun z => p9.pen.some_ (by rw [← z]; exact hd1)
  have hd1M : M d1 = none := (p9.le.none_ hd1).1
  walk_at "dS"
  refine s_mk (by decide) fun d2 hd2 => ?_
  have hd12 : d2 ≠ d1 := fun z => by rw [z, putM_same] at hd2; cases hd2
  have hd2' : M9 d2 = none := by rw [putM_ne hd12] at hd2; exact hd2
  have hd2a : d2 ≠ a := fun z => p9.pen.some_ (by rw [← z]; exact hd2')
  have hd2M : M d2 = none := (p9.le.none_ hd2').1
  have st0 : TwSt M (putM (putM M9 d1 (.lst [])) d2 (.lst [])) a d1 d2 (n + 40) [] [] 0 0 := ⟨((p9.le.put hd1a hd1M).put hd2a hd2M).mono (by omega), by rw [putM_ne (Ne.symm hd12)]; exact putM_same, putM_same, Nat.le_refl _, Nat.le_refl _, fun r hr => (by cases hr), fun r hr => (by cases hr)⟩
  generalize putM (putM M9 d1 (.lst [])) d2 (.lst []) = M10 at st0 ⊢
  walk_at "dS"
  refine s_draw st0.pen.pen.at (by omega) (by omega) (by omega) fun v5 M11 g6 g7 q1 => ?_
  walk_at "dS"
  refine s_I ⟨by decide, by decide⟩ ?_
  walk_at "dS"
  refine s_draw q1 (by omega) (by decide) (by decide) fun j4 M12 j4a j4b q2 => ?_
  refine s_pick (l := [most, v5, 1 + most / 2]) j4a j4b fun cnt hcnt => ?_
  have hc0 : 0 ≤ cnt ∧ cnt ≤ 18 := by simp at hcnt; omega
  clear hcnt
  replace st0 := st0.step hd1a hd2a q2
  walk_at "dS"
  refine ⟨cnt, rfl, by omega, by omega, ?_⟩
  refine ⟨fun i δ M' => ∃ at_ deck hold o10 o11 o12 o13 o14, δ = [some (.own a), some (.py (.int most)), some (.py (.int slow)), some (.py (.int far)), some (.py (.list (ls.map .str))), some (.py (.list (os.map .int))), some (.py (.list (ws.map .str))), some (.py (.int at_)), some (.own d1), some (.own d2), o10, o11, o12, o13, o14] ∧ TwSt M M' a d1 d2 (n + 50 + 10 * i) deck hold i i ∧ (i : Int) ≤ cnt, ⟨at_, [], [], _, _, _, _, _, rfl, ⟨st0.pen.mono (by omega), st0.m1, st0.m2, st0.l1, st0.l2, st0.r1, st0.r2⟩, by omega⟩, fun _ _ _ _ => trivial, fun δ M' h => ?_, fun i d δ M' hd h => ?_⟩
  · obtain ⟨at_, deck, hold, o10, o11, o12, o13, o14, rfl, st, hic⟩ := h
    rw [List.length_map, rgI_len] at st
    walk_at "dS"
    refine ⟨hold.map encR, ⟨_, rfl, st.m2⟩, fun x hx => ?_, fun out po => ?_⟩
    · obtain ⟨r, _, rfl⟩ := List.mem_map.mp hx
      exact head_encR r
    obtain ⟨hold', rfl, ph⟩ := perm_map_inv po rfl
    refine ⟨_, rfl, ?_⟩
    walk_at "dS"
    refine ⟨_, deck.map encR, rfl, ⟨_, rfl, st.m1⟩, ?_⟩
    walk_at "dS"
    obtain ⟨M'', k1, k2⟩ := st.pen.down
    have hl1 := st.l1
    have hl2 := st.l2
    refine rt_le k2 (k deck hold' far slow M'' (logOk_of (by omega) st.r1) (logOk_of (by rw [ph.length_eq]; omega) fun r hr => st.r2 r (ph.mem_iff.mp hr)) hs0.1 (k1.mono (by omega)))
  · obtain ⟨at_, deck, hold, o10, o11, o12, o13, o14, rfl, st, hic⟩ := h
    obtain ⟨rfl, hd2⟩ := rg_at hd
    refine ⟨_, rfl, ?_⟩
    refine s_seq ?_
    walk_at "dN"
    refine s_draw st.pen.pen.at (by omega) (by omega) (by omega) fun u1 N1 u1a u1b r1 => ?_
    walk_at "dN"
    refine s_draw r1 (by omega) (by decide) (by decide) fun u2 N2 u2a u2b r2 => ?_
    refine s_pick (l := [0, 0, 1, 2, u1]) u2a u2b fun mv hmv => ?_
    clear hmv
    walk_at "dN"
    refine s_seq ?_
    walk_at "dN"
    rw [List.length_map]
    refine s_draw r2 (by omega) (by have := List.length_pos_iff.mpr hls.1; omega) (by have := hls.2.1; omega) fun u3 N3 u3a u3b r3 => ?_
    obtain ⟨ln, hln, eln⟩ := atI_at u3a u3b
    refine s_ixL (atI_map (g := PyData.str) eln) ?_
    walk_at "dN"
    refine s_seq ?_
    walk_at "dN"
    rw [List.length_map]
    refine s_draw r3 (by omega) (by have := List.length_pos_iff.mpr hos; omega) (by omega) fun u4 N4 u4a u4b r4 => ?_
    refine s_pick (l := os) u4a u4b fun od _ => ?_
    walk_at "dN"
    have st4 := st.step hd1a hd2a r4
    refine s_seqI (fun δ M'' => ∃ wh o13 o14, (match wh with | .i _ => True | .s x => x ∈ words6) ∧ δ = [some (.own a), some (.py (.int most)), some (.py (.int slow)), some (.py (.int far)), some (.py (.list (ls.map .str))), some (.py (.list (os.map .int))), some (.py (.list (ws.map .str))), some (.py (.int (at_ + mv))), some (.own d1), some (.own d2), some (.py (.int (0 + i))), some (.py (.str ln)), some (.py (whP wh)), o13, o14] ∧ TwSt M M'' a d1 d2 (n + 50 + 10 * i + 5) deck hold i i) (fun δ M'' h => ?_) fun nx hnx => ?_
    rotate_left
    · walk_at "dN"
      refine s_inS (ts := ["down", "up"]) rfl ?_
      walk_at "dN"
      refine s_ite (fun _ => ?_) fun _ => ?_
      · walk_at "dN"
        refine s_draw r4 (by omega) (by decide) (by decide) fun u5 N5 u5a u5b r5 => ?_
        obtain ⟨x, hx, ex⟩ := atI_at (l := ws) u5a (by rw [hws]; exact u5b)
        refine s_ixL (atI_map (g := PyData.str) ex) ?_
        refine ⟨_, rfl, ?_⟩
        have st5 := st.step hd1a hd2a r5
        exact hnx _ _ ⟨.s x, _, _, hww x hx, rfl, ⟨st5.pen.mono (by omega), st5.m1, st5.m2, st5.l1, st5.l2, st5.r1, st5.r2⟩⟩
      · refine s_next ?_
        exact hnx _ _ ⟨.i od, _, _, trivial, rfl, ⟨st4.pen.mono (by omega), st4.m1, st4.m2, st4.l1, st4.l2, st4.r1, st4.r2⟩⟩
    · clear st4 r1 r2 r3 r4 st
      obtain ⟨wh, o13, o14, hwh, rfl, st⟩ := h
      have hrow : ∀ m, RowOk ⟨m, ln, wh⟩ := fun m => ⟨hls.2.2 ln hln, hwh⟩
      refine s_seq ?_
      walk_at "dN"
      refine s_draw st.pen.pen.at (by omega) (by decide) (by decide) fun luck N1 _ _ r1 => ?_
      walk_at "dN"
      refine s_seq ?_
      walk_at "dN"
      refine s_draw r1 (by omega) (by omega) (by omega) fun u2 N2 _ _ r2 => ?_
      walk_at "dN"
      refine s_I (.inl ⟨by split <;> decide, by split <;> decide⟩) ?_
      walk_at "dN"
      have st2 := st.step hd1a hd2a r2
      refine s_seqI (fun δ M'' => ∃ ltr : Int, δ = [some (.own a), some (.py (.int most)), some (.py (.int slow)), some (.py (.int far)), some (.py (.list (ls.map .str))), some (.py (.list (os.map .int))), some (.py (.list (ws.map .str))), some (.py (.int (at_ + mv))), some (.own d1), some (.own d2), some (.py (.int (0 + i))), some (.py (.str ln)), some (.py (whP wh)), some (.py (.int luck)), some (.py (.int ltr))] ∧ TwSt M M'' a d1 d2 (n + 50 + 10 * i + 10) deck hold i i) (fun δ M'' h => ?_) fun nx hnx => ?_
      rotate_left
      · walk_at "dN"
        refine s_inS (ts := ["aport", "astar", "up"]) rfl ?_
        walk_at "dN"
        have st3 : TwSt M N2 a d1 d2 (n + 50 + 10 * i + 10) deck hold i i := ⟨st2.pen.mono (by omega), st2.m1, st2.m2, st2.l1, st2.l2, st2.r1, st2.r2⟩
        refine s_ite (fun _ => ?_) fun _ => ?_
        · walk_at "dN"
          exact hnx _ _ ⟨_, rfl, st3⟩
        · refine s_next ?_
          exact hnx _ _ ⟨_, rfl, st3⟩
      · clear st2 r1 r2 st
        obtain ⟨ltr, rfl, st⟩ := h
        refine s_seqI (fun δ M'' => ∃ deck', δ = [some (.own a), some (.py (.int most)), some (.py (.int slow)), some (.py (.int far)), some (.py (.list (ls.map .str))), some (.py (.list (os.map .int))), some (.py (.list (ws.map .str))), some (.py (.int (at_ + mv))), some (.own d1), some (.own d2), some (.py (.int (0 + i))), some (.py (.str ln)), some (.py (whP wh)), some (.py (.int luck)), some (.py (.int ltr))] ∧ TwSt M M'' a d1 d2 (n + 50 + 10 * i + 10) deck' hold (i + 1) i) (fun δ M'' h => ?_) fun nx hnx => ?_
        rotate_left
        · walk_at "dN"
          refine s_iteN (fun _ => ?_) fun _ => ?_
          · walk_at "dN"
            refine s_own st.m1 ?_
            walk_at "dN"
            have hl1 := st.l1
            refine ⟨d1, _, _, rfl, rfl, st.m1, by rw [List.length_map, List.length_map]; omega, ?_⟩
            refine hnx _ _ ⟨deck ++ [⟨min 99999 (max 0 (at_ + mv)), ln, wh⟩], rfl, ⟨st.pen.put hd1a hd1M, ?_, by rw [putM_ne hd12]; exact st.m2, by rw [List.length_append]; show deck.length + 1 ≤ _; omega, st.l2, fun r hr => ?_, st.r2⟩⟩
            · rw [putM_same]
              exact congrArg (fun x => some (MO.lst x)) (app_lastM (f := encR) (u := ⟨min 99999 (max 0 (at_ + mv)), ln, wh⟩))
            · rcases List.mem_append.mp hr with hr | hr
              · exact st.r1 r hr
              · rw [List.mem_singleton.mp hr]
                exact hrow _
          · refine s_next ?_
            exact hnx _ _ ⟨_, rfl, ⟨st.pen, st.m1, st.m2, by have := st.l1; omega, st.l2, st.r1, st.r2⟩⟩
        · obtain ⟨deck', rfl, st⟩ := h
          walk_at "dN"
          refine s_iteN (fun _ => ?_) fun _ => ?_
          · walk_at "dN"
            refine s_own st.m2 ?_
            walk_at "dN"
            have hl2 := st.l2
            refine ⟨d2, _, _, rfl, rfl, st.m2, by rw [List.length_map, List.length_map]; omega, ?_⟩
            refine s_less ⟨_, deck', hold ++ [⟨min 99999 (max 0 (at_ + mv + far + ltr)), ln, wh⟩], _, _, _, _, _, rfl, ⟨(st.pen.put hd2a hd2M).mono (by omega), by rw [putM_ne (Ne.symm hd12)]; exact st.m1, ?_, st.l1, by rw [List.length_append]; show hold.length + 1 ≤ _; omega, st.r1, fun r hr => ?_⟩, by omega⟩
            · rw [putM_same]
              exact congrArg (fun x => some (MO.lst x)) (app_lastM (f := encR) (u := ⟨min 99999 (max 0 (at_ + mv + far + ltr)), ln, wh⟩))
            · rcases List.mem_append.mp hr with hr | hr
              · exact st.r2 r hr
              · rw [List.mem_singleton.mp hr]
                exact hrow _
          · walk_at "dN"
            refine s_less ⟨_, deck', hold, _, _, _, _, _, rfl, ⟨st.pen.mono (by omega), st.m1, st.m2, st.l1, by have := st.l2; omega, st.r1, st.r2⟩, by omega⟩
end
end RO
namespace RO
open PySem PySem.Spec PyProof.Rows L2 DL
section
variable {P : Program} {w : World} {K : PySem.W.Frag} {mg : Str → Option Value} {base : Heap} {T : List (Addr × Str)} {f : Addr} {fd : FuncData} {M M' M'' : Mem} {a b : Addr} {n m : Int}
theorem cut_mem {α : Type} {l : List α} {lo hi : Option Int} {x : α} (h : x ∈ cutP l lo hi) : x ∈ l := List.mem_of_mem_drop (List.mem_of_mem_take h)
theorem cut_ne {α : Type} {l : List α} {k : Int} (hl : l ≠ []) (hk : 1 ≤ k) : cutP l none (some k) ≠ [] := by
  unfold cutP HT.sIx
  cases l with
  | nil => exact absurd rfl hl
  | cons x r =>
    dsimp only
    rw [if_neg (by omega), List.drop_zero, Nat.sub_zero]
    intro e
    have := congrArg List.length e
    rw [List.length_take] at this
    simp at this
    omega
/-- the state of long's outer loop -/
structure LoSt (M M' : Mem) (a d : Addr) (n : Int) (Bs : List (List Rw)) : Prop where
  pen : PenLe M a n M'
  m1 : M' d = some (.lst ((Bs.map encL).map .py))
  ok : ∀ l ∈ Bs, LogOk l
def f_long : WF := fun ds M P => ∃ (a : Addr) (n : Int), ds = [.own a] ∧ Pen M a n ∧ n ≤ 800000 ∧ ∀ (B R : List Rw) (far slow : Int) M', LogOk B → LogOk R → 0 ≤ slow → PenAt M a (n + 1000) M' → P (.py (.tuple [encL B, encL R, .int far, .int slow])) M'
theorem ok_long {c Pt : Addr} (Fn : FunC K "_law_long" "_law_long" s__law_long f fd c) (B : Bn K w mg) (LT : TbOk base mg T c Pt "_law_long.<locals>.<lambda>") (D__law_draw : Dn P w K mg base T 1 "_law_draw" ["_law_pen", "_law_many"] [] f_draw) (D__law_lines : Dn P w K mg base T 2 "_law_lines" ["_law_pen"] [] f_lines) : FnOk P w K mg base CX0 3 f fd ["_law_pen"] (dSp K T f_long) := by
  refine dokC Fn sc__law_long (fun ds M P ⟨_, _, h, _⟩ => by rw [h]; rfl) (fun A outer s H E hr => ⟨_, (have nd := (sc__law_long).nd; (dss_cons (ds_set (i := 1) nd rfl (by first | exact Or.inl rfl | exact Or.inr rfl) (d_slL (d_callN D__law_lines (hr.mono (by decide)) (by rfl) (da_cons (dv 0) da_nil)) do_none (do_some (d_add d_int (d_callN D__law_draw (hr.mono (by decide)) (by rfl) (da_cons (dv 0) (da_cons d_int da_nil))))))) (dss_cons (ds_set (i := 2) nd rfl (by first | exact Or.inl rfl | exact Or.inr rfl) (d_add d_int (d_callN D__law_draw (hr.mono (by decide)) (by rfl) (da_cons (dv 0) (da_cons d_int da_nil))))) (dss_cons (ds_set (i := 3) nd rfl (by first | exact Or.inl rfl | exact Or.inr rfl) (d_sub (d_callN D__law_draw (hr.mono (by decide)) (by rfl) (da_cons (dv 0) (da_cons d_int da_nil))) d_int)) (dss_cons (ds_set (i := 4) nd rfl (by first | exact Or.inl rfl | exact Or.inr rfl) (d_add d_int (d_callN D__law_draw (hr.mono (by decide)) (by rfl) (da_cons (dv 0) (da_cons d_int da_nil))))) (dss_cons (ds_set (i := 5) nd rfl (by first | exact Or.inl rfl | exact Or.inr rfl) (d_sub (d_callN D__law_draw (hr.mono (by decide)) (by rfl) (da_cons (dv 0) (da_cons d_int da_nil))) d_int)) (dss_cons (ds_set (i := 6) nd rfl (by first | exact Or.inl rfl | exact Or.inr rfl) (d_lstM da_nil)) (dss_cons (ds_for (Kx := K) (t := (.nm 7)) PassesOwn.never rfl (di_range1 (by rfl) B.range_ (da_cons d_int da_nil)) (pg_name (i := 7) nd rfl (by first | exact Or.inl rfl | exact Or.inr rfl)) (dss_cons (ds_set (i := 8) nd rfl (by first | exact Or.inl rfl | exact Or.inr rfl) (d_lstM da_nil)) (dss_cons (ds_for (Kx := K) (t := (.nm 9)) PassesOwn.never rfl (di_range1 (by rfl) B.range_ (da_cons d_int da_nil)) (pg_name (i := 9) nd rfl (by first | exact Or.inl rfl | exact Or.inr rfl)) (dss_cons (ds_set (i := 10) nd rfl (by first | exact Or.inl rfl | exact Or.inr rfl) (d_ix (dv 1) (d_mod (d_add (dv 9) (d_mul (dv 7) (d_callN D__law_draw (hr.mono (by decide)) (by rfl) (da_cons (dv 0) (da_cons d_int da_nil))))) (pd_callB call_len_seq cd_len (by rfl) B.len_ PySem.boot_len (da_cons (dv 1) da_nil))))) (dss_cons (ds_set (i := 11) nd rfl (by first | exact Or.inl rfl | exact Or.inr rfl) (d_ix (d_lst (da_cons (dv 5) (da_cons d_str da_nil))) (pd_callTy call_int1 cd_intB (by rfl) B.int_ (by decide +kernel) (da_cons (d_inS (dv 10) (d_tup (da_cons d_str (da_cons d_str da_nil)))) da_nil)))) (dss_cons (ds_set (i := 12) nd rfl (by first | exact Or.inl rfl | exact Or.inr rfl) (d_add (d_mul (dv 3) (dv 7)) (d_ix (d_lst (da_cons d_int (da_cons (d_div (dv 2) d_int) da_nil))) (pd_callTy call_int1 cd_intB (by rfl) B.int_ (by decide +kernel) (da_cons (d_eq hr.units (dv 7) (pd_callTy call_int1 cd_intB (by rfl) B.int_ (by decide +kernel) (da_cons (d_inS (dv 10) (d_tup (da_cons d_str (da_cons d_str (da_cons d_str da_nil))))) da_nil))) da_nil))))) (dss_one (ds_expr (pd_app (pe_bm PySem.F.plainAttrs_list PySem.F.slot_list_append PySem.F.type_list_append mt_append (dv 8) (da_cons (d_tup (da_cons (d_add (d_add (d_add (dv 4) (dv 12)) (d_div (dv 9) d_int)) (d_callN D__law_draw (hr.mono (by decide)) (by rfl) (da_cons (dv 0) (da_cons d_int da_nil)))) (da_cons (dv 10) (da_cons (dv 11) da_nil)))) da_nil))))))))) (dss_one (ds_expr (pd_app (pe_bm PySem.F.plainAttrs_list PySem.F.slot_list_append PySem.F.type_list_append mt_append (dv 6) (da_cons (pd_callTy call_tuple_of cd_tuple (by rfl) B.tuple_ (by decide +kernel) (da_cons (d_sortedKey1 LT hr (by rfl) B.sorted_ (dv 8) (by constructor <;> decide +kernel)) da_nil)) da_nil)))))))) (dss_one (ds_ret (d_tup (da_cons (d_ix (dv 6) d_int) (da_cons (d_ix (dv 6) d_int) (da_cons (dv 3) (da_cons (dv 2) da_nil))))))))))))))), fun ds M P h => ?_⟩)
  obtain ⟨a, n, rfl, hp, hn, k⟩ := h
  have hs : sizeLine = 16777216 := sizeLine_eq
  walk_at "dS"
  refine ⟨a, _, rfl, hp, by omega, fun ls M1 hls p1 => ?_⟩
  walk_at "dS"
  refine s_draw p1 (by omega) (by decide) (by decide) fun v M2 v0 v1 p2 => ?_
  walk_at "dS"
  rw [cut_map]
  have hl1 := cut_ne (k := 1 + v) hls.1 (by omega)
  have hl2 : ∀ x ∈ cutP ls none (some (1 + v)), x ∈ six := fun x hx => hls.2.2 x (cut_mem hx)
  have hl3 : (cutP ls none (some (1 + v))).length ≤ 6 := Nat.le_trans (List.Sublist.length_le ((List.take_sublist _ _).trans (List.drop_sublist _ _))) hls.2.1
  generalize cutP ls none (some (1 + v)) = lh at *
  refine s_draw p2 (by omega) (by decide) (by decide) fun v2 M3 _ _ p3 => ?_
  walk_at "dS"
  refine s_draw p3 (by omega) (by decide) (by decide) fun v3 M4 _ _ p4 => ?_
  walk_at "dS"
  refine s_draw p4 (by omega) (by decide) (by decide) fun v4 M5 _ _ p5 => ?_
  walk_at "dS"
  refine s_draw p5 (by omega) (by decide) (by decide) fun v5 M6 _ _ p6 => ?_
  have hs0 : 0 ≤ 30 + v2 := by omega
  generalize 3000 + v4 = at_
  generalize 30 + v2 = slow at hs0 ⊢
  generalize v3 - 50 = far
  walk_at "dS"
  refine s_mk (by decide) fun d1 hd1 => ?_
  have hd1a : d1 ≠ a := fun z => p6.pen.some_ (by rw [← z]; exact hd1)
  have hd1M : M d1 = none := (p6.le.none_ hd1).1
  have st0 : LoSt M (putM M6 d1 (.lst [])) a d1 (n + 50) [] := ⟨(p6.le.put hd1a hd1M).mono (by omega), putM_same, fun l hl => by cases hl⟩
  walk_at "dS"
  generalize v5 - 4 = od
  refine ⟨2, rfl, by decide, by decide, ?_⟩
  refine ⟨fun i δ M' => ∃ Bs o7 o8 o9 o10 o11 o12, δ = [some (.own a), some (.py (.list (lh.map .str))), some (.py (.int slow)), some (.py (.int far)), some (.py (.int at_)), some (.py (.int od)), some (.own d1), o7, o8, o9, o10, o11, o12] ∧ Bs.length = i ∧ LoSt M M' a d1 (n + 50 + 100 * i) Bs ∧ i ≤ 2, ⟨[], _, _, _, _, _, _, rfl, rfl, ⟨st0.pen.mono (by omega), st0.m1, st0.ok⟩, by omega⟩, fun _ _ _ _ => trivial, fun δ M' h => ?_, fun i d δ M' hd h => ?_⟩
  · obtain ⟨Bs, o7, o8, o9, o10, o11, o12, rfl, hbl, st, _⟩ := h
    rw [List.length_map, rgI_len] at hbl st
    have hX : ∃ X Y, Bs = [X, Y] := by
      match Bs, hbl with
      | [X, Y], _ => exact ⟨X, Y, rfl⟩
    obtain ⟨X, Y, rfl⟩ := hX
    walk_at "dS"
    refine s_ixO st.m1 rfl ?_
    walk_at "dS"
    refine s_ixO st.m1 rfl ?_
    walk_at "dS"
    obtain ⟨M'', k1, k2⟩ := st.pen.down
    exact rt_le k2 (k X Y far slow M'' (st.ok X (by simp)) (st.ok Y (by simp)) hs0 (k1.mono (by simp; omega)))
  · obtain ⟨Bs, o7, o8, o9, o10, o11, o12, rfl, hbl, st, _⟩ := h
    obtain ⟨rfl, hi2⟩ := rg_at hd
    refine ⟨_, rfl, ?_⟩
    walk_at "dS"
    refine s_mk (by decide) fun d2 hd2 => ?_
    have hd2n := st.pen.none_ hd2
    have hd21 : d2 ≠ d1 := fun z => by rw [z, st.m1] at hd2; cases hd2
    walk_at "dS"
    refine ⟨18, rfl, by decide, by decide, ?_⟩
    refine ⟨fun j δ M3 => ∃ rs o9 o10 o11 o12, δ = [some (.own a), some (.py (.list (lh.map .str))), some (.py (.int slow)), some (.py (.int far)), some (.py (.int at_)), some (.py (.int od)), some (.own d1), some (.py (.int (0 + i))), some (.own d2), o9, o10, o11, o12] ∧ M3 d2 = some (.lst (((rs : List Rw).map encR).map .py)) ∧ rs.length = j ∧ (∀ r ∈ rs, RowOk r) ∧ LoSt M M3 a d1 (n + 50 + 100 * i + 2 * j) Bs ∧ j ≤ 18, ⟨[], _, _, _, _, rfl, putM_same, rfl, fun r hr => (by cases hr), ⟨(st.pen.put hd2n.2 hd2n.1).mono (by omega), by rw [putM_ne (Ne.symm hd21)]; exact st.m1, st.ok⟩, by omega⟩, fun _ _ _ _ => trivial, fun δ M3 h => ?_, fun j d δ M3 hd h => ?_⟩
    · obtain ⟨rs, o9, o10, o11, o12, rfl, hm2, hrl, hro, st3, _⟩ := h
      rw [List.length_map, rgI_len] at hrl st3
      walk_at "dS"
      refine s_own st3.m1 ?_
      walk_at "dS"
      refine ⟨rs.map encR, ⟨_, rfl, hm2⟩, fun x hx => ?_, fun out po => ?_⟩
      · obtain ⟨r, _, rfl⟩ := List.mem_map.mp hx
        exact head_encR r
      obtain ⟨rs', rfl, ph⟩ := perm_map_inv po rfl
      walk_at "dS"
      refine ⟨d1, _, _, rfl, rfl, st3.m1, by rw [List.length_map, List.length_map]; omega, ?_⟩
      have lok : LogOk rs' := logOk_of (by rw [ph.length_eq, hrl]; decide) fun r hr => hro r (ph.mem_iff.mp hr)
      refine s_less ⟨Bs ++ [rs'], _, _, _, _, _, _, rfl, by rw [List.length_append, hbl]; rfl, ⟨(st3.pen.put hd1a hd1M).mono (by simp; omega), ?_, fun l hl => ?_⟩, by omega⟩
      · rw [putM_same]
        exact congrArg (fun x => some (MO.lst x)) (app_lastM (f := encL) (u := rs'))
      · rcases List.mem_append.mp hl with hl | hl
        · exact st3.ok l hl
        · rw [List.mem_singleton.mp hl]
          exact lok
    · obtain ⟨rs, o9, o10, o11, o12, rfl, hm2, hrl, hro, st3, _⟩ := h
      obtain ⟨rfl, hj2⟩ := rg_at hd
      refine ⟨_, rfl, ?_⟩
      walk_at "dS"
      refine s_draw st3.pen.pen.at (by omega) (by decide) (by decide) fun u1 N1 _ _ r1 => ?_
      walk_at "dS"
      refine s_I (.inl ⟨by omega, by omega⟩) ?_
      walk_at "dS"
      rw [List.length_map]
      have hpos := List.length_pos_iff.mpr hl1
      refine s_I (show (0 : Int) < (lh.length : Nat) by omega) ?_
      obtain ⟨ln, hln, eln⟩ := atI_at (l := lh) (Int.emod_nonneg (0 + j + (0 + i) * u1) (show ((lh.length : Nat) : Int) ≠ 0 by omega)) (Int.emod_lt_of_pos _ (by omega))
      refine s_ixL (atI_map (g := PyData.str) eln) ?_
      walk_at "dS"
      refine s_inS (ts := ["down", "up"]) rfl ?_
      walk_at "dS"
      have hwh : ∀ c : Bool, ∃ wh, (match wh with | .i _ => True | .s x => x ∈ words6) ∧ atI [PyData.int od, .str "stop"] (if c = true then 1 else 0) = some (whP wh) := fun c => by
        cases c with
        | false => exact ⟨.i od, trivial, rfl⟩
        | true => exact ⟨.s "stop", (by decide : ("stop" : Str) ∈ words6), rfl⟩
      obtain ⟨wh, hw1, hw2⟩ := hwh (decide (ln ∈ (["down", "up"] : List Str)))
      refine s_ixL hw2 ?_
      walk_at "dS"
      refine s_I (.inr ⟨by omega, by omega⟩) ?_
      walk_at "dS"
      refine s_I ⟨by decide, by decide⟩ ?_
      walk_at "dS"
      refine s_inS (ts := ["port", "star", "down"]) rfl ?_
      walk_at "dS"
      have hmu : ∀ c : Bool, ∃ z, atI [PyData.int 0, .int (slow / 2)] (if c = true then 1 else 0) = some (.int z) := fun c => by
        cases c with
        | false => exact ⟨_, rfl⟩
        | true => exact ⟨_, rfl⟩
      obtain ⟨z, hz⟩ := hmu _
      refine s_ixL hz ?_
      walk_at "dS"
      have m2N : N1 d2 = some (.lst ((rs.map encR).map .py)) := by rw [r1.ne hd2n.2]; exact hm2
      refine s_own m2N ?_
      walk_at "dS"
      refine s_I ⟨by decide, by decide⟩ ?_
      walk_at "dS"
      refine s_draw r1 (by omega) (by decide) (by decide) fun u2 N2 _ _ r2 => ?_
      walk_at "dS"
      have m2N2 : N2 d2 = some (.lst ((rs.map encR).map .py)) := by rw [r2.ne hd2n.2]; exact hm2
      refine ⟨d2, _, _, rfl, rfl, m2N2, by rw [List.length_map, List.length_map]; omega, ?_⟩
      refine s_less ⟨rs ++ [⟨at_ + (far * (0 + i) + z) + (0 + j) / 2 + u2, ln, wh⟩], _, _, _, _, rfl, ?_, by rw [List.length_append, hrl]; rfl, fun r hr => ?_, ⟨((st3.pen.step r2).put hd2n.2 hd2n.1).mono (by omega), by rw [putM_ne (Ne.symm hd21), r2.ne hd1a]; exact st3.m1, st3.ok⟩, by omega⟩
      · rw [putM_same]
        exact congrArg (fun x => some (MO.lst x)) (app_lastM (f := encR) (u := ⟨at_ + (far * (0 + i) + z) + (0 + j) / 2 + u2, ln, wh⟩))
      · rcases List.mem_append.mp hr with hr | hr
        · exact hro r hr
        · rw [List.mem_singleton.mp hr]
          exact ⟨hl2 ln hln, hw1⟩
end
end RO
namespace RO
open PySem PySem.Spec PyProof.Rows L2 DL
section
variable {P : Program} {w : World} {K : PySem.W.Frag} {mg : Str → Option Value} {base : Heap} {T : List (Addr × Str)} {f : Addr} {fd : FuncData} {M M' M'' : Mem} {a b : Addr} {n m : Int}
theorem Pen.frame (h : Pen M a n) (e : M' a = M a) : Pen M' a n := by
  obtain ⟨c, p, l, hM, h1, h2⟩ := h
  exact ⟨c, p, l, e.trans hM, h1, h2⟩
theorem cut_init {α : Type} (l : List α) : (cutP l none (some (-1))).length = l.length - 1 := by
  unfold cutP HT.sIx
  dsimp only
  rw [if_pos (by decide), List.drop_zero, Nat.sub_zero, List.length_take]
  omega
theorem LogOk.cut {l : List Rw} {lo hi : Option Int} (h : LogOk l) : LogOk (cutP l lo hi) := ⟨Nat.le_trans (List.Sublist.length_le ((List.take_sublist _ _).trans (List.drop_sublist _ _))) h.len, fun x hx => h.ln x (cut_mem hx), fun x hx => h.sh x (cut_mem hx)⟩
def f_great : WF := fun ds M P => ∃ (a o : Addr) (n1 n2 most many : Int), ds = [.own a, .own o, .py (.int most), .py (.int many)] ∧ a ≠ o ∧ Pen M a n1 ∧ Pen M o n2 ∧ n1 ≤ 700000 ∧ n2 ≤ 700000 ∧ 0 ≤ most ∧ most ≤ 18 ∧ 0 ≤ many ∧ ∀ (B R : List Rw) (far slow : Int) M1 M', LogOk B → LogOk R → 0 ≤ slow → PenAt M o (n2 + 1) M1 → PenAt M1 a (n1 + 1000) M' → P (.py (.tuple [encL B, encL R, .int far, .int slow])) M'
theorem ok_great (Fn : FunX K "_law_great" "_law_great" s__law_great f fd) (B : Bn K w mg) (D__law_draw : Dn P w K mg base T 1 "_law_draw" ["_law_pen", "_law_many"] [] f_draw) (D__law_long : Dn P w K mg base T 3 "_law_long" ["_law_pen"] [] f_long) (D__law_two : Dn P w K mg base T 3 "_law_two" ["_law_pen", "_law_most"] [] f_two) : FnOk P w K mg base CX0 4 f fd ["_law_pen", "_law_odd", "_law_most", "_law_many"] (dSp K T f_great) := by
  refine dok Fn sc__law_great (fun ds M P ⟨_, _, _, _, _, _, h, _⟩ => by rw [h]; rfl) (fun cdv A outer s H E hr => ⟨_, (have nd := (sc__law_great).nd; (dss_cons (ds_set (i := 4) nd rfl (by first | exact Or.inl rfl | exact Or.inr rfl) (d_callN D__law_draw (hr.mono (by decide)) (by rfl) (da_cons (dv 1) (da_cons d_int da_nil)))) (dss_cons (ds_if (dt_eq hr.units (dv 4) d_int) (dss_one (ds_asg (Kx := K) (t := (.tp [5, 6, 7, 8])) (d_callN D__law_long (hr.mono (by decide)) (by rfl) (da_cons (dv 0) da_nil)) (pg_tup rfl (pgs_cons (pg_name (i := 5) nd rfl (by first | exact Or.inl rfl | exact Or.inr rfl)) (pgs_cons (pg_name (i := 6) nd rfl (by first | exact Or.inl rfl | exact Or.inr rfl)) (pgs_cons (pg_name (i := 7) nd rfl (by first | exact Or.inl rfl | exact Or.inr rfl)) (pgs_cons (pg_name (i := 8) nd rfl (by first | exact Or.inl rfl | exact Or.inr rfl)) pgs_nil))))))) (dss_one (ds_asg (Kx := K) (t := (.tp [5, 6, 7, 8])) (d_callN D__law_two (hr.mono (by decide)) (by rfl) (da_cons (dv 0) (da_cons (d_ix (d_lst (da_cons (dv 2) (da_cons d_int da_nil))) (pd_callTy call_int1 cd_intB (by rfl) B.int_ (by decide +kernel) (da_cons (d_eq hr.units (dv 4) d_int) da_nil))) da_nil))) (pg_tup rfl (pgs_cons (pg_name (i := 5) nd rfl (by first | exact Or.inl rfl | exact Or.inr rfl)) (pgs_cons (pg_name (i := 6) nd rfl (by first | exact Or.inl rfl | exact Or.inr rfl)) (pgs_cons (pg_name (i := 7) nd rfl (by first | exact Or.inl rfl | exact Or.inr rfl)) (pgs_cons (pg_name (i := 8) nd rfl (by first | exact Or.inl rfl | exact Or.inr rfl)) pgs_nil)))))))) (dss_cons (ds_while PassesOwn.never (dt_gt (pd_callB (cr_sum rfl) cd_sumI (by rfl) B.sum_ (by decide +kernel) (da_cons (d_lcG false (Kx := K) (t := (.nm 9)) rfl nd (di_tup (dv 5)) (blkOk_by (own := [("_law_mine", 9)]) (N := ["_law_pen", "_law_odd", "_law_most", "_law_many", "_law_way", "_law_deck", "_law_hold", "_law_far", "_law_slow", "_law_mine", "_law_yours"]) (sc := defScope s__law_great) (by decide +kernel)) (by decide) (fun _ _ _ _ _ => (pg_name (i := 9) nd rfl (by first | exact Or.inl rfl | exact Or.inr rfl))) (fun _ _ _ _ _ => dts_nil) (fun _ _ _ _ _ => (pd_callB call_len_seq cd_len (by rfl) B.len_ PySem.boot_len (da_cons (d_lcG false (Kx := K) (t := (.nm 10)) rfl nd (di_tup (dv 6)) (blkOk_by (own := [("_law_yours", 10)]) (N := ["_law_pen", "_law_odd", "_law_most", "_law_many", "_law_way", "_law_deck", "_law_hold", "_law_far", "_law_slow", "_law_mine", "_law_yours"]) (sc := { kind := .function, names := [(".0", .local), ("_law_mine", .cell), ("len", .globalImplicit), ("_law_hold", .cell)], isGenerator := false, isCoroutine := false }) (by decide +kernel)) (by decide) (fun _ _ _ _ _ => (pg_name (i := 10) nd rfl (by first | exact Or.inl rfl | exact Or.inr rfl))) (fun _ _ _ _ _ => (dts_one (dt_eq hr.units (d_slT (dv 10) (do_some d_int) do_none) (d_slT (dv 9) (do_some d_int) do_none)))) (fun _ _ _ _ _ => d_int)) da_nil)))) da_nil)) (dv 3)) (dss_cons (ds_set (i := 5) nd rfl (by first | exact Or.inl rfl | exact Or.inr rfl) (d_slT (dv 5) do_none (do_some (d_neg d_int)))) (dss_one (ds_set (i := 6) nd rfl (by first | exact Or.inl rfl | exact Or.inr rfl) (d_slT (dv 6) do_none (do_some (d_neg d_int))))))) (dss_one (ds_ret (d_tup (da_cons (dv 5) (da_cons (dv 6) (da_cons (dv 7) (da_cons (dv 8) da_nil))))))))))), fun ds M P h => ?_⟩)
  obtain ⟨a, o, n1, n2, most, many, rfl, hao, hpa, hpo, hn1, hn2, hm0, hm1, hmany, k⟩ := h
  have hs : sizeLine = 16777216 := sizeLine_eq
  refine s_seq ?_
  walk_at "dN"
  refine s_draw hpo.at (by omega) (by decide) (by decide) fun way M1 w0 w1 p1 => ?_
  have hpa1 : Pen M1 a n1 := hpa.frame (p1.ne hao)
  walk_at "dN"
  refine s_seqI (fun δ M2 => ∃ (B R : List Rw) (far slow : Int), δ = [some (.own a), some (.own o), some (.py (.int most)), some (.py (.int many)), some (.py (.int way)), some (.py (encL B)), some (.py (encL R)), some (.py (.int far)), some (.py (.int slow)), none, none] ∧ LogOk B ∧ LogOk R ∧ 0 ≤ slow ∧ PenAt M1 a (n1 + 1000) M2) (fun δ M2 h => ?_) fun nx hnx => ?_
  rotate_left
  · walk_at "dN"
    refine s_iteD (fun _ => ?_) fun hw => ?_
    · walk_at "dN"
      refine ⟨a, n1, rfl, hpa1, by omega, fun B R far slow M2 lb lr hsl p2 => ?_⟩
      walk_at "dN"
      exact hnx _ _ ⟨B, R, far, slow, rfl, lb, lr, hsl, p2⟩
    · walk_at "dN"
      have hz : ∀ c : Bool, ∃ z : Int, atI [PyData.int most, .int 18] (if c = true then 1 else 0) = some (.int z) ∧ 0 ≤ z ∧ z ≤ 18 := fun c => by
        cases c with
        | false => exact ⟨most, rfl, hm0, hm1⟩
        | true => exact ⟨18, rfl, by decide, by decide⟩
      obtain ⟨z, hz1, hz2, hz3⟩ := hz (decide (way = 1))
      refine s_ixL hz1 ?_
      walk_at "dN"
      refine ⟨a, n1, z, rfl, hpa1, by omega, hz2, hz3, fun B R far slow M2 lb lr hsl p2 => ?_⟩
      walk_at "dN"
      exact hnx _ _ ⟨B, R, far, slow, rfl, lb, lr, hsl, p2⟩
  · obtain ⟨B0, R0, far, slow, rfl, lb0, lr0, hsl, p2⟩ := h
    refine s_seq ?_
    refine ⟨fun m δ M' => ∃ (B R : List Rw) (o9 o10 : Option Dat), δ = [some (.own a), some (.own o), some (.py (.int most)), some (.py (.int many)), some (.py (.int way)), some (.py (encL B)), some (.py (encL R)), some (.py (.int far)), some (.py (.int slow)), o9, o10] ∧ m = B.length ∧ LogOk B ∧ LogOk R ∧ M' = M2, ⟨_, B0, R0, _, _, rfl, rfl, lb0, lr0, rfl⟩, fun m δ M' h => ?_⟩
    obtain ⟨b, r, o9, o10, rfl, rfl, lb, lr, rfl⟩ := h
    have h1 := lb.len
    have h2 := lr.len
    walk_at "dN"
    refine ⟨b.map encR, rfl, ?_⟩
    refine s_lcP b (fun t => .py (encR t)) (fun _ => true) (fun t => .int (likeN r t)) (by rw [List.map_map]; rfl) trivial (by omega) ?_ fun t ht QT QF q1 q2 => ?_
    · rw [if_neg (by decide), List.filter_eq_self.mpr fun _ _ => rfl]
      walk_at "dN"
      refine ⟨_, b.map (likeN r), rfl, ?_, ?_⟩
      · show _ = _
        rw [List.map_map]
        rfl
      · walk_at "dN"
        refine s_iteD (fun hgt => ?_) fun _ => ?_
        · have hb : b ≠ [] := fun e => by
            rw [e] at hgt
            simp at hgt
            omega
          refine s_seq ?_
          unfold encL
          walk_at "dN"
          rw [cut_map]
          walk_at "dN"
          rw [cut_map]
          walk_at "dN"
          refine s_less ⟨_, ?_, cutP b none (some (-1)), cutP r none (some (-1)), _, _, rfl, rfl, lb.cut, lr.cut, rfl⟩
          rw [cut_init]
          have := List.length_pos_iff.mpr hb
          omega
        · walk_at "dS"
          exact s_rt (k b r far slow M1 _ lb lr hsl p1 p2)
    · refine ⟨_, rfl, ?_⟩
      walk_at "dN"
      refine ⟨r.map encR, rfl, ?_⟩
      refine s_lcP r (fun t => .py (encR t)) (fun y => decide (Alike y t)) (fun _ => .int 1) (by rw [List.map_map]; rfl) trivial (by omega) ?_ fun y hy QT2 QF2 q3 q4 => ?_
      · rw [if_neg (by decide)]
        walk_at "dN"
        exact ⟨_, rfl, q1 rfl⟩
      · refine ⟨_, rfl, ?_⟩
        walk_at "dN"
        refine s_eqTl (lr.sh y hy) (lb.sh t ht) ?_
        walk_at "dN"
        refine s_ite (fun h => ?_) fun h => ?_
        · walk_at "dN"
          exact ⟨_, rfl, q3 h⟩
        · exact q4 h
end
end RO
namespace RO
open PySem PySem.Spec PyProof.Rows L2 DL
section
variable {P : Program} {w : World} {K : PySem.W.Frag} {mg : Str → Option Value} {base : Heap} {T : List (Addr × Str)} {f : Addr} {fd : FuncData} {M M' M'' : Mem} {a b : Addr} {n m : Int}
abbrev Pap := Int × List Pr × List (Int × Int × List (List Pr))
def encPp (p : Pap) : PyData := encP p.1 p.2.1 p.2.2
structure PapOk (B R : List Rw) (lag lo hi : Int) (p : Pap) : Prop where
  lo_ : lo ≤ p.1
  hi_ : p.1 ≤ hi
  jn : Jn B R lag p.1 p.2.1
  cov : Cov (Shs B R lag) lo p.2.2 (hi + 1)
/-- the state of papers' loop -/
structure PpSt (B R : List Rw) (lag lo hi : Int) (M M' : Mem) (a d : Addr) (n : Int) (L : List Pap) : Prop where
  pen : PenLe M a n M'
  m1 : M' d = some (.lst ((L.map encPp).map .py))
  ok : ∀ p ∈ L, PapOk B R lag lo hi p
def f_papers : WF := fun ds M P => ∃ (a : Addr) (n : Int) (B R : List Rw) (lag lo hi : Int), ds = [.own a, .py (encL B), .py (encL R), .py (.int lag), .py (.int lo), .py (.int hi)] ∧ LogOk B ∧ LogOk R ∧ 0 ≤ lag ∧ lo ≤ hi ∧ (-5000 ≤ lo ∧ hi ≤ 5000) ∧ Pen M a n ∧ n ≤ 700000 ∧ ∀ (L : List Pap) M', L.length = 3 → (∀ p ∈ L, PapOk B R lag lo hi p) → PenAt M a (n + 5000) M' → P (.py (.list (L.map encPp))) M'
theorem ok_papers (Fn : FunX K "_law_papers" "_law_papers" s__law_papers f fd) (B : Bn K w mg) (D__law_draw : Dn P w K mg base T 1 "_law_draw" ["_law_pen", "_law_many"] [] f_draw) (D__law_made : Dn P w K mg base T 2 "_law_made" ["_law_pen", "_law_deck", "_law_every"] [] f_made) (D_joining : Dn P w K mg base T 8 "joining" ["bridge", "room", "d", "lag"] [] f_joining) (D_pairs_at : Dn P w K mg base T 7 "pairs_at" ["bridge", "room", "d", "lag"] [] f_pairs_at) (D_sharing : Dn P w K mg base T 3 "sharing" ["bridge", "room", "pairs", "d", "lag"] [] f_sharing) : FnOk P w K mg base CX0 9 f fd ["_law_pen", "_law_deck", "_law_hold", "_law_slow", "_law_start", "_law_end"] (dSp K T f_papers) := by
  refine dok Fn sc__law_papers (fun ds M P ⟨_, _, _, _, _, _, _, h, _⟩ => by rw [h]; rfl) (fun cdv A outer s H E hr => ⟨_, (have nd := (sc__law_papers).nd; (dss_cons (ds_set (i := 6) nd rfl (by first | exact Or.inl rfl | exact Or.inr rfl) (d_lstM da_nil)) (dss_cons (ds_for (Kx := K) (t := (.nm 7)) PassesOwn.never rfl (di_range1 (by rfl) B.range_ (da_cons d_int da_nil)) (pg_name (i := 7) nd rfl (by first | exact Or.inl rfl | exact Or.inr rfl)) (dss_cons (ds_set (i := 8) nd rfl (by first | exact Or.inl rfl | exact Or.inr rfl) (d_add (dv 4) (d_callN D__law_draw (hr.mono (by decide)) (by rfl) (da_cons (dv 0) (da_cons (d_add (d_sub (dv 5) (dv 4)) d_int) da_nil))))) (dss_cons (ds_set (i := 9) nd rfl (by first | exact Or.inl rfl | exact Or.inr rfl) (d_callN D_joining (hr.mono (by decide)) (by rfl) (da_cons (dv 1) (da_cons (dv 2) (da_cons (dv 8) (da_cons (dv 3) da_nil)))))) (dss_cons (ds_if (dt_eq hr.units (dv 7) d_int) (dss_one (ds_set (i := 9) nd rfl (by first | exact Or.inl rfl | exact Or.inr rfl) (d_callN D__law_made (hr.mono (by decide)) (by rfl) (da_cons (dv 0) (da_cons (dv 1) (da_cons (d_callN D_pairs_at (hr.mono (by decide)) (by rfl) (da_cons (dv 1) (da_cons (dv 2) (da_cons (dv 8) (da_cons (dv 3) da_nil))))) da_nil)))))) dss_nil) (dss_cons (ds_set (i := 10) nd rfl (by first | exact Or.inl rfl | exact Or.inr rfl) (d_lstM da_nil)) (dss_cons (ds_for (Kx := K) (t := (.nm 11)) PassesOwn.never rfl (di_range2 (by rfl) B.range_ (da_cons (dv 4) (da_cons (d_add (dv 5) d_int) da_nil))) (pg_name (i := 11) nd rfl (by first | exact Or.inl rfl | exact Or.inr rfl)) (dss_one (ds_expr (pd_app (pe_bm PySem.F.plainAttrs_list PySem.F.slot_list_append PySem.F.type_list_append mt_append (dv 10) (da_cons (d_tup (da_cons (dv 11) (da_cons (dv 11) (da_cons (d_callN D_sharing (hr.mono (by decide)) (by rfl) (da_cons (dv 1) (da_cons (dv 2) (da_cons (d_callN D_pairs_at (hr.mono (by decide)) (by rfl) (da_cons (dv 1) (da_cons (dv 2) (da_cons (dv 11) (da_cons (dv 3) da_nil))))) (da_cons (dv 11) (da_cons (dv 3) da_nil)))))) da_nil)))) da_nil)))))) (dss_one (ds_expr (pd_app (pe_bm PySem.F.plainAttrs_list PySem.F.slot_list_append PySem.F.type_list_append mt_append (dv 6) (da_cons (d_tup (da_cons (dv 8) (da_cons (dv 9) (da_cons (dvF 10) da_nil)))) da_nil))))))))))) (dss_one (ds_ret (dv 6)))))), fun ds M P h => ?_⟩)
  obtain ⟨a, n, b, r, lag, lo, hi, rfl, lb, lr, hlag, hlo, hb, hp, hn, k⟩ := h
  have hs : sizeLine = 16777216 := sizeLine_eq
  walk_at "dS"
  refine s_mk (by decide) fun d1 hd1 => ?_
  have hd1a : d1 ≠ a := fun z => hp.some_ (by rw [← z]; exact hd1)
  walk_at "dS"
  refine ⟨3, rfl, by decide, by decide, ?_⟩
  refine ⟨fun i δ M' => ∃ L o7 o8 o9 o10 o11, δ = [some (.own a), some (.py (encL b)), some (.py (encL r)), some (.py (.int lag)), some (.py (.int lo)), some (.py (.int hi)), some (.own d1), o7, o8, o9, o10, o11] ∧ L.length = i ∧ PpSt b r lag lo hi M M' a d1 (n + 1000 * i) L ∧ i ≤ 3, ⟨[], _, _, _, _, _, rfl, rfl, ⟨(hp.at.le.put hd1a hd1).mono (by omega), putM_same, fun p hp => by cases hp⟩, by omega⟩, fun _ _ _ _ => trivial, fun δ M' h => ?_, fun i d δ M' hd h => ?_⟩
  · obtain ⟨L, o7, o8, o9, o10, o11, rfl, hL, st, _⟩ := h
    rw [List.length_map, rgI_len] at hL st
    walk_at "dS"
    obtain ⟨M'', k1, k2⟩ := st.pen.down
    refine ⟨_, _, .trans (.lst st.m1) (.le (M' := M'') fun x ob hx => ?_), k L M'' hL st.ok (k1.mono (by simp))⟩
    unfold delMs
    rw [if_neg]
    · exact k2 x ob hx
    · intro z
      rw [List.mem_singleton.mp z, k1.ne hd1a, hd1] at hx
      cases hx
  · obtain ⟨L, o7, o8, o9, o10, o11, rfl, hL, st, _⟩ := h
    obtain ⟨rfl, hi2⟩ := rg_at hd
    refine ⟨_, rfl, ?_⟩
    refine s_seq ?_
    walk_at "dN"
    refine s_draw st.pen.pen.at (by omega) (by omega) (by omega) fun v N1 v0 v1 r1 => ?_
    walk_at "dN"
    have hx0 : lo ≤ lo + v := by omega
    have hx1 : lo + v ≤ hi := by omega
    generalize lo + v = x at hx0 hx1 ⊢
    refine s_seq ?_
    walk_at "dN"
    refine ⟨b, r, x, lag, rfl, lb, lr, fun J0 hJ0 => ?_⟩
    walk_at "dN"
    have st1 : PpSt b r lag lo hi M N1 a d1 (n + 1000 * i + 1) L := ⟨st.pen.step r1, by rw [r1.ne hd1a]; exact st.m1, st.ok⟩
    refine s_seqI (fun δ M'' => ∃ J, δ = [some (.own a), some (.py (encL b)), some (.py (encL r)), some (.py (.int lag)), some (.py (.int lo)), some (.py (.int hi)), some (.own d1), some (.py (.int (0 + i))), some (.py (.int x)), some (.py (encPs J)), o10, o11] ∧ Jn b r lag x J ∧ PpSt b r lag lo hi M M'' a d1 (n + 1000 * i + 800) L) (fun δ M'' h => ?_) fun nx hnx => ?_
    rotate_left
    · walk_at "dN"
      refine s_iteD (fun _ => ?_) fun _ => ?_
      · walk_at "dN"
        refine ⟨b, r, x, lag, rfl, lb, lr, ?_⟩
        walk_at "dN"
        have hpl := pw_len (lag := lag) (lo := x) (hi := x) lb.len lr.len
        refine ⟨a, _, b, pw b r lag x x, rfl, lb, pw_in, nodup_of_lex pw_pw, hpl, st1.pen.pen, by omega, fun J N2 hJ1 hJ2 r2 => ?_⟩
        refine ⟨_, rfl, ?_⟩
        exact hnx _ _ ⟨J, rfl, ⟨hJ1, hJ2⟩, ⟨(st1.pen.step r2).mono (by omega), by rw [r2.ne hd1a]; exact st1.m1, st1.ok⟩⟩
      · refine s_next ?_
        exact hnx _ _ ⟨J0, rfl, ⟨hJ0.st, hJ0.sub⟩, ⟨st1.pen.mono (by omega), st1.m1, st1.ok⟩⟩
    · clear st1 st r1
      obtain ⟨J, rfl, hJ, st⟩ := h
      walk_at "dS"
      refine s_mk (by decide) fun d2 hd2 => ?_
      have hd2n := st.pen.none_ hd2
      have hd21 : d2 ≠ d1 := fun z => by rw [z, st.m1] at hd2; cases hd2
      walk_at "dS"
      refine ⟨lo, hi + 1, rfl, ⟨by omega, by omega, by omega, by omega⟩, ?_⟩
      refine ⟨fun j δ M3 => ∃ C o11, δ = [some (.own a), some (.py (encL b)), some (.py (encL r)), some (.py (.int lag)), some (.py (.int lo)), some (.py (.int hi)), some (.own d1), some (.py (.int (0 + i))), some (.py (.int x)), some (.py (encPs J)), some (.own d2), o11] ∧ M3 = putM M'' d2 (.lst ((C.map encK).map .py)) ∧ Cov (Shs b r lag) lo C (lo + j), ⟨[], _, rfl, rfl, by rw [show lo + ((0 : Nat) : Int) = lo by omega]; exact .nil⟩, fun _ _ _ _ => trivial, fun δ M3 h => ?_, fun j d δ M3 hd h => ?_⟩
      · obtain ⟨C, o11, rfl, rfl, hC⟩ := h
        rw [List.length_map, rgI_len, show lo + ((hi + 1 - lo).toNat : Int) = hi + 1 by omega] at hC
        walk_at "dS"
        refine s_own (by rw [putM_ne (Ne.symm hd21)]; exact st.m1) ?_
        walk_at "dS"
        refine s_varF rfl putM_same ?_
        rw [delM_putM hd2]
        walk_at "dS"
        refine ⟨d1, _, _, rfl, rfl, st.m1, by rw [List.length_map, List.length_map]; omega, ?_⟩
        refine s_less ⟨L ++ [(x, J, C)], _, _, _, _, _, rfl, by rw [List.length_append, hL]; rfl, ⟨(st.pen.put hd1a hd1).mono (by omega), ?_, fun p hp => ?_⟩, by omega⟩
        · rw [putM_same]
          exact congrArg (fun x => some (MO.lst x)) (app_lastM (f := encPp) (u := (x, J, C)))
        · rcases List.mem_append.mp hp with hp | hp
          · exact st.ok p hp
          · rw [List.mem_singleton.mp hp]
            exact ⟨hx0, hx1, hJ, hC⟩
      · obtain ⟨C, o11, rfl, rfl, hC⟩ := h
        obtain ⟨rfl, hj2⟩ := rg_at hd
        have hCl := hC.len
        refine ⟨_, rfl, ?_⟩
        walk_at "dS"
        refine s_own putM_same ?_
        walk_at "dS"
        refine ⟨b, r, lo + j, lag, rfl, lb, lr, ?_⟩
        walk_at "dS"
        have hpl := pw_len (lag := lag) (lo := lo + j) (hi := lo + j) lb.len lr.len
        refine ⟨b, r, pw b r lag (lo + j) (lo + j), _, _, rfl, pw_in, nodup_of_lex pw_pw, by omega, fun S hS => ?_⟩
        walk_at "dS"
        refine ⟨d2, _, _, rfl, rfl, putM_same, by rw [List.length_map, List.length_map]; omega, ?_⟩
        refine s_less ⟨C ++ [(lo + j, lo + j, S)], _, rfl, ?_, ?_⟩
        · rw [putM_putM]
          exact congrArg (fun x => putM M'' d2 (.lst x)) (app_lastM (f := encK) (u := (lo + j, lo + j, S)))
        · rw [show lo + ((j + 1 : Nat) : Int) = lo + j + 1 by push_cast; omega]
          exact .snoc hC (Int.le_refl _) ⟨hS, fun d k1 k2 => by rw [show d = lo + j by omega]; exact hS.mu⟩
end
end RO
namespace RO
open PySem PySem.Spec PyProof.Rows L2 DL
section
variable {P : Program} {w : World} {K : PySem.W.Frag} {mg : Str → Option Value} {base : Heap} {T : List (Addr × Str)} {f : Addr} {fd : FuncData} {M M' M'' : Mem} {a b : Addr} {n m : Int}
theorem rgI_split {lo m e : Int} (h1 : lo ≤ m) (h2 : m ≤ e) : rgI lo e = rgI lo m ++ rgI m e := by
  unfold rgI
  obtain ⟨x, rfl⟩ := Int.le.dest h1
  obtain ⟨y, rfl⟩ := Int.le.dest h2
  rw [show (lo + (x : Int) + (y : Int) - lo).toNat = x + y by omega, show (lo + (x : Int) - lo).toNat = x by omega, show (lo + (x : Int) + (y : Int) - (lo + (x : Int))).toNat = y by omega, List.range_add, List.map_append, List.map_map]
  congr 1
  refine List.map_congr_left fun i _ => ?_
  show lo + ((x + i : Nat) : Int) = lo + (x : Int) + (i : Nat)
  omega
theorem mem_rgI {lo e x : Int} : x ∈ rgI lo e ↔ lo ≤ x ∧ x < e := by
  unfold rgI
  rw [List.mem_map]
  constructor
  · rintro ⟨i, hi, rfl⟩
    rw [List.mem_range] at hi
    omega
  · intro h
    exact ⟨(x - lo).toNat, List.mem_range.mpr (by omega), by omega⟩
open Classical in
/-- the count of a difference -/
noncomputable def muF (B R : List Rw) (lag x : Int) : Int := if h : ∃ n, Mu B (pw B R lag x x) n then Classical.choose h else 0
theorem muF_eq {B R : List Rw} {lag x n : Int} (h : Mu B (pw B R lag x x) n) : muF B R lag x = n := by
  have h' : ∃ n, Mu B (pw B R lag x x) n := ⟨n, h⟩
  unfold muF
  rw [dif_pos h']
  exact (Classical.choose_spec h').uniq h
theorem flat_eq {B R : List Rw} {lag lo e : Int} {l : List (Int × Int × Int)} (h : Cov (Cnt B R lag) lo l e) : flatR l = (rgI lo e).map fun x => (x, muF B R lag x) := by
  induction h with
  | nil => simp [flatR, rgI]
  | snoc h1 h2 h3 ih =>
    rename_i l m n x
    rw [flatR_snoc, ih, rgI_split h1.le (show m ≤ n + 1 by omega), List.map_append]
    congr 1
    refine List.map_congr_left fun y hy => ?_
    rw [mem_rgI] at hy
    have hy2 : y < n + 1 := hy.2
    rw [muF_eq (h3 y hy.1 (by show y ≤ n; omega))]
theorem cnt_muF {B R : List Rw} {lag lo e : Int} {l : List (Int × Int × Int)} (h : Cov (Cnt B R lag) lo l e) {x : Int} (h1 : lo ≤ x) (h2 : x < e) : Mu B (pw B R lag x x) (muF B R lag x) := by
  obtain ⟨c, hc, c1, c2⟩ := h.find h1 h2
  have := (h.mem hc).2.2.1 x c1 c2
  rw [muF_eq this]
  exact this
/-- a paper's cases against a joining -/
theorem cases_le {B R : List Rw} {lag lo hi : Int} {C : List (Int × Int × List (List Pr))} (hC : Cov (Shs B R lag) lo C (hi + 1)) (k : Int) : (C.all fun c => decide ((c.2.2.length : Int) ≤ k)) = true ↔ ∀ x, lo ≤ x → x ≤ hi → muF B R lag x ≤ k := by
  rw [List.all_eq_true]
  constructor
  · intro h x h1 h2
    obtain ⟨c, hc, c1, c2⟩ := hC.find h1 (by omega)
    have h3 := (hC.mem hc).2.2.1.2 x c1 c2
    rw [muF_eq h3]
    exact of_decide_eq_true (h c hc)
  · intro h c hc
    obtain ⟨c1, c2, c3, c4⟩ := hC.mem hc
    have h3 := c3.2 c.1 (Int.le_refl _) c2
    rw [← muF_eq h3]
    exact decide_eq_true (h c.1 c1 (by omega))
theorem cov_sh {B R : List Rw} {lag lo e : Int} {C : List (Int × Int × List (List Pr))} (h : Cov (Shs B R lag) lo C e) : Cov (fun m n S => Shar B (pw B R lag m n) S) lo C e := by
  induction h with
  | nil => exact .nil
  | snoc h1 h2 h3 ih => exact .snoc ih h2 h3.1.sh
theorem bst_muF {B R : List Rw} {lag lo hi d : Int} {J : List Pr} (h : Bst B R lag lo hi d J) : (J.length : Int) = muF B R lag d := (muF_eq h.grt.mu).symm
theorem s_nePs {P : Dat → Mem → Prop} {ps qs : List Pr} (h : P (.py (.bool (!decide (ps = qs)))) M) : fNe (.py (.list (ps.map prP))) (.py (.list (qs.map prP))) M P :=
  ⟨_, ⟨_, _, rfl, rfl, shaped_prs ps, shaped_prs qs, rfl⟩, by rw [PyData.eqv, eqvAll_prs]; exact h⟩
theorem eqvAll_is : ∀ ps qs : List Int, PyData.eqvAll (ps.map .int) (qs.map .int) = decide (ps = qs)
  | [], [] => by simp [PyData.eqvAll]
  | [], _ :: _ => by simp [PyData.eqvAll]
  | _ :: _, [] => by simp [PyData.eqvAll]
  | p :: ps, q :: qs => by
    have h2 := eqvAll_is ps qs
    rw [List.map_cons, List.map_cons]
    unfold PyData.eqvAll
    rw [h2]
    by_cases e1 : p = q
    · by_cases e2 : ps = qs
      · simp [PyData.eqv, e1, e2]
      · simp [PyData.eqv, e1, e2]
    · simp [PyData.eqv, e1]
theorem s_neIs {P : Dat → Mem → Prop} {ps qs : List Int} (h : P (.py (.bool (!decide (ps = qs)))) M) : fNe (.py (.list (ps.map .int))) (.py (.list (qs.map .int))) M P :=
  ⟨_, ⟨_, _, rfl, rfl, shaped_I ps, shaped_I qs, rfl⟩, by rw [PyData.eqv, eqvAll_is]; exact h⟩
theorem rgI_one (d : Int) : rgI d (d + 1) = [d] := by
  unfold rgI
  rw [show (d + 1 - d).toNat = 1 by omega]
  simp [List.range_succ]
theorem rgI_filter {lo e d : Int} (h1 : lo ≤ d) (h2 : d < e) : (rgI lo e).filter (fun x => decide (x = d)) = [d] := by
  rw [rgI_split h1 (show d ≤ e by omega), rgI_split (show d ≤ d + 1 by omega) (show d + 1 ≤ e by omega), rgI_one, List.filter_append, List.filter_append]
  have e1 : (rgI lo d).filter (fun x => decide (x = d)) = [] := List.filter_eq_nil_iff.mpr fun x hx => by
    rw [mem_rgI] at hx
    simp
    omega
  have e2 : (rgI (d + 1) e).filter (fun x => decide (x = d)) = [] := List.filter_eq_nil_iff.mpr fun x hx => by
    rw [mem_rgI] at hx
    simp
    omega
  rw [e1, e2]
  simp
def f_cut : WF := fun ds M P => ∃ (B R : List Rw) (lag lo hi at_ : Int), ds = [.py (encL B), .py (encL R), .py (.int lag), .py (.int lo), .py (.int hi), .py (.int at_)] ∧ LogOk B ∧ LogOk R ∧ 0 ≤ lag ∧ lo ≤ at_ ∧ at_ < hi ∧ (-5000 ≤ lo ∧ hi ≤ 5000) ∧ P (.py (.bool true)) M
theorem ok_cut (Fn : FunX K "_law_cut_right" "_law_cut_right" s__law_cut_right f fd) (B : Bn K w mg) (D__law_flat : Dn P w K mg base T 1 "_law_flat" ["_law_rows"] [] f_flat) (D_counts : Dn P w K mg base T 8 "counts" ["bridge", "room", "lag", "low", "high"] [] f_counts) (D_best : Dn P w K mg base T 9 "best" ["bridge", "room", "lag", "low", "high"] [] f_best) (D_best_paper : Dn P w K mg base T 10 "best_paper" ["bridge", "room", "lag", "low", "high"] [] f_best_paper) (D_is_best : Dn P w K mg base T 9 "is_best" ["bridge", "room", "thing", "lag", "low", "high"] [] f_is_best) : FnOk P w K mg base CX0 11 f fd ["_law_deck", "_law_hold", "_law_slow", "_law_start", "_law_end", "_law_at"] (dSp K T f_cut) := by
  refine dok Fn sc__law_cut_right (fun ds M P ⟨_, _, _, _, _, _, h, _⟩ => by rw [h]; rfl) (fun cdv A outer s H E hr => ⟨_, (have nd := (sc__law_cut_right).nd; (dss_cons (ds_set (i := 6) nd rfl (by first | exact Or.inl rfl | exact Or.inr rfl) (d_callN D__law_flat (hr.mono (by decide)) (by rfl) (da_cons (d_callN D_counts (hr.mono (by decide)) (by rfl) (da_cons (dv 0) (da_cons (dv 1) (da_cons (dv 2) (da_cons (dv 3) (da_cons (dv 4) da_nil)))))) da_nil))) (dss_cons (ds_set (i := 7) nd rfl (by first | exact Or.inl rfl | exact Or.inr rfl) (d_add (d_callN D__law_flat (hr.mono (by decide)) (by rfl) (da_cons (d_callN D_counts (hr.mono (by decide)) (by rfl) (da_cons (dv 0) (da_cons (dv 1) (da_cons (dv 2) (da_cons (dv 3) (da_cons (dv 5) da_nil)))))) da_nil)) (d_callN D__law_flat (hr.mono (by decide)) (by rfl) (da_cons (d_callN D_counts (hr.mono (by decide)) (by rfl) (da_cons (dv 0) (da_cons (dv 1) (da_cons (dv 2) (da_cons (d_add (dv 5) d_int) (da_cons (dv 4) da_nil)))))) da_nil)))) (dss_cons (ds_if (PW.pt (dw_or (dt_ne hr.units (dv 6) (dv 7)) (dw_or1 (dt_ne hr.units (d_lcG false (Kx := K) (t := (.tp [11, 14])) rfl nd (di_list (dv 6)) (blkOk_by (own := [("_law_x", 11), ("_law_many", 14)]) (N := ["_law_deck", "_law_hold", "_law_slow", "_law_start", "_law_end", "_law_at", "_law_every", "_law_parts", "_law_most", "_law_first", "_law_last", "_law_x", "_law_some", "_law_paper", "_law_many", "_law_here"]) (sc := defScope s__law_cut_right) (by decide +kernel)) (by decide) (fun _ _ _ _ _ => (pg_tup rfl (pgs_cons (pg_name (i := 11) nd rfl (by first | exact Or.inl rfl | exact Or.inr rfl)) (pgs_cons (pg_name (i := 14) nd rfl (by first | exact Or.inl rfl | exact Or.inr rfl)) pgs_nil)))) (fun _ _ _ _ _ => dts_nil) (fun _ _ _ _ _ => (dv 11))) (pd_listRg (p := ⟨0, 0, 0, 0⟩) (pos := ⟨0, 0, 0, 0⟩) (pe_listRg rfl (by rfl) B.list_ (prg_2 (by rfl) B.range_ (dv 3) (d_add (dv 4) d_int)))))))) (dss_one (ds_ret d_bl)) dss_nil) (dss_cons (ds_set (i := 8) nd rfl (by first | exact Or.inl rfl | exact Or.inr rfl) (pd_callB (cr_max rfl) cd_maxL (by rfl) B.max_ (by decide +kernel) (da_cons (d_lcG false (Kx := K) (t := (.tp [11, 14])) rfl nd (di_list (dv 6)) (blkOk_by (own := [("_law_x", 11), ("_law_many", 14)]) (N := ["_law_deck", "_law_hold", "_law_slow", "_law_start", "_law_end", "_law_at", "_law_every", "_law_parts", "_law_most", "_law_first", "_law_last", "_law_x", "_law_some", "_law_paper", "_law_many", "_law_here"]) (sc := defScope s__law_cut_right) (by decide +kernel)) (by decide) (fun _ _ _ _ _ => (pg_tup rfl (pgs_cons (pg_name (i := 11) nd rfl (by first | exact Or.inl rfl | exact Or.inr rfl)) (pgs_cons (pg_name (i := 14) nd rfl (by first | exact Or.inl rfl | exact Or.inr rfl)) pgs_nil)))) (fun _ _ _ _ _ => dts_nil) (fun _ _ _ _ _ => (dv 14))) da_nil))) (dss_cons (ds_for (Kx := K) (t := (.tp [9, 10])) PassesOwn.never rfl (di_tup (d_tup (da_cons (d_tup (da_cons (dv 3) (da_cons (dv 5) da_nil))) (da_cons (d_tup (da_cons (d_add (dv 5) d_int) (da_cons (dv 4) da_nil))) da_nil)))) (pg_tup rfl (pgs_cons (pg_name (i := 9) nd rfl (by first | exact Or.inl rfl | exact Or.inr rfl)) (pgs_cons (pg_name (i := 10) nd rfl (by first | exact Or.inl rfl | exact Or.inr rfl)) pgs_nil))) (dss_cons (ds_asg (Kx := K) (t := (.tp [11, 12])) (d_callN D_best (hr.mono (by decide)) (by rfl) (da_cons (dv 0) (da_cons (dv 1) (da_cons (dv 2) (da_cons (dv 9) (da_cons (dv 10) da_nil)))))) (pg_tup rfl (pgs_cons (pg_name (i := 11) nd rfl (by first | exact Or.inl rfl | exact Or.inr rfl)) (pgs_cons (pg_name (i := 12) nd rfl (by first | exact Or.inl rfl | exact Or.inr rfl)) pgs_nil)))) (dss_cons (ds_if (PW.pt (dw_or (dt_gt (pd_callB call_len_seq cd_len (by rfl) B.len_ PySem.boot_len (da_cons (dv 12) da_nil)) (dv 8)) (dw_or1 (dt_ne hr.units (d_lcG false (Kx := K) (t := (.tp [15, 14])) rfl nd (di_list (dv 6)) (blkOk_by (own := [("_law_here", 15), ("_law_many", 14)]) (N := ["_law_deck", "_law_hold", "_law_slow", "_law_start", "_law_end", "_law_at", "_law_every", "_law_parts", "_law_most", "_law_first", "_law_last", "_law_x", "_law_some", "_law_paper", "_law_many", "_law_here"]) (sc := defScope s__law_cut_right) (by decide +kernel)) (by decide) (fun _ _ _ _ _ => (pg_tup rfl (pgs_cons (pg_name (i := 15) nd rfl (by first | exact Or.inl rfl | exact Or.inr rfl)) (pgs_cons (pg_name (i := 14) nd rfl (by first | exact Or.inl rfl | exact Or.inr rfl)) pgs_nil)))) (fun _ _ _ _ _ => (dts_one (dt_eq hr.units (dv 15) (dv 11)))) (fun _ _ _ _ _ => (dv 14))) (d_lst (da_cons (pd_callB call_len_seq cd_len (by rfl) B.len_ PySem.boot_len (da_cons (dv 12) da_nil)) da_nil)))))) (dss_one (ds_ret d_bl)) dss_nil) (dss_cons (ds_set (i := 13) nd rfl (by first | exact Or.inl rfl | exact Or.inr rfl) (d_tup (da_cons (dv 11) (da_cons (dv 12) (da_cons (d_ix (d_callN D_best_paper (hr.mono (by decide)) (by rfl) (da_cons (dv 0) (da_cons (dv 1) (da_cons (dv 2) (da_cons (dv 9) (da_cons (dv 10) da_nil)))))) d_int) da_nil))))) (dss_one (ds_if (dt_notIs (d_callN D_is_best (hr.mono (by decide)) (by rfl) (da_cons (dv 0) (da_cons (dv 1) (da_cons (dv 13) (da_cons (dv 2) (da_cons (dv 9) (da_cons (dv 10) da_nil))))))) d_bl) (dss_one (ds_ret d_bl)) dss_nil)))))) (dss_one (ds_ret d_bl)))))))), fun ds M P h => ?_⟩)
  obtain ⟨b, r, lag, lo, hi, at_, rfl, lb, lr, hlag, hlo, hhi, hb, k⟩ := h
  have hs : sizeLine = 16777216 := sizeLine_eq
  refine s_seq ?_
  walk_at "dN"
  refine ⟨b, r, lag, lo, hi, rfl, lb, lr, hlag, by omega, hb, fun r1 c1 => ?_⟩
  walk_at "dN"
  refine ⟨b, r, lag, lo, hi + 1, r1, rfl, c1, by omega, ?_⟩
  walk_at "dN"
  refine s_seq ?_
  walk_at "dN"
  refine ⟨b, r, lag, lo, at_, rfl, lb, lr, hlag, by omega, by omega, fun r2 c2 => ?_⟩
  walk_at "dN"
  refine ⟨b, r, lag, lo, at_ + 1, r2, rfl, c2, by omega, ?_⟩
  walk_at "dN"
  refine ⟨b, r, lag, at_ + 1, hi, rfl, lb, lr, hlag, by omega, by omega, fun r3 c3 => ?_⟩
  walk_at "dN"
  refine ⟨b, r, lag, at_ + 1, hi + 1, r3, rfl, c3, by omega, ?_⟩
  walk_at "dN"
  have f1 := flat_eq c1
  have f23 : flatR r1 = flatR r2 ++ flatR r3 := by
    rw [f1, flat_eq c2, flat_eq c3, ← List.map_append, ← rgI_split (by omega) (by omega)]
  have l1 := flat_len c1
  have l2 := flat_len c2
  have l3 := flat_len c3
  refine s_addL (by rw [List.length_map, List.length_map]; omega) ?_
  rw [← List.map_append, ← f23]
  walk_at "dN"
  refine s_seq ?_
  walk_at "dN"
  refine s_nePs ?_
  walk_at "dN"
  refine s_iteN (fun h => absurd rfl (of_decide_eq_false h)) fun _ => ?_
  walk_at "dN"
  generalize hF : flatR r1 = F at *
  refine s_lcP F (fun t => .py (prP t)) (fun _ => true) (fun t => .int t.1) (by rw [List.map_map]; rfl) trivial (by omega) ?_ fun t ht QT QF q1 q2 => ?_
  · rw [if_neg (by decide), List.filter_eq_self.mpr fun _ _ => rfl]
    walk_at "dN"
    refine ⟨lo, hi + 1, rfl, rfl, ⟨by omega, by omega, by omega, by omega⟩, ?_⟩
    have e1 : F.map (fun t => PyData.int t.1) = (rgI lo (hi + 1)).map .int := by
      rw [f1, List.map_map]
      rfl
    rw [e1]
    refine s_neIs ?_
    walk_at "dN"
    refine s_iteC' (by simp) ?_
    walk_at "dS"
    refine s_lcP F (fun t => .py (prP t)) (fun _ => true) (fun t => .int t.2) (by rw [List.map_map]; rfl) trivial (by omega) ?_ fun t ht QT QF q1 q2 => ?_
    · rw [if_neg (by decide), List.filter_eq_self.mpr fun _ _ => rfl]
      walk_at "dN"
      refine ⟨_, F.map (·.2), rfl, ?_, by rw [List.length_map]; omega, fun most _ hmost => ?_⟩
      · show _ = _
        rw [List.map_map]
        rfl
      have hmu : ∀ d, lo ≤ d → d ≤ hi → muF b r lag d ≤ most := fun d k1 k2 => by
        refine hmost _ (List.mem_map.mpr ⟨(d, muF b r lag d), ?_, rfl⟩)
        rw [f1]
        exact List.mem_map.mpr ⟨d, mem_rgI.mpr ⟨k1, by omega⟩, rfl⟩
      walk_at "dS"
      refine ⟨fun i δ M' => ∃ o9 o10 o11 o12 o13 o14 o15, δ = [some (.py (encL b)), some (.py (encL r)), some (.py (.int lag)), some (.py (.int lo)), some (.py (.int hi)), some (.py (.int at_)), some (.py (encPs F)), some (.py (encPs F)), some (.py (.int most)), o9, o10, o11, o12, o13, o14, o15] ∧ M' = M, ⟨_, _, _, _, _, _, _, rfl, rfl⟩, fun _ _ _ _ => trivial, fun δ M' h => ?_, fun i d δ M' hd h => ?_⟩
      · obtain ⟨o9, o10, o11, o12, o13, o14, o15, rfl, rfl⟩ := h
        walk_at "dS"
        exact s_rt k
      · obtain ⟨o9, o10, o11, o12, o13, o14, o15, rfl, rfl⟩ := h
        have hxy : ∃ x y : Int, d = .py (.tuple [.int x, .int y]) ∧ lo ≤ x ∧ x ≤ y ∧ y ≤ hi := by
          match i, hd with
          | 0, hd => cases hd; exact ⟨lo, at_, rfl, by omega, by omega, by omega⟩
          | 1, hd => cases hd; exact ⟨at_ + 1, hi, rfl, by omega, by omega, by omega⟩
          | i + 2, hd => simp at hd
        obtain ⟨x, y, rfl, x0, x1, x2⟩ := hxy
        refine ⟨_, rfl, ?_⟩
        walk_at "dS"
        refine ⟨b, r, lag, x, y, rfl, lb, lr, hlag, x1, by omega, fun d J hJ => ?_⟩
        have hJd := bst_muF hJ
        have hd0 := hJ.lo_
        have hd1 := hJ.hi_
        have hJm := hmu d (by omega) (by omega)
        walk_at "dS"
        refine s_iteD (fun h => absurd h (by rw [List.length_map]; omega)) fun _ => ?_
        walk_at "dS"
        refine s_lcP F (fun t => .py (prP t)) (fun t => decide (t.1 = d)) (fun t => .int t.2) (by rw [List.map_map]; rfl) trivial (by omega) ?_ fun t ht QT QF q1 q2 => ?_
        · rw [if_neg (by decide)]
          have e2 : (F.filter fun t => decide (t.1 = d)).map (fun t => PyData.int t.2) = ([muF b r lag d].map .int) := by
            rw [f1, List.filter_map, List.map_map]
            show ((rgI lo (hi + 1)).filter fun x => decide (x = d)).map _ = _
            rw [rgI_filter (by omega) (by omega)]
            rfl
          rw [e2]
          walk_at "dS"
          refine s_neIs (qs := [((J.map prP).length : Int)]) ?_
          walk_at "dS"
          refine s_iteC' (by rw [List.length_map, hJd]; simp) ?_
          walk_at "dS"
          refine ⟨b, r, lag, x, y, rfl, lb, lr, hlag, x1, by omega, fun d' J' C hB hC => ?_⟩
          walk_at "dS"
          refine ⟨_, ixD_tup rfl, ?_⟩
          walk_at "dS"
          have e3 : (C.all fun c => decide ((c.2.2.length : Int) ≤ J.length)) = true := (cases_le hC _).mpr fun z z1 z2 => hJ.mst z z1 z2 _ (cnt_muF c1 (by omega) (by omega))
          refine ⟨b, r, d, J, C, lag, x, y, rfl, lb, lr, hd0, hd1, ⟨hJ.grt.st, hJ.grt.sub⟩, cov_sh hC, by omega, ?_⟩
          rw [e3]
          walk_at "dS"
          exact s_less ⟨_, _, _, _, _, _, _, rfl, rfl⟩
        · refine ⟨_, rfl, ?_⟩
          walk_at "dS"
          refine s_iteD (fun h => ?_) fun h => ?_
          · walk_at "dS"
            exact ⟨_, rfl, q1 (decide_eq_true h)⟩
          · exact q2 (decide_eq_false h)
    · refine ⟨_, rfl, ?_⟩
      walk_at "dN"
      exact ⟨_, rfl, q1 rfl⟩
  · refine ⟨_, rfl, ?_⟩
    walk_at "dN"
    exact ⟨_, rfl, q1 rfl⟩
end
end RO
namespace RO
open PySem PySem.Spec PyProof.Rows L2 DL
section
variable {P : Program} {w : World} {K : PySem.W.Frag} {mg : Str → Option Value} {base : Heap} {T : List (Addr × Str)} {f : Addr} {fd : FuncData} {M M' M'' : Mem} {a b : Addr} {n m : Int}
/-- a paper is best when its joining is as great as the greatest count -/
theorem pap_all {B R : List Rw} {lag lo hi many : Int} {p : Pap} (hp : PapOk B R lag lo hi p) (h1 : ∀ x, lo ≤ x → x ≤ hi → Mu B (pw B R lag x x) (muF B R lag x)) (h2 : ∀ x, lo ≤ x → x ≤ hi → muF B R lag x ≤ many) (h3 : ∃ x, lo ≤ x ∧ x ≤ hi ∧ muF B R lag x = many) : (p.2.2.all fun c => decide ((c.2.2.length : Int) ≤ p.2.1.length)) = decide ((p.2.1.length : Int) = many) := by
  have hle : (p.2.1.length : Int) ≤ many := Int.le_trans (hp.jn.st.le hp.jn.sub (h1 p.1 hp.lo_ hp.hi_)) (h2 p.1 hp.lo_ hp.hi_)
  by_cases e : (p.2.1.length : Int) = many
  · rw [decide_eq_true e]
    exact (cases_le hp.cov _).mpr fun x x1 x2 => by rw [e]; exact h2 x x1 x2
  · rw [decide_eq_false e, Bool.eq_false_iff]
    intro z
    obtain ⟨x, x1, x2, x3⟩ := h3
    have := (cases_le hp.cov _).mp z x x1 x2
    omega
theorem s_env {G : WS} {E : DEnds} {δ : DEnv} (η : DEnv) (e : δ = η) (h : G E η M) : G E δ M := by rw [e]; exact h
theorem mle_pen {M0 : Mem} (h : MLe M0 M) (hx : M0 a = none) (p : PenAt M a n M') : MLe M0 M' := fun x ob hx' => by
  rw [p.ne (fun e => by rw [e, hx] at hx'; cases hx')]
  exact h x ob hx'
def f_law : WF := fun ds M P => ∃ ns : List Int, ds = [.scr ns] ∧ P (.py (.bool true)) M
theorem ok_law (Fn : FunX K "law" "law" s_law f fd) (B : Bn K w mg) (D__law_draw : Dn P w K mg base T 1 "_law_draw" ["_law_pen", "_law_many"] [] f_draw) (D__law_great : Dn P w K mg base T 4 "_law_great" ["_law_pen", "_law_odd", "_law_most", "_law_many"] [] f_great) (D__law_stretch : Dn P w K mg base T 2 "_law_stretch" ["_law_pen", "_law_far"] [] f_stretch) (D__law_alike : Dn P w K mg base T 1 "_law_alike" ["_law_deck", "_law_hold"] [] f_alike) (D_best_paper : Dn P w K mg base T 10 "best_paper" ["bridge", "room", "lag", "low", "high"] [] f_best_paper) (D_counts : Dn P w K mg base T 8 "counts" ["bridge", "room", "lag", "low", "high"] [] f_counts) (D_is_best : Dn P w K mg base T 9 "is_best" ["bridge", "room", "thing", "lag", "low", "high"] [] f_is_best) (D__law_papers : Dn P w K mg base T 9 "_law_papers" ["_law_pen", "_law_deck", "_law_hold", "_law_slow", "_law_start", "_law_end"] [] f_papers) (D_joining : Dn P w K mg base T 8 "joining" ["bridge", "room", "d", "lag"] [] f_joining) (D__law_cut_right : Dn P w K mg base T 11 "_law_cut_right" ["_law_deck", "_law_hold", "_law_slow", "_law_start", "_law_end", "_law_at"] [] f_cut) (D_best : Dn P w K mg base T 9 "best" ["bridge", "room", "lag", "low", "high"] [] f_best) : FnOk P w K mg base CX0 12 f fd ["_law_script"] (dSp K T f_law) := by
  refine dok Fn sc_law (fun ds M P ⟨_, h, _⟩ => by rw [h]; rfl) (fun cdv A outer s H E hr => ⟨_, (have nd := (sc_law).nd; (dss_cons (ds_set (i := 1) nd rfl (by first | exact Or.inl rfl | exact Or.inr rfl) (d_lstM (da_cons (pd_callTy call_list_of cd_list (by rfl) B.list_ (by decide +kernel) (da_cons (d_slS (dv 0) do_none (do_some d_int)) da_nil)) (da_cons d_int (da_cons d_int da_nil))))) (dss_cons (ds_set (i := 2) nd rfl (by first | exact Or.inl rfl | exact Or.inr rfl) (d_lstM (da_cons (d_rev (pd_callTy call_list_of cd_list (by rfl) B.list_ (by decide +kernel) (da_cons (d_slS (dv 0) do_none (do_some d_int)) da_nil))) (da_cons d_int (da_cons d_int da_nil))))) (dss_cons (ds_asg (Kx := K) (t := (.tp [3, 4, 5, 6])) (d_callN D__law_great (hr.mono (by decide)) (by rfl) (da_cons (dv 1) (da_cons (dv 2) (da_cons d_int (da_cons d_int da_nil))))) (pg_tup rfl (pgs_cons (pg_name (i := 3) nd rfl (by first | exact Or.inl rfl | exact Or.inr rfl)) (pgs_cons (pg_name (i := 4) nd rfl (by first | exact Or.inl rfl | exact Or.inr rfl)) (pgs_cons (pg_name (i := 5) nd rfl (by first | exact Or.inl rfl | exact Or.inr rfl)) (pgs_cons (pg_name (i := 6) nd rfl (by first | exact Or.inl rfl | exact Or.inr rfl)) pgs_nil)))))) (dss_cons (ds_asg (Kx := K) (t := (.tp [7, 8])) (d_callN D__law_stretch (hr.mono (by decide)) (by rfl) (da_cons (dv 2) (da_cons (dv 5) da_nil))) (pg_tup rfl (pgs_cons (pg_name (i := 7) nd rfl (by first | exact Or.inl rfl | exact Or.inr rfl)) (pgs_cons (pg_name (i := 8) nd rfl (by first | exact Or.inl rfl | exact Or.inr rfl)) pgs_nil)))) (dss_cons (ds_set (i := 9) nd rfl (by first | exact Or.inl rfl | exact Or.inr rfl) (d_callN D__law_alike (hr.mono (by decide)) (by rfl) (da_cons (dv 3) (da_cons (dv 4) da_nil)))) (dss_cons (ds_set (i := 8) nd rfl (by first | exact Or.inl rfl | exact Or.inr rfl) (pd_callB (call_min2 rfl) cd_min2 (by rfl) B.min_ (by decide +kernel) (da_cons (dv 8) (da_cons (d_add (dv 7) (d_ix (d_lst (da_cons d_int (da_cons d_int (da_cons d_int da_nil)))) (d_add (pd_callTy call_int1 cd_intB (by rfl) B.int_ (by decide +kernel) (da_cons (d_gt (dv 9) d_int) da_nil)) (pd_callTy call_int1 cd_intB (by rfl) B.int_ (by decide +kernel) (da_cons (d_gt (dv 9) d_int) da_nil))))) da_nil)))) (dss_cons (ds_set (i := 10) nd rfl (by first | exact Or.inl rfl | exact Or.inr rfl) (d_callN D_best_paper (hr.mono (by decide)) (by rfl) (da_cons (dv 3) (da_cons (dv 4) (da_cons (dv 6) (da_cons (dv 7) (da_cons (dv 8) da_nil))))))) (dss_cons (ds_set (i := 11) nd rfl (by first | exact Or.inl rfl | exact Or.inr rfl) (pd_callB (cr_max rfl) cd_maxL (by rfl) B.max_ (by decide +kernel) (da_cons (d_lcG false (Kx := K) (t := (.tp [17, 18, 19])) rfl nd (di_list (d_callN D_counts (hr.mono (by decide)) (by rfl) (da_cons (dv 3) (da_cons (dv 4) (da_cons (dv 6) (da_cons (dv 7) (da_cons (dv 8) da_nil))))))) (blkOk_by (own := [("_law_first", 17), ("_law_last", 18), ("_law_count", 19)]) (N := ["_law_script", "_law_pen", "_law_odd", "_law_deck", "_law_hold", "_law_far", "_law_slow", "_law_start", "_law_end", "_law_alike_here", "_law_told", "_law_many", "_law_papers_here", "_law_paper", "_law_x", "_law_at", "_law_wider", "_law_first", "_law_last", "_law_count"]) (sc := defScope s_law) (by decide +kernel)) (by decide) (fun _ _ _ _ _ => (pg_tup rfl (pgs_cons (pg_name (i := 17) nd rfl (by first | exact Or.inl rfl | exact Or.inr rfl)) (pgs_cons (pg_name (i := 18) nd rfl (by first | exact Or.inl rfl | exact Or.inr rfl)) (pgs_cons (pg_name (i := 19) nd rfl (by first | exact Or.inl rfl | exact Or.inr rfl)) pgs_nil))))) (fun _ _ _ _ _ => dts_nil) (fun _ _ _ _ _ => (dv 19))) da_nil))) (dss_cons (ds_if (PW.pt (dw_or (dt_notIs (d_callN D_is_best (hr.mono (by decide)) (by rfl) (da_cons (dv 3) (da_cons (dv 4) (da_cons (dv 10) (da_cons (dv 6) (da_cons (dv 7) (da_cons (dv 8) da_nil))))))) d_bl) (dw_or1 (dt_ne hr.units (pd_callB call_len_seq cd_len (by rfl) B.len_ PySem.boot_len (da_cons (d_ix (dv 10) d_int) da_nil)) (dv 11))))) (dss_one (ds_ret d_bl)) dss_nil) (dss_cons (ds_set (i := 12) nd rfl (by first | exact Or.inl rfl | exact Or.inr rfl) (d_callN D__law_papers (hr.mono (by decide)) (by rfl) (da_cons (dv 2) (da_cons (dv 3) (da_cons (dv 4) (da_cons (dv 6) (da_cons (dv 7) (da_cons (dv 8) da_nil)))))))) (dss_cons (ds_set (i := 12) nd rfl (by first | exact Or.inl rfl | exact Or.inr rfl) (d_add (d_add (dv 12) (d_lcG false (Kx := K) (t := (.nm 13)) rfl nd (di_list (d_slL (dv 12) do_none (do_some d_int))) (blkOk_by (own := [("_law_paper", 13)]) (N := ["_law_script", "_law_pen", "_law_odd", "_law_deck", "_law_hold", "_law_far", "_law_slow", "_law_start", "_law_end", "_law_alike_here", "_law_told", "_law_many", "_law_papers_here", "_law_paper", "_law_x", "_law_at", "_law_wider", "_law_first", "_law_last", "_law_count"]) (sc := defScope s_law) (by decide +kernel)) (by decide) (fun _ _ _ _ _ => (pg_name (i := 13) nd rfl (by first | exact Or.inl rfl | exact Or.inr rfl))) (fun _ _ _ _ _ => dts_nil) (fun _ _ _ _ _ => (d_tup (da_cons (d_ix (dv 10) d_int) (da_cons (d_ix (dv 10) d_int) (da_cons (d_ix (dv 13) d_int) da_nil))))))) (d_lst (da_cons (d_add (d_slT (d_ix (dv 12) (d_neg d_int)) do_none (do_some d_int)) (d_tup (da_cons (d_ix (dv 10) d_int) da_nil))) da_nil)))) (dss_cons (ds_for (Kx := K) (t := (.nm 13)) PassesOwn.never rfl (di_list (dv 12)) (pg_name (i := 13) nd rfl (by first | exact Or.inl rfl | exact Or.inr rfl)) (dss_one (ds_if (dt_ne hr.units (d_callN D_is_best (hr.mono (by decide)) (by rfl) (da_cons (dv 3) (da_cons (dv 4) (da_cons (dv 13) (da_cons (dv 6) (da_cons (dv 7) (da_cons (dv 8) da_nil))))))) (d_eq hr.units (pd_callB call_len_seq cd_len (by rfl) B.len_ PySem.boot_len (da_cons (d_ix (dv 13) d_int) da_nil)) (dv 11))) (dss_one (ds_ret d_bl)) dss_nil))) (dss_cons (ds_for (Kx := K) (t := (.nm 14)) PassesOwn.never rfl (di_tup (d_tup (da_cons (dv 7) (da_cons (d_add (dv 7) (d_callN D__law_draw (hr.mono (by decide)) (by rfl) (da_cons (dv 2) (da_cons (d_add (d_sub (dv 8) (dv 7)) d_int) da_nil)))) (da_cons (dv 8) da_nil))))) (pg_name (i := 14) nd rfl (by first | exact Or.inl rfl | exact Or.inr rfl)) (dss_one (ds_if (dt_gt (pd_callB call_len_seq cd_len (by rfl) B.len_ PySem.boot_len (da_cons (d_callN D_joining (hr.mono (by decide)) (by rfl) (da_cons (dv 3) (da_cons (dv 4) (da_cons (dv 14) (da_cons (dv 6) da_nil))))) da_nil)) (dv 11)) (dss_one (ds_ret d_bl)) dss_nil))) (dss_cons (ds_set (i := 15) nd rfl (by first | exact Or.inl rfl | exact Or.inr rfl) (d_add (dv 7) (d_callN D__law_draw (hr.mono (by decide)) (by rfl) (da_cons (dv 2) (da_cons (pd_callB (call_max2 rfl) cd_max2 (by rfl) B.max_ (by decide +kernel) (da_cons d_int (da_cons (d_sub (dv 8) (dv 7)) da_nil))) da_nil))))) (dss_cons (ds_if (PW.pt (dw_and (dt_gt (dv 8) (dv 7)) (dw_and1 (dt_not (pdt_val (d_callN D__law_cut_right (hr.mono (by decide)) (by rfl) (da_cons (dv 3) (da_cons (dv 4) (da_cons (dv 6) (da_cons (dv 7) (da_cons (dv 8) (da_cons (dv 15) da_nil)))))))))))) (dss_one (ds_ret d_bl)) dss_nil) (dss_cons (ds_set (i := 16) nd rfl (by first | exact Or.inl rfl | exact Or.inr rfl) (d_callN D_best (hr.mono (by decide)) (by rfl) (da_cons (dv 3) (da_cons (dv 4) (da_cons (dv 6) (da_cons (pd_callB (call_max2 rfl) cd_max2 (by rfl) B.max_ (by decide +kernel) (da_cons (d_neg d_int) (da_cons (d_sub (dv 7) d_int) da_nil))) (da_cons (pd_callB (call_min2 rfl) cd_min2 (by rfl) B.min_ (by decide +kernel) (da_cons d_int (da_cons (d_add (dv 8) d_int) da_nil))) da_nil))))))) (dss_one (ds_ret (d_ge (pd_callB call_len_seq cd_len (by rfl) B.len_ PySem.boot_len (da_cons (d_ix (dv 16) d_int) da_nil)) (dv 11))))))))))))))))))))), fun ds M P h => ?_⟩)
  obtain ⟨ns, rfl, k⟩ := h
  have hs : sizeLine = 16777216 := sizeLine_eq
  refine s_seq ?_
  walk_at "dN"
  refine ⟨ns, rfl, ?_⟩
  walk_at "dN"
  refine ⟨_, _, rfl, .inl rfl, ?_⟩
  walk_at "dN"
  refine s_mk (by rw [hs]; show 3 ≤ _; decide) fun a ha => ?_
  walk_at "dN"
  refine s_seq ?_
  walk_at "dN"
  refine ⟨ns, rfl, ?_⟩
  walk_at "dN"
  refine ⟨_, _, rfl, .inl rfl, ?_⟩
  walk_at "dN"
  rw [← List.map_reverse]
  refine s_mk (by rw [hs]; show 3 ≤ _; decide) fun o ho => ?_
  have hoa : o ≠ a := fun z => by rw [z, putM_same] at ho; cases ho
  have hoM : M o = none := by rw [putM_ne hoa] at ho; exact ho
  generalize cutP ns none (some 63) = cs at *
  have pa : Pen (putM (putM M a (.lst [.py (.list (cs.map .int)), .py (.int 0), .py (.int 0)])) o (.lst [.py (.list (cs.reverse.map .int)), .py (.int 0), .py (.int 0)])) a 0 := ⟨cs, 0, 0, by rw [putM_ne (Ne.symm hoa)]; exact putM_same, Int.le_refl _, Int.le_refl _⟩
  have po : Pen (putM (putM M a (.lst [.py (.list (cs.map .int)), .py (.int 0), .py (.int 0)])) o (.lst [.py (.list (cs.reverse.map .int)), .py (.int 0), .py (.int 0)])) o 0 := ⟨cs.reverse, 0, 0, putM_same, Int.le_refl _, Int.le_refl _⟩
  have old0 : MLe M (putM (putM M a (.lst [.py (.list (cs.map .int)), .py (.int 0), .py (.int 0)])) o (.lst [.py (.list (cs.reverse.map .int)), .py (.int 0), .py (.int 0)])) := (mle_putM ha).trans (mle_putM ho)
  generalize putM (putM M a (.lst [.py (.list (cs.map .int)), .py (.int 0), .py (.int 0)])) o (.lst [.py (.list (cs.reverse.map .int)), .py (.int 0), .py (.int 0)]) = M1 at *
  walk_at "dN"
  refine s_env [some (.scr ns), some (.own a), some (.own o), none, none, none, none, none, none, none, none, none, none, none, none, none, none, none, none, none] rfl ?_
  refine s_seq ?_
  walk_at "dN"
  refine ⟨a, o, 0, 0, 8, 100, rfl, Ne.symm hoa, pa, po, by decide, by decide, by decide, by decide, by decide, fun b r far slow M2 M3 lb lr hslow p1 p2 => ?_⟩
  walk_at "dN"
  refine s_env [some (.scr ns), some (.own a), some (.own o), some (.py (encL b)), some (.py (encL r)), some (.py (.int far)), some (.py (.int slow)), none, none, none, none, none, none, none, none, none, none, none, none, none] rfl ?_
  refine s_seq ?_
  walk_at "dN"
  have po3 : Pen M3 o 1 := p1.pen.frame (p2.ne hoa)
  refine ⟨o, 1, far, rfl, po3, by decide, fun st en M4 s0 s1 s2 p3 => ?_⟩
  walk_at "dN"
  refine s_env [some (.scr ns), some (.own a), some (.own o), some (.py (encL b)), some (.py (encL r)), some (.py (.int far)), some (.py (.int slow)), some (.py (.int st)), some (.py (.int en)), none, none, none, none, none, none, none, none, none, none, none] rfl ?_
  refine s_seq ?_
  walk_at "dN"
  refine ⟨b, r, rfl, lb, lr, fun al hal => ?_⟩
  walk_at "dN"
  refine s_env [some (.scr ns), some (.own a), some (.own o), some (.py (encL b)), some (.py (encL r)), some (.py (.int far)), some (.py (.int slow)), some (.py (.int st)), some (.py (.int en)), some (.py (.int al)), none, none, none, none, none, none, none, none, none, none] rfl ?_
  refine s_seq ?_
  walk_at "dN"
  have hst : ∃ z : Int, 1 ≤ z ∧ atI [PyData.int 30, .int 4, .int 1] ((if decide (15 < al) = true then 1 else 0) + if decide (40 < al) = true then 1 else 0) = some (.int z) := by
    by_cases h1 : 15 < al
    · by_cases h2 : 40 < al
      · rw [if_pos (decide_eq_true h1), if_pos (decide_eq_true h2)]
        exact ⟨1, by decide, rfl⟩
      · rw [if_pos (decide_eq_true h1), if_neg (by simp [h2])]
        exact ⟨4, by decide, rfl⟩
    · rw [if_neg (by simp [h1]), if_neg (by simp; omega)]
      exact ⟨30, by decide, rfl⟩
  obtain ⟨z, hz1, hz2⟩ := hst
  refine s_ixL hz2 ?_
  walk_at "dN"
  have e1 : st ≤ min en (st + z) := by omega
  have e2 : min en (st + z) ≤ 1440 := by omega
  generalize min en (st + z) = en2 at *
  refine s_env [some (.scr ns), some (.own a), some (.own o), some (.py (encL b)), some (.py (encL r)), some (.py (.int far)), some (.py (.int slow)), some (.py (.int st)), some (.py (.int en2)), some (.py (.int al)), none, none, none, none, none, none, none, none, none, none] rfl ?_
  refine s_seq ?_
  walk_at "dN"
  refine ⟨b, r, slow, st, en2, rfl, lb, lr, hslow, e1, by omega, fun td tJ tC tB tCov => ?_⟩
  walk_at "dN"
  refine s_env [some (.scr ns), some (.own a), some (.own o), some (.py (encL b)), some (.py (encL r)), some (.py (.int far)), some (.py (.int slow)), some (.py (.int st)), some (.py (.int en2)), some (.py (.int al)), some (.py (encP td tJ tC)), none, none, none, none, none, none, none, none, none] rfl ?_
  refine s_seq ?_
  walk_at "dN"
  refine ⟨b, r, slow, st, en2, rfl, lb, lr, hslow, e1, by omega, fun rows hc => ?_⟩
  have hll := hc.len
  walk_at "dN"
  refine s_lcP rows (fun t => .py (encC t)) (fun _ => true) (fun t => .int t.2.2) (by rw [List.map_map]; rfl) trivial (by omega) ?_ fun t ht QT QF q1 q2 => ?_
  rotate_left
  · refine ⟨_, rfl, ?_⟩
    walk_at "dN"
    exact ⟨_, rfl, q1 rfl⟩
  rw [if_neg (by decide), List.filter_eq_self.mpr fun _ _ => rfl]
  walk_at "dN"
  refine ⟨_, rows.map (·.2.2), rfl, ?_, ?_, fun many hm hle => ?_⟩
  · show _ = _
    rw [List.map_map]
    rfl
  · obtain ⟨c, h', _⟩ := hc.find (Int.le_refl st) (by omega)
    rw [List.length_map]
    exact List.length_pos_of_mem h'
  walk_at "dN"
  obtain ⟨t0, ht0, hm0⟩ := List.mem_map.mp hm
  have m1 : ∀ x, st ≤ x → x ≤ en2 → Mu b (pw b r slow x x) (muF b r slow x) := fun x h1 h2 => cnt_muF hc h1 (by omega)
  have m2 : ∀ x, st ≤ x → x ≤ en2 → muF b r slow x ≤ many := fun x h1 h2 => by
    obtain ⟨c, k1, k2, k3⟩ := hc.find h1 (by omega)
    rw [muF_eq ((hc.mem k1).2.2.1 x k2 k3)]
    exact hle _ (List.mem_map.mpr ⟨c, k1, rfl⟩)
  have m3 : ∃ x, st ≤ x ∧ x ≤ en2 ∧ muF b r slow x = many := by
    obtain ⟨c1, c2, c3, c4⟩ := hc.mem ht0
    exact ⟨t0.1, c1, by omega, by rw [muF_eq (c3 t0.1 (Int.le_refl _) c2)]; exact hm0⟩
  have hJm : (tJ.length : Int) = many := by
    obtain ⟨x, x1, x2, x3⟩ := m3
    have h1 := m2 _ tB.lo_ tB.hi_
    have h2 := tB.mst x x1 x2 _ (m1 x x1 x2)
    rw [← bst_muF tB] at h1
    omega
  have tP : PapOk b r slow st en2 (td, tJ, tC) := ⟨tB.lo_, tB.hi_, ⟨tB.grt.st, tB.grt.sub⟩, tCov⟩
  clear hle hm ht0 hm0 hll
  refine s_env [some (.scr ns), some (.own a), some (.own o), some (.py (encL b)), some (.py (encL r)), some (.py (.int far)), some (.py (.int slow)), some (.py (.int st)), some (.py (.int en2)), some (.py (.int al)), some (.py (encP td tJ tC)), some (.py (.int many)), none, none, none, none, none, none, none, none] rfl ?_
  refine s_seq ?_
  walk_at "dN"
  refine ⟨b, r, td, tJ, tC, slow, st, en2, rfl, lb, lr, tB.lo_, tB.hi_, tP.jn, cov_sh tCov, by omega, ?_⟩
  have ea : (tC.all fun c => decide ((c.2.2.length : Int) ≤ tJ.length)) = true := (pap_all tP m1 m2 m3).trans (decide_eq_true hJm)
  rw [ea]
  walk_at "dN"
  refine ⟨_, ixD_tup rfl, ?_⟩
  walk_at "dN"
  refine s_iteC' (by rw [List.length_map, hJm]; simp) ?_
  walk_at "dN"
  refine s_seq ?_
  walk_at "dN"
  refine ⟨o, 4, b, r, slow, st, en2, rfl, lb, lr, hslow, e1, by omega, p3.pen.mono (by omega), by decide, fun L M5 hL hLok p4 => ?_⟩
  walk_at "dN"
  obtain ⟨u1, u2, u3, rfl⟩ : ∃ u1 u2 u3, L = [u1, u2, u3] := match L, hL with | [u1, u2, u3], _ => ⟨u1, u2, u3, rfl⟩
  refine s_env [some (.scr ns), some (.own a), some (.own o), some (.py (encL b)), some (.py (encL r)), some (.py (.int far)), some (.py (.int slow)), some (.py (.int st)), some (.py (.int en2)), some (.py (.int al)), some (.py (encP td tJ tC)), some (.py (.int many)), some (.py (.list [encPp u1, encPp u2, encPp u3])), none, none, none, none, none, none, none] rfl ?_
  refine s_seq ?_
  walk_at "dN"
  refine s_lcP [u1] (fun t => .py (encPp t)) (fun _ => true) (fun t => .tuple [.int td, encPs tJ, .list (t.2.2.map encK)]) (by rfl) trivial (by show 1 ≤ _; rw [hs]; decide) ?_ fun t ht QT QF q1 q2 => ?_
  rotate_left
  · refine ⟨_, rfl, ?_⟩
    walk_at "dN"
    refine ⟨_, ixD_tup rfl, ?_⟩
    walk_at "dN"
    refine ⟨_, ixD_tup rfl, ?_⟩
    walk_at "dN"
    refine ⟨_, ixD_tup rfl, ?_⟩
    walk_at "dN"
    exact ⟨_, rfl, q1 rfl⟩
  rw [if_neg (by decide), List.filter_eq_self.mpr fun _ _ => rfl]
  refine s_addL (by rw [hs]; show 4 ≤ _; decide) ?_
  walk_at "dN"
  refine s_ixL (z := encPp u3) (by rfl) ?_
  unfold encPp encP
  walk_at "dN"
  refine ⟨_, ixD_tup rfl, ?_⟩
  walk_at "dN"
  refine ⟨_, rfl, by show 3 ≤ sizeLine; rw [hs]; decide, ?_⟩
  walk_at "dN"
  refine s_addL (by rw [hs]; show 5 ≤ _; decide) ?_
  walk_at "dN"
  have hLL : ∀ p ∈ [u1, u2, u3, (td, tJ, u1.2.2), (u3.1, u3.2.1, tC)], PapOk b r slow st en2 p := fun p hp => by
    have k1 := hLok u1 (by simp)
    have k3 := hLok u3 (by simp)
    simp only [List.mem_cons, List.not_mem_nil, or_false] at hp
    rcases hp with rfl | rfl | rfl | rfl | rfl
    · exact k1
    · exact hLok _ (by simp)
    · exact k3
    · exact ⟨tB.lo_, tB.hi_, tP.jn, k1.cov⟩
    · exact ⟨k3.lo_, k3.hi_, k3.jn, tCov⟩
  refine s_env (List.set [some (.scr ns), some (.own a), some (.own o), some (.py (encL b)), some (.py (encL r)), some (.py (.int far)), some (.py (.int slow)), some (.py (.int st)), some (.py (.int en2)), some (.py (.int al)), some (.py (encP td tJ tC)), some (.py (.int many)), none, none, none, none, none, none, none, none] 12 (some (.py (.list ([u1, u2, u3, (td, tJ, u1.2.2), (u3.1, u3.2.1, tC)].map encPp))))) rfl ?_
  generalize [u1, u2, u3, (td, tJ, u1.2.2), (u3.1, u3.2.1, tC)] = LL at *
  refine s_env [some (.scr ns), some (.own a), some (.own o), some (.py (encL b)), some (.py (encL r)), some (.py (.int far)), some (.py (.int slow)), some (.py (.int st)), some (.py (.int en2)), some (.py (.int al)), some (.py (encP td tJ tC)), some (.py (.int many)), some (.py (.list (LL.map encPp))), none, none, none, none, none, none, none] rfl ?_
  refine s_seq ?_
  walk_at "dN"
  refine ⟨fun i δ M' => ∃ o13, δ = [some (.scr ns), some (.own a), some (.own o), some (.py (encL b)), some (.py (encL r)), some (.py (.int far)), some (.py (.int slow)), some (.py (.int st)), some (.py (.int en2)), some (.py (.int al)), some (.py (encP td tJ tC)), some (.py (.int many)), some (.py (.list (LL.map encPp))), o13, none, none, none, none, none, none] ∧ M' = M5, ⟨_, rfl, rfl⟩, fun _ _ _ _ => trivial, fun δ M' h => ?_, fun i d δ M' hd h => ?_⟩
  rotate_left
  · obtain ⟨o13, rfl, rfl⟩ := h
    obtain ⟨p, hp, rfl⟩ := enc_at hd
    have hpk := hLL p (List.mem_of_getElem? hp)
    refine ⟨_, rfl, ?_⟩
    walk_at "dN"
    refine ⟨b, r, p.1, p.2.1, p.2.2, slow, st, en2, rfl, lb, lr, hpk.lo_, hpk.hi_, hpk.jn, cov_sh hpk.cov, by omega, ?_⟩
    rw [pap_all hpk m1 m2 m3]
    walk_at "dN"
    refine ⟨_, ixD_tup rfl, ?_⟩
    walk_at "dN"
    rw [List.length_map]
    walk_at "dN"
    refine s_iteC' (by simp) ?_
    walk_at "dN"
    exact s_less ⟨_, rfl, rfl⟩
  obtain ⟨o13, rfl, rfl⟩ := h
  refine s_seq ?_
  walk_at "dN"
  refine s_draw p4.pen.at (by omega) (by omega) (by omega) fun v1 M6 v10 v11 p5 => ?_
  walk_at "dN"
  refine ⟨fun i δ M' => ∃ o14, δ = [some (.scr ns), some (.own a), some (.own o), some (.py (encL b)), some (.py (encL r)), some (.py (.int far)), some (.py (.int slow)), some (.py (.int st)), some (.py (.int en2)), some (.py (.int al)), some (.py (encP td tJ tC)), some (.py (.int many)), some (.py (.list (LL.map encPp))), o13, o14, none, none, none, none, none] ∧ M' = M6, ⟨_, rfl, rfl⟩, fun _ _ _ _ => trivial, fun δ M' h => ?_, fun i d δ M' hd h => ?_⟩
  rotate_left
  · obtain ⟨o14, rfl, rfl⟩ := h
    have hxx : ∃ x : Int, d = .py (.int x) ∧ st ≤ x ∧ x ≤ en2 := by
      match i, hd with
      | 0, hd => cases hd; exact ⟨st, rfl, by omega, by omega⟩
      | 1, hd => cases hd; exact ⟨st + v1, rfl, by omega, by omega⟩
      | 2, hd => cases hd; exact ⟨en2, rfl, by omega, by omega⟩
      | i + 3, hd => simp at hd
    obtain ⟨x, rfl, x1, x2⟩ := hxx
    refine ⟨_, rfl, ?_⟩
    walk_at "dN"
    refine ⟨b, r, x, slow, rfl, lb, lr, fun J hJ => ?_⟩
    have hJx := muF_eq hJ.mu
    have hJy := m2 x x1 x2
    walk_at "dN"
    refine s_iteD (fun h => absurd h (by rw [List.length_map]; omega)) fun _ => ?_
    walk_at "dN"
    exact s_less ⟨_, rfl, rfl⟩
  obtain ⟨o14, rfl, rfl⟩ := h
  refine s_seq ?_
  walk_at "dN"
  refine s_draw p5.pen.at (by omega) (by omega) (by omega) fun v2 M7 v20 v21 p6 => ?_
  walk_at "dN"
  have old : MLe M M7 := mle_pen (mle_pen (mle_pen (mle_pen (mle_pen (mle_pen old0 hoM p1) ha p2) hoM p3) hoM p4) hoM p5) hoM p6
  refine s_env [some (.scr ns), some (.own a), some (.own o), some (.py (encL b)), some (.py (encL r)), some (.py (.int far)), some (.py (.int slow)), some (.py (.int st)), some (.py (.int en2)), some (.py (.int al)), some (.py (encP td tJ tC)), some (.py (.int many)), some (.py (.list (LL.map encPp))), o13, o14, some (.py (.int (st + v2))), none, none, none, none] rfl ?_
  refine s_seqI (fun δ M' => δ = [some (.scr ns), some (.own a), some (.own o), some (.py (encL b)), some (.py (encL r)), some (.py (.int far)), some (.py (.int slow)), some (.py (.int st)), some (.py (.int en2)), some (.py (.int al)), some (.py (encP td tJ tC)), some (.py (.int many)), some (.py (.list (LL.map encPp))), o13, o14, some (.py (.int (st + v2))), none, none, none, none] ∧ M' = M7) (fun δ M' h => ?_) fun nx hnx => ?_
  rotate_left
  · walk_at "dN"
    refine s_iteD (fun hgt => ?_) fun _ => ?_
    · walk_at "dN"
      refine ⟨b, r, slow, st, en2, st + v2, rfl, lb, lr, hslow, by omega, by omega, by omega, ?_⟩
      walk_at "dN"
      exact hnx _ _ ⟨rfl, rfl⟩
    · walk_at "dN"
      exact hnx _ _ ⟨rfl, rfl⟩
  obtain ⟨rfl, rfl⟩ := h
  refine s_seq ?_
  walk_at "dN"
  refine ⟨b, r, slow, max (-1440) (st - 2), min 1440 (en2 + 2), rfl, lb, lr, hslow, by omega, by omega, fun wd wJ hW => ?_⟩
  walk_at "dN"
  refine ⟨_, ixD_tup rfl, ?_⟩
  walk_at "dN"
  have hfin : many ≤ (wJ.length : Int) := by
    obtain ⟨x, x1, x2, x3⟩ := m3
    rw [← x3]
    exact hW.mst x (by omega) (by omega) _ (m1 x x1 x2)
  rw [List.length_map]
  rw [decide_eq_true hfin]
  exact rt_le old k
end
end RO
namespace RO
open PySem PySem.Spec PyProof.Rows L2 DL
def dd_is_whole : He.DefD := ⟨("is_whole", none), "is_whole", "is_whole", defArgs s_is_whole, defBody s_is_whole, defScope s_is_whole, [], []⟩
def dd_is_from_to : He.DefD := ⟨("is_from_to", none), "is_from_to", "is_from_to", defArgs s_is_from_to, defBody s_is_from_to, defScope s_is_from_to, [], []⟩
def dd_sent_from : He.DefD := ⟨("sent_from", none), "sent_from", "sent_from", defArgs s_sent_from, defBody s_sent_from, defScope s_sent_from, [], []⟩
def dd_is_pair : He.DefD := ⟨("is_pair", none), "is_pair", "is_pair", defArgs s_is_pair, defBody s_is_pair, defScope s_is_pair, [], []⟩
def dd_span : He.DefD := ⟨("span", none), "span", "span", defArgs s_span, defBody s_span, defScope s_span, [.int 0], []⟩
def dd_meets : He.DefD := ⟨("meets", none), "meets", "meets", defArgs s_meets, defBody s_meets, defScope s_meets, [], []⟩
def dd_pairs_within : He.DefD := ⟨("pairs_within", none), "pairs_within", "pairs_within", defArgs s_pairs_within, defBody s_pairs_within, defScope s_pairs_within, [], []⟩
def dd_pairs_at : He.DefD := ⟨("pairs_at", none), "pairs_at", "pairs_at", defArgs s_pairs_at, defBody s_pairs_at, defScope s_pairs_at, [.int 0, .int 0], []⟩
def dd_by_lines : He.DefD := ⟨("by_lines", none), "by_lines", "by_lines", defArgs s_by_lines, defBody s_by_lines, defScope s_by_lines, [], []⟩
def dd_is_ahead : He.DefD := ⟨("is_ahead", none), "is_ahead", "is_ahead", defArgs s_is_ahead, defBody s_is_ahead, defScope s_is_ahead, [], []⟩
def dd_is_steep : He.DefD := ⟨("is_steep", none), "is_steep", "is_steep", defArgs s_is_steep, defBody s_is_steep, defScope s_is_steep, [], []⟩
def dd_clash : He.DefD := ⟨("clash", none), "clash", "clash", defArgs s_clash, defBody s_clash, defScope s_clash, [.int 0, .int 0, .int 0], []⟩
def dd_are_loose : He.DefD := ⟨("are_loose", none), "are_loose", "are_loose", defArgs s_are_loose, defBody s_are_loose, defScope s_are_loose, [], []⟩
def dd_ranks : He.DefD := ⟨("ranks", none), "ranks", "ranks", defArgs s_ranks, defBody s_ranks, defScope s_ranks, [], []⟩
def dd_longest : He.DefD := ⟨("longest", none), "longest", "longest", defArgs s_longest, defBody s_longest, defScope s_longest, [], []⟩
def dd_layers : He.DefD := ⟨("layers", none), "layers", "layers", defArgs s_layers, defBody s_layers, defScope s_layers, [], []⟩
def dd_greatest : He.DefD := ⟨("greatest", none), "greatest", "greatest", defArgs s_greatest, defBody s_greatest, defScope s_greatest, [.int 0, .int 0], []⟩
def dd_sharing : He.DefD := ⟨("sharing", none), "sharing", "sharing", defArgs s_sharing, defBody s_sharing, defScope s_sharing, [.int 0, .int 0], []⟩
def dd_is_crowd : He.DefD := ⟨("is_crowd", none), "is_crowd", "is_crowd", defArgs s_is_crowd, defBody s_is_crowd, defScope s_is_crowd, [], []⟩
def dd_is_sharing : He.DefD := ⟨("is_sharing", none), "is_sharing", "is_sharing", defArgs s_is_sharing, defBody s_is_sharing, defScope s_is_sharing, [.int 0, .int 0, .int 0], []⟩
def dd_joining : He.DefD := ⟨("joining", none), "joining", "joining", defArgs s_joining, defBody s_joining, defScope s_joining, [.int 0, .int 0], []⟩
def dd_is_joining : He.DefD := ⟨("is_joining", none), "is_joining", "is_joining", defArgs s_is_joining, defBody s_is_joining, defScope s_is_joining, [.int 0, .int 0], []⟩
def dd_fits : He.DefD := ⟨("fits", none), "fits", "fits", defArgs s_fits, defBody s_fits, defScope s_fits, [], []⟩
def dd_changes : He.DefD := ⟨("changes", none), "changes", "changes", defArgs s_changes, defBody s_changes, defScope s_changes, [], []⟩
def dd_counts : He.DefD := ⟨("counts", none), "counts", "counts", defArgs s_counts, defBody s_counts, defScope s_counts, [.int 0, .int 0, .int 0], []⟩
def dd_best : He.DefD := ⟨("best", none), "best", "best", defArgs s_best, defBody s_best, defScope s_best, [.int 0, .int 0, .int 0], []⟩
def dd_best_paper : He.DefD := ⟨("best_paper", none), "best_paper", "best_paper", defArgs s_best_paper, defBody s_best_paper, defScope s_best_paper, [.int 0, .int 0, .int 0], []⟩
def dd_is_case : He.DefD := ⟨("is_case", none), "is_case", "is_case", defArgs s_is_case, defBody s_is_case, defScope s_is_case, [], []⟩
def dd_is_best : He.DefD := ⟨("is_best", none), "is_best", "is_best", defArgs s_is_best, defBody s_is_best, defScope s_is_best, [.int 0, .int 0, .int 0], []⟩
def dd__law_draw : He.DefD := ⟨("_law_draw", none), "_law_draw", "_law_draw", defArgs s__law_draw, defBody s__law_draw, defScope s__law_draw, [], []⟩
def dd__law_lines : He.DefD := ⟨("_law_lines", none), "_law_lines", "_law_lines", defArgs s__law_lines, defBody s__law_lines, defScope s__law_lines, [], []⟩
def dd__law_whats : He.DefD := ⟨("_law_whats", none), "_law_whats", "_law_whats", defArgs s__law_whats, defBody s__law_whats, defScope s__law_whats, [], []⟩
def dd__law_two : He.DefD := ⟨("_law_two", none), "_law_two", "_law_two", defArgs s__law_two, defBody s__law_two, defScope s__law_two, [], []⟩
def dd__law_long : He.DefD := ⟨("_law_long", none), "_law_long", "_law_long", defArgs s__law_long, defBody s__law_long, defScope s__law_long, [], []⟩
def dd__law_alike : He.DefD := ⟨("_law_alike", none), "_law_alike", "_law_alike", defArgs s__law_alike, defBody s__law_alike, defScope s__law_alike, [], []⟩
def dd__law_great : He.DefD := ⟨("_law_great", none), "_law_great", "_law_great", defArgs s__law_great, defBody s__law_great, defScope s__law_great, [], []⟩
def dd__law_stretch : He.DefD := ⟨("_law_stretch", none), "_law_stretch", "_law_stretch", defArgs s__law_stretch, defBody s__law_stretch, defScope s__law_stretch, [], []⟩
def dd__law_made : He.DefD := ⟨("_law_made", none), "_law_made", "_law_made", defArgs s__law_made, defBody s__law_made, defScope s__law_made, [], []⟩
def dd__law_flat : He.DefD := ⟨("_law_flat", none), "_law_flat", "_law_flat", defArgs s__law_flat, defBody s__law_flat, defScope s__law_flat, [], []⟩
def dd__law_papers : He.DefD := ⟨("_law_papers", none), "_law_papers", "_law_papers", defArgs s__law_papers, defBody s__law_papers, defScope s__law_papers, [], []⟩
def dd__law_cut_right : He.DefD := ⟨("_law_cut_right", none), "_law_cut_right", "_law_cut_right", defArgs s__law_cut_right, defBody s__law_cut_right, defScope s__law_cut_right, [], []⟩
def dd_law : He.DefD := ⟨("law", none), "law", "law", defArgs s_law, defBody s_law, defScope s_law, [], []⟩
def hfn : List He.DefD := [dd_is_whole, dd_is_from_to, dd_sent_from, dd_is_pair, dd_span, dd_meets, dd_pairs_within, dd_pairs_at, dd_by_lines, dd_is_ahead, dd_is_steep, dd_clash, dd_are_loose, dd_ranks, dd_longest, dd_layers, dd_greatest, dd_sharing, dd_is_crowd, dd_is_sharing, dd_joining, dd_is_joining, dd_fits, dd_changes, dd_counts, dd_best, dd_best_paper, dd_is_case, dd_is_best, dd__law_draw, dd__law_lines, dd__law_whats, dd__law_two, dd__law_long, dd__law_alike, dd__law_great, dd__law_stretch, dd__law_made, dd__law_flat, dd__law_papers, dd__law_cut_right, dd_law]
def hfa0 : List He.Fa := [.glo "is_whole", .glo "is_from_to", .glo "sent_from", .glo "is_pair", .glo "span", .glo "meets", .glo "pairs_within", .glo "pairs_at", .glo "by_lines", .glo "is_ahead", .glo "is_steep", .glo "clash", .glo "are_loose", .glo "ranks", .glo "longest", .glo "layers", .glo "greatest", .glo "sharing", .glo "is_crowd", .glo "is_sharing", .glo "joining", .glo "is_joining", .glo "fits", .glo "changes", .glo "counts", .glo "best", .glo "best_paper", .glo "is_case", .glo "is_best", .glo "_law_draw"]
def hfa1 : List He.Fa := [.glo "_law_lines", .glo "_law_whats", .glo "_law_two", .glo "_law_long", .glo "_law_alike", .glo "_law_great", .glo "_law_stretch", .glo "_law_made", .glo "_law_flat", .glo "_law_papers", .glo "_law_cut_right", .glo "law", .glo "SENT", .free "len", .free "all", .free "sum", .free "max", .free "min", .free "sorted", .free "list", .free "tuple", .free "range", .free "zip", .free "enumerate", .free "isinstance", .free "int", .free "bool", .free "abs"]
def hfa : List He.Fa := hfa0 ++ (hfa1)
def hts : List He.Tab := [(fun K => He.ga K "SENT", ["port", "star", "down", "aport", "astar", "up"])]
def sentL : List (Str × He.Dv) := [("port", .str "bridge"), ("star", .str "bridge"), ("down", .str "bridge"), ("aport", .str "room"), ("astar", .str "room"), ("up", .str "room")]
def hex (K : PySem.W.Frag) : Bool := He.valsB K (He.ga K "SENT") sentL
def tabA (K : PySem.W.Frag) (x : Str) : Addr × Addr := He.cT K (x, none)
def hdB (K : PySem.W.Frag) (x : Str) : Bool := PySem.W.codeHdIn K (tabA K x).1 (tabA K x).2 && (K.lookup (tabA K x).2).isNone
/-- what is asked of the heap's part K -/
structure HeadOk (K : PySem.W.Frag) (w : World) (h : Heap) : Prop where
  t : He.SaysT hfa hfn hts w K
  sent : hex K = true
  h1 : hdB K "ranks" = true
  h2 : hdB K "_law_two" = true
  h3 : hdB K "_law_long" = true
  ne12 : ¬ (tabA K "ranks").2 = (tabA K "_law_two").2
  ne13 : ¬ (tabA K "ranks").2 = (tabA K "_law_long").2
  ne23 : ¬ (tabA K "_law_two").2 = (tabA K "_law_long").2
  e1 : h.get? (tabA K "ranks").2 = some { cls := .none, data := .fields #[] }
  e2 : h.get? (tabA K "_law_two").2 = some { cls := .none, data := .fields #[] }
  e3 : h.get? (tabA K "_law_long").2 = some { cls := .none, data := .fields #[] }
def lamT (K : PySem.W.Frag) : List (Addr × Str) := [((tabA K "ranks").2, "ranks.<locals>.<lambda>"), ((tabA K "_law_two").2, "_law_two.<locals>.<lambda>"), ((tabA K "_law_long").2, "_law_long.<locals>.<lambda>")]
theorem isNone_of {α : Type} {x : Option α} (h : x.isNone = true) : x = none := by
  cases x with
  | none => rfl
  | some _ => cases h
theorem sent_mem : ∀ s r : Str, sentTab s = some r → (s, He.Dv.str r) ∈ sentL := by
  intro s r h
  unfold sentTab at h
  split at h
  · rename_i c
    cases h
    rcases c with rfl | rfl | rfl
    · exact List.mem_cons_self
    · exact List.mem_cons_of_mem _ List.mem_cons_self
    · exact List.mem_cons_of_mem _ (List.mem_cons_of_mem _ List.mem_cons_self)
  · split at h
    · rename_i c
      cases h
      rcases c with rfl | rfl | rfl
      · exact List.mem_cons_of_mem _ (List.mem_cons_of_mem _ (List.mem_cons_of_mem _ List.mem_cons_self))
      · exact List.mem_cons_of_mem _ (List.mem_cons_of_mem _ (List.mem_cons_of_mem _ (List.mem_cons_of_mem _ List.mem_cons_self)))
      · exact List.mem_cons_of_mem _ (List.mem_cons_of_mem _ (List.mem_cons_of_mem _ (List.mem_cons_of_mem _ (List.mem_cons_of_mem _ List.mem_cons_self))))
    · cases h
section
variable {P : Program} {w : World} {K : PySem.W.Frag} {mg : Str → Option Value} {base h : Heap} {T : List (Addr × Str)} {x qual : Str} {st : Stmt} {f : Addr} {fd : FuncData} {ps : List Str} {k : Nat} {F : WF} {dvs : List V} {kws : List (Str × V)}
theorem dn0 (G : FunD K x qual (defArgs st) (defBody st) (defScope st) [] kws f fd) (hg : mg x = some (.ref f)) (hok : FnOk P w K mg base CX0 k f fd ps (dSp K T F))
    (hb : ∀ (kV doc pm : Value) (an : Option Addr) (cdv ct : Value) (us : List Value), us.length = ps.length → bindArgs (PySem.W.fnOf x qual (defArgs st) (defBody st) (defScope st) .none kV doc pm an cdv ct) ⟨us, []⟩ = pure (ps.zip us)) : Dn P w K mg base T k x ps [] F :=
  ⟨f, fd, [], [], hok, hg, G.kp, G.bindsN hb, .nil, fun _ => .nil⟩
theorem dnD (j : Nat) {dds : List Dat} (G : FunD K x qual (defArgs st) (defBody st) (defScope st) dvs kws f fd) (hd : dvs ≠ []) (hg : mg x = some (.ref f)) (hok : FnOk P w K mg base CX0 k f fd ps (dSp K T F)) (n : Nat) (hn : n + (dvs.length - j) = ps.length)
    (hr : ∀ S, RpAll K S (dvs.drop j) dds)
    (hb : ∀ (T : Addr) (kV doc pm : Value) (an : Option Addr) (cdv ct : Value) (us its : List Value), us.length = n → its.length = dvs.length →
      ∃ k, bindArgs (PySem.W.fnOf x qual (defArgs st) (defBody st) (defScope st) (.ref T) kV doc pm an cdv ct) ⟨us, []⟩ = seqItems? (.ref T) >>= k ∧ k (some its.toArray) = pure (ps.zip (us ++ its.drop j))) : Dn P w K mg base T k x ps dds F := by
  obtain ⟨ds, h1, h2⟩ := G.binds1 n j hd hn hb
  exact ⟨f, fd, ds, _, hok, hg, G.kp, h2, h1, hr⟩
theorem funC_of {p : Str × Option Str} (G : FunD K x qual (defArgs st) (defBody st) (defScope st) [] kws (He.fAd K p) fd) : FunC K x qual st (He.fAd K p) fd (He.codeOf K p) := by
  obtain ⟨oc, od, dV, kV, doc, pm, an, cdv, ct, osl, rfl, lk, hcd, hD, hK⟩ := G.ex
  rcases hD with ⟨_, rfl⟩ | ⟨e, _⟩
  · obtain ⟨c, rfl⟩ := He.codeIn_ref hcd
    have e := He.codeOf_eq lk rfl
    rw [e]
    exact ⟨⟨oc, od, kV, doc, pm, an, ct, osl, rfl, lk, hcd⟩⟩
  · exact absurd rfl e
end
/-- a heap without its tables -/
noncomputable def noTb (H : Hp) : Hp := fun b => match H b with
  | some (.tbl _) => none
  | o => o
theorem noTb_some {H : Hp} {b : Addr} {o : HO} (h : H b = some o) (n : ∀ ps, o ≠ .tbl ps) : noTb H b = some o := by
  unfold noTb
  rw [h]
  cases o <;> first | rfl | exact absurd rfl (n _)
theorem noTb_le {H : Hp} {b : Addr} {o : HO} (h : noTb H b = some o) : H b = some o ∧ ∀ ps, o ≠ .tbl ps := by
  unfold noTb at h
  cases q : H b with
  | none => rw [q] at h; cases h
  | some u =>
    rw [q] at h
    cases u <;> first | (cases h; exact ⟨rfl, fun ps z => by cases z⟩) | cases h
theorem noTb_tbl {H : Hp} {b : Addr} {ps : Array Value} (h : H b = some (.tbl ps)) : noTb H b = none := by
  unfold noTb
  rw [h]
theorem noTb_split {K : PySem.W.Frag} {T : List (Addr × Str)} {H : Hp} (hT : ∀ p ∈ T, H p.1 = some (.tbl #[])) : Split K T (noTb H) (fun _ => none) H where
  ex := fun _ _ h => (noTb_le h).1
  dis := fun _ _ h => by cases h
  rep := fun _ _ h => by cases h
  tab := fun p hp => LamX.TabS.nil (hT p hp)
  tbS := fun p hp => noTb_tbl (hT p hp)
  noT := fun _ ps h => (noTb_le h).2 ps rfl
theorem noTb_seq {K : PySem.W.Frag} {H : Hp} {a : Addr} {xs : List V} (h : SqL K H a xs) : SqL K (noTb H) a xs := by
  rcases h with (h | ⟨o, h⟩) | h
  · exact .inl (.inl (noTb_some h fun ps z => by cases z))
  · exact .inl (.inr ⟨o, noTb_some h fun ps z => by cases z⟩)
  · exact .inr h
theorem law_at {l : PySem.W.OpenLaw} {w : World} {K : PySem.W.Frag} {h : Heap} {mg : Str → Option Value} {fa : Addr} (X : K.In h) (Gl : h.Ns mainGlobals mg) (hfa0 : mg "law" = some (.ref fa)) (c : HeadOk K w h) : LamX.LawAtS l w K CX0 12 63 "_law_script" mg fa h := by
  have cd : He.SaysD hfa hfn K := c.t.d
  obtain ⟨fd_is_whole, G_is_whole⟩ := cd.def_ 0 (d := dd_is_whole) rfl
  have g_is_whole : mg "is_whole" = some (.ref (He.fAd K ("is_whole", none))) := He.glo_ok X Gl (cd.fact 0 (f := .glo "is_whole") rfl)
  obtain ⟨fd_is_from_to, G_is_from_to⟩ := cd.def_ 1 (d := dd_is_from_to) rfl
  have g_is_from_to : mg "is_from_to" = some (.ref (He.fAd K ("is_from_to", none))) := He.glo_ok X Gl (cd.fact 1 (f := .glo "is_from_to") rfl)
  obtain ⟨fd_sent_from, G_sent_from⟩ := cd.def_ 2 (d := dd_sent_from) rfl
  have g_sent_from : mg "sent_from" = some (.ref (He.fAd K ("sent_from", none))) := He.glo_ok X Gl (cd.fact 2 (f := .glo "sent_from") rfl)
  obtain ⟨fd_is_pair, G_is_pair⟩ := cd.def_ 3 (d := dd_is_pair) rfl
  have g_is_pair : mg "is_pair" = some (.ref (He.fAd K ("is_pair", none))) := He.glo_ok X Gl (cd.fact 3 (f := .glo "is_pair") rfl)
  obtain ⟨fd_span, G_span⟩ := cd.def_ 4 (d := dd_span) rfl
  have g_span : mg "span" = some (.ref (He.fAd K ("span", none))) := He.glo_ok X Gl (cd.fact 4 (f := .glo "span") rfl)
  obtain ⟨fd_meets, G_meets⟩ := cd.def_ 5 (d := dd_meets) rfl
  have g_meets : mg "meets" = some (.ref (He.fAd K ("meets", none))) := He.glo_ok X Gl (cd.fact 5 (f := .glo "meets") rfl)
  obtain ⟨fd_pairs_within, G_pairs_within⟩ := cd.def_ 6 (d := dd_pairs_within) rfl
  have g_pairs_within : mg "pairs_within" = some (.ref (He.fAd K ("pairs_within", none))) := He.glo_ok X Gl (cd.fact 6 (f := .glo "pairs_within") rfl)
  obtain ⟨fd_pairs_at, G_pairs_at⟩ := cd.def_ 7 (d := dd_pairs_at) rfl
  have g_pairs_at : mg "pairs_at" = some (.ref (He.fAd K ("pairs_at", none))) := He.glo_ok X Gl (cd.fact 7 (f := .glo "pairs_at") rfl)
  obtain ⟨fd_by_lines, G_by_lines⟩ := cd.def_ 8 (d := dd_by_lines) rfl
  have g_by_lines : mg "by_lines" = some (.ref (He.fAd K ("by_lines", none))) := He.glo_ok X Gl (cd.fact 8 (f := .glo "by_lines") rfl)
  obtain ⟨fd_is_ahead, G_is_ahead⟩ := cd.def_ 9 (d := dd_is_ahead) rfl
  have g_is_ahead : mg "is_ahead" = some (.ref (He.fAd K ("is_ahead", none))) := He.glo_ok X Gl (cd.fact 9 (f := .glo "is_ahead") rfl)
  obtain ⟨fd_is_steep, G_is_steep⟩ := cd.def_ 10 (d := dd_is_steep) rfl
  have g_is_steep : mg "is_steep" = some (.ref (He.fAd K ("is_steep", none))) := He.glo_ok X Gl (cd.fact 10 (f := .glo "is_steep") rfl)
  obtain ⟨fd_clash, G_clash⟩ := cd.def_ 11 (d := dd_clash) rfl
  have g_clash : mg "clash" = some (.ref (He.fAd K ("clash", none))) := He.glo_ok X Gl (cd.fact 11 (f := .glo "clash") rfl)
  obtain ⟨fd_are_loose, G_are_loose⟩ := cd.def_ 12 (d := dd_are_loose) rfl
  have g_are_loose : mg "are_loose" = some (.ref (He.fAd K ("are_loose", none))) := He.glo_ok X Gl (cd.fact 12 (f := .glo "are_loose") rfl)
  obtain ⟨fd_ranks, G_ranks⟩ := cd.def_ 13 (d := dd_ranks) rfl
  have g_ranks : mg "ranks" = some (.ref (He.fAd K ("ranks", none))) := He.glo_ok X Gl (cd.fact 13 (f := .glo "ranks") rfl)
  obtain ⟨fd_longest, G_longest⟩ := cd.def_ 14 (d := dd_longest) rfl
  have g_longest : mg "longest" = some (.ref (He.fAd K ("longest", none))) := He.glo_ok X Gl (cd.fact 14 (f := .glo "longest") rfl)
  obtain ⟨fd_layers, G_layers⟩ := cd.def_ 15 (d := dd_layers) rfl
  have g_layers : mg "layers" = some (.ref (He.fAd K ("layers", none))) := He.glo_ok X Gl (cd.fact 15 (f := .glo "layers") rfl)
  obtain ⟨fd_greatest, G_greatest⟩ := cd.def_ 16 (d := dd_greatest) rfl
  have g_greatest : mg "greatest" = some (.ref (He.fAd K ("greatest", none))) := He.glo_ok X Gl (cd.fact 16 (f := .glo "greatest") rfl)
  obtain ⟨fd_sharing, G_sharing⟩ := cd.def_ 17 (d := dd_sharing) rfl
  have g_sharing : mg "sharing" = some (.ref (He.fAd K ("sharing", none))) := He.glo_ok X Gl (cd.fact 17 (f := .glo "sharing") rfl)
  obtain ⟨fd_is_crowd, G_is_crowd⟩ := cd.def_ 18 (d := dd_is_crowd) rfl
  have g_is_crowd : mg "is_crowd" = some (.ref (He.fAd K ("is_crowd", none))) := He.glo_ok X Gl (cd.fact 18 (f := .glo "is_crowd") rfl)
  obtain ⟨fd_is_sharing, G_is_sharing⟩ := cd.def_ 19 (d := dd_is_sharing) rfl
  have g_is_sharing : mg "is_sharing" = some (.ref (He.fAd K ("is_sharing", none))) := He.glo_ok X Gl (cd.fact 19 (f := .glo "is_sharing") rfl)
  obtain ⟨fd_joining, G_joining⟩ := cd.def_ 20 (d := dd_joining) rfl
  have g_joining : mg "joining" = some (.ref (He.fAd K ("joining", none))) := He.glo_ok X Gl (cd.fact 20 (f := .glo "joining") rfl)
  obtain ⟨fd_is_joining, G_is_joining⟩ := cd.def_ 21 (d := dd_is_joining) rfl
  have g_is_joining : mg "is_joining" = some (.ref (He.fAd K ("is_joining", none))) := He.glo_ok X Gl (cd.fact 21 (f := .glo "is_joining") rfl)
  obtain ⟨fd_fits, G_fits⟩ := cd.def_ 22 (d := dd_fits) rfl
  have g_fits : mg "fits" = some (.ref (He.fAd K ("fits", none))) := He.glo_ok X Gl (cd.fact 22 (f := .glo "fits") rfl)
  obtain ⟨fd_changes, G_changes⟩ := cd.def_ 23 (d := dd_changes) rfl
  have g_changes : mg "changes" = some (.ref (He.fAd K ("changes", none))) := He.glo_ok X Gl (cd.fact 23 (f := .glo "changes") rfl)
  obtain ⟨fd_counts, G_counts⟩ := cd.def_ 24 (d := dd_counts) rfl
  have g_counts : mg "counts" = some (.ref (He.fAd K ("counts", none))) := He.glo_ok X Gl (cd.fact 24 (f := .glo "counts") rfl)
  obtain ⟨fd_best, G_best⟩ := cd.def_ 25 (d := dd_best) rfl
  have g_best : mg "best" = some (.ref (He.fAd K ("best", none))) := He.glo_ok X Gl (cd.fact 25 (f := .glo "best") rfl)
  obtain ⟨fd_best_paper, G_best_paper⟩ := cd.def_ 26 (d := dd_best_paper) rfl
  have g_best_paper : mg "best_paper" = some (.ref (He.fAd K ("best_paper", none))) := He.glo_ok X Gl (cd.fact 26 (f := .glo "best_paper") rfl)
  obtain ⟨fd_is_case, G_is_case⟩ := cd.def_ 27 (d := dd_is_case) rfl
  have g_is_case : mg "is_case" = some (.ref (He.fAd K ("is_case", none))) := He.glo_ok X Gl (cd.fact 27 (f := .glo "is_case") rfl)
  obtain ⟨fd_is_best, G_is_best⟩ := cd.def_ 28 (d := dd_is_best) rfl
  have g_is_best : mg "is_best" = some (.ref (He.fAd K ("is_best", none))) := He.glo_ok X Gl (cd.fact 28 (f := .glo "is_best") rfl)
  obtain ⟨fd__law_draw, G__law_draw⟩ := cd.def_ 29 (d := dd__law_draw) rfl
  have g__law_draw : mg "_law_draw" = some (.ref (He.fAd K ("_law_draw", none))) := He.glo_ok X Gl (cd.fact 29 (f := .glo "_law_draw") rfl)
  obtain ⟨fd__law_lines, G__law_lines⟩ := cd.def_ 30 (d := dd__law_lines) rfl
  have g__law_lines : mg "_law_lines" = some (.ref (He.fAd K ("_law_lines", none))) := He.glo_ok X Gl (cd.fact 30 (f := .glo "_law_lines") rfl)
  obtain ⟨fd__law_whats, G__law_whats⟩ := cd.def_ 31 (d := dd__law_whats) rfl
  have g__law_whats : mg "_law_whats" = some (.ref (He.fAd K ("_law_whats", none))) := He.glo_ok X Gl (cd.fact 31 (f := .glo "_law_whats") rfl)
  obtain ⟨fd__law_two, G__law_two⟩ := cd.def_ 32 (d := dd__law_two) rfl
  have g__law_two : mg "_law_two" = some (.ref (He.fAd K ("_law_two", none))) := He.glo_ok X Gl (cd.fact 32 (f := .glo "_law_two") rfl)
  obtain ⟨fd__law_long, G__law_long⟩ := cd.def_ 33 (d := dd__law_long) rfl
  have g__law_long : mg "_law_long" = some (.ref (He.fAd K ("_law_long", none))) := He.glo_ok X Gl (cd.fact 33 (f := .glo "_law_long") rfl)
  obtain ⟨fd__law_alike, G__law_alike⟩ := cd.def_ 34 (d := dd__law_alike) rfl
  have g__law_alike : mg "_law_alike" = some (.ref (He.fAd K ("_law_alike", none))) := He.glo_ok X Gl (cd.fact 34 (f := .glo "_law_alike") rfl)
  obtain ⟨fd__law_great, G__law_great⟩ := cd.def_ 35 (d := dd__law_great) rfl
  have g__law_great : mg "_law_great" = some (.ref (He.fAd K ("_law_great", none))) := He.glo_ok X Gl (cd.fact 35 (f := .glo "_law_great") rfl)
  obtain ⟨fd__law_stretch, G__law_stretch⟩ := cd.def_ 36 (d := dd__law_stretch) rfl
  have g__law_stretch : mg "_law_stretch" = some (.ref (He.fAd K ("_law_stretch", none))) := He.glo_ok X Gl (cd.fact 36 (f := .glo "_law_stretch") rfl)
  obtain ⟨fd__law_made, G__law_made⟩ := cd.def_ 37 (d := dd__law_made) rfl
  have g__law_made : mg "_law_made" = some (.ref (He.fAd K ("_law_made", none))) := He.glo_ok X Gl (cd.fact 37 (f := .glo "_law_made") rfl)
  obtain ⟨fd__law_flat, G__law_flat⟩ := cd.def_ 38 (d := dd__law_flat) rfl
  have g__law_flat : mg "_law_flat" = some (.ref (He.fAd K ("_law_flat", none))) := He.glo_ok X Gl (cd.fact 38 (f := .glo "_law_flat") rfl)
  obtain ⟨fd__law_papers, G__law_papers⟩ := cd.def_ 39 (d := dd__law_papers) rfl
  have g__law_papers : mg "_law_papers" = some (.ref (He.fAd K ("_law_papers", none))) := He.glo_ok X Gl (cd.fact 39 (f := .glo "_law_papers") rfl)
  obtain ⟨fd__law_cut_right, G__law_cut_right⟩ := cd.def_ 40 (d := dd__law_cut_right) rfl
  have g__law_cut_right : mg "_law_cut_right" = some (.ref (He.fAd K ("_law_cut_right", none))) := He.glo_ok X Gl (cd.fact 40 (f := .glo "_law_cut_right") rfl)
  obtain ⟨fd_law, G_law⟩ := cd.def_ 41 (d := dd_law) rfl
  have g_law : mg "law" = some (.ref (He.fAd K ("law", none))) := He.glo_ok X Gl (cd.fact 41 (f := .glo "law") rfl)
  have B : Bn K w mg := {
    SENT_ := ⟨⟨He.ga K "SENT", He.glo_ok X Gl (cd.fact 42 (f := .glo "SENT") rfl), fun s r hs => by
      obtain ⟨es, n, kd⟩ := c.t.tab 0 rfl
      obtain ⟨u, hu, ru⟩ := He.valsB_ok c.sent (sent_mem s r hs)
      exact ⟨es, n, u, kd.at_, kd.lit, hu, ru⟩⟩⟩
    len_ := He.free_ok X Gl (cd.fact 43 (f := .free "len") rfl)
    all_ := He.free_ok X Gl (cd.fact 44 (f := .free "all") rfl)
    sum_ := He.free_ok X Gl (cd.fact 45 (f := .free "sum") rfl)
    max_ := He.free_ok X Gl (cd.fact 46 (f := .free "max") rfl)
    min_ := He.free_ok X Gl (cd.fact 47 (f := .free "min") rfl)
    sorted_ := He.free_ok X Gl (cd.fact 48 (f := .free "sorted") rfl)
    list_ := He.free_ok X Gl (cd.fact 49 (f := .free "list") rfl)
    tuple_ := He.free_ok X Gl (cd.fact 50 (f := .free "tuple") rfl)
    range_ := He.free_ok X Gl (cd.fact 51 (f := .free "range") rfl)
    zip_ := He.free_ok X Gl (cd.fact 52 (f := .free "zip") rfl)
    enumerate_ := He.free_ok X Gl (cd.fact 53 (f := .free "enumerate") rfl)
    isinstance_ := He.free_ok X Gl (cd.fact 54 (f := .free "isinstance") rfl)
    int_ := He.free_ok X Gl (cd.fact 55 (f := .free "int") rfl)
    bool_ := He.free_ok X Gl (cd.fact 56 (f := .free "bool") rfl)
    abs_ := He.free_ok X Gl (cd.fact 57 (f := .free "abs") rfl) }
  have e := hfa0.symm.trans g_law
  cases e
  obtain ⟨a1, b1⟩ := He.ba c.h1
  obtain ⟨a2, b2⟩ := He.ba c.h2
  obtain ⟨a3, b3⟩ := He.ba c.h3
  have b1 := isNone_of b1
  have b2 := isNone_of b2
  have b3 := isNone_of b3
  refine ⟨fd_law, [tabA K "ranks", tabA K "_law_two", tabA K "_law_long"], dSp K (lamT K) f_law, ?_, ?_, ?_, fun s v => G_law.bindsA (ps := ["_law_script"]) (fun _ _ _ _ _ _ us hl => match us, hl with | [_], _ => rfl) s [v] rfl, ?_, ?_⟩
  · intro p hp
    simp only [List.mem_cons, List.not_mem_nil, or_false] at hp
    rcases hp with rfl | rfl | rfl
    · exact c.e1
    · exact c.e2
    · exact c.e3
  · intro p hp
    simp only [List.mem_cons, List.not_mem_nil, or_false] at hp
    rcases hp with rfl | rfl | rfl
    · exact b1
    · exact b2
    · exact b3
  · intro p hp
    simp only [List.mem_cons, List.not_mem_nil, or_false] at hp
    rcases hp with rfl | rfl | rfl
    · exact PySem.W.codeHd_of_K X a1
    · exact PySem.W.codeHd_of_K X a2
    · exact PySem.W.codeHd_of_K X a3
  · intro H a ns hlen _ hT hS
    refine ⟨noTb H, fun _ => none, [.scr ns], fun d _ => d = .py (.bool true), noTb_split fun p hp => ?_, .cons ⟨a, rfl, noTb_seq hS⟩ .nil, ⟨ns, rfl, rfl⟩, fun d M' v S' H' hd sp' po' r' => ?_⟩
    · simp only [lamT, List.mem_cons, List.not_mem_nil, or_false] at hp
      rcases hp with rfl | rfl | rfl
      · exact hT (tabA K "ranks") (by simp)
      · exact hT (tabA K "_law_two") (by simp)
      · exact hT (tabA K "_law_long") (by simp)
    · subst hd
      cases (show Tr S' v (.bool true) from r')
      rfl
  · intro base KB GB TB
    have LT1 : TbOk base mg (lamT K) (tabA K "ranks").1 (tabA K "ranks").2 "ranks.<locals>.<lambda>" := ⟨TB _ (by simp), by simp [lamT], fun p hp hq => by
      simp only [lamT, List.mem_cons, List.not_mem_nil, or_false] at hp
      rcases hp with rfl | rfl | rfl
      · rfl
      · exact absurd hq.symm c.ne12
      · exact absurd hq.symm c.ne13⟩
    have LT2 : TbOk base mg (lamT K) (tabA K "_law_two").1 (tabA K "_law_two").2 "_law_two.<locals>.<lambda>" := ⟨TB _ (by simp), by simp [lamT], fun p hp hq => by
      simp only [lamT, List.mem_cons, List.not_mem_nil, or_false] at hp
      rcases hp with rfl | rfl | rfl
      · exact absurd hq c.ne12
      · rfl
      · exact absurd hq.symm c.ne23⟩
    have LT3 : TbOk base mg (lamT K) (tabA K "_law_long").1 (tabA K "_law_long").2 "_law_long.<locals>.<lambda>" := ⟨TB _ (by simp), by simp [lamT], fun p hp hq => by
      simp only [lamT, List.mem_cons, List.not_mem_nil, or_false] at hp
      rcases hp with rfl | rfl | rfl
      · exact absurd hq c.ne13
      · exact absurd hq c.ne23
      · rfl⟩
    have O_is_whole := ok_is_whole (P := l.prog) (base := base) (T := lamT K) ⟨⟨_, _, G_is_whole⟩⟩ B
    have D_is_whole := dn0 (st := s_is_whole) G_is_whole g_is_whole O_is_whole fun _ _ _ _ _ _ us hl => match us, hl with | [_], _ => rfl
    have O_is_from_to := ok_is_from_to (P := l.prog) (base := base) (T := lamT K) ⟨⟨_, _, G_is_from_to⟩⟩ B D_is_whole
    have D_is_from_to := dn0 (st := s_is_from_to) G_is_from_to g_is_from_to O_is_from_to fun _ _ _ _ _ _ us hl => match us, hl with | [_, _, _], _ => rfl
    have O_sent_from := ok_sent_from (P := l.prog) (base := base) (T := lamT K) ⟨⟨_, _, G_sent_from⟩⟩ B
    have D_sent_from := dn0 (st := s_sent_from) G_sent_from g_sent_from O_sent_from fun _ _ _ _ _ _ us hl => match us, hl with | [_], _ => rfl
    have O_is_pair := ok_is_pair (P := l.prog) (base := base) (T := lamT K) ⟨⟨_, _, G_is_pair⟩⟩ B D_is_from_to
    have D_is_pair := dn0 (st := s_is_pair) G_is_pair g_is_pair O_is_pair fun _ _ _ _ _ _ us hl => match us, hl with | [_, _, _], _ => rfl
    have O_span := ok_span (P := l.prog) (base := base) (T := lamT K) ⟨⟨_, _, G_span⟩⟩ B D_is_pair D_sent_from
    have D_span := dnD (st := s_span) 1 (dds := []) G_span (by intro z; cases z) g_span O_span 4 rfl (fun _ => .nil) fun _ _ _ _ _ _ _ us its hl hi => match us, hl, its, hi with | [_, _, _, _], _, [_], _ => ⟨_, rfl, rfl⟩
    have O_meets := ok_meets (P := l.prog) (base := base) (T := lamT K) ⟨⟨_, _, G_meets⟩⟩ B D_span
    have D_meets := dn0 (st := s_meets) G_meets g_meets O_meets fun _ _ _ _ _ _ us hl => match us, hl with | [_, _, _, _, _, _], _ => rfl
    have O_pairs_within := ok_pairs_within (P := l.prog) (base := base) (T := lamT K) ⟨⟨_, _, G_pairs_within⟩⟩ B D_meets
    have D_pairs_within := dn0 (st := s_pairs_within) G_pairs_within g_pairs_within O_pairs_within fun _ _ _ _ _ _ us hl => match us, hl with | [_, _, _, _, _], _ => rfl
    have O_pairs_at := ok_pairs_at (P := l.prog) (base := base) (T := lamT K) ⟨⟨_, _, G_pairs_at⟩⟩ B D_pairs_within
    have D_pairs_at := dnD (st := s_pairs_at) 2 (dds := []) G_pairs_at (by intro z; cases z) g_pairs_at O_pairs_at 4 rfl (fun _ => .nil) fun _ _ _ _ _ _ _ us its hl hi => match us, hl, its, hi with | [_, _, _, _], _, [_, _], _ => ⟨_, rfl, rfl⟩
    have O_is_ahead := ok_is_ahead (P := l.prog) (base := base) (T := lamT K) ⟨⟨_, _, G_is_ahead⟩⟩ B
    have D_is_ahead := dn0 (st := s_is_ahead) G_is_ahead g_is_ahead O_is_ahead fun _ _ _ _ _ _ us hl => match us, hl with | [_, _], _ => rfl
    have O_fits := ok_fits (P := l.prog) (base := base) (T := lamT K) ⟨⟨_, _, G_fits⟩⟩ B
    have D_fits := dn0 (st := s_fits) G_fits g_fits O_fits fun _ _ _ _ _ _ us hl => match us, hl with | [_, _], _ => rfl
    have O_is_steep := ok_is_steep (P := l.prog) (base := base) (T := lamT K) ⟨⟨_, _, G_is_steep⟩⟩ B D_is_ahead
    have D_is_steep := dn0 (st := s_is_steep) G_is_steep g_is_steep O_is_steep fun _ _ _ _ _ _ us hl => match us, hl with | [_], _ => rfl
    have O_by_lines := ok_by_lines (P := l.prog) (base := base) (T := lamT K) ⟨⟨_, _, G_by_lines⟩⟩ B
    have D_by_lines := dn0 (st := s_by_lines) G_by_lines g_by_lines O_by_lines fun _ _ _ _ _ _ us hl => match us, hl with | [_, _], _ => rfl
    have O_clash := ok_clash (P := l.prog) (base := base) (T := lamT K) ⟨⟨_, _, G_clash⟩⟩ B D_is_ahead D_span
    have D_clash := dnD (st := s_clash) 3 (dds := []) G_clash (by intro z; cases z) g_clash O_clash 7 rfl (fun _ => .nil) fun _ _ _ _ _ _ _ us its hl hi => match us, hl, its, hi with | [_, _, _, _, _, _, _], _, [_, _, _], _ => ⟨_, rfl, rfl⟩
    have O_are_loose := ok_are_loose (P := l.prog) (base := base) (T := lamT K) ⟨⟨_, _, G_are_loose⟩⟩ B D_is_pair D_by_lines D_is_steep
    have D_are_loose := dn0 (st := s_are_loose) G_are_loose g_are_loose O_are_loose fun _ _ _ _ _ _ us hl => match us, hl with | [_, _, _], _ => rfl
    have O_is_crowd := ok_is_crowd (P := l.prog) (base := base) (T := lamT K) ⟨⟨_, _, G_is_crowd⟩⟩ B D_is_pair D_clash
    have D_is_crowd := dn0 (st := s_is_crowd) G_is_crowd g_is_crowd O_is_crowd fun _ _ _ _ _ _ us hl => match us, hl with | [_, _, _, _, _, _, _], _ => rfl
    have O_is_sharing := ok_is_sharing (P := l.prog) (base := base) (T := lamT K) ⟨⟨_, _, G_is_sharing⟩⟩ B D_is_crowd
    have D_is_sharing := dnD (st := s_is_sharing) 3 (dds := []) G_is_sharing (by intro z; cases z) g_is_sharing O_is_sharing 7 rfl (fun _ => .nil) fun _ _ _ _ _ _ _ us its hl hi => match us, hl, its, hi with | [_, _, _, _, _, _, _], _, [_, _, _], _ => ⟨_, rfl, rfl⟩
    have O_is_joining := ok_is_joining (P := l.prog) (base := base) (T := lamT K) ⟨⟨_, _, G_is_joining⟩⟩ B D_are_loose D_meets
    have D_is_joining := dnD (st := s_is_joining) 2 (dds := []) G_is_joining (by intro z; cases z) g_is_joining O_is_joining 5 rfl (fun _ => .nil) fun _ _ _ _ _ _ _ us its hl hi => match us, hl, its, hi with | [_, _, _, _, _], _, [_, _], _ => ⟨_, rfl, rfl⟩
    have O_ranks := ok_ranks (P := l.prog) (base := base) (T := lamT K) (funC_of G_ranks) B LT1
    have D_ranks := dn0 (st := s_ranks) G_ranks g_ranks O_ranks fun _ _ _ _ _ _ us hl => match us, hl with | [_], _ => rfl
    have O_longest := ok_longest (P := l.prog) (base := base) (T := lamT K) ⟨⟨_, _, G_longest⟩⟩ B D_ranks
    have D_longest := dn0 (st := s_longest) G_longest g_longest O_longest fun _ _ _ _ _ _ us hl => match us, hl with | [_], _ => rfl
    have O_layers := ok_layers (P := l.prog) (base := base) (T := lamT K) ⟨⟨_, _, G_layers⟩⟩ B D_ranks
    have D_layers := dn0 (st := s_layers) G_layers g_layers O_layers fun _ _ _ _ _ _ us hl => match us, hl with | [_], _ => rfl
    have O_greatest := ok_greatest (P := l.prog) (base := base) (T := lamT K) ⟨⟨_, _, G_greatest⟩⟩ B D_by_lines D_longest
    have D_greatest := dnD (st := s_greatest) 2 (dds := []) G_greatest (by intro z; cases z) g_greatest O_greatest 5 rfl (fun _ => .nil) fun _ _ _ _ _ _ _ us its hl hi => match us, hl, its, hi with | [_, _, _, _, _], _, [_, _], _ => ⟨_, rfl, rfl⟩
    have D_greatest_2 := dnD (st := s_greatest) 0 (dds := [.py (.int 0), .py (.int 0)]) G_greatest (by intro z; cases z) g_greatest O_greatest 3 rfl (fun _ => .cons (.int 0) (.cons (.int 0) .nil)) fun _ _ _ _ _ _ _ us its hl hi => match us, hl, its, hi with | [_, _, _], _, [_, _], _ => ⟨_, rfl, rfl⟩
    have O_sharing := ok_sharing (P := l.prog) (base := base) (T := lamT K) ⟨⟨_, _, G_sharing⟩⟩ B D_by_lines D_layers
    have D_sharing := dnD (st := s_sharing) 2 (dds := []) G_sharing (by intro z; cases z) g_sharing O_sharing 5 rfl (fun _ => .nil) fun _ _ _ _ _ _ _ us its hl hi => match us, hl, its, hi with | [_, _, _, _, _], _, [_, _], _ => ⟨_, rfl, rfl⟩
    have D_sharing_2 := dnD (st := s_sharing) 0 (dds := [.py (.int 0), .py (.int 0)]) G_sharing (by intro z; cases z) g_sharing O_sharing 3 rfl (fun _ => .cons (.int 0) (.cons (.int 0) .nil)) fun _ _ _ _ _ _ _ us its hl hi => match us, hl, its, hi with | [_, _, _], _, [_, _], _ => ⟨_, rfl, rfl⟩
    have O_joining := ok_joining (P := l.prog) (base := base) (T := lamT K) ⟨⟨_, _, G_joining⟩⟩ B D_greatest D_pairs_at
    have D_joining := dnD (st := s_joining) 2 (dds := []) G_joining (by intro z; cases z) g_joining O_joining 4 rfl (fun _ => .nil) fun _ _ _ _ _ _ _ us its hl hi => match us, hl, its, hi with | [_, _, _, _], _, [_, _], _ => ⟨_, rfl, rfl⟩
    have O_changes := ok_changes (P := l.prog) (base := base) (T := lamT K) ⟨⟨_, _, G_changes⟩⟩ B D_pairs_within D_span D_fits
    have D_changes := dn0 (st := s_changes) G_changes g_changes O_changes fun _ _ _ _ _ _ us hl => match us, hl with | [_, _, _, _, _], _ => rfl
    have O_counts := ok_counts (P := l.prog) (base := base) (T := lamT K) ⟨⟨_, _, G_counts⟩⟩ B D_changes D_greatest_2
    have D_counts := dnD (st := s_counts) 3 (dds := []) G_counts (by intro z; cases z) g_counts O_counts 5 rfl (fun _ => .nil) fun _ _ _ _ _ _ _ us its hl hi => match us, hl, its, hi with | [_, _, _, _, _], _, [_, _, _], _ => ⟨_, rfl, rfl⟩
    have O_best := ok_best (P := l.prog) (base := base) (T := lamT K) ⟨⟨_, _, G_best⟩⟩ B D_counts D_joining
    have D_best := dnD (st := s_best) 3 (dds := []) G_best (by intro z; cases z) g_best O_best 5 rfl (fun _ => .nil) fun _ _ _ _ _ _ _ us its hl hi => match us, hl, its, hi with | [_, _, _, _, _], _, [_, _, _], _ => ⟨_, rfl, rfl⟩
    have O_best_paper := ok_best_paper (P := l.prog) (base := base) (T := lamT K) ⟨⟨_, _, G_best_paper⟩⟩ B D_best D_changes D_sharing_2
    have D_best_paper := dnD (st := s_best_paper) 3 (dds := []) G_best_paper (by intro z; cases z) g_best_paper O_best_paper 5 rfl (fun _ => .nil) fun _ _ _ _ _ _ _ us its hl hi => match us, hl, its, hi with | [_, _, _, _, _], _, [_, _, _], _ => ⟨_, rfl, rfl⟩
    have O_is_case := ok_is_case (P := l.prog) (base := base) (T := lamT K) ⟨⟨_, _, G_is_case⟩⟩ B D_is_from_to D_pairs_within D_is_sharing
    have D_is_case := dn0 (st := s_is_case) G_is_case g_is_case O_is_case fun _ _ _ _ _ _ us hl => match us, hl with | [_, _, _, _, _, _, _], _ => rfl
    have O_is_best := ok_is_best (P := l.prog) (base := base) (T := lamT K) ⟨⟨_, _, G_is_best⟩⟩ B D_is_from_to D_is_joining D_is_case
    have D_is_best := dnD (st := s_is_best) 3 (dds := []) G_is_best (by intro z; cases z) g_is_best O_is_best 6 rfl (fun _ => .nil) fun _ _ _ _ _ _ _ us its hl hi => match us, hl, its, hi with | [_, _, _, _, _, _], _, [_, _, _], _ => ⟨_, rfl, rfl⟩
    have O__law_draw := ok_draw (P := l.prog) (base := base) (T := lamT K) ⟨⟨_, _, G__law_draw⟩⟩ B
    have D__law_draw := dn0 (st := s__law_draw) G__law_draw g__law_draw O__law_draw fun _ _ _ _ _ _ us hl => match us, hl with | [_, _], _ => rfl
    have O__law_lines := ok_lines (P := l.prog) (base := base) (T := lamT K) ⟨⟨_, _, G__law_lines⟩⟩ B D__law_draw
    have D__law_lines := dn0 (st := s__law_lines) G__law_lines g__law_lines O__law_lines fun _ _ _ _ _ _ us hl => match us, hl with | [_], _ => rfl
    have O__law_whats := ok_whats (P := l.prog) (base := base) (T := lamT K) ⟨⟨_, _, G__law_whats⟩⟩ B D__law_draw
    have D__law_whats := dn0 (st := s__law_whats) G__law_whats g__law_whats O__law_whats fun _ _ _ _ _ _ us hl => match us, hl with | [_], _ => rfl
    have O__law_alike := ok_alike (P := l.prog) (base := base) (T := lamT K) ⟨⟨_, _, G__law_alike⟩⟩ B
    have D__law_alike := dn0 (st := s__law_alike) G__law_alike g__law_alike O__law_alike fun _ _ _ _ _ _ us hl => match us, hl with | [_, _], _ => rfl
    have O__law_stretch := ok_stretch (P := l.prog) (base := base) (T := lamT K) ⟨⟨_, _, G__law_stretch⟩⟩ B D__law_draw
    have D__law_stretch := dn0 (st := s__law_stretch) G__law_stretch g__law_stretch O__law_stretch fun _ _ _ _ _ _ us hl => match us, hl with | [_, _], _ => rfl
    have O__law_flat := ok_flat (P := l.prog) (base := base) (T := lamT K) ⟨⟨_, _, G__law_flat⟩⟩ B
    have D__law_flat := dn0 (st := s__law_flat) G__law_flat g__law_flat O__law_flat fun _ _ _ _ _ _ us hl => match us, hl with | [_], _ => rfl
    have O__law_made := ok_made (P := l.prog) (base := base) (T := lamT K) ⟨⟨_, _, G__law_made⟩⟩ B D__law_draw
    have D__law_made := dn0 (st := s__law_made) G__law_made g__law_made O__law_made fun _ _ _ _ _ _ us hl => match us, hl with | [_, _, _], _ => rfl
    have O__law_two := ok_two (P := l.prog) (base := base) (T := lamT K) (funC_of G__law_two) B LT2 D__law_draw D__law_lines D__law_whats
    have D__law_two := dn0 (st := s__law_two) G__law_two g__law_two O__law_two fun _ _ _ _ _ _ us hl => match us, hl with | [_, _], _ => rfl
    have O__law_long := ok_long (P := l.prog) (base := base) (T := lamT K) (funC_of G__law_long) B LT3 D__law_draw D__law_lines
    have D__law_long := dn0 (st := s__law_long) G__law_long g__law_long O__law_long fun _ _ _ _ _ _ us hl => match us, hl with | [_], _ => rfl
    have O__law_great := ok_great (P := l.prog) (base := base) (T := lamT K) ⟨⟨_, _, G__law_great⟩⟩ B D__law_draw D__law_long D__law_two
    have D__law_great := dn0 (st := s__law_great) G__law_great g__law_great O__law_great fun _ _ _ _ _ _ us hl => match us, hl with | [_, _, _, _], _ => rfl
    have O__law_papers := ok_papers (P := l.prog) (base := base) (T := lamT K) ⟨⟨_, _, G__law_papers⟩⟩ B D__law_draw D__law_made D_joining D_pairs_at D_sharing
    have D__law_papers := dn0 (st := s__law_papers) G__law_papers g__law_papers O__law_papers fun _ _ _ _ _ _ us hl => match us, hl with | [_, _, _, _, _, _], _ => rfl
    have O__law_cut_right := ok_cut (P := l.prog) (base := base) (T := lamT K) ⟨⟨_, _, G__law_cut_right⟩⟩ B D__law_flat D_counts D_best D_best_paper D_is_best
    have D__law_cut_right := dn0 (st := s__law_cut_right) G__law_cut_right g__law_cut_right O__law_cut_right fun _ _ _ _ _ _ us hl => match us, hl with | [_, _, _, _, _, _], _ => rfl
    exact ok_law (P := l.prog) (base := base) (T := lamT K) ⟨⟨_, _, G_law⟩⟩ B D__law_draw D__law_great D__law_stretch D__law_alike D_best_paper D_counts D_is_best D__law_papers D_joining D__law_cut_right D_best
end RO
open PySem PySem.W PyProof.Rows
set_option maxRecDepth 100000 in
set_option maxHeartbeats 0 in
theorem PySem.Challenge.cw_ringorders_k33_whole_no_difference_joins_holds : PySem.Challenge.rw_ringorders_k33_whole_no_difference_joins.Holds := by
  w_on; o_law; k_head; (case hw => w_witness2)
  k_fill
  refine LamX.walk_ofTs (l := PySem.Challenge.rw_ringorders_k33_whole_no_difference_joins) (n := 63) (k := 12) (CX := fun _ => L2.CX0) (x := "_law_script") rfl (by decide) rfl ⟨rfl, by decide, by decide⟩ (fun w h Y => PySem.W.km_in_of Y) ?F (fun _ _ _ _ _ z => z)
  case F =>
    intro w mg fa h Y KX G hmg
    have hT := PySem.W.km_tabs_of Y
    refine RO.law_at KX G hmg ⟨?t, ?s, ?h1, ?h2, ?h3, ?n1, ?n2, ?n3, ?e1, ?e2, ?e3⟩
    case t =>
      show He.obsT RO.hfa RO.hfn RO.hts _ = He.valT RO.hfn RO.hts w
      kernel_rfl
    case s => kernel_rfl
    case h1 => kernel_rfl
    case h2 => kernel_rfl
    case h3 => kernel_rfl
    case n1 => exact of_decide_eq_false (by kernel_rfl)
    case n2 => exact of_decide_eq_false (by kernel_rfl)
    case n3 => exact of_decide_eq_false (by kernel_rfl)
    case e1 => exact hT _ (of_decide_eq_true (by kernel_rfl))
    case e2 => exact hT _ (of_decide_eq_true (by kernel_rfl))
    case e3 => exact hT _ (of_decide_eq_true (by kernel_rfl))
