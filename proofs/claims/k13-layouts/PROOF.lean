import PyProof.Rows.All
import Wide.All
import OpenK.AllK
import Wide.FinOn
import HandS.Base
import HandS.Call
import HandS.List
import HandS.Comp
import HandS.Ends
import HandS.Exc
import HandS.TryOnly
import HandS.ExcOwn
import HandS.WordsExc
import HandS.Words
import HandS.Wide
import HandS.Iter
import HandS.IsInst
import HandS.Text
import HandS.Flow
import HandS.HeadEnd
import HandS.EndBits
import HandS.HeadHook2
import HandS.Head2
import HandS.Defaults
import HandS.ExcIs
import HandS.Style
import HandS.More
import HandS.ClsMeth
import HandS.Property
import HandS.Star
import HandS.CallLocal
import HandS.HeadNt
import KE.KExcIs
import HandS.Strs
import HandS.ExcInit
import HandS.SetFor
import KE.IntTextLaws
import KE.IntTextText
import KE.KIntText
import HandS.DictSub
import HandS.RaiseMore
import PyProof.FactsLen
import HandS.Conv
import HandS.Dict
import HandS.SortRule
import HandS.Zip
import PyProof.EqAt
import PyProof.EqKinds
import HandS.TupLe
import PyProof.MinMaxWalk
import PyProof.WalkInts
import HandS.Deep
import HandS.DictComp
import KE.KDictList
import HandS.TupSets
import HandS.SetBool
import KE.KUnpack
import HandS.SortKw
import HandS.Sort
import KE.DataMinMax
import HandS.DictTup
import KE.GoesEnum
import HandS.GenList
import HandS.Nested
import KE.KSuper
import HandS.SortOrd
import PyProof.Rows.RuleB_bool
import HandS.Flt
import KE.GoesMore
import HandS.DeepEq
import PyProof.Rows.IntBool
import KE.SortData
import KE.KStateDown
import HandS.Head0
import HandS.Head1
import HandS.HeadHook1
import PySem.Challenge.RW_runtabs_k13_whole_layouts
set_option Elab.async false
set_option linter.all false
set_option maxRecDepth 100000
set_option maxHeartbeats 0
namespace DL
open PySem PySem.Spec PyProof.Rows L2
/-- data: what a value stands for; own h: the list in the h-th cell -/
inductive D where
  | non | bl (b : Bool) | int (i : Int) | str (x : Str)
  | lst (ds : List D) | tup (ds : List D)
  | sq (ds : List D)
  | ins (C : Addr) (fs : List (Str × D))
  | dic (kvs : List (Key × D))
  | obj (a : Addr)
  | own (h : Nat)
  | ty (n : String)
  | exc (C : Addr) (fs : List (Str × D))
inductive Cell where
  | lst (ds : List D)
  | ins (C : Addr) (fs : List (Str × D))
  | dct (kvs : List (List Key × D))
  | dck (kvs : List (Key × D))
  | lck (o : Obj) (us : List (Key × V)) (kvs : List (Key × D))
  | lct (o : Obj) (us : List (List Key × V)) (kvs : List (List Key × D))
  | tpl (ks : List Int)
  | gone
abbrev Gam := List (Option D)
abbrev Sto := List Cell
mutual
inductive Rp (K : PySem.W.Frag) (F : Hp) (al : List Addr) : V → D → Prop
  | non : Rp K F al .non .non
  | bl (b : Bool) : Rp K F al (.bl b) (.bl b)
  | int (i : Int) : Rp K F al (.int i) (.int i)
  | str (x : Str) : Rp K F al (.str x) (.str x)
  | lst {a : Addr} {xs : List V} {ds : List D} : F a = some (.lst xs) → RpA K F al xs ds → Rp K F al (.ref a) (.lst ds)
  | sq {a : Addr} {xs : List V} {ds : List D} : SqL K F a xs → RpA K F al xs ds → Rp K F al (.ref a) (.sq ds)
  | tup {a : Addr} {xs : List V} {ds : List D} : SqT K F a xs → RpA K F al xs ds → Rp K F al (.ref a) (.tup ds)
  | ins {a C dx : Addr} {vs : List (Str × V)} {fs : List (Str × D)} : F a = some (.ins C dx vs) → RpF K F al vs fs → Rp K F al (.ref a) (.ins C fs)
  | dic {a : Addr} {vs : List (Key × V)} {ds : List (Key × D)} : F a = some (.dK vs) → RpK K F al vs ds → Rp K F al (.ref a) (.dic ds)
  | obj (a : Addr) : Rp K F al (.ref a) (.obj a)
  | own {h : Nat} {a : Addr} : al[h]? = some a → Rp K F al (.ref a) (.own h)
  | ty (n : String) : Rp K F al (.ty n) (.ty n)
  | exc0 {a C : Addr} {oe : Obj} {u : HO} : F a = some (.frz oe u) → oe.cls = .ref C → (∃ vs, oe.data = .fields vs) → oe.dict = none → Rp K F al (.ref a) (.exc C [])
  | excD {a C dx : Addr} {oe : Obj} {u : HO} {vs : List (Str × V)} {fs : List (Str × D)} : F a = some (.frz oe u) → oe.cls = .ref C → (∃ ws, oe.data = .fields ws) → oe.dict = some dx → F dx = some (.xd vs) → RpF K F al vs fs → Rp K F al (.ref a) (.exc C fs)
inductive RpA (K : PySem.W.Frag) (F : Hp) (al : List Addr) : List V → List D → Prop
  | nil : RpA K F al [] []
  | cons {v : V} {vs : List V} {d : D} {ds : List D} : Rp K F al v d → RpA K F al vs ds → RpA K F al (v :: vs) (d :: ds)
inductive RpF (K : PySem.W.Frag) (F : Hp) (al : List Addr) : List (Str × V) → List (Str × D) → Prop
  | nil : RpF K F al [] []
  | cons {n : Str} {v : V} {vs : List (Str × V)} {d : D} {ds : List (Str × D)} : Rp K F al v d → RpF K F al vs ds → RpF K F al ((n, v) :: vs) ((n, d) :: ds)
inductive RpK (K : PySem.W.Frag) (F : Hp) (al : List Addr) : List (Key × V) → List (Key × D) → Prop
  | nil : RpK K F al [] []
  | cons {n : Key} {v : V} {vs : List (Key × V)} {d : D} {ds : List (Key × D)} : Rp K F al v d → RpK K F al vs ds → RpK K F al ((n, v) :: vs) ((n, d) :: ds)
end
theorem sameSql {K : PySem.W.Frag} {F F' : Hp} {a : Addr} {xs : List V} (e : ∀ b o, F b = some o → F' b = some o) (h : SqL K F a xs) : SqL K F' a xs := by
  rcases h with (h | ⟨o, h⟩) | h
  · exact .inl (.inl (e _ _ h))
  · exact .inl (.inr ⟨o, e _ _ h⟩)
  · exact .inr h
theorem sameSqt {K : PySem.W.Frag} {F F' : Hp} {a : Addr} {xs : List V} (e : ∀ b o, F b = some o → F' b = some o) (h : SqT K F a xs) : SqT K F' a xs := by
  rcases h with (h | ⟨o, h⟩) | h
  · exact .inl (.inl (e _ _ h))
  · exact .inl (.inr ⟨o, e _ _ h⟩)
  · exact .inr h
section
variable {K : PySem.W.Frag} {F F' : Hp} {al al' : List Addr}
mutual
theorem Rp.mono (e : ∀ b o, F b = some o → F' b = some o) (ea : ∀ (h : Nat) (a : Addr), al[h]? = some a → al'[h]? = some a) : ∀ (d : D) (v : V), Rp K F al v d → Rp K F' al' v d
  | .non, _, h => by cases h; exact .non
  | .bl _, _, h => by cases h; exact .bl _
  | .int _, _, h => by cases h; exact .int _
  | .str _, _, h => by cases h; exact .str _
  | .lst ds, _, h => by
    cases h with
    | lst h1 h2 => exact .lst (e _ _ h1) (RpA.mono e ea ds _ h2)
  | .sq ds, _, h => by
    cases h with
    | sq h1 h2 => exact .sq (sameSql e h1) (RpA.mono e ea ds _ h2)
  | .tup ds, _, h => by
    cases h with
    | tup h1 h2 => exact .tup (sameSqt e h1) (RpA.mono e ea ds _ h2)
  | .ins C fs, _, h => by
    cases h with
    | ins h1 h2 => exact .ins (e _ _ h1) (RpF.mono e ea fs _ h2)
  | .dic fs, _, h => by
    cases h with
    | dic h1 h2 => exact .dic (e _ _ h1) (RpK.mono e ea fs _ h2)
  | .obj _, _, h => by cases h; exact .obj _
  | .own _, _, h => by
    cases h with
    | own h1 => exact .own (ea _ _ h1)
  | .ty _, _, h => by cases h; exact .ty _
  | .exc C fs, _, h => by
    cases h with
    | exc0 h1 h2 h0 h3 => exact .exc0 (e _ _ h1) h2 h0 h3
    | excD h1 h2 h0 h3 h4 h5 => exact .excD (e _ _ h1) h2 h0 h3 (e _ _ h4) (RpF.mono e ea fs _ h5)
theorem RpA.mono (e : ∀ b o, F b = some o → F' b = some o) (ea : ∀ (h : Nat) (a : Addr), al[h]? = some a → al'[h]? = some a) : ∀ (ds : List D) (vs : List V), RpA K F al vs ds → RpA K F' al' vs ds
  | [], _, h => by cases h; exact .nil
  | d :: ds, _, h => by
    cases h with
    | cons h1 h2 => exact .cons (Rp.mono e ea d _ h1) (RpA.mono e ea ds _ h2)
theorem RpF.mono (e : ∀ b o, F b = some o → F' b = some o) (ea : ∀ (h : Nat) (a : Addr), al[h]? = some a → al'[h]? = some a) : ∀ (ds : List (Str × D)) (vs : List (Str × V)), RpF K F al vs ds → RpF K F' al' vs ds
  | [], _, h => by cases h; exact .nil
  | (n, d) :: ds, _, h => by
    cases h with
    | cons h1 h2 => exact .cons (Rp.mono e ea d _ h1) (RpF.mono e ea ds _ h2)
theorem RpK.mono (e : ∀ b o, F b = some o → F' b = some o) (ea : ∀ (h : Nat) (a : Addr), al[h]? = some a → al'[h]? = some a) : ∀ (ds : List (Key × D)) (vs : List (Key × V)), RpK K F al vs ds → RpK K F' al' vs ds
  | [], _, h => by cases h; exact .nil
  | (n, d) :: ds, _, h => by
    cases h with
    | cons h1 h2 => exact .cons (Rp.mono e ea d _ h1) (RpK.mono e ea ds _ h2)
end
theorem RpA.length : ∀ {vs : List V} {ds : List D}, RpA K F al vs ds → vs.length = ds.length
  | _, _, .nil => rfl
  | _, _, .cons _ t => by rw [List.length_cons, List.length_cons, RpA.length t]
theorem RpA.get : ∀ {vs : List V} {ds : List D} {i : Nat} {d : D}, RpA K F al vs ds → ds[i]? = some d → ∃ v, vs[i]? = some v ∧ Rp K F al v d
  | _, _, i, _, .nil, e => by simp at e
  | _, _, 0, _, .cons r _, e => by simp at e; subst e; exact ⟨_, rfl, r⟩
  | _, _, i + 1, d, .cons _ t, e => by
    obtain ⟨v, h1, h2⟩ := RpA.get (i := i) (d := d) t (by simpa using e)
    exact ⟨v, by simpa using h1, h2⟩
theorem RpA.getV : ∀ {vs : List V} {ds : List D} {i : Nat} {v : V}, RpA K F al vs ds → vs[i]? = some v → ∃ d, ds[i]? = some d ∧ Rp K F al v d
  | _, _, i, _, .nil, e => by simp at e
  | _, _, 0, _, .cons r _, e => by simp at e; subst e; exact ⟨_, rfl, r⟩
  | _, _, i + 1, d, .cons _ t, e => by
    obtain ⟨v, h1, h2⟩ := RpA.getV (i := i) (v := d) t (by simpa using e)
    exact ⟨v, by simpa using h1, h2⟩
theorem RpA.append : ∀ {vs ws : List V} {ds es : List D}, RpA K F al vs ds → RpA K F al ws es → RpA K F al (vs ++ ws) (ds ++ es)
  | _, _, _, _, .nil, s => s
  | _, _, _, _, .cons r t, s => .cons r (RpA.append t s)
theorem RpA.set {v : V} {d : D} (r : Rp K F al v d) : ∀ {vs : List V} {ds : List D} (i : Nat), RpA K F al vs ds → RpA K F al (vs.set i v) (ds.set i d)
  | _, _, _, .nil => .nil
  | _, _, 0, .cons _ t => .cons r t
  | _, _, i + 1, .cons q t => .cons q (RpA.set r i t)
theorem RpA.take : ∀ {vs : List V} {ds : List D} (n : Nat), RpA K F al vs ds → RpA K F al (vs.take n) (ds.take n)
  | _, _, 0, _ => .nil
  | _, _, _ + 1, .nil => .nil
  | _, _, n + 1, .cons r t => .cons r (RpA.take n t)
theorem RpA.drop : ∀ {vs : List V} {ds : List D} (n : Nat), RpA K F al vs ds → RpA K F al (vs.drop n) (ds.drop n)
  | _, _, 0, r => r
  | _, _, _ + 1, .nil => .nil
  | _, _, n + 1, .cons _ t => RpA.drop n t
theorem RpA.reverse : ∀ {vs : List V} {ds : List D}, RpA K F al vs ds → RpA K F al vs.reverse ds.reverse
  | _, _, .nil => .nil
  | _, _, .cons r t => by
    rw [List.reverse_cons, List.reverse_cons]
    exact (RpA.reverse t).append (.cons r .nil)
end
/-- where one stands: the frozen part, the cells' addresses, the whole -/
structure Hs where
  F : Hp
  al : List Addr
  H : Hp
abbrev Rv (K : PySem.W.Frag) (w : Hs) (v : V) (d : D) : Prop := Rp K w.F w.al v d
abbrev Ra (K : PySem.W.Frag) (w : Hs) (vs : List V) (ds : List D) : Prop := RpA K w.F w.al vs ds
/-- the entries of a dict whose keys are tuples -/
def RpT (K : PySem.W.Frag) (F : Hp) (al : List Addr) (us : List (List Key × V)) (ks : List (List Key × D)) : Prop :=
  us.length = ks.length ∧ ∀ (i : Nat) (k : List Key) (d : D), ks[i]? = some (k, d) → ∃ v, us[i]? = some (k, v) ∧ Rp K F al v d
theorem RpT.mono {K : PySem.W.Frag} {F F' : Hp} {al al' : List Addr} (e : ∀ b o, F b = some o → F' b = some o) (ea : ∀ (h : Nat) (a : Addr), al[h]? = some a → al'[h]? = some a) {us : List (List Key × V)} {ks : List (List Key × D)} (h : RpT K F al us ks) : RpT K F' al' us ks :=
  ⟨h.1, fun i k d q => let ⟨v, a, b⟩ := h.2 i k d q; ⟨v, a, Rp.mono e ea d v b⟩⟩
def CellOk (K : PySem.W.Frag) (w : Hs) (a : Addr) : Cell → Prop
  | .lst ds => w.F a = none ∧ ∃ xs, w.H a = some (.lst xs) ∧ Ra K w xs ds
  | .ins C fs => w.F a = none ∧ ∃ dx vs, w.H a = some (.ins C dx vs) ∧ RpF K w.F w.al vs fs
  | .dct ks => w.F a = none ∧ ∃ us, w.H a = some (.dT us) ∧ RpT K w.F w.al us ks
  | .dck ks => w.F a = none ∧ ∃ us, w.H a = some (.dK us) ∧ RpK K w.F w.al us ks
  | .lck o us ks => w.F a = none ∧ w.H a = some (.frz o (.dK us)) ∧ RpK K w.F w.al us ks
  | .lct o us ks => w.F a = none ∧ w.H a = some (.frz o (.dT us)) ∧ RpT K w.F w.al us ks
  | .tpl ks => w.F a = none ∧ w.H a = some (.tup (ks.map V.int))
  | .gone => True
structure Good (K : PySem.W.Frag) (w : Hs) (S : Sto) : Prop where
  sub : ∀ a o, w.F a = some o → w.H a = some o
  nd : w.al.Nodup
  len : w.al.length = S.length
  cell : ∀ (h : Nat) (a : Addr) (c : Cell), w.al[h]? = some a → S[h]? = some c → CellOk K w a c
  dom : ∀ a ∈ w.al, w.H a ≠ none
structure Ext (w w' : Hs) : Prop where
  f : ∀ a o, w.F a = some o → w'.F a = some o
  al : ∃ β, w'.al = w.al ++ β ∧ ∀ b ∈ β, w.H b = none
  new : ∀ a o, w'.F a = some o → w.F a = some o ∨ w.H a = none ∨ a ∈ w.al ∨ (w.H a = some o ∧ ∃ xs, o = HO.tup xs)
  kp : ∀ a o, w.H a = some o → a ∉ w.al → w'.H a = some o
  dm : ∀ a, w.H a ≠ none → w'.H a ≠ none
theorem Ext.refl (w : Hs) : Ext w w := ⟨fun _ _ h => h, ⟨[], by simp, by simp⟩, fun _ _ h => .inl h, fun _ _ h _ => h, fun _ h => h⟩
theorem Ext.alx {w w' : Hs} (e : Ext w w') : ∀ (h : Nat) (a : Addr), w.al[h]? = some a → w'.al[h]? = some a := fun h a q => by
  obtain ⟨β, eq, _⟩ := e.al
  rw [eq, List.getElem?_append_left (List.getElem?_eq_some_iff.mp q).1]
  exact q
theorem Ext.mem {w w' : Hs} (e : Ext w w') {a : Addr} (h : a ∈ w.al) : a ∈ w'.al := by
  obtain ⟨β, eq, _⟩ := e.al
  rw [eq]
  exact List.mem_append_left _ h
theorem Ext.old {w w' : Hs} (e : Ext w w') {a : Addr} (h : a ∈ w'.al) : a ∈ w.al ∨ w.H a = none := by
  obtain ⟨β, eq, hb⟩ := e.al
  rw [eq] at h
  rcases List.mem_append.mp h with z | z
  · exact .inl z
  · exact .inr (hb a z)
theorem Ext.fresh {w w' : Hs} (e : Ext w w') {a : Addr} (h : w'.H a = none) : w.H a = none := by
  cases q : w.H a with
  | none => rfl
  | some o => exact absurd h (e.dm a (by rw [q]; exact fun z => nomatch z))
theorem Ext.trans {w w1 w2 : Hs} (a : Ext w w1) (b : Ext w1 w2) : Ext w w2 where
  f := fun x o h => b.f x o (a.f x o h)
  al := by
    obtain ⟨β, e1, h1⟩ := a.al
    obtain ⟨γ, e2, h2⟩ := b.al
    refine ⟨β ++ γ, by rw [e2, e1, List.append_assoc], fun x hx => ?_⟩
    rcases List.mem_append.mp hx with z | z
    · exact h1 x z
    · exact a.fresh (h2 x z)
  new := fun x o h => by
    rcases b.new x o h with z | z | z | ⟨z, xs, ex⟩
    · exact a.new x o z
    · exact .inr (.inl (a.fresh z))
    · rcases a.old z with y | y
      · exact .inr (.inr (.inl y))
      · exact .inr (.inl y)
    · cases q : w.H x with
      | none => exact .inr (.inl rfl)
      | some u =>
        by_cases m : x ∈ w.al
        · exact .inr (.inr (.inl m))
        · have e := a.kp x u q m
          rw [z] at e
          cases e
          exact .inr (.inr (.inr ⟨rfl, xs, ex⟩))
  kp := fun x o h n => b.kp x o (a.kp x o h n) fun z => by
    rcases a.old z with y | y
    · exact n y
    · rw [h] at y; cases y
  dm := fun x h => b.dm x (a.dm x h)
theorem Ext.rp {K : PySem.W.Frag} {w w' : Hs} (e : Ext w w') {v : V} {d : D} (h : Rv K w v d) : Rv K w' v d := Rp.mono e.f e.alx d v h
theorem Ext.ra {K : PySem.W.Frag} {w w' : Hs} (e : Ext w w') {v : List V} {d : List D} (h : Ra K w v d) : Ra K w' v d := RpA.mono e.f e.alx d v h
/-- slots -/
def Slots (K : PySem.W.Frag) (w : Hs) (σ : L2.St) (Γ : Gam) : Prop := Γ.length = σ.length ∧ ∀ (i : Nat) (d : D), Γ[i]? = some (some d) → ∃ v, σ[i]? = some (some v) ∧ Rv K w v d
theorem Slots.ext {K : PySem.W.Frag} {w w' : Hs} {σ : L2.St} {Γ : Gam} (e : Ext w w') (h : Slots K w σ Γ) : Slots K w' σ Γ :=
  ⟨h.1, fun i d q => let ⟨v, a, b⟩ := h.2 i d q; ⟨v, a, e.rp b⟩⟩
theorem Slots.set {K : PySem.W.Frag} {w : Hs} {σ : L2.St} {Γ : Gam} {v : V} {d : D} (h : Slots K w σ Γ) (r : Rv K w v d) (i : Nat) : Slots K w (σ.set i (some v)) (Γ.set i (some d)) := by
  refine ⟨by rw [List.length_set, List.length_set]; exact h.1, fun j e q => ?_⟩
  by_cases hj : i = j
  · subst hj
    by_cases hl : i < Γ.length
    · rw [List.getElem?_set_self hl] at q
      cases q
      exact ⟨v, by rw [List.getElem?_set_self (by rw [← h.1]; exact hl)], r⟩
    · rw [List.getElem?_eq_none (by rw [List.length_set]; omega)] at q
      cases q
  · rw [List.getElem?_set_ne hj] at q
    obtain ⟨u, a, b⟩ := h.2 j e q
    exact ⟨u, by rw [List.getElem?_set_ne hj]; exact a, b⟩
/-- a slot forgotten -/
theorem Slots.unset {K : PySem.W.Frag} {w : Hs} {σ : L2.St} {Γ : Gam} (h : Slots K w σ Γ) (i : Nat) : Slots K w (σ.set i none) (Γ.set i none) := by
  refine ⟨by rw [List.length_set, List.length_set]; exact h.1, fun j e q => ?_⟩
  by_cases hj : i = j
  · subst hj
    by_cases hl : i < Γ.length
    · rw [List.getElem?_set_self hl] at q
      cases q
    · rw [List.getElem?_eq_none (by rw [List.length_set]; omega)] at q
      cases q
  · rw [List.getElem?_set_ne hj] at q
    obtain ⟨u, a, b⟩ := h.2 j e q
    exact ⟨u, by rw [List.getElem?_set_ne hj]; exact a, b⟩
def gwipe (Γ : Gam) : List Nat → Gam
  | [] => Γ
  | v :: vs => (gwipe Γ vs).set v none
theorem Slots.wipe {K : PySem.W.Frag} {w : Hs} {σ : L2.St} {Γ : Gam} (h : Slots K w σ Γ) : ∀ vs : List Nat, Slots K w (L2.wipe σ vs) (gwipe Γ vs)
  | [] => h
  | v :: vs => (Slots.wipe h vs).unset v
section
variable {K : PySem.W.Frag} {w : Hs} {S : Sto}
/-- a new frozen object -/
def Hs.frz (w : Hs) (p : Addr) (o : HO) : Hs := ⟨upd w.F p o, w.al, upd w.H p o⟩
theorem Good.notF (g : Good K w S) {p : Addr} (h : w.H p = none) : w.F p = none := by
  cases q : w.F p with
  | none => rfl
  | some o => rw [g.sub p o q] at h; cases h
theorem Good.notA (g : Good K w S) {p : Addr} (h : w.H p = none) : p ∉ w.al := fun z => g.dom p z h
theorem updF {H : Hp} {p : Addr} {o : HO} (h : H p = none) : ∀ a x, H a = some x → upd H p o a = some x := fun a x e => by
  rw [upd_ne (ne_of_none e h)]
  exact e
theorem Ext.frz (g : Good K w S) {p : Addr} (o : HO) (h : w.H p = none) : Ext w (w.frz p o) where
  f := updF (g.notF h)
  al := ⟨[], by simp [Hs.frz], by simp⟩
  new := fun a x e => by
    by_cases q : a = p
    · subst q; exact .inr (.inl h)
    · have e2 : upd w.F p o a = some x := e
      rw [upd_ne q] at e2
      exact .inl e2
  kp := fun a x e _ => updF h a x e
  dm := fun a e => by
    show upd w.H p o a ≠ none
    by_cases q : a = p
    · subst q; rw [upd_same]; exact fun z => nomatch z
    · rw [upd_ne q]; exact e
theorem cell_ext {w w' : Hs} (e : Ext w w') {a : Addr} {c : Cell} (hF : w.F a = none → w'.F a = none) (hH : ∀ o, w.H a = some o → w'.H a = some o) (h : CellOk K w a c) : CellOk K w' a c := by
  cases c with
  | gone => exact True.intro
  | lst ds =>
    obtain ⟨h1, xs, h2, h3⟩ := h
    exact ⟨hF h1, xs, hH _ h2, e.ra h3⟩
  | ins C fs =>
    obtain ⟨h1, dx, vs, h2, h3⟩ := h
    exact ⟨hF h1, dx, vs, hH _ h2, RpF.mono e.f e.alx fs vs h3⟩
  | dct ks =>
    obtain ⟨h1, us, h2, h3⟩ := h
    exact ⟨hF h1, us, hH _ h2, h3.mono e.f e.alx⟩
  | dck ks =>
    obtain ⟨h1, us, h2, h3⟩ := h
    exact ⟨hF h1, us, hH _ h2, RpK.mono e.f e.alx ks us h3⟩
  | lck o us ks =>
    obtain ⟨h1, h2, h3⟩ := h
    exact ⟨hF h1, hH _ h2, RpK.mono e.f e.alx ks us h3⟩
  | lct o us ks =>
    obtain ⟨h1, h2, h3⟩ := h
    exact ⟨hF h1, hH _ h2, h3.mono e.f e.alx⟩
  | tpl ks => exact ⟨hF h.1, hH _ h.2⟩
theorem Good.frz (g : Good K w S) {p : Addr} (o : HO) (h : w.H p = none) : Good K (w.frz p o) S := by
  have e := Ext.frz g o h
  refine ⟨fun a x q => ?_, g.nd, g.len, fun n a c q1 q2 => ?_, fun a q => e.dm a (g.dom a q)⟩
  · have q2 : upd w.F p o a = some x := q
    show upd w.H p o a = some x
    by_cases z : a = p
    · subst z; rw [upd_same] at q2 ⊢; exact q2
    · rw [upd_ne z] at q2 ⊢; exact g.sub a x q2
  · have hne : a ≠ p := fun z => g.dom a (List.mem_of_getElem? q1) (by rw [z]; exact h)
    exact cell_ext e (fun z => by show upd w.F p o a = none; rw [upd_ne hne]; exact z) (fun x z => updF h a x z) (g.cell n a c q1 q2)
/-- a new cell -/
def Hs.cel (w : Hs) (p : Addr) (o : HO) : Hs := ⟨w.F, w.al ++ [p], upd w.H p o⟩
theorem Ext.cel (g : Good K w S) {p : Addr} (o : HO) (h : w.H p = none) : Ext w (w.cel p o) where
  f := fun _ _ e => e
  al := ⟨[p], rfl, fun b hb => by rw [List.mem_singleton.mp hb]; exact h⟩
  new := fun a x e => .inl e
  kp := fun a x e _ => updF h a x e
  dm := fun a e => by
    show upd w.H p o a ≠ none
    by_cases q : a = p
    · subst q; rw [upd_same]; exact fun z => nomatch z
    · rw [upd_ne q]; exact e
/-- a new cell c at p in a world where new things stand beside it -/
theorem Good.cell' {w' : Hs} (g : Good K w S) {p : Addr} {c0 : Cell} (h : w.H p = none) (e : Ext w w') (hF : w'.F = w.F) (hal : w'.al = w.al ++ [p]) (hH : ∀ a x, w.H a = some x → w'.H a = some x) (hp : w'.H p ≠ none) (ok : CellOk K w' p c0) : Good K w' (S ++ [c0]) := by
  refine ⟨fun a x q => hH a x (g.sub a x (by rw [← hF]; exact q)), ?_, ?_, fun n a c q1 q2 => ?_, fun a q => ?_⟩
  · rw [hal, List.nodup_append]
    exact ⟨g.nd, by simp, fun a ha b hb => by rw [List.mem_singleton.mp hb]; exact fun z => g.notA h (z ▸ ha)⟩
  · rw [hal, List.length_append, List.length_append, g.len] <;> rfl
  · rw [hal] at q1
    by_cases hn : n < w.al.length
    · rw [List.getElem?_append_left hn] at q1
      rw [List.getElem?_append_left (by rw [← g.len]; exact hn)] at q2
      exact cell_ext e (fun z => by rw [hF]; exact z) (fun x z => hH a x z) (g.cell n a c q1 q2)
    · have hn2 : n = w.al.length := by
        have := (List.getElem?_eq_some_iff.mp q1).1
        rw [List.length_append] at this
        have h1 : [p].length = 1 := rfl
        omega
      subst hn2
      rw [List.getElem?_append_right (Nat.le_refl _), Nat.sub_self] at q1
      rw [List.getElem?_append_right (by rw [g.len]; exact Nat.le_refl _), g.len, Nat.sub_self] at q2
      have e1 : p = a := Option.some.inj q1
      have e2 : c0 = c := Option.some.inj q2
      subst e1; subst e2
      exact ok
  · rw [hal] at q
    rcases List.mem_append.mp q with z | z
    · exact e.dm a (g.dom a z)
    · rw [List.mem_singleton.mp z]
      exact hp
theorem upd_some {H : Hp} {p : Addr} {o : HO} : upd H p o p ≠ none := by
  rw [upd_same]; exact fun z => nomatch z
theorem Good.cel (g : Good K w S) {p : Addr} {xs : List V} {ds : List D} (h : w.H p = none) (r : Ra K w xs ds) : Good K (w.cel p (.lst xs)) (S ++ [.lst ds]) :=
  g.cell' h (Ext.cel g _ h) rfl rfl (fun a x q => updF h a x q) upd_some ⟨g.notF h, xs, upd_same, (Ext.cel g _ h).ra r⟩
/-- a new instance and its dict -/
def Hs.celI (w : Hs) (p dx C : Addr) : Hs := ⟨w.F, w.al ++ [p], upd (upd w.H dx (.own p)) p (.ins C dx [])⟩
theorem Ext.celI (g : Good K w S) {p dx C : Addr} (h : w.H p = none) (hd : w.H dx = none) : Ext w (w.celI p dx C) where
  f := fun _ _ e => e
  al := ⟨[p], rfl, fun b hb => by rw [List.mem_singleton.mp hb]; exact h⟩
  new := fun a x e => .inl e
  kp := fun a x e _ => by
    show upd (upd w.H dx (.own p)) p _ a = some x
    rw [upd_ne (ne_of_none e h), upd_ne (ne_of_none e hd)]; exact e
  dm := fun a e => by
    show upd (upd w.H dx (.own p)) p _ a ≠ none
    by_cases q : a = p
    · subst q; exact upd_some
    · rw [upd_ne q]
      by_cases q2 : a = dx
      · subst q2; exact upd_some
      · rw [upd_ne q2]; exact e
theorem Good.celI (g : Good K w S) {p dx C : Addr} (h : w.H p = none) (hd : w.H dx = none) : Good K (w.celI p dx C) (S ++ [.ins C []]) :=
  g.cell' h (Ext.celI g h hd) rfl rfl (fun a x e => by
    show upd (upd w.H dx (.own p)) p _ a = some x
    rw [upd_ne (ne_of_none e h), upd_ne (ne_of_none e hd)]; exact e) upd_some ⟨g.notF h, dx, [], upd_same, .nil⟩
/-- a cell is written -/
def Hs.wr (w : Hs) (p : Addr) (o : HO) : Hs := ⟨w.F, w.al, upd w.H p o⟩
theorem Ext.wr {p : Addr} (o : HO) (hp : p ∈ w.al) : Ext w (w.wr p o) where
  f := fun _ _ e => e
  al := ⟨[], by simp [Hs.wr], by simp⟩
  new := fun a x e => .inl e
  kp := fun a x e n => by
    show upd w.H p o a = some x
    rw [upd_ne (fun z => n (by rw [z]; exact hp))]; exact e
  dm := fun a e => by
    show upd w.H p o a ≠ none
    by_cases q : a = p
    · subst q; rw [upd_same]; exact fun z => nomatch z
    · rw [upd_ne q]; exact e
theorem CellOk.notF {a : Addr} {c : Cell} (h : CellOk K w a c) (hc : c ≠ .gone) : w.F a = none := by
  cases c with
  | gone => exact absurd rfl hc
  | lst _ => exact h.1
  | ins _ _ => exact h.1
  | dct _ => exact h.1
  | dck _ => exact h.1
  | lck _ _ _ => exact h.1
  | lct _ _ _ => exact h.1
  | tpl _ => exact h.1
theorem Good.write (g : Good K w S) {h : Nat} {p : Addr} {c0 : Cell} {o : HO} (hp : w.al[h]? = some p) (hl : h < S.length) (hF : w.F p = none) (ok : CellOk K (w.wr p o) p c0) : Good K (w.wr p o) (S.set h c0) := by
  have hm : p ∈ w.al := List.mem_of_getElem? hp
  have e := Ext.wr o hm
  refine ⟨fun a x q => ?_, g.nd, by rw [List.length_set]; exact g.len, fun n a c q1 q2 => ?_, fun a q => e.dm a (g.dom a q)⟩
  · show upd w.H p o a = some x
    rw [upd_ne (ne_of_none q hF)]
    exact g.sub a x q
  · have q1 : w.al[n]? = some a := q1
    by_cases hn : h = n
    · subst hn
      rw [hp] at q1; cases q1
      rw [List.getElem?_set_self hl] at q2
      cases q2
      exact ok
    · rw [List.getElem?_set_ne hn] at q2
      have hne : a ≠ p := fun z => by
        subst z
        obtain ⟨l1, e1⟩ := List.getElem?_eq_some_iff.mp hp
        obtain ⟨l2, e2⟩ := List.getElem?_eq_some_iff.mp q1
        exact hn ((List.getElem_inj g.nd).mp (e1.trans e2.symm))
      exact cell_ext e (fun z => z) (fun x z => by show upd w.H p _ a = some x; rw [upd_ne hne]; exact z) (g.cell n a c q1 q2)
theorem Good.wr (g : Good K w S) {h : Nat} {p : Addr} {xs : List V} {es ds : List D} (hp : w.al[h]? = some p) (hc : S[h]? = some (.lst es)) (r : Ra K w xs ds) : Good K (w.wr p (.lst xs)) (S.set h (.lst ds)) :=
  have hF := (g.cell h p _ hp hc).1
  g.write hp (List.getElem?_eq_some_iff.mp hc).1 hF ⟨hF, xs, upd_same, r⟩
theorem Good.wrI (g : Good K w S) {h : Nat} {p C dx : Addr} {vs : List (Str × V)} {es fs : List (Str × D)} (hp : w.al[h]? = some p) (hc : S[h]? = some (.ins C es)) (r : RpF K w.F w.al vs fs) : Good K (w.wr p (.ins C dx vs)) (S.set h (.ins C fs)) :=
  have hF := (g.cell h p _ hp hc).1
  g.write hp (List.getElem?_eq_some_iff.mp hc).1 hF ⟨hF, dx, vs, upd_same, r⟩
/-- a cell is frozen -/
def Hs.fz (w : Hs) (p : Addr) (o : HO) : Hs := ⟨upd w.F p o, w.al, w.H⟩
theorem Ext.fz {p : Addr} {o : HO} (hp : p ∈ w.al) (hF : w.F p = none) : Ext w (w.fz p o) where
  f := updF hF
  al := ⟨[], by simp [Hs.fz], by simp⟩
  new := fun a x e => by
    by_cases q : a = p
    · subst q; exact .inr (.inr (.inl hp))
    · have e2 : upd w.F p o a = some x := e
      rw [upd_ne q] at e2
      exact .inl e2
  kp := fun a x e n => e
  dm := fun a e => e
theorem Good.fzC (g : Good K w S) {h : Nat} {p : Addr} {o : HO} {c0 : Cell} (hp : w.al[h]? = some p) (hc : S[h]? = some c0) (hng : c0 ≠ .gone) (ho : w.H p = some o) : Good K (w.fz p o) (S.set h .gone) := by
  have hm : p ∈ w.al := List.mem_of_getElem? hp
  have hF : w.F p = none := (g.cell h p _ hp hc).notF hng
  have e : Ext w (w.fz p o) := Ext.fz hm hF
  refine ⟨fun a x q => ?_, g.nd, by rw [List.length_set]; exact g.len, fun n a c q1 q2 => ?_, g.dom⟩
  · have q2 : upd w.F p o a = some x := q
    show w.H a = some x
    by_cases z : a = p
    · subst z; rw [upd_same] at q2; cases q2; exact ho
    · rw [upd_ne z] at q2; exact g.sub a x q2
  · have q1 : w.al[n]? = some a := q1
    by_cases hn : h = n
    · subst hn
      rw [List.getElem?_set_self (List.getElem?_eq_some_iff.mp hc).1] at q2
      cases q2
      exact True.intro
    · rw [List.getElem?_set_ne hn] at q2
      have hne : a ≠ p := fun z => by
        subst z
        obtain ⟨l1, e1⟩ := List.getElem?_eq_some_iff.mp hp
        obtain ⟨l2, e2⟩ := List.getElem?_eq_some_iff.mp q1
        exact hn ((List.getElem_inj g.nd).mp (e1.trans e2.symm))
      exact cell_ext e (fun z => by show upd w.F p o a = none; rw [upd_ne hne]; exact z) (fun x z => z) (g.cell n a c q1 q2)
theorem Good.fz (g : Good K w S) {h : Nat} {p : Addr} {o : HO} {es : List D} (hp : w.al[h]? = some p) (hc : S[h]? = some (.lst es)) (ho : w.H p = some o) : Good K (w.fz p o) (S.set h .gone) :=
  g.fzC hp hc (fun z => nomatch z) ho
end
end DL
namespace DL
open PySem PySem.Spec PyProof.Rows L2
structure Exn where
  cls : Addr
  fs : List (Str × D)
def RpX (K : PySem.W.Frag) (w : Hs) (cv : Value) (dx : Option Addr) (x : Exn) : Prop :=
  cv = .ref x.cls ∧ match dx with
    | none => x.fs = []
    | some a => ∃ vs, w.F a = some (.xd vs) ∧ RpF K w.F w.al vs x.fs
abbrev KD := Sto → D → Prop
abbrev KX := Sto → Exn → Prop
abbrev TD := Gam → Sto → KD → KX → Prop
abbrev TB := Gam → Sto → (Sto → Bool → Prop) → KX → Prop
abbrev TL := Gam → Sto → (Sto → List D → Prop) → KX → Prop
section
variable (K : PySem.W.Frag) (W : WX)
def OkD (w : Hs) (Φ : KD) (Q : VK) : Prop := ∀ v d w' S', Ext w w' → Good K w' S' → Rv K w' v d → Φ S' d → Q v w'.H
def OkB (w : Hs) (Φ : Sto → Bool → Prop) (Q : Bool → Hp → Prop) : Prop := ∀ b w' S', Ext w w' → Good K w' S' → Φ S' b → Q b w'.H
def OkL (w : Hs) (Φ : Sto → List D → Prop) (Q : List V → Hp → Prop) : Prop := ∀ vs ds w' S', Ext w w' → Good K w' S' → Ra K w' vs ds → Φ S' ds → Q vs w'.H
def OkX (w : Hs) (Ψ : KX) (σ : L2.St) : Prop := ∀ cv dx x w' S', Ext w w' → Good K w' S' → RpX K w' cv dx x → Ψ S' x → W cv dx σ w'.H
def SemE (t : TE) (T : TD) : Prop := ∀ Γ S Φ Ψ σ w, Good K w S → Slots K w σ Γ → T Γ S Φ Ψ → OkX K W w Ψ σ → ∀ Q : VK, OkD K w Φ Q → t σ w.H Q
def SemT (t : TT) (T : TB) : Prop := ∀ Γ S Φ Ψ σ w, Good K w S → Slots K w σ Γ → T Γ S Φ Ψ → OkX K W w Ψ σ → ∀ Q : Bool → Hp → Prop, OkB K w Φ Q → t σ w.H Q
def SemA (t : TA) (T : TL) : Prop := ∀ Γ S Φ Ψ σ w, Good K w S → Slots K w σ Γ → T Γ S Φ Ψ → OkX K W w Ψ σ → ∀ Q : List V → Hp → Prop, OkL K w Φ Q → t σ w.H Q
end
section
variable {K : PySem.W.Frag} {W : WX} {w w' : Hs}
theorem OkD.ext {Φ : KD} {Q : VK} (h : OkD K w Φ Q) (e : Ext w w') : OkD K w' Φ Q := fun v d w2 S' e2 => h v d w2 S' (e.trans e2)
theorem OkB.ext {Φ : Sto → Bool → Prop} {Q : Bool → Hp → Prop} (h : OkB K w Φ Q) (e : Ext w w') : OkB K w' Φ Q := fun v w2 S' e2 => h v w2 S' (e.trans e2)
theorem OkL.ext {Φ : Sto → List D → Prop} {Q : List V → Hp → Prop} (h : OkL K w Φ Q) (e : Ext w w') : OkL K w' Φ Q := fun v d w2 S' e2 => h v d w2 S' (e.trans e2)
theorem OkX.ext {Ψ : KX} {σ : L2.St} (h : OkX K W w Ψ σ) (e : Ext w w') : OkX K W w' Ψ σ := fun a b c w2 S' e2 => h a b c w2 S' (e.trans e2)
end
/-- an expression, a test, arguments: what is read (t) and what is asked of the data (T) -/
structure JE (X : Cx) (W : WX) (e : Expr) (t : TE) (T : TD) : Prop where
  pe : PE X e t
  sem : SemE X.K W t T
structure JT (X : Cx) (W : WX) (e : Expr) (t : TT) (T : TB) : Prop where
  pt : PT X e t
  sem : SemT X.K W t T
structure JW (X : Cx) (W : WX) (e : Expr) (t : TT) (T : TB) : Prop where
  pw : PW X e t
  sem : SemT X.K W t T
structure JA (X : Cx) (W : WX) (es : List Expr) (t : TA) (T : TL) : Prop where
  pa : PA X es t
  sem : SemA X.K W t T
section
variable {X : Cx} {W : WX} {e a b c : Expr} {es : List Expr} {pos : Pos} {ta tb tc te : TE} {Ta Tb Tc Te : TD}
def dVar (i : Nat) : TD := fun Γ S Φ _ => ∃ d, Γ[i]? = some (some d) ∧ Φ S d
def dC (d : D) : TD := fun _ S Φ _ => Φ S d
theorem sem_var {K : PySem.W.Frag} {i : Nat} : SemE K W (tVar i) (dVar i) := fun Γ S Φ Ψ σ w g sl ⟨d, h1, h2⟩ _ Q q => by
  obtain ⟨v, h3, r⟩ := sl.2 i d h1
  exact ⟨v, h3, q v d w S (Ext.refl w) g r h2⟩
theorem sem_c {K : PySem.W.Frag} {v : V} {d : D} (r : ∀ w : Hs, Rv K w v d) : SemE K W (tC v) (dC d) := fun Γ S Φ Ψ σ w g sl h _ Q q => q v d w S (Ext.refl w) g (r w) h
theorem je_var (i : Nat) {x : Str} (hN : X.N[i]? = some x := by rfl) (hv : Vis X.env.scope x := by first | exact Or.inl rfl | exact Or.inr (Or.inl rfl) | exact Or.inr (Or.inr rfl)) (hd : (x == ("__debug__" : Str)) = false := by decide)
    (hcd : (x == ("__classdict__" : Str)) = false := by decide) : JE X W (.Name x pos) (tVar i) (dVar i) := ⟨pe_var hN hv hd hcd, sem_var⟩
theorem je_int {i j} : JE X W (.Constant (.int i) j pos) (tC (.int i)) (dC (.int i)) := ⟨pe_int, sem_c fun _ => .int i⟩
theorem je_bl {b j} : JE X W (.Constant (.bool b) j pos) (tC (.bl b)) (dC (.bl b)) := ⟨pe_bl, sem_c fun _ => .bl b⟩
theorem je_non {j} : JE X W (.Constant .none j pos) (tC .non) (dC .non) := ⟨pe_non, sem_c fun _ => .non⟩
theorem je_str {x j} : JE X W (.Constant (.str x) j pos) (tC (.str x)) (dC (.str x)) := ⟨pe_str, sem_c fun _ => .str x⟩
/-- a constant of the module -/
theorem je_glob {x : Str} {v : V} {u : Value} {d : D} (r : ∀ w : Hs, Rv X.K w v d) (hg : Gl X x) (hm : X.mg x = some u) (q : RelV v u) (hd : (x == ("__debug__" : Str)) = false := by decide) : JE X W (.Name x pos) (tC v) (dC d) := ⟨pe_glob hg hm q hd, sem_c r⟩
theorem je_gint {x : Str} {i : Int} (hg : Gl X x) (hm : ∃ t, X.mg x = some (.int i t)) (hd : (x == ("__debug__" : Str)) = false := by decide) : JE X W (.Name x pos) (tC (.int i)) (dC (.int i)) := by
  obtain ⟨t, hm⟩ := hm
  exact je_glob (fun _ => .int i) hg hm ⟨t, rfl⟩ hd
theorem je_gstr {x z : Str} (hg : Gl X x) (hm : ∃ t, X.mg x = some (.str z t)) (hd : (x == ("__debug__" : Str)) = false := by decide) : JE X W (.Name x pos) (tC (.str z)) (dC (.str z)) := by
  obtain ⟨t, hm⟩ := hm
  exact je_glob (fun _ => .str z) hg hm ⟨t, rfl⟩ hd
theorem je_gref {x : Str} {p : Addr} (hg : Gl X x) (hm : X.mg x = some (.ref p)) (hd : (x == ("__debug__" : Str)) = false := by decide) : JE X W (.Name x pos) (tC (.ref p)) (dC (.obj p)) := je_glob (fun _ => .obj p) hg hm rfl hd
/-- a built-in type as a value -/
theorem je_ty {x : Str} {n : String} (hg : Gl X x) (hm : X.mg x = none) (hv : bootBuiltins x = some (.type n)) (hn : x ≠ "__name__" := by decide) (hd : (x == ("__debug__" : Str)) = false := by decide) : JE X W (.Name x pos) (tC (.ty n)) (dC (.ty n)) :=
  ⟨pe_bltn hg hm hv rfl hn hd, sem_c fun _ => .ty n⟩
def OpD (K : PySem.W.Frag) (r : R2) (f : D → D → Sto → KD → Prop) : Prop :=
  ∀ w S x y u v Φ Q, Good K w S → Rv K w x u → Rv K w y v → f u v S Φ → OkD K w Φ Q → r x y w.H Q
def dOp (f : D → D → Sto → KD → Prop) (Ta Tb : TD) : TD := fun Γ S Φ Ψ => Ta Γ S (fun S1 x => Tb Γ S1 (fun S2 y => f x y S2 Φ) Ψ) Ψ
theorem sem_op {K : PySem.W.Frag} {r : R2} {f : D → D → Sto → KD → Prop} (hd : OpD K r f) (ha : SemE K W ta Ta) (hb : SemE K W tb Tb) : SemE K W (tOp r ta tb) (dOp f Ta Tb) :=
  fun Γ S Φ Ψ σ w g sl h hx Q q => ha Γ S _ Ψ σ w g sl h hx _ fun v d w1 S1 e1 g1 r1 h1 =>
    hb Γ S1 _ Ψ σ w1 g1 (sl.ext e1) h1 (hx.ext e1) _ fun v2 d2 w2 S2 e2 g2 r2 h2 => hd w2 S2 v v2 d d2 Φ Q g2 (e2.rp r1) r2 h2 (q.ext (e1.trans e2))
theorem je_op {op : Operator} {r : R2} {f : D → D → Sto → KD → Prop} (ho : OpR X (binaryOp op) r) (hd : OpD X.K r f) (ha : JE X W a ta Ta) (hb : JE X W b tb Tb) : JE X W (.BinOp a op b pos) (tOp r ta tb) (dOp f Ta Tb) :=
  ⟨pe_op ho ha.pe hb.pe, sem_op hd ha.sem hb.sem⟩
theorem je_cmp {op : CmpOp} {r : R2} {f : D → D → Sto → KD → Prop} (ho : OpR X (compareOp op) r) (hd : OpD X.K r f) (ha : JE X W a ta Ta) (hb : JE X W b tb Tb) (hm : behindInMarks op b = false) : JE X W (.Compare a [op] [b] pos) (tOp r ta tb) (dOp f Ta Tb) :=
  ⟨pe_cmpR ho ha.pe hb.pe hm, sem_op hd ha.sem hb.sem⟩
/-- a value that is a bool, as a test -/
def bOf (T : TD) : TB := fun Γ S Φ Ψ => T Γ S (fun S1 d => ∃ k, d = .bl k ∧ Φ S1 k) Ψ
theorem rv_bl {K : PySem.W.Frag} {w : Hs} {v : V} {k : Bool} (r : Rv K w v (.bl k)) : v = .bl k := by cases r; rfl
theorem rv_int {K : PySem.W.Frag} {w : Hs} {v : V} {k : Int} (r : Rv K w v (.int k)) : v = .int k := by cases r; rfl
theorem rv_str {K : PySem.W.Frag} {w : Hs} {v : V} {k : Str} (r : Rv K w v (.str k)) : v = .str k := by cases r; rfl
theorem rv_non {K : PySem.W.Frag} {w : Hs} {v : V} (r : Rv K w v .non) : v = .non := by cases r; rfl
theorem sem_bl {K : PySem.W.Frag} (h : SemE K W te Te) : SemT K W (fun σ H Q => te σ H fun x H' => ∃ k, x = .bl k ∧ Q k H') (bOf Te) := fun Γ S Φ Ψ σ w g sl h2 hx Q q =>
  h Γ S _ Ψ σ w g sl h2 hx _ fun v d w1 S1 e1 g1 r1 ⟨k, e, h3⟩ => by
    subst e
    exact ⟨k, rv_bl r1, q k w1 S1 e1 g1 h3⟩
theorem jt_cmp {op : CmpOp} {r : R2} {f : D → D → Sto → KD → Prop} (ho : OpR X (compareOp op) r) (hd : OpD X.K r f) (ha : JE X W a ta Ta) (hb : JE X W b tb Tb) (hm : behindInMarks op b = false) : JT X W (.Compare a [op] [b] pos) (tTest (tOp r ta tb)) (bOf (dOp f Ta Tb)) :=
  ⟨pt_cmpR ho ha.pe hb.pe hm, sem_bl (sem_op hd ha.sem hb.sem)⟩
def dChain (f g : D → D → Sto → KD → Prop) (Ta Tb Tc : TD) : TD := fun Γ S Φ Ψ => Ta Γ S (fun S1 x => Tb Γ S1 (fun S2 y => f x y S2 fun S3 z => ∃ k, z = .bl k ∧ (if k = true then Tc Γ S3 (fun S4 u => g y u S4 Φ) Ψ else Φ S3 (.bl false))) Ψ) Ψ
theorem sem_chain {K : PySem.W.Frag} {r r' : R2} {f g : D → D → Sto → KD → Prop} (hd : OpD K r f) (hd' : OpD K r' g) (ha : SemE K W ta Ta) (hb : SemE K W tb Tb) (hc : SemE K W tc Tc) : SemE K W (tChain r r' ta tb tc) (dChain f g Ta Tb Tc) :=
  fun Γ S Φ Ψ σ w g0 sl h hx Q q => ha Γ S _ Ψ σ w g0 sl h hx _ fun v d w1 S1 e1 g1 r1 h1 =>
    hb Γ S1 _ Ψ σ w1 g1 (sl.ext e1) h1 (hx.ext e1) _ fun v2 d2 w2 S2 e2 g2 r2 h2 => hd w2 S2 v v2 d d2 _ _ g2 (e2.rp r1) r2 h2 fun z dz w3 S3 e3 g3 r3 ⟨k, ek, h3⟩ => by
      subst ek
      refine ⟨k, rv_bl r3, ?_⟩
      have e13 := (e1.trans e2).trans e3
      cases k with
      | true => exact hc Γ S3 _ Ψ σ w3 g3 (sl.ext e13) h3 (hx.ext e13) _ fun v4 d4 w4 S4 e4 g4 r4 h4 => hd' w4 S4 v2 v4 d2 d4 Φ Q g4 ((e3.trans e4).rp r2) r4 h4 (q.ext (e13.trans e4))
      | false => exact q (.bl false) (.bl false) w3 S3 e13 g3 (.bl false) h3
theorem je_chain {op op' : CmpOp} {r r' : R2} {f g : D → D → Sto → KD → Prop} (ho : OpR X (compareOp op) r) (ho' : OpR X (compareOp op') r') (hd : OpD X.K r f) (hd' : OpD X.K r' g) (ha : JE X W a ta Ta) (hb : JE X W b tb Tb) (hc : JE X W c tc Tc)
    (hm : lastMarks [op, op'] [b, c] = false := by with_unfolding_all rfl) : JE X W (.Compare a [op, op'] [b, c] pos) (tChain r r' ta tb tc) (dChain f g Ta Tb Tc) := ⟨pe_chain ho ho' ha.pe hb.pe hc.pe hm, sem_chain hd hd' ha.sem hb.sem hc.sem⟩
theorem jt_chain {op op' : CmpOp} {r r' : R2} {f g : D → D → Sto → KD → Prop} (ho : OpR X (compareOp op) r) (ho' : OpR X (compareOp op') r') (hd : OpD X.K r f) (hd' : OpD X.K r' g) (ha : JE X W a ta Ta) (hb : JE X W b tb Tb) (hc : JE X W c tc Tc)
    (hm : lastMarks [op, op'] [b, c] = false := by with_unfolding_all rfl) : JT X W (.Compare a [op, op'] [b, c] pos) (tTest (tChain r r' ta tb tc)) (bOf (dChain f g Ta Tb Tc)) := ⟨pt_chain ho ho' ha.pe hb.pe hc.pe hm, sem_bl (sem_chain hd hd' ha.sem hb.sem hc.sem)⟩
/-- a value as a test -/
theorem jt_val (h : JE X W e te Te) (he : ∀ whole, isTrue e X.env whole = (do let v ← whole; standAt e.pos; holding [v] (truthy v)) := by intro _; rfl) : JT X W e (tB te) (bOf Te) := ⟨pt_val h.pe he, sem_bl h.sem⟩
variable {t u : TT} {T U : TB} {rest : List Expr}
def bAnd (T U : TB) : TB := fun Γ S Φ Ψ => T Γ S (fun S1 k => if k = true then U Γ S1 Φ Ψ else Φ S1 false) Ψ
def bOr (T U : TB) : TB := fun Γ S Φ Ψ => T Γ S (fun S1 k => if k = true then Φ S1 true else U Γ S1 Φ Ψ) Ψ
def bNot (T : TB) : TB := fun Γ S Φ Ψ => T Γ S (fun S1 k => Φ S1 (!k)) Ψ
theorem sem_bAnd {K : PySem.W.Frag} (h1 : SemT K W t T) (h2 : SemT K W u U) : SemT K W (tAnd t u) (bAnd T U) := fun Γ S Φ Ψ σ w g sl h hx Q q =>
  h1 Γ S _ Ψ σ w g sl h hx _ fun k w1 S1 e1 g1 h3 => by
    cases k with
    | true => exact h2 Γ S1 Φ Ψ σ w1 g1 (sl.ext e1) h3 (hx.ext e1) Q (q.ext e1)
    | false => exact q false w1 S1 e1 g1 h3
theorem sem_bOr {K : PySem.W.Frag} (h1 : SemT K W t T) (h2 : SemT K W u U) : SemT K W (tOr t u) (bOr T U) := fun Γ S Φ Ψ σ w g sl h hx Q q =>
  h1 Γ S _ Ψ σ w g sl h hx _ fun k w1 S1 e1 g1 h3 => by
    cases k with
    | true => exact q true w1 S1 e1 g1 h3
    | false => exact h2 Γ S1 Φ Ψ σ w1 g1 (sl.ext e1) h3 (hx.ext e1) Q (q.ext e1)
theorem jw_and1 (h : JT X W a t T) : JW X W (.BoolOp .And [a] pos) t T := ⟨pw_and1 h.pt, h.sem⟩
theorem jw_or1 (h : JT X W a t T) : JW X W (.BoolOp .Or [a] pos) t T := ⟨pw_or1 h.pt, h.sem⟩
theorem jw_and (h : JT X W a t T) (h2 : JW X W (.BoolOp .And (b :: rest) pos) u U) : JW X W (.BoolOp .And (a :: b :: rest) pos) (tAnd t u) (bAnd T U) := ⟨pw_and h.pt h2.pw, sem_bAnd h.sem h2.sem⟩
theorem jw_or (h : JT X W a t T) (h2 : JW X W (.BoolOp .Or (b :: rest) pos) u U) : JW X W (.BoolOp .Or (a :: b :: rest) pos) (tOr t u) (bOr T U) := ⟨pw_or h.pt h2.pw, sem_bOr h.sem h2.sem⟩
theorem JW.jt (h : JW X W e t T) : JT X W e t T := ⟨h.pw.pt, h.sem⟩
theorem jt_not (h : JT X W a t T) : JT X W (.UnaryOp .Not a pos) (tNot t) (bNot T) := ⟨pt_not h.pt, fun Γ S Φ Ψ σ w g sl h2 hx Q q => h.sem Γ S _ Ψ σ w g sl h2 hx _ fun k w1 S1 e1 g1 h3 => q (!k) w1 S1 e1 g1 h3⟩
/-- as values -/
def dAnd (Ta Tb : TD) : TD := fun Γ S Φ Ψ => Ta Γ S (fun S1 x => ∃ k, x = .bl k ∧ if k = true then Tb Γ S1 Φ Ψ else Φ S1 (.bl false)) Ψ
def dOr (Ta Tb : TD) : TD := fun Γ S Φ Ψ => Ta Γ S (fun S1 x => ∃ k, x = .bl k ∧ if k = true then Φ S1 (.bl true) else Tb Γ S1 Φ Ψ) Ψ
def dNot (Ta : TD) : TD := fun Γ S Φ Ψ => Ta Γ S (fun S1 x => ∃ k, x = .bl k ∧ Φ S1 (.bl (!k))) Ψ
theorem je_one {op} (h : JE X W a ta Ta) : JE X W (.BoolOp op [a] pos) ta Ta := ⟨pe_one h.pe, h.sem⟩
theorem je_and (ha : JE X W a ta Ta) (hb : JE X W (.BoolOp .And (b :: rest) pos) tb Tb) : JE X W (.BoolOp .And (a :: b :: rest) pos) (tAndV ta tb) (dAnd Ta Tb) := ⟨pe_and ha.pe hb.pe, fun Γ S Φ Ψ σ w g sl h hx Q q =>
  ha.sem Γ S _ Ψ σ w g sl h hx _ fun v d w1 S1 e1 g1 r1 ⟨k, e, h1⟩ => by
    subst e
    refine ⟨k, rv_bl r1, ?_⟩
    cases k with
    | true => exact hb.sem Γ S1 Φ Ψ σ w1 g1 (sl.ext e1) h1 (hx.ext e1) Q (q.ext e1)
    | false => exact q (.bl false) (.bl false) w1 S1 e1 g1 (.bl false) h1⟩
theorem je_not (ha : JE X W a ta Ta) : JE X W (.UnaryOp .Not a pos) (tNotV ta) (dNot Ta) := ⟨pe_not ha.pe, fun Γ S Φ Ψ σ w g sl h hx Q q =>
  ha.sem Γ S _ Ψ σ w g sl h hx _ fun v d w1 S1 e1 g1 r1 ⟨k, e, h1⟩ => by
    subst e
    exact ⟨k, rv_bl r1, q (.bl (!k)) (.bl (!k)) w1 S1 e1 g1 (.bl (!k)) h1⟩⟩
def dIf (T : TB) (Ta Tb : TD) : TD := fun Γ S Φ Ψ => T Γ S (fun S1 k => if k = true then Ta Γ S1 Φ Ψ else Tb Γ S1 Φ Ψ) Ψ
theorem je_if (hc : JT X W c t T) (ha : JE X W a ta Ta) (hb : JE X W b tb Tb) : JE X W (.IfExp c a b pos) (tIf t ta tb) (dIf T Ta Tb) := ⟨pe_ifExp hc.pt ha.pe hb.pe, fun Γ S Φ Ψ σ w g sl h hx Q q =>
  hc.sem Γ S _ Ψ σ w g sl h hx _ fun k w1 S1 e1 g1 h3 => by
    cases k with
    | true => exact ha.sem Γ S1 Φ Ψ σ w1 g1 (sl.ext e1) h3 (hx.ext e1) Q (q.ext e1)
    | false => exact hb.sem Γ S1 Φ Ψ σ w1 g1 (sl.ext e1) h3 (hx.ext e1) Q (q.ext e1)⟩
variable {tl : TA} {Tl : TL}
def lNil : TL := fun _ S Φ _ => Φ S []
def lCons (T : TD) (U : TL) : TL := fun Γ S Φ Ψ => T Γ S (fun S1 x => U Γ S1 (fun S2 xs => Φ S2 (x :: xs)) Ψ) Ψ
theorem ja_nil : JA X W [] tNil lNil := ⟨pa_nil, fun Γ S Φ Ψ σ w g sl h hx Q q => q [] [] w S (Ext.refl w) g .nil h⟩
theorem ja_cons (ha : JE X W e te Te) (hr : JA X W es tl Tl) (hs : starEach (e :: es) X.env = (false, eval e X.env) :: starEach es X.env := by rfl) : JA X W (e :: es) (tCons te tl) (lCons Te Tl) := ⟨pa_cons ha.pe hr.pa hs, fun Γ S Φ Ψ σ w g sl h hx Q q =>
  ha.sem Γ S _ Ψ σ w g sl h hx _ fun v d w1 S1 e1 g1 r1 h1 => hr.sem Γ S1 _ Ψ σ w1 g1 (sl.ext e1) h1 (hx.ext e1) _ fun vs ds w2 S2 e2 g2 r2 h2 => q _ _ w2 S2 (e1.trans e2) g2 (.cons (e2.rp r1) r2) h2⟩
/-- a new frozen list, a new cell, a new tuple -/
def dLst (T : TL) : TD := fun Γ S Φ Ψ => T Γ S (fun S1 ds => ds.length ≤ sizeLine ∧ Φ S1 (.lst ds)) Ψ
def dLstO (T : TL) : TD := fun Γ S Φ Ψ => T Γ S (fun S1 ds => ds.length ≤ sizeLine ∧ Φ (S1 ++ [.lst ds]) (.own S1.length)) Ψ
def dTup (T : TL) : TD := fun Γ S Φ Ψ => T Γ S (fun S1 ds => ds.length ≤ sizeLine ∧ Φ S1 (.tup ds)) Ψ
theorem new_lst {K : PySem.W.Frag} {w : Hs} {S : Sto} (g : Good K w S) {Φ : KD} {Q : VK} (q : OkD K w Φ Q) {vs : List V} {ds : List D} (r : Ra K w vs ds) (h : Φ S (.lst ds)) (p : Addr) (hp : w.H p = none) : Q (.ref p) (upd w.H p (.lst vs)) :=
  q (.ref p) (.lst ds) (w.frz p (.lst vs)) S (Ext.frz g _ hp) (g.frz _ hp) (.lst upd_same ((Ext.frz g _ hp).ra r)) h
theorem new_tup {K : PySem.W.Frag} {w : Hs} {S : Sto} (g : Good K w S) {Φ : KD} {Q : VK} (q : OkD K w Φ Q) {vs : List V} {ds : List D} (r : Ra K w vs ds) (h : Φ S (.tup ds)) (p : Addr) (hp : w.H p = none) : Q (.ref p) (upd w.H p (.tup vs)) :=
  q (.ref p) (.tup ds) (w.frz p (.tup vs)) S (Ext.frz g _ hp) (g.frz _ hp) (.tup (.inl (.inl upd_same)) ((Ext.frz g _ hp).ra r)) h
theorem new_own {K : PySem.W.Frag} {w : Hs} {S : Sto} (g : Good K w S) {Φ : KD} {Q : VK} (q : OkD K w Φ Q) {vs : List V} {ds : List D} (r : Ra K w vs ds) (h : Φ (S ++ [.lst ds]) (.own S.length)) (p : Addr) (hp : w.H p = none) : Q (.ref p) (upd w.H p (.lst vs)) :=
  q (.ref p) (.own S.length) (w.cel p (.lst vs)) (S ++ [.lst ds]) (Ext.cel g _ hp) (g.cel hp r) (.own (by
    show (w.al ++ [p])[S.length]? = some p
    rw [← g.len, List.getElem?_append_right (Nat.le_refl _), Nat.sub_self] <;> rfl)) h
theorem je_lst (h : JA X W es tl Tl) : JE X W (.List es pos) (tLst tl) (dLst Tl) := ⟨pe_lst h.pa, fun Γ S Φ Ψ σ w g sl hT hx Q q =>
  h.sem Γ S _ Ψ σ w g sl hT hx _ fun vs ds w1 S1 e1 g1 r1 ⟨z, h1⟩ => ⟨by rw [r1.length]; exact z, new_lst g1 (q.ext e1) r1 h1⟩⟩
theorem je_lstO (h : JA X W es tl Tl) : JE X W (.List es pos) (tLst tl) (dLstO Tl) := ⟨pe_lst h.pa, fun Γ S Φ Ψ σ w g sl hT hx Q q =>
  h.sem Γ S _ Ψ σ w g sl hT hx _ fun vs ds w1 S1 e1 g1 r1 ⟨z, h1⟩ => ⟨by rw [r1.length]; exact z, new_own g1 (q.ext e1) r1 h1⟩⟩
theorem je_tup {x1} (h : JA X W es tl Tl) : JE X W (.Tuple es x1 pos) (tTup tl) (dTup Tl) := ⟨pe_tup h.pa, fun Γ S Φ Ψ σ w g sl hT hx Q q =>
  h.sem Γ S _ Ψ σ w g sl hT hx _ fun vs ds w1 S1 e1 g1 r1 ⟨z, h1⟩ => ⟨by rw [r1.length]; exact z, new_tup g1 (q.ext e1) r1 h1⟩⟩
def CallD (K : PySem.W.Frag) (r : List V → Hp → VK → Prop) (f : List D → Sto → KD → Prop) : Prop :=
  ∀ w S vs ds Φ Q, Good K w S → Ra K w vs ds → f ds S Φ → OkD K w Φ Q → r vs w.H Q
def dCB (f : List D → Sto → KD → Prop) (T : TL) : TD := fun Γ S Φ Ψ => T Γ S (fun S1 ds => f ds S1 Φ) Ψ
theorem sem_cb {K : PySem.W.Frag} {r : List V → Hp → VK → Prop} {f : List D → Sto → KD → Prop} (hd : CallD K r f) (h : SemA K W tl Tl) : SemE K W (tCB r tl) (dCB f Tl) := fun Γ S Φ Ψ σ w g sl hT hx Q q =>
  h Γ S _ Ψ σ w g sl hT hx _ fun vs ds w1 S1 e1 g1 r1 h1 => hd w1 S1 vs ds Φ Q g1 r1 h1 (q.ext e1)
theorem je_callB {id : String} {x : Str} {p : Pos} {r : List V → Hp → VK → Prop} {f : List D → Sto → KD → Prop} (hc : CallR X (.builtin id) r) (hd : CallD X.K r f) (hg : Gl X x) (hm : X.mg x = none) (hv : bootBuiltins x = some (.builtin id)) (ha : JA X W (e :: es) tl Tl)
    (hn : x ≠ "__name__" := by decide) (hdb : (x == ("__debug__" : Str)) = false := by decide)
    (he : starEach (e :: es) X.env = (false, eval e X.env) :: starEach es X.env := by rfl) (hpl : (backTo pos (starEach es X.env)).any (·.1) = false := by rfl) : JE X W (.Call (.Name x p) (e :: es) [] pos) (tCB r tl) (dCB f Tl) :=
  ⟨pe_callB hc hg hm hv ha.pa hn hdb he hpl, sem_cb hd ha.sem⟩
theorem je_callTy {n : String} {x : Str} {p : Pos} {r : List V → Hp → VK → Prop} {f : List D → Sto → KD → Prop} (hc : CallR X (.type n) r) (hd : CallD X.K r f) (hg : Gl X x) (hm : X.mg x = none) (hv : bootBuiltins x = some (.type n)) (ha : JA X W (e :: es) tl Tl)
    (hn : x ≠ "__name__" := by decide) (hdb : (x == ("__debug__" : Str)) = false := by decide)
    (he : starEach (e :: es) X.env = (false, eval e X.env) :: starEach es X.env := by rfl) (hpl : (backTo pos (starEach es X.env)).any (·.1) = false := by rfl) : JE X W (.Call (.Name x p) (e :: es) [] pos) (tCB r tl) (dCB f Tl) :=
  ⟨pe_callTy hc hg hm hv ha.pa hn hdb he hpl, sem_cb hd ha.sem⟩
/-- what a def promises of data -/
abbrev DSpec := List D → Sto → KD → KX → Prop
def spOf (K : PySem.W.Frag) (sp : DSpec) : Sp := fun vs H Q E => ∃ w S ds Φ Ψ, w.H = H ∧ Good K w S ∧ Ra K w vs ds ∧ sp ds S Φ Ψ ∧ OkD K w Φ Q ∧
  ∀ cv dx x w' S', Ext w w' → Good K w' S' → RpX K w' cv dx x → Ψ S' x → E cv dx w'.H
def dCall (sp : DSpec) (T : TL) : TD := fun Γ S Φ Ψ => T Γ S (fun S1 ds => sp ds S1 Φ Ψ) Ψ
theorem sem_call {K : PySem.W.Frag} {sp : DSpec} (h : SemA K W tl Tl) : SemE K W (tCallS (spOf K sp) (WE W) tl) (dCall sp Tl) := fun Γ S Φ Ψ σ w g sl hT hx Q q =>
  h Γ S _ Ψ σ w g sl hT hx _ fun vs ds w1 S1 e1 g1 r1 h1 => ⟨w1, S1, ds, Φ, Ψ, rfl, g1, r1, h1, q.ext e1, fun cv dx x w' S' e g r hΨ => hx.ext e1 cv dx x w' S' e g r hΨ⟩
theorem je_ix {r : R2} {f : D → D → Sto → KD → Prop} (hr : IxR X r) (hd : OpD X.K r f) (ha : JE X W a ta Ta) (hb : JE X W b tb Tb) (hs : PlainIx b := by exact fun _ _ => rfl) : JE X W (.Subscript a b pos) (tOp r ta tb) (dOp f Ta Tb) := ⟨pe_ix hr ha.pe hb.pe hs, sem_op hd ha.sem hb.sem⟩
structure JO (X : Cx) (W : WX) (e : Option Expr) (t : TO) (T : Gam → Sto → (Sto → Option Int → Prop) → KX → Prop) : Prop where
  po : PO X e t
  sem : ∀ Γ S Φ Ψ σ w, Good X.K w S → Slots X.K w σ Γ → T Γ S Φ Ψ → OkX X.K W w Ψ σ → ∀ Q : Option Int → Hp → Prop, (∀ o w' S', Ext w w' → Good X.K w' S' → Φ S' o → Q o w'.H) → t σ w.H Q
abbrev TOd := Gam → Sto → (Sto → Option Int → Prop) → KX → Prop
def oNone : TOd := fun _ S Φ _ => Φ S none
def oSome (T : TD) : TOd := fun Γ S Φ Ψ => T Γ S (fun S1 d => ∃ i, d = .int i ∧ Φ S1 (some i)) Ψ
theorem jo_none : JO X W none tNoPart oNone := ⟨po_none, fun Γ S Φ Ψ σ w g sl h hx Q q => q none w S (Ext.refl w) g h⟩
theorem jo_some (h : JE X W e te Te) : JO X W (some e) (tPart te) (oSome Te) := ⟨po_some h.pe, fun Γ S Φ Ψ σ w g sl hT hx Q q =>
  h.sem Γ S _ Ψ σ w g sl hT hx _ fun v d w1 S1 e1 g1 r1 ⟨i, ei, h1⟩ => by
    subst ei
    exact ⟨i, rv_int r1, q _ w1 S1 e1 g1 h1⟩⟩
def SlD (K : PySem.W.Frag) (r : V → Option Int → Option Int → Hp → VK → Prop) (f : D → Option Int → Option Int → Sto → KD → Prop) : Prop :=
  ∀ w S v d lo hi Φ Q, Good K w S → Rv K w v d → f d lo hi S Φ → OkD K w Φ Q → r v lo hi w.H Q
def dSl (f : D → Option Int → Option Int → Sto → KD → Prop) (T : TD) (Tl Th : TOd) : TD := fun Γ S Φ Ψ => T Γ S (fun S1 d => Tl Γ S1 (fun S2 lo => Th Γ S2 (fun S3 hi => f d lo hi S3 Φ) Ψ) Ψ) Ψ
theorem je_slice {r : V → Option Int → Option Int → Hp → VK → Prop} {f : D → Option Int → Option Int → Sto → KD → Prop} {lo hi : Option Expr} {p2 : Pos} {tlo thi : TO} {Tlo Thi : TOd} (hr : SlR X r) (hd : SlD X.K r f) (he : JE X W e te Te) (hl : JO X W lo tlo Tlo) (hh : JO X W hi thi Thi) :
    JE X W (.Subscript e (.Slice lo hi none p2) pos) (tSl r te tlo thi) (dSl f Te Tlo Thi) := ⟨pe_slice hr he.pe hl.po hh.po, fun Γ S Φ Ψ σ w g sl hT hx Q q =>
  he.sem Γ S _ Ψ σ w g sl hT hx _ fun v d w1 S1 e1 g1 r1 h1 => hl.sem Γ S1 _ Ψ σ w1 g1 (sl.ext e1) h1 (hx.ext e1) _ fun lo w2 S2 e2 g2 h2 =>
    hh.sem Γ S2 _ Ψ σ w2 g2 (sl.ext (e1.trans e2)) h2 (hx.ext (e1.trans e2)) _ fun hi w3 S3 e3 g3 h3 => hd w3 S3 v d lo hi Φ Q g3 ((e2.trans e3).rp r1) h3 (q.ext ((e1.trans e2).trans e3))⟩
end
end DL
namespace DL
open PySem PySem.Spec PyProof.Rows L2
structure EdD where
  nx : Gam → Sto → Prop
  rt : Sto → D → Prop
  bk : Gam → Sto → Prop := fun _ _ => False
  ct : Gam → Sto → Prop := fun _ _ => False
  er : Sto → Exn → Prop
abbrev TSd := EdD → Gam → Sto → Prop
section
variable (K : PySem.W.Frag) (W : WX)
def OkN (w : Hs) (P : Gam → Sto → Prop) (Q : L2.St → Hp → Prop) : Prop := ∀ σ' Γ' w' S', Ext w w' → Good K w' S' → Slots K w' σ' Γ' → P Γ' S' → Q σ' w'.H
/-- what the ends by data give the ends -/
structure Rl (w : Hs) (D' : EdD) (D : Ends) : Prop where
  nx : OkN K w D'.nx D.nx
  rt : OkD K w D'.rt D.rt
  bk : OkN K w D'.bk D.bk
  ct : OkN K w D'.ct D.ct
  er : ∀ σ, OkX K W w D'.er σ
def SemS (t : TS) (T : TSd) : Prop := ∀ D' Γ S σ w D, Good K w S → Slots K w σ Γ → T D' Γ S → Rl K W w D' D → t D σ w.H
end
section
variable {K : PySem.W.Frag} {W : WX} {w w' : Hs}
theorem OkN.ext {P : Gam → Sto → Prop} {Q : L2.St → Hp → Prop} (h : OkN K w P Q) (e : Ext w w') : OkN K w' P Q := fun σ Γ w2 S' e2 => h σ Γ w2 S' (e.trans e2)
theorem Rl.ext {D' : EdD} {D : Ends} (h : Rl K W w D' D) (e : Ext w w') : Rl K W w' D' D := ⟨h.nx.ext e, h.rt.ext e, h.bk.ext e, h.ct.ext e, fun σ => (h.er σ).ext e⟩
end
structure JS (X : Cx) (W : WX) (st : Stmt) (t : TS) (T : TSd) : Prop where
  ps : PS X st t
  sem : SemS X.K W t T
structure JB (X : Cx) (W : WX) (st : List Stmt) (t : TS) (T : TSd) : Prop where
  pss : PSs X st t
  sem : SemS X.K W t T
section
variable {X : Cx} {W : WX} {e a b c : Expr} {es : List Expr} {pos : Pos} {ta tb tc te : TE} {Ta Tb Tc Te : TD} {st : Stmt} {rest : List Stmt} {t u : TS} {T U : TSd}
def sNext : TSd := fun D Γ S => D.nx Γ S
def sSeq (T U : TSd) : TSd := fun D Γ S => T { D with nx := U D } Γ S
theorem jb_nil : JB X W [] tNext sNext := ⟨pss_nil, fun D' Γ S σ w D g sl h r => r.nx σ Γ w S (Ext.refl w) g sl h⟩
theorem jb_cons (h1 : JS X W st t T) (h2 : JB X W rest u U) : JB X W (st :: rest) (tSeq t u) (sSeq T U) := ⟨pss_cons h1.ps h2.pss, fun D' Γ S σ w D g sl h r =>
  h1.sem { D' with nx := U D' } Γ S σ w { D with nx := u D } g sl h ⟨fun σ' Γ' w' S' e' g' sl' h' => h2.sem D' Γ' S' σ' w' D g' sl' h' (r.ext e'), r.rt, r.bk, r.ct, r.er⟩⟩
theorem jb_one (h1 : JS X W st t T) : JB X W [st] t T := ⟨pss_one h1.ps, h1.sem⟩
def sBrk : TSd := fun D Γ S => D.bk Γ S
def sCnt : TSd := fun D Γ S => D.ct Γ S
def sDrop (T : TD) : TSd := fun D Γ S => T Γ S (fun S1 _ => D.nx Γ S1) D.er
theorem js_expr (he : JE X W e te Te) (hs : swapsWith e none pos.line X.env = pure false := by rfl) : JS X W (.Expr e pos) (tDrop te) (sDrop Te) := ⟨ps_expr he.pe hs, fun D' Γ S σ w D g sl h r =>
  he.sem Γ S _ _ σ w g sl h (r.er σ) _ fun v d w' S' e' g' _ h' => r.nx σ Γ w' S' e' g' (sl.ext e') h'⟩
def sRet (T : TD) : TSd := fun D Γ S => T Γ S D.rt D.er
theorem js_ret (he : JE X W e te Te) : JS X W (.Return (some e) pos) (tRet te) (sRet Te) := ⟨ps_ret he.pe, fun D' Γ S σ w D g sl h r => he.sem Γ S _ _ σ w g sl h (r.er σ) _ r.rt⟩
def sRetN : TSd := fun D _ S => D.rt S .non
def sIf (C : TB) (T U : TSd) : TSd := fun D Γ S => C Γ S (fun S1 k => if k = true then T D Γ S1 else U D Γ S1) D.er
theorem js_if {A B : List Stmt} {tt : TT} {C : TB} (hc : JT X W c tt C) (ha : JB X W A t T) (hb : JB X W B u U) : JS X W (.If c A B pos) (tIfS tt t u) (sIf C T U) := ⟨ps_if hc.pt ha.pss hb.pss, fun D' Γ S σ w D g sl h r =>
  hc.sem Γ S _ _ σ w g sl h (r.er σ) _ fun k w' S' e' g' h' => by
    cases k with
    | true => exact ha.sem D' Γ S' σ w' D g' (sl.ext e') h' (r.ext e')
    | false => exact hb.sem D' Γ S' σ w' D g' (sl.ext e') h' (r.ext e')⟩
abbrev TGd := D → Gam → Sto → (Gam → Sto → Prop) → Prop
def SemG (K : PySem.W.Frag) (t : TG) (T : TGd) : Prop := ∀ d Γ S v σ w P Q, Good K w S → Slots K w σ Γ → Rv K w v d → T d Γ S P → OkN K w P Q → t v σ w.H Q
structure JG (X : Cx) (tg : Expr) (t : TG) (T : TGd) : Prop where
  pg : PG X tg t
  sem : SemG X.K t T
abbrev TGs' := List D → Gam → Sto → (Gam → Sto → Prop) → Prop
def SemGs (K : PySem.W.Frag) (t : TGs) (T : TGs') : Prop := ∀ ds Γ S vs σ w P Q, Good K w S → Slots K w σ Γ → Ra K w vs ds → T ds Γ S P → OkN K w P Q → t vs σ w.H Q
structure JGs (X : Cx) (ts : List Expr) (t : TGs) (T : TGs') : Prop where
  pg : PGs X ts t
  sem : SemGs X.K t T
def nmG (i : Nat) : TGd := fun d Γ S P => P (Γ.set i (some d)) S
theorem jg_name (i : Nat) {x : Str} (hN : X.N.Nodup) (hi : X.N[i]? = some x := by rfl) (hx : Loc X.env.scope x := by first | exact Or.inl rfl | exact Or.inr rfl) (hf : X.fn x = true ∨ X.env.scope.names.lookup x = some .local := by first | exact .inl rfl | exact .inr rfl | assumption) : JG X (.Name x pos) (gName i) (nmG i) :=
  ⟨pg_name hN hi hx hf, fun d Γ S v σ w P Q g sl r h q => q _ _ w S (Ext.refl w) g (sl.set r i) h⟩
def gsNil : TGs' := fun ds Γ S P => ds = [] ∧ P Γ S
def gsCons (T : TGd) (U : TGs') : TGs' := fun ds Γ S P => ∃ d r, ds = d :: r ∧ T d Γ S fun Γ' S' => U r Γ' S' P
theorem jgs_nil : JGs X [] gNil gsNil := ⟨pgs_nil, fun ds Γ S vs σ w P Q g sl r ⟨e, h⟩ q => by
  subst e
  cases r
  exact ⟨rfl, q σ Γ w S (Ext.refl w) g sl h⟩⟩
theorem jgs_cons {g1 : TG} {g2 : TGs} {G1 : TGd} {G2 : TGs'} (h1 : JG X e g1 G1) (h2 : JGs X es g2 G2) (hs : (assignEach (e :: es) X.env).map (·.2) = assign e X.env :: (assignEach es X.env).map (·.2) := by rfl) : JGs X (e :: es) (gCons g1 g2) (gsCons G1 G2) :=
  ⟨pgs_cons h1.pg h2.pg hs, fun ds Γ S vs σ w P Q g sl r ⟨d, rr, e, h⟩ q => by
    subst e
    cases r with
    | cons ra rb => exact ⟨_, _, rfl, h1.sem d Γ S _ σ w _ _ g sl ra h fun σ' Γ' w' S' e' g' sl' h' => h2.sem rr Γ' S' _ σ' w' P Q g' sl' (e'.ra rb) h' (q.ext e')⟩⟩
def tupG (n : Nat) (T : TGs') : TGd := fun d Γ S P => ∃ ds, d = .tup ds ∧ ds.length = n ∧ T ds Γ S P
theorem jg_tup {n : Nat} {x1} {gs : TGs} {G : TGs'} (hc : X.calm = true) (h : JGs X es gs G) (hn : (assignEach es X.env).length = n := by rfl) (hst : (assignEach es X.env).findIdx? (·.1) = none := by rfl) : JG X (.Tuple es x1 pos) (gTup X.K n gs) (tupG n G) :=
  ⟨pg_tup hc h.pg hn hst, fun d Γ S v σ w P Q g sl r ⟨ds, e, hl, hT⟩ q => by
    subst e
    cases r with
    | tup hq ra => exact ⟨_, _, rfl, sameSqt g.sub hq, by rw [ra.length]; exact hl, h.sem ds Γ S _ σ w P Q g sl ra hT q⟩⟩
/-- o[i] = v -/
def TSetD (K : PySem.W.Frag) (t : TSet) (f : D → D → D → Sto → (Sto → Prop) → Prop) : Prop := ∀ w S o i v do_ di dv P Q, Good K w S → Rv K w o do_ → Rv K w i di → Rv K w v dv → f do_ di dv S P → (∀ w' S', Ext w w' → Good K w' S' → P S' → Q w'.H) → t o i v w.H Q
def subG (f : D → D → D → Sto → (Sto → Prop) → Prop) (To Ti : TD) : TGd := fun d Γ S P => To Γ S (fun S1 o => Ti Γ S1 (fun S2 i => f o i d S2 fun S3 => P Γ S3) fun _ _ => False) fun _ _ => False
theorem jg_sub {o i : Expr} {to ti : TE} {To Ti : TD} {ts : TSet} {f : D → D → D → Sto → (Sto → Prop) → Prop} (ho : JE X (fun _ _ _ _ => False) o to To) (hi : JE X (fun _ _ _ _ => False) i ti Ti) (hs : PSet X ts) (hd : TSetD X.K ts f)
    (hha : ∀ v, assign (.Subscript o i pos) X.env v = (do
      let ov ← holding [v] (eval o X.env)
      let iv ← holding [v, ov] (eval i X.env)
      standAt pos
      holding [v, ov, iv] (setItem ov iv v)
      release [v, ov, iv] []) := by intro _; rfl) : JG X (.Subscript o i pos) (gSub to ti ts) (subG f To Ti) :=
  ⟨pg_sub ho.pe hi.pe hs hha, fun d Γ S v σ w P Q g sl r h q => ho.sem Γ S _ _ σ w g sl h (fun _ _ _ _ _ _ _ _ z => z) _ fun vo do_ w1 S1 e1 g1 r1 h1 =>
    hi.sem Γ S1 _ _ σ w1 g1 (sl.ext e1) h1 (fun _ _ _ _ _ _ _ _ z => z) _ fun vi di w2 S2 e2 g2 r2 h2 =>
      hd w2 S2 vo vi v do_ di d _ _ g2 (e2.rp r1) r2 ((e1.trans e2).rp r) h2 fun w3 S3 e3 g3 h3 => q σ Γ w3 S3 ((e1.trans e2).trans e3) g3 (sl.ext ((e1.trans e2).trans e3)) h3⟩
def sAsg (T : TD) (G : TGd) : TSd := fun D Γ S => T Γ S (fun S1 d => G d Γ S1 D.nx) D.er
theorem sem_asg {K : PySem.W.Frag} {g : TG} {G : TGd} (he : SemE K W te Te) (hg : SemG K g G) : SemS K W (tAsg te g) (sAsg Te G) := fun D' Γ S σ w D g0 sl h r =>
  he Γ S _ _ σ w g0 sl h (r.er σ) _ fun v d w1 S1 e1 g1 r1 h1 => hg d Γ S1 v σ w1 D'.nx D.nx g1 (sl.ext e1) r1 h1 (r.nx.ext e1)
theorem js_asg {tg : Expr} {g : TG} {G : TGd} (he : JE X W e te Te) (hg : JG X tg g G) (hs : swapsWithSole [tg] e pos.line X.env = pure false := by rfl) (hw : swappedStores [tg] e X.env = pure none := by rfl)
    (h1 : (assignEach [tg] X.env).map (·.2) = [assign tg X.env] := by rfl) : JS X W (.Assign [tg] e pos) (tAsg te g) (sAsg Te G) :=
  ⟨ps_asg he.pe hg.pg hs hw h1, sem_asg he.sem hg.sem⟩
theorem sem_nmG {K : PySem.W.Frag} (i : Nat) : SemG K (gName i) (nmG i) := fun d Γ S v σ w P Q g sl r h q => q _ _ w S (Ext.refl w) g (sl.set r i) h
theorem js_set (i : Nat) {x : Str} {pos' : Pos} (hN : X.N.Nodup) (he : JE X W e te Te) (hi : X.N[i]? = some x := by rfl) (hx : Loc X.env.scope x := by first | exact Or.inl rfl | exact Or.inr rfl) (hs : swapsWith e (some (.Name x pos')) pos.line X.env = pure false := by rfl)
    (hf : X.fn x = true ∨ X.env.scope.names.lookup x = some .local := by first | exact .inl rfl | exact .inr rfl | assumption) : JS X W (.Assign [.Name x pos'] e pos) (tAsg te (gName i)) (sAsg Te (nmG i)) := ⟨ps_set hN hi hx he.pe hs hf, sem_asg he.sem (sem_nmG i)⟩
/-- a, b = e1, e2 -/
def sPar (i j : Nat) (T : TL) : TSd := fun D Γ S => T Γ S (fun S1 ds => ∃ x y, ds = [x, y] ∧ D.nx ((Γ.set i (some x)).set j (some y)) S1) D.er
theorem sem_par {K : PySem.W.Frag} {i j : Nat} {tl : TA} {Tl : TL} (h : SemA K W tl Tl) : SemS K W (tPar i j tl) (sPar i j Tl) := fun D' Γ S σ w D g sl hT r =>
  h Γ S _ _ σ w g sl hT (r.er σ) _ fun vs ds w1 S1 e1 g1 r1 ⟨x, y, e, h1⟩ => by
    subst e
    cases r1 with
    | cons ra rb =>
      cases rb with
      | cons rc rd =>
        cases rd
        exact ⟨_, _, rfl, r.nx _ _ w1 S1 e1 g1 (((sl.ext e1).set ra i).set rc j) h1⟩
theorem js_par (i j : Nat) {x y : Str} {px py pt : Pos} {kt k2 pt2} {tl : TA} {Tl : TL} (hc : X.calm = true) (hN : X.N.Nodup) (ha : JA X W [a, b] tl Tl) (hij : i ≠ j := by decide) (hi : X.N[i]? = some x := by rfl) (hj : X.N[j]? = some y := by rfl)
    (hx : X.env.scope.names.lookup x = some .local := by rfl) (hy : X.env.scope.names.lookup y = some .local := by rfl)
    (hw : swappedStores [.Tuple [.Name x px, .Name y py] kt pt] (.Tuple [a, b] k2 pt2) X.env = pure (some [x, y]) := by rfl)
    (hs : swapsWithSole [.Tuple [.Name x px, .Name y py] kt pt] (.Tuple [a, b] k2 pt2) pos.line X.env = pure false := by rfl) :
    JS X W (.Assign [.Tuple [.Name x px, .Name y py] kt pt] (.Tuple [a, b] k2 pt2) pos) (tPar i j tl) (sPar i j Tl) := ⟨ps_par hc hN hi hj hij hx hy ha.pa hw hs, sem_par ha.sem⟩
/-- x += e -/
def sAug (i : Nat) (T : TD) (f : D → D → Sto → KD → Prop) : TSd := fun D Γ S => ∃ d, Γ[i]? = some (some d) ∧ T Γ S (fun S1 y => f d y S1 fun S2 z => D.nx (Γ.set i (some z)) S2) D.er
def IpD (K : PySem.W.Frag) (t : TIp) (f : D → D → Sto → KD → Prop) : Prop := ∀ w S x y u v Φ Q, Good K w S → Rv K w x u → Rv K w y v → f u v S Φ → OkD K w Φ Q → t x y w.H Q
theorem js_aug (i : Nat) {x : Str} {op : Operator} {ti : TIp} {f : D → D → Sto → KD → Prop} {pos' : Pos} (hN : X.N.Nodup) (he : JE X W e te Te) (ho : PIp X op ti) (hd : IpD X.K ti f) (hi : X.N[i]? = some x := by rfl) (hx : Loc X.env.scope x := by first | exact Or.inl rfl | exact Or.inr rfl)
    (hf : X.fn x = true ∨ X.env.scope.names.lookup x = some .local := by first | exact .inl rfl | exact .inr rfl | assumption) : JS X W (.AugAssign (.Name x pos') op e pos) (tAug i te ti) (sAug i Te f) :=
  ⟨ps_aug hN hi hx he.pe ho hf, fun D' Γ S σ w D g sl ⟨d, h1, h2⟩ r => by
    obtain ⟨v, h3, rv⟩ := sl.2 i d h1
    exact ⟨v, h3, he.sem Γ S _ _ σ w g sl h2 (r.er σ) _ fun v2 d2 w1 S1 e1 g1 r1 h4 => hd w1 S1 v v2 d d2 _ _ g1 (e1.rp rv) r1 h4 fun v3 d3 w2 S2 e2 g2 r2 h5 => r.nx _ _ w2 S2 (e1.trans e2) g2 ((sl.ext (e1.trans e2)).set r2 i) h5⟩⟩
/-- the items behind a source, by the cells -/
abbrev Src := Sto → Option (List D)
def SrcOk (K : PySem.W.Frag) (w0 : Hs) (J : It) (src : Src) : Prop := ∀ w S ds i, Ext w0 w → Good K w S → src S = some ds →
  (∀ d, ds[i]? = some d → J.go i w.H ∧ ∀ x H', J.yld i w.H x H' → ∃ w', Ext w w' ∧ Good K w' S ∧ w'.H = H' ∧ Rv K w' x d) ∧ (ds.length ≤ i → J.stop i w.H)
abbrev TId := Gam → Sto → (Sto → Src → Prop) → KX → Prop
def SemI (K : PySem.W.Frag) (W : WX) (t : TI) (T : TId) : Prop := ∀ Γ S Φ Ψ σ w, Good K w S → Slots K w σ Γ → T Γ S Φ Ψ → OkX K W w Ψ σ → ∀ Q : It → Hp → Prop, (∀ J src w' S', Ext w w' → Good K w' S' → SrcOk K w' J src → Φ S' src → Q J w'.H) → t σ w.H Q
structure JI (X : Cx) (W : WX) (tg iter : Expr) (t : TI) (T : TId) : Prop where
  pi : PI X tg iter t
  sem : SemI X.K W t T
/-- for: n turns, P the invariant -/
def sFor (I : TId) (G : TGd) (B : TSd) : TSd := fun D Γ S => I Γ S (fun S1 src => ∃ (P : Nat → Gam → Sto → Prop) (n : Nat), P 0 Γ S1 ∧
  (∀ i Γ' S', i ≤ n → P i Γ' S' → ∃ ds, src S' = some ds ∧ ds.length = n) ∧
  (∀ i Γ' S' ds d, P i Γ' S' → src S' = some ds → ds[i]? = some d → G d Γ' S' fun Γ2 S2 => B { D with nx := P (i + 1), ct := P (i + 1), bk := D.nx } Γ2 S2) ∧
  (∀ Γ' S', P n Γ' S' → D.nx Γ' S')) D.er
theorem sem_for {K : PySem.W.Frag} {wi : TI} {g : TG} {tb : TS} {I : TId} {G : TGd} {B : TSd} (hi : SemI K W wi I) (hg : SemG K g G) (hb : SemS K W tb B) : SemS K W (tFor wi g tb) (sFor I G B) := fun D' Γ S σ w D g0 sl h r =>
  hi Γ S _ _ σ w g0 sl h (r.er σ) _ fun J src w1 S1 e1 g1 ok ⟨P, n, h0, hl, hs, hd⟩ => by
    refine ⟨fun i m σ' H' => m + i = n ∧ ∃ w' Γ' S', H' = w'.H ∧ Ext w1 w' ∧ Good K w' S' ∧ Slots K w' σ' Γ' ∧ P i Γ' S', ⟨n, by omega, w1, Γ, S1, rfl, Ext.refl w1, g1, sl.ext e1, h0⟩, ?_⟩
    rintro i m σ' H' ⟨hm, w', Γ', S', rfl, e', g', sl', p⟩
    obtain ⟨ds, hsrc, hlen⟩ := hl i Γ' S' (by omega) p
    have q := ok w' S' ds i e' g' hsrc
    by_cases hlt : i < n
    · have hx : ds[i]? = some ds[i] := List.getElem?_eq_getElem (by omega)
      obtain ⟨hgo, hy⟩ := q.1 _ hx
      refine .inr ⟨hgo, fun σ2 H2 => ∃ w2 Γ2 S2, H2 = w2.H ∧ Ext w1 w2 ∧ Good K w2 S2 ∧ Slots K w2 σ2 Γ2 ∧ P (i + 1) Γ2 S2, ?_, ?_⟩
      · rintro σ2 H2 ⟨w2, Γ2, S2, rfl, e2, g2, sl2, p2⟩
        exact ⟨m - 1, by omega, by omega, w2, Γ2, S2, rfl, e2, g2, sl2, p2⟩
      · intro x H2 hyl
        obtain ⟨w2, e2, g2, rfl, r2⟩ := hy x H2 hyl
        have e12 := e'.trans e2
        refine hg _ Γ' S' x σ' w2 _ _ g2 (sl'.ext e2) r2 (hs i Γ' S' ds _ p hsrc hx) fun σ3 Γ3 w3 S3 e3 g3 sl3 h3 => ?_
        have e13 := e12.trans e3
        refine hb _ Γ3 S3 σ3 w3 _ g3 sl3 h3 ⟨fun σ4 Γ4 w4 S4 e4 g4 sl4 h4 => ⟨w4, Γ4, S4, rfl, e13.trans e4, g4, sl4, h4⟩, (r.ext (e1.trans e13)).rt, (r.ext (e1.trans e13)).nx, fun σ4 Γ4 w4 S4 e4 g4 sl4 h4 => ⟨w4, Γ4, S4, rfl, e13.trans e4, g4, sl4, h4⟩, (r.ext (e1.trans e13)).er⟩
    · have hin : i = n := by omega
      subst hin
      exact .inl ⟨q.2 (by omega), r.nx σ' Γ' w' S' (e1.trans e') g' sl' (hd Γ' S' p)⟩
theorem js_for {tg iter : Expr} {body : List Stmt} {wi : TI} {g : TG} {tb : TS} {I : TId} {G : TGd} {B : TSd} (hp : PassesOwn (model X.prog X.w) X.A X.env X.xe) (hc : X.calm = true) (hi : JI X W tg iter wi I) (hg : JG X tg g G) (hb : JB X W body tb B) (hs : ∀ x, foldedSetIterable iter X.env x = pure x := by intro _; rfl) :
    JS X W (.For tg iter body [] pos) (tFor wi g tb) (sFor I G B) := ⟨ps_for hp hc hi.pi hg.pg hb.pss hs, sem_for hi.sem hg.sem hb.sem⟩
def gstart (N : List Str) (ds : List D) : Gam := ds.map some ++ List.replicate (N.length - ds.length) none
theorem slots_start {K : PySem.W.Frag} {w : Hs} {N : List Str} {vs : List V} {ds : List D} (r : Ra K w vs ds) : Slots K w (L2.start N vs) (gstart N ds) := by
  refine ⟨by simp [L2.start, gstart, r.length], fun i d h => ?_⟩
  unfold gstart at h
  by_cases hi : i < ds.length
  · rw [List.getElem?_append_left (by simpa using hi), List.getElem?_map] at h
    cases q : ds[i]? with
    | none => rw [q] at h; cases h
    | some d' =>
      rw [q] at h; cases h
      obtain ⟨v, h1, h2⟩ := r.get q
      refine ⟨v, ?_, h2⟩
      unfold L2.start
      rw [List.getElem?_append_left (by rw [List.length_map]; exact (List.getElem?_eq_some_iff.mp h1).1), List.getElem?_map, h1] <;> rfl
  · rw [List.getElem?_append_right (by simpa using hi)] at h
    rw [List.getElem?_replicate] at h
    split at h <;> cases h
/-- the wish of a def's body -/
abbrev WD (E : XK) : WX := fun cv dx _ H => E cv dx H
structure JTs (X : Cx) (ifs : List Expr) (t : TT) (T : TB) : Prop where
  pts : PTs X ifs t
  sem : SemT X.K (fun _ _ _ _ => False) t T
def bYes : TB := fun _ S Φ _ => Φ S true
theorem jts_nil : JTs X [] tYes bYes := ⟨pts_nil, fun Γ S Φ Ψ σ w g sl h hx Q q => q true w S (Ext.refl w) g h⟩
theorem jts_one {tt : TT} {C : TB} (h : JT X (fun _ _ _ _ => False) c tt C) : JTs X [c] tt C := ⟨pts_one h.pt, h.sem⟩
/-- [elt for tg in iter if ..]: P by the turn, the cells and what is made so far -/
def dLc (I : TId) (G : TGd) (C : TB) (Te : TD) (vs : List Nat) (Fin : List D → Sto → KD → Prop) : TD := fun Γ S Φ Ψ => I Γ S (fun S1 src => ∃ (P : Nat → List D → Sto → Prop) (n : Nat), n ≤ sizeLine ∧ P 0 [] S1 ∧
  (∀ i acc S', i ≤ n → P i acc S' → ∃ ds, src S' = some ds ∧ ds.length = n) ∧
  (∀ i acc S' ds d, P i acc S' → src S' = some ds → ds[i]? = some d → G d (gwipe Γ vs) S' fun Γ2 S2 => C Γ2 S2 (fun S3 k => if k = true then Te Γ2 S3 (fun S4 y => P (i + 1) (acc ++ [y]) S4) (fun _ _ => False) else P (i + 1) acc S3) (fun _ _ => False)) ∧
  (∀ acc S', P n acc S' → Fin acc S' Φ)) Ψ
def finF : List D → Sto → KD → Prop := fun acc S Φ => Φ S (.lst acc)
def finO : List D → Sto → KD → Prop := fun acc S Φ => Φ (S ++ [.lst acc]) (.own S.length)
def FinOk (Fin : List D → Sto → KD → Prop) : Prop := ∀ (K : PySem.W.Frag) (w : Hs) (S : Sto) (acc : List D) (Φ : KD) (p : Addr) (xs : List V) (Q : V → Hp → Prop), Good K w S → w.H p = some (.lst xs) → w.F p = none → p ∉ w.al → Ra K w xs acc → Fin acc S Φ →
  (∀ v d w' S', (∀ a o, w.F a = some o → w'.F a = some o) → (∀ a o, w'.F a = some o → w.F a = some o ∨ a = p) → (w'.al = w.al ∨ w'.al = w.al ++ [p]) → w'.H = w.H → Good K w' S' → Rv K w' v d → Φ S' d → Q v w'.H) → Q (.ref p) w.H
theorem finF_ok : FinOk finF := by
  intro K w S acc Φ p xs Q g hH hF hA r h q
  let w' : Hs := ⟨upd w.F p (.lst xs), w.al, w.H⟩
  have up : ∀ a o, w.F a = some o → w'.F a = some o := updF hF
  have ra : Ra K w' xs acc := RpA.mono up (fun _ _ z => z) acc xs r
  refine q (.ref p) (.lst acc) w' S up (fun a o e => ?_) (.inl rfl) rfl ⟨fun a o e => ?_, g.nd, g.len, fun n a c q1 q2 => ?_, g.dom⟩ (.lst upd_same ra) h
  · by_cases z : a = p
    · exact .inr z
    · have e2 : upd w.F p (.lst xs) a = some o := e
      rw [upd_ne z] at e2
      exact .inl e2
  · have e2 : upd w.F p (.lst xs) a = some o := e
    by_cases z : a = p
    · subst z; rw [upd_same] at e2; cases e2; exact hH
    · rw [upd_ne z] at e2; exact g.sub a o e2
  · have hne : a ≠ p := fun z => hA (z ▸ List.mem_of_getElem? q1)
    cases c with
    | gone => exact True.intro
    | lst ds =>
      obtain ⟨h1, ys, h2, h3⟩ := g.cell n a _ q1 q2
      exact ⟨by show upd w.F p _ a = none; rw [upd_ne hne]; exact h1, ys, h2, RpA.mono up (fun _ _ z => z) ds ys h3⟩
    | ins C fs =>
      obtain ⟨h1, dx, ys, h2, h3⟩ := g.cell n a _ q1 q2
      exact ⟨by show upd w.F p _ a = none; rw [upd_ne hne]; exact h1, dx, ys, h2, RpF.mono up (fun _ _ z => z) fs ys h3⟩
    | dct ks =>
      obtain ⟨h1, us, h2, h3⟩ := g.cell n a _ q1 q2
      exact ⟨by show upd w.F p _ a = none; rw [upd_ne hne]; exact h1, us, h2, h3.mono up (fun _ _ z => z)⟩
    | dck ks =>
      obtain ⟨h1, us, h2, h3⟩ := g.cell n a _ q1 q2
      exact ⟨by show upd w.F p _ a = none; rw [upd_ne hne]; exact h1, us, h2, RpK.mono up (fun _ _ z => z) ks us h3⟩
    | lck o us ks =>
      obtain ⟨h1, h2, h3⟩ := g.cell n a _ q1 q2
      exact ⟨by show upd w.F p _ a = none; rw [upd_ne hne]; exact h1, h2, RpK.mono up (fun _ _ z => z) ks us h3⟩
    | lct o us ks =>
      obtain ⟨h1, h2, h3⟩ := g.cell n a _ q1 q2
      exact ⟨by show upd w.F p _ a = none; rw [upd_ne hne]; exact h1, h2, h3.mono up (fun _ _ z => z)⟩
    | tpl ks =>
      obtain ⟨h1, h2⟩ := g.cell n a _ q1 q2
      exact ⟨by show upd w.F p _ a = none; rw [upd_ne hne]; exact h1, h2⟩
theorem finO_ok : FinOk finO := by
  intro K w S acc Φ p xs Q g hH hF hA r h q
  let w' : Hs := ⟨w.F, w.al ++ [p], w.H⟩
  have am : ∀ (n : Nat) (a : Addr), w.al[n]? = some a → w'.al[n]? = some a := fun n a z => by
    show (w.al ++ [p])[n]? = some a
    rw [List.getElem?_append_left (List.getElem?_eq_some_iff.mp z).1]; exact z
  have ra : Ra K w' xs acc := RpA.mono (fun _ _ z => z) am acc xs r
  refine q (.ref p) (.own S.length) w' (S ++ [Cell.lst acc]) (fun _ _ z => z) (fun _ _ z => .inl z) (.inr rfl) rfl ⟨g.sub, ?_, ?_, fun n a c q1 q2 => ?_, fun a z => ?_⟩ (.own ?_) h
  · show (w.al ++ [p]).Nodup
    rw [List.nodup_append]
    exact ⟨g.nd, by simp, fun a ha b hb => by rw [List.mem_singleton.mp hb]; exact fun z => hA (z ▸ ha)⟩
  · show (w.al ++ [p]).length = _
    rw [List.length_append, List.length_append, g.len] <;> rfl
  · have q1 : (w.al ++ [p])[n]? = some a := q1
    by_cases hn : n < w.al.length
    · rw [List.getElem?_append_left hn] at q1
      rw [List.getElem?_append_left (by rw [← g.len]; exact hn)] at q2
      cases c with
      | gone => exact True.intro
      | lst ds =>
        obtain ⟨h1, ys, h2, h3⟩ := g.cell n a _ q1 q2
        exact ⟨h1, ys, h2, RpA.mono (fun _ _ z => z) am ds ys h3⟩
      | ins C fs =>
        obtain ⟨h1, dx, ys, h2, h3⟩ := g.cell n a _ q1 q2
        exact ⟨h1, dx, ys, h2, RpF.mono (fun _ _ z => z) am fs ys h3⟩
      | dct ks =>
        obtain ⟨h1, us, h2, h3⟩ := g.cell n a _ q1 q2
        exact ⟨h1, us, h2, h3.mono (fun _ _ z => z) am⟩
      | dck ks =>
        obtain ⟨h1, us, h2, h3⟩ := g.cell n a _ q1 q2
        exact ⟨h1, us, h2, RpK.mono (fun _ _ z => z) am ks us h3⟩
      | lck o us ks =>
        obtain ⟨h1, h2, h3⟩ := g.cell n a _ q1 q2
        exact ⟨h1, h2, RpK.mono (fun _ _ z => z) am ks us h3⟩
      | lct o us ks =>
        obtain ⟨h1, h2, h3⟩ := g.cell n a _ q1 q2
        exact ⟨h1, h2, h3.mono (fun _ _ z => z) am⟩
      | tpl ks => exact g.cell n a _ q1 q2
    · have hn2 : n = w.al.length := by
        have := (List.getElem?_eq_some_iff.mp q1).1
        rw [List.length_append] at this
        have h1 : [p].length = 1 := rfl
        omega
      subst hn2
      rw [List.getElem?_append_right (Nat.le_refl _), Nat.sub_self] at q1
      rw [List.getElem?_append_right (by rw [g.len]; exact Nat.le_refl _), g.len, Nat.sub_self] at q2
      have e1 : p = a := Option.some.inj q1
      have e2 : Cell.lst acc = c := Option.some.inj q2
      subst e1; subst e2
      exact ⟨hF, xs, hH, ra⟩
  · have z : a ∈ w.al ++ [p] := z
    rcases List.mem_append.mp z with z | z
    · exact g.dom a z
    · rw [List.mem_singleton.mp z, hH]; exact fun z => nomatch z
  · show (w.al ++ [p])[S.length]? = some p
    rw [← g.len, List.getElem?_append_right (Nat.le_refl _), Nat.sub_self] <;> rfl
theorem wipe_set {σ : L2.St} : ∀ {vs : List Nat} {i : Nat} {o : Option V}, i ∈ vs → L2.wipe (σ.set i o) vs = L2.wipe σ vs
  | [], _, _, h => nomatch h
  | v :: vs, i, o, h => by
    by_cases hv : i ∈ vs
    · show (L2.wipe (σ.set i o) vs).set v none = (L2.wipe σ vs).set v none
      rw [wipe_set hv]
    · have e : i = v := by
        rcases List.mem_cons.mp h with z | z
        · exact z
        · exact absurd z hv
      subst e
      have out : ∀ (us : List Nat) (G : L2.St), i ∉ us → L2.wipe (G.set i o) us = (L2.wipe G us).set i o := by
        intro us
        induction us with
        | nil => intro G _; rfl
        | cons u us ih =>
          intro G hn
          have h1 : i ≠ u := fun z => hn (by rw [z]; exact List.mem_cons_self)
          have h2 : i ∉ us := fun z => hn (List.mem_cons_of_mem _ z)
          show (L2.wipe (G.set i o) us).set u none = ((L2.wipe G us).set u none).set i o
          rw [ih G h2, List.set_comm _ _ h1]
      show (L2.wipe (σ.set i o) vs).set i none = (L2.wipe σ vs).set i none
      rw [out vs σ hv, List.set_set]
theorem wipe_wipe (σ : L2.St) : ∀ (vs us : List Nat), (∀ v ∈ us, v ∈ vs) → L2.wipe (L2.wipe σ us) vs = L2.wipe σ vs
  | vs, [], _ => rfl
  | vs, u :: us, h => by
    show L2.wipe ((L2.wipe σ us).set u none) vs = L2.wipe σ vs
    rw [wipe_set (h u List.mem_cons_self)]
    exact wipe_wipe σ vs us fun v hv => h v (List.mem_cons_of_mem _ hv)
/-- a target that stores in the slots vs alone -/
structure GK (vs : List Nat) (g : TG) : Prop where
  keep : ∀ x σ H k, g x σ H k → g x σ H fun σ2 H2 => L2.wipe σ2 vs = L2.wipe σ vs ∧ k σ2 H2
structure GKs (vs : List Nat) (g : TGs) : Prop where
  keep : ∀ x σ H k, g x σ H k → g x σ H fun σ2 H2 => L2.wipe σ2 vs = L2.wipe σ vs ∧ k σ2 H2
  mono : ∀ x σ H (k k' : L2.St → Hp → Prop), (∀ σ H, k σ H → k' σ H) → g x σ H k → g x σ H k'
theorem gk_name {vs : List Nat} {i : Nat} (h : i ∈ vs := by decide) : GK vs (gName i) := ⟨fun x σ H k q => ⟨wipe_set h, q⟩⟩
theorem gks_nil {vs : List Nat} : GKs vs gNil := ⟨fun x σ H k ⟨e, q⟩ => ⟨e, rfl, q⟩, fun x σ H k k' h ⟨e, q⟩ => ⟨e, h _ _ q⟩⟩
theorem gks_name {vs : List Nat} {i : Nat} {u : TGs} (h2 : GKs vs u) (h : i ∈ vs := by decide) : GKs vs (gCons (gName i) u) :=
  ⟨fun x σ H k ⟨v, r, e, q⟩ => ⟨v, r, e, h2.mono _ _ _ _ _ (fun σ2 H2 ⟨z, y⟩ => ⟨z.trans (wipe_set h), y⟩) (h2.keep _ _ _ _ q)⟩, fun x σ H k k' hh ⟨v, r, e, q⟩ => ⟨v, r, e, h2.mono _ _ _ _ _ hh q⟩⟩
theorem gk_tup {vs : List Nat} {K : PySem.W.Frag} {n : Nat} {u : TGs} (h : GKs vs u) : GK vs (gTup K n u) := ⟨fun x σ H k ⟨a, xs, e, q, l, z⟩ => ⟨a, xs, e, q, l, h.keep _ _ _ _ z⟩⟩
/-- the world with a list in the making at p -/
def Hs.at (w : Hs) (p : Addr) (o : HO) : Hs := ⟨w.F, w.al, upd w.H p o⟩
theorem Good.at {K : PySem.W.Frag} {w : Hs} {S : Sto} (g : Good K w S) {p : Addr} (o : HO) (hF : w.F p = none) (hA : p ∉ w.al) : Good K (w.at p o) S := by
  refine ⟨fun a x q => ?_, g.nd, g.len, fun n a c q1 q2 => ?_, fun a q => ?_⟩
  · show upd w.H p o a = some x
    rw [upd_ne (ne_of_none q hF)]; exact g.sub a x q
  · have hne : a ≠ p := fun z => hA (z ▸ List.mem_of_getElem? q1)
    cases c with
    | gone => exact True.intro
    | lst ds =>
      obtain ⟨h1, ys, h2, h3⟩ := g.cell n a _ q1 q2
      exact ⟨h1, ys, by show upd w.H p o a = _; rw [upd_ne hne]; exact h2, h3⟩
    | ins C fs =>
      obtain ⟨h1, dx, ys, h2, h3⟩ := g.cell n a _ q1 q2
      exact ⟨h1, dx, ys, by show upd w.H p o a = _; rw [upd_ne hne]; exact h2, h3⟩
    | dct ks =>
      obtain ⟨h1, us, h2, h3⟩ := g.cell n a _ q1 q2
      exact ⟨h1, us, by show upd w.H p o a = _; rw [upd_ne hne]; exact h2, h3⟩
    | dck ks =>
      obtain ⟨h1, us, h2, h3⟩ := g.cell n a _ q1 q2
      exact ⟨h1, us, by show upd w.H p o a = _; rw [upd_ne hne]; exact h2, h3⟩
    | lck o' us ks =>
      obtain ⟨h1, h2, h3⟩ := g.cell n a _ q1 q2
      exact ⟨h1, by show upd w.H p o a = _; rw [upd_ne hne]; exact h2, h3⟩
    | lct o' us ks =>
      obtain ⟨h1, h2, h3⟩ := g.cell n a _ q1 q2
      exact ⟨h1, by show upd w.H p o a = _; rw [upd_ne hne]; exact h2, h3⟩
    | tpl ks =>
      obtain ⟨h1, h2⟩ := g.cell n a _ q1 q2
      exact ⟨h1, by show upd w.H p o a = _; rw [upd_ne hne]; exact h2⟩
  · show upd w.H p o a ≠ none
    by_cases z : a = p
    · rw [z, upd_same]; exact fun z => nomatch z
    · rw [upd_ne z]; exact g.dom a q
theorem Ext.at {w0 w : Hs} (e : Ext w0 w) {p : Addr} (o : HO) (h0 : w0.H p = none) : Ext w0 (w.at p o) := by
  refine ⟨e.f, e.al, e.new, fun a x q n => ?_, fun a q => ?_⟩
  · show upd w.H p o a = some x
    rw [upd_ne (ne_of_none q h0)]; exact e.kp a x q n
  · show upd w.H p o a ≠ none
    by_cases z : a = p
    · rw [z, upd_same]; exact fun z => nomatch z
    · rw [upd_ne z]; exact e.dm a q
/-- an address that is neither frozen nor a cell stays so -/
theorem Ext.hid {w w' : Hs} (e : Ext w w') {p : Addr} {o : HO} (hH : w.H p = some o) (hF : w.F p = none) (hA : p ∉ w.al) (ht : ∀ xs, o ≠ HO.tup xs := by intro _ z; first | cases z | exact HO.noConfusion z) : w'.H p = some o ∧ w'.F p = none ∧ p ∉ w'.al := by
  refine ⟨e.kp p o hH hA, ?_, fun z => ?_⟩
  · cases q : w'.F p with
    | none => rfl
    | some x =>
      rcases e.new p x q with z | z | z | ⟨z, xs, ex⟩
      · rw [hF] at z; cases z
      · rw [hH] at z; cases z
      · exact absurd z hA
      · rw [hH] at z
        exact absurd ((Option.some.inj z).trans ex) (ht xs)
  · rcases e.old z with y | y
    · exact hA y
    · rw [hH] at y; cases y
theorem sem_lc {K : PySem.W.Frag} {wi : TI} {g : TG} {tt : TT} {te : TE} {I : TId} {G : TGd} {C : TB} {Te : TD} {vs : List Nat} {Fin : List D → Sto → KD → Prop} (hi : SemI K W wi I) (hg : SemG K g G) (hk : GK vs g) (ht : SemT K (fun _ _ _ _ => False) tt C) (he : SemE K (fun _ _ _ _ => False) te Te) (hf : FinOk Fin) :
    SemE K W (tLc wi g tt te vs) (dLc I G C Te vs Fin) := fun Γ S Φ Ψ σ w g0 sl h hx Q q =>
  hi Γ S _ _ σ w g0 sl h hx _ fun J src w1 S1 e1 g1 ok ⟨P, n, hn, h0, hl, hs, hd⟩ => fun p hp => by
    have hF1 := g1.notF hp
    have hA1 := g1.notA hp
    refine ⟨fun i m H' => m + i = n ∧ ∃ w' S' acc accV, H' = w'.H ∧ Ext w1 w' ∧ Good K w' S' ∧ w'.F p = none ∧ p ∉ w'.al ∧ w'.H p = some (.lst accV) ∧ Ra K w' accV acc ∧ P i acc S' ∧ acc.length ≤ i,
      ⟨n, by omega, w1.at p (.lst []), S1, [], [], rfl, (Ext.refl w1).at _ hp, g1.at _ hF1 hA1, hF1, hA1, upd_same, .nil, h0, Nat.le_refl _⟩, ?_⟩
    rintro i m H' ⟨hm, w', S', acc, accV, rfl, e', g', hF, hA, hH, hr, pp, hlen⟩
    obtain ⟨ds, hsrc, hlenD⟩ := hl i acc S' (by omega) pp
    have qq := ok w' S' ds i e' g' hsrc
    by_cases hlt : i < n
    · have hx' : ds[i]? = some ds[i] := List.getElem?_eq_getElem (by omega)
      obtain ⟨hgo, hy⟩ := qq.1 _ hx'
      refine .inr ⟨hgo, fun H2 => ∃ w2 S2 acc2 accV2, H2 = w2.H ∧ Ext w1 w2 ∧ Good K w2 S2 ∧ w2.F p = none ∧ p ∉ w2.al ∧ w2.H p = some (.lst accV2) ∧ Ra K w2 accV2 acc2 ∧ P (i + 1) acc2 S2 ∧ acc2.length ≤ i + 1, ?_, ?_⟩
      · rintro H2 ⟨w2, S2, acc2, accV2, r⟩
        exact ⟨m - 1, by omega, by omega, w2, S2, acc2, accV2, r⟩
      · intro x H2 hyl
        obtain ⟨w2, e2, g2, rfl, r2⟩ := hy x H2 hyl
        have sl2 : Slots K w2 (L2.wipe σ vs) (gwipe Γ vs) := (sl.ext ((e1.trans e').trans e2)).wipe vs
        have s1 := hk.keep x (L2.wipe σ vs) w2.H _ (hg _ (gwipe Γ vs) S' x (L2.wipe σ vs) w2 _ (fun σ2 H2 => tt σ2 H2 fun b H3 => if b = true then te σ2 H3 fun y H4 => ∃ acc, H4 p = some (.lst acc) ∧ acc.length < sizeLine ∧ (∃ w2 S2 acc2 accV2, upd H4 p (.lst (acc ++ [y])) = w2.H ∧ Ext w1 w2 ∧ Good K w2 S2 ∧ w2.F p = none ∧ p ∉ w2.al ∧ w2.H p = some (.lst accV2) ∧ Ra K w2 accV2 acc2 ∧ P (i + 1) acc2 S2 ∧ acc2.length ≤ i + 1)
          else ∃ w2 S2 acc2 accV2, H3 = w2.H ∧ Ext w1 w2 ∧ Good K w2 S2 ∧ w2.F p = none ∧ p ∉ w2.al ∧ w2.H p = some (.lst accV2) ∧ Ra K w2 accV2 acc2 ∧ P (i + 1) acc2 S2 ∧ acc2.length ≤ i + 1) g2 sl2 r2 (hs i acc S' ds _ pp hsrc hx') fun σ3 Γ3 w3 S3 e3 g3 sl3 h3 => ?_)
        · rw [wipe_wipe σ vs vs fun _ z => z] at s1
          exact s1
        · have e23 := e2.trans e3
          refine ht Γ3 S3 _ _ σ3 w3 g3 sl3 h3 (fun _ _ _ _ _ _ _ _ z => z) _ fun b w4 S4 e4 g4 h4 => ?_
          have e24 := e23.trans e4
          have ee4 := e'.trans e24
          obtain ⟨hH4, hF4, hA4⟩ := e24.hid hH hF hA
          cases b with
          | false => exact ⟨w4, S4, acc, accV, rfl, ee4, g4, hF4, hA4, hH4, e24.ra hr, h4, by omega⟩
          | true =>
            refine he Γ3 S4 _ _ σ3 w4 g4 (sl3.ext e4) h4 (fun _ _ _ _ _ _ _ _ z => z) _ fun y dy w5 S5 e5 g5 r5 h5 => ?_
            have e25 := e24.trans e5
            have ee5 := e'.trans e25
            obtain ⟨hH5, hF5, hA5⟩ := e25.hid hH hF hA
            refine ⟨accV, hH5, by rw [hr.length]; omega, w5.at p (.lst (accV ++ [y])), S5, acc ++ [dy], accV ++ [y], rfl, ee5.at _ hp, g5.at _ hF5 hA5, hF5, hA5, upd_same, RpA.append (e25.ra hr) (.cons r5 .nil), h5, by rw [List.length_append]; show acc.length + 1 ≤ i + 1; omega⟩
    · have hin : i = n := by omega
      subst hin
      refine .inl ⟨qq.2 (by omega), ?_⟩
      refine hf K w' S' acc Φ p accV (fun v H => Q v H) g' hH hF hA hr (hd acc S' pp) fun v d w2 S2 hF2 hN2 hal hHH g2 r2 h2 => q v d w2 S2 (e1.trans ?_) g2 r2 h2
      refine ⟨fun a o z => hF2 a o (e'.f a o z), ?_, fun a o z => ?_, fun a o z nz => by rw [hHH]; exact e'.kp a o z nz, fun a z => by rw [hHH]; exact e'.dm a z⟩
      · obtain ⟨β, eb, hb⟩ := e'.al
        rcases hal with z | z
        · exact ⟨β, by rw [z, eb], hb⟩
        · refine ⟨β ++ [p], by rw [z, eb, List.append_assoc], fun b hbm => ?_⟩
          rcases List.mem_append.mp hbm with y | y
          · exact hb b y
          · rw [List.mem_singleton.mp y]; exact hp
      · rcases hN2 a o z with y | y
        · exact e'.new a o y
        · subst y; exact .inr (.inl hp)
abbrev Bk (α : Type) := Shared → Hp → Addr → List (Str × Addr) → List Addr → α
theorem je_lc {elt tg iter : Expr} {ifs : List Expr} {scope : Scope} {own : List (Str × Nat)} {wi : TI} {g : Bk TG} {tt : Bk TT} {te : Bk TE} {I : TId} {G : TGd} {C : TB} {Te : TD} (Fin : List D → Sto → KD → Prop) (hf : FinOk Fin) (hc : X.calm = true) (hN : X.N.Nodup) (hi : JI X W tg iter wi I) (ok : BlkOk X.N X.env.scope scope own)
    (hg : ∀ (s : Shared) (H : Hp) (C : Addr) (cl : List (Str × Addr)) (fp : List Addr), JG (X.blk s H scope (compEnvC scope cl C X.env) fp) tg (g s H C cl fp) G) (hk : GK (own.map (·.2)) (g {} (fun _ => none) 0 [] [])) (ht : ∀ (s : Shared) (H : Hp) (C' : Addr) (cl : List (Str × Addr)) (fp : List Addr), JTs (X.blk s H scope (compEnvC scope cl C' X.env) fp) ifs (tt s H C' cl fp) C)
    (he : ∀ (s : Shared) (H : Hp) (C : Addr) (cl : List (Str × Addr)) (fp : List Addr), JE (X.blk s H scope (compEnvC scope cl C X.env) fp) (fun _ _ _ _ => False) elt (te s H C cl fp) Te) (hs : ∀ x, foldedSetIterable iter X.env x = pure x := by intro _; rfl)
    (eg : ∀ s H C cl fp, g s H C cl fp = g {} (fun _ => none) 0 [] [] := by intros; rfl) (et : ∀ s H C cl fp, tt s H C cl fp = tt {} (fun _ => none) 0 [] [] := by intros; rfl) (ee : ∀ s H C cl fp, te s H C cl fp = te {} (fun _ => none) 0 [] [] := by intros; rfl) :
    JE X W (.ListComp elt [⟨tg, iter, ifs, 0⟩] scope pos) (tLc wi (g {} (fun _ => none) 0 [] []) (tt {} (fun _ => none) 0 [] []) (te {} (fun _ => none) 0 [] []) (own.map (·.2))) (dLc I G C Te (own.map (·.2)) Fin) :=
  ⟨pe_lc hc hN hi.pi ok (fun s H C cl fp => eg s H C cl fp ▸ (hg s H C cl fp).pg) (fun s H C cl fp => et s H C cl fp ▸ (ht s H C cl fp).pts) (fun s H C cl fp => ee s H C cl fp ▸ (he s H C cl fp).pe) hs,
    sem_lc hi.sem (hg {} (fun _ => none) 0 [] []).sem hk (ht {} (fun _ => none) 0 [] []).sem (he {} (fun _ => none) 0 [] []).sem hf⟩
theorem js_setLc (i : Nat) {y : Str} {py spos : Pos} {elt tg iter : Expr} {ifs : List Expr} {scope : Scope} {own : List (Str × Nat)} {wi : TI} {g : Bk TG} {tt : Bk TT} {te : Bk TE} {I : TId} {G : TGd} {C : TB} {Te : TD} (Fin : List D → Sto → KD → Prop) (hf : FinOk Fin) (hc : X.calm = true) (hN : X.N.Nodup) (hi : JI X W tg iter wi I) (ok : BlkOk X.N X.env.scope scope own)
    (hg : ∀ (s : Shared) (H : Hp) (C : Addr) (cl : List (Str × Addr)) (fp : List Addr), JG (X.blk s H scope (compEnvC scope cl C X.env) fp) tg (g s H C cl fp) G) (hk : GK (own.map (·.2)) (g {} (fun _ => none) 0 [] [])) (ht : ∀ (s : Shared) (H : Hp) (C' : Addr) (cl : List (Str × Addr)) (fp : List Addr), JTs (X.blk s H scope (compEnvC scope cl C' X.env) fp) ifs (tt s H C' cl fp) C)
    (he : ∀ (s : Shared) (H : Hp) (C : Addr) (cl : List (Str × Addr)) (fp : List Addr), JE (X.blk s H scope (compEnvC scope cl C X.env) fp) (fun _ _ _ _ => False) elt (te s H C cl fp) Te)
    (hy : X.N[i]? = some y := by rfl) (hyl : X.env.scope.names.lookup y = some .local := by rfl)
    (hsw : swapsWith (.ListComp elt [⟨tg, iter, ifs, 0⟩] scope pos) (some (.Name y py)) spos.line X.env = pure true := by exact sw_true rfl rfl rfl (by decide +kernel)) (hs : ∀ x, foldedSetIterable iter X.env x = pure x := by intro _; rfl)
    (eg : ∀ s H C cl fp, g s H C cl fp = g {} (fun _ => none) 0 [] [] := by intros; rfl) (et : ∀ s H C cl fp, tt s H C cl fp = tt {} (fun _ => none) 0 [] [] := by intros; rfl) (ee : ∀ s H C cl fp, te s H C cl fp = te {} (fun _ => none) 0 [] [] := by intros; rfl) :
    JS X W (.Assign [.Name y py] (.ListComp elt [⟨tg, iter, ifs, 0⟩] scope pos) spos) (tAsg (tLc wi (g {} (fun _ => none) 0 [] []) (tt {} (fun _ => none) 0 [] []) (te {} (fun _ => none) 0 [] []) (own.map (·.2))) (gName i)) (sAsg (dLc I G C Te (own.map (·.2)) Fin) (nmG i)) :=
  ⟨ps_setLc hc hN hy hyl hsw hi.pi ok (fun s H C cl fp => eg s H C cl fp ▸ (hg s H C cl fp).pg) (fun s H C cl fp => et s H C cl fp ▸ (ht s H C cl fp).pts) (fun s H C cl fp => ee s H C cl fp ▸ (he s H C cl fp).pe) hs,
    sem_asg (sem_lc hi.sem (hg {} (fun _ => none) 0 [] []).sem hk (ht {} (fun _ => none) 0 [] []).sem (he {} (fun _ => none) 0 [] []).sem hf) (sem_nmG i)⟩
end
end DL
namespace DL
open PySem PySem.Spec PyProof.Rows L2
/-- the items of a list; of any list that may be read -/
def asL (S : Sto) : D → Option (List D)
  | .lst ds => some ds
  | .own h => match S[h]? with
    | some (.lst ds) => some ds
    | _ => none
  | _ => none
def asQ (S : Sto) : D → Option (List D)
  | .lst ds => some ds
  | .sq ds => some ds
  | .own h => match S[h]? with
    | some (.lst ds) => some ds
    | _ => none
  | _ => none
section
variable {K : PySem.W.Frag} {w : Hs} {S : Sto}
theorem asL_own {h : Nat} {ds : List D} (e : asL S (.own h) = some ds) : S[h]? = some (.lst ds) := by
  have e2 : (match S[h]? with
    | some (.lst ds) => some ds
    | _ => none) = some ds := e
  cases q : S[h]? with
  | none => rw [q] at e2; cases e2
  | some c =>
    rw [q] at e2
    cases c with
    | lst es => rw [Option.some.inj e2]
    | ins _ _ => cases e2
    | dct _ => cases e2
    | dck _ => cases e2
    | lck _ _ _ => cases e2
    | lct _ _ _ => cases e2
    | tpl _ => cases e2
    | gone => cases e2
theorem own_at (g : Good K w S) {h : Nat} {v : V} {ds : List D} (r : Rv K w v (.own h)) (e : S[h]? = some (.lst ds)) : ∃ a xs, v = .ref a ∧ w.al[h]? = some a ∧ w.H a = some (.lst xs) ∧ Ra K w xs ds := by
  cases r with
  | @own h a q =>
    obtain ⟨_, xs, h2, h3⟩ := g.cell h a _ q e
    exact ⟨a, xs, rfl, q, h2, h3⟩
theorem asL_at (g : Good K w S) {v : V} {d : D} {ds : List D} (r : Rv K w v d) (e : asL S d = some ds) : ∃ a xs, v = .ref a ∧ w.H a = some (.lst xs) ∧ Ra K w xs ds := by
  cases d with
  | lst es =>
    have e2 : es = ds := Option.some.inj e
    subst e2
    cases r with
    | lst h1 h2 => exact ⟨_, _, rfl, g.sub _ _ h1, h2⟩
  | own h =>
    obtain ⟨a, xs, h1, _, h2, h3⟩ := own_at g r (asL_own e)
    exact ⟨a, xs, h1, h2, h3⟩
  | _ => cases e
theorem asQ_at (g : Good K w S) {v : V} {d : D} {ds : List D} (r : Rv K w v d) (e : asQ S d = some ds) : ∃ a xs, v = .ref a ∧ SqL K w.H a xs ∧ Ra K w xs ds := by
  cases d with
  | sq es =>
    have e2 : es = ds := Option.some.inj e
    subst e2
    cases r with
    | sq h1 h2 => exact ⟨_, _, rfl, sameSql g.sub h1, h2⟩
  | lst es =>
    obtain ⟨a, xs, h1, h2, h3⟩ := asL_at g (ds := ds) r e
    exact ⟨a, xs, h1, .inl (.inl h2), h3⟩
  | own h =>
    obtain ⟨a, xs, h1, h2, h3⟩ := asL_at g (ds := ds) r e
    exact ⟨a, xs, h1, .inl (.inl h2), h3⟩
  | _ => cases e
theorem ra_ints : ∀ {xs : List V} {ns : List Int}, Ra K w xs (ns.map D.int) → xs = ns.map V.int
  | _, [], h => by cases h; rfl
  | _, n :: ns, h => by
    cases h with
    | cons h1 h2 => rw [rv_int h1, ra_ints h2]; rfl
theorem ra_bls : ∀ {xs : List V} {ns : List Bool}, Ra K w xs (ns.map D.bl) → xs = ns.map V.bl
  | _, [], h => by cases h; rfl
  | _, n :: ns, h => by
    cases h with
    | cons h1 h2 => rw [rv_bl h1, ra_bls h2]; rfl
end
def iOp (C : Int → Int → Prop) (g : Int → Int → D) (x y : D) (S : Sto) (Φ : KD) : Prop := match x, y with
  | .int i, .int j => C i j ∧ Φ S (g i j)
  | _, _ => False
theorem opd_i {K : PySem.W.Frag} {C : Int → Int → Prop} {g : Int → Int → D} {gv : Int → Int → V} (hg : ∀ i j (w : Hs), Rv K w (gv i j) (g i j)) : OpD K (rI C gv) (iOp C g) := fun w S x y u v Φ Q g0 r1 r2 h q => by
  cases u with
  | int i =>
    cases v with
    | int j => exact ⟨i, j, rv_int r1, rv_int r2, h.1, q _ _ w S (Ext.refl w) g0 (hg i j w) h.2⟩
    | _ => exact h.elim
  | _ => cases v <;> exact h.elim
def iOp0 (g : Int → Int → D) (x y : D) (S : Sto) (Φ : KD) : Prop := match x, y with
  | .int i, .int j => Φ S (g i j)
  | _, _ => False
theorem opd_i0 {K : PySem.W.Frag} {g : Int → Int → D} {gv : Int → Int → V} (hg : ∀ i j (w : Hs), Rv K w (gv i j) (g i j)) : OpD K (rI0 gv) (iOp0 g) := fun w S x y u v Φ Q g0 r1 r2 h q => by
  cases u with
  | int i =>
    cases v with
    | int j => exact ⟨i, j, rv_int r1, rv_int r2, q _ _ w S (Ext.refl w) g0 (hg i j w) h⟩
    | _ => exact h.elim
  | _ => cases v <;> exact h.elim
/-- + of ints, texts, lists -/
def dAdd (x y : D) (S : Sto) (Φ : KD) : Prop := match x, y with
  | .int i, .int j => Φ S (.int (i + j))
  | .str a, .str b => a.length + b.length ≤ sizeLine ∧ Φ S (.str (a ++ b))
  | x, y => ∃ xs ys, asL S x = some xs ∧ asL S y = some ys ∧ xs.length + ys.length ≤ sizeLine ∧ Φ S (.lst (xs ++ ys))
def rAddA : R2 := fun x y H Q => rI0 (fun i j => .int (i + j)) x y H Q ∨ (∃ i j, x = .str i ∧ y = .str j ∧ i.length + j.length ≤ sizeLine ∧ Q (.str (i ++ j)) H) ∨ rCat x y H Q
theorem op_addA {X : Cx} : OpR X (binaryOp .Add) rAddA := op_add.or (op_add_str.or op_cat)
theorem add_seq {K : PySem.W.Frag} {w : Hs} {S : Sto} {x y : V} {u v : D} {Φ : KD} {Q : VK} (g : Good K w S) (r1 : Rv K w x u) (r2 : Rv K w y v) (h : ∃ xs ys, asL S u = some xs ∧ asL S v = some ys ∧ xs.length + ys.length ≤ sizeLine ∧ Φ S (.lst (xs ++ ys))) (q : OkD K w Φ Q) : rAddA x y w.H Q := by
  obtain ⟨xs, ys, e1, e2, hl, hΦ⟩ := h
  obtain ⟨a, us, rfl, h1, h2⟩ := asL_at g r1 e1
  obtain ⟨b, vs, rfl, h3, h4⟩ := asL_at g r2 e2
  exact .inr (.inr ⟨a, b, us, vs, rfl, rfl, h1, h3, by rw [h2.length, h4.length]; exact hl, new_lst g q (h2.append h4) hΦ⟩)
theorem opd_add {K : PySem.W.Frag} : OpD K rAddA dAdd := fun w S x y u v Φ Q g r1 r2 h q => by
  cases u with
  | int i =>
    cases v with
    | int j => exact .inl ⟨i, j, rv_int r1, rv_int r2, q _ _ w S (Ext.refl w) g (.int _) h⟩
    | _ => exact add_seq g r1 r2 h q
  | str i =>
    cases v with
    | str j => exact .inr (.inl ⟨i, j, rv_str r1, rv_str r2, h.1, q _ _ w S (Ext.refl w) g (.str _) h.2⟩)
    | _ => exact add_seq g r1 r2 h q
  | _ => cases v <;> exact add_seq g r1 r2 h q
/-- * of ints, a list by an int -/
def CMulA (i j : Int) : Prop := CMul i j ∨ CMulW i j
def dMul (x y : D) (S : Sto) (Φ : KD) : Prop := match x, y with
  | .int i, .int j => CMulA i j ∧ Φ S (.int (i * j))
  | x, .int k => ∃ xs, asL S x = some xs ∧ -(2 ^ 63) ≤ k ∧ k < 2 ^ 63 ∧ xs.length * k.toNat ≤ sizeLine ∧ Φ S (.lst ((List.replicate k.toNat xs).flatten))
  | _, _ => False
def rMulA : R2 := fun x y H Q => rI CMul (fun i j => .int (i * j)) x y H Q ∨ rI CMulW (fun i j => .int (i * j)) x y H Q ∨ rRep x y H Q
theorem op_mulA {X : Cx} : OpR X (binaryOp .Mult) rMulA := op_mul.or (op_mulW.or op_rep)
theorem ra_rep {K : PySem.W.Frag} {w : Hs} {vs : List V} {ds : List D} (r : Ra K w vs ds) : ∀ k : Nat, Ra K w (List.replicate k vs).flatten (List.replicate k ds).flatten
  | 0 => .nil
  | k + 1 => by
    rw [List.replicate_succ, List.replicate_succ, List.flatten_cons, List.flatten_cons]
    exact r.append (ra_rep r k)
theorem mul_seq {K : PySem.W.Frag} {w : Hs} {S : Sto} {x y : V} {u : D} {k : Int} {Φ : KD} {Q : VK} (g : Good K w S) (r1 : Rv K w x u) (r2 : Rv K w y (.int k)) (h : ∃ xs, asL S u = some xs ∧ -(2 ^ 63) ≤ k ∧ k < 2 ^ 63 ∧ xs.length * k.toNat ≤ sizeLine ∧ Φ S (.lst ((List.replicate k.toNat xs).flatten))) (q : OkD K w Φ Q) : rMulA x y w.H Q := by
  obtain ⟨xs, e1, hl1, hl2, hl3, hΦ⟩ := h
  obtain ⟨a, us, rfl, h1, h2⟩ := asL_at g r1 e1
  exact .inr (.inr ⟨a, k, us, rfl, rv_int r2, h1, hl1, hl2, by rw [h2.length]; exact hl3, new_lst g q (ra_rep h2 _) hΦ⟩)
theorem opd_mul {K : PySem.W.Frag} : OpD K rMulA dMul := fun w S x y u v Φ Q g r1 r2 h q => by
  cases v with
  | int j =>
    cases u with
    | int i =>
      have q2 := q (.int (i * j)) (.int (i * j)) w S (Ext.refl w) g (.int _) h.2
      rcases h.1 with c | c
      · exact .inl ⟨i, j, rv_int r1, rv_int r2, c, q2⟩
      · exact .inr (.inl ⟨i, j, rv_int r1, rv_int r2, c, q2⟩)
    | _ => exact mul_seq g r1 r2 h q
  | _ => cases u <;> exact h.elim
def dSub := iOp0 fun i j => .int (i - j)
theorem opd_sub {K : PySem.W.Frag} : OpD K (rI0 fun i j => .int (i - j)) dSub := opd_i0 fun _ _ _ => .int _
def dMod := iOp (fun _ j => 0 < j) fun i j => .int (i % j)
theorem opd_mod {K : PySem.W.Frag} : OpD K (rI (fun _ j => 0 < j) fun i j => .int (i % j)) dMod := opd_i fun _ _ _ => .int _
def dDiv := iOp CDivW fun i j => .int (i / j)
theorem opd_div {K : PySem.W.Frag} : OpD K (rI CDivW fun i j => .int (i / j)) dDiv := opd_i fun _ _ _ => .int _
/-- ** of an int of a few thousand bits by a small one -/
def CPowW (i j : Int) : Prop := 0 ≤ j ∧ j ≤ 1000 ∧ i.natAbs < 2 ^ 100000
theorem op_powW {X : Cx} : OpR X (binaryOp .Pow) (rI CPowW fun i j => .int (i ^ j.toNat)) := opI fun i j _ _ _ _ _ hc q => by
  obtain ⟨h0, h1, h2⟩ := hc
  refine PyProof.Rows.pow_int h0 ?_ q
  have b : Builtin.Int.intBits i ≤ 100000 := by
    unfold Builtin.Int.intBits
    split
    · omega
    · have := PySem.Flt.log2_lt_of (by decide : 0 < 100000) h2
      omega
  have e : (2 : Int) ^ 27 = 134217728 := by decide
  rw [e]
  have h3 : (Builtin.Int.intBits i : Int) ≤ 100000 := by omega
  have h4 : (Builtin.Int.intBits i : Int) * j ≤ 100000 * 1000 := Int.mul_le_mul h3 h1 h0 (by decide)
  omega
def dPow := iOp CPowW fun i j => .int (i ^ j.toNat)
theorem opd_pow {K : PySem.W.Frag} : OpD K (rI CPowW fun i j => .int (i ^ j.toNat)) dPow := opd_i fun _ _ _ => .int _
def dLt := iOp0 fun i j => .bl (decide (i < j))
def dLe := iOp0 fun i j => .bl (decide (i ≤ j))
def dGt := iOp0 fun i j => .bl (decide (j < i))
def dGe := iOp0 fun i j => .bl (decide (j ≤ i))
theorem opd_lt {K : PySem.W.Frag} : OpD K (rI0 fun i j => .bl (decide (i < j))) dLt := opd_i0 fun _ _ _ => .bl _
theorem opd_le {K : PySem.W.Frag} : OpD K (rI0 fun i j => .bl (decide (i ≤ j))) dLe := opd_i0 fun _ _ _ => .bl _
theorem opd_gt {K : PySem.W.Frag} : OpD K (rI0 fun i j => .bl (decide (j < i))) dGt := opd_i0 fun _ _ _ => .bl _
theorem opd_ge {K : PySem.W.Frag} : OpD K (rI0 fun i j => .bl (decide (j ≤ i))) dGe := opd_i0 fun _ _ _ => .bl _
def uNeg (x : D) (S : Sto) (Φ : KD) : Prop := match x with
  | .int i => Φ S (.int (-i))
  | _ => False
def dUn (f : D → Sto → KD → Prop) (T : TD) : TD := fun Γ S Φ Ψ => T Γ S (fun S1 d => f d S1 Φ) Ψ
theorem je_neg {X : Cx} {W : WX} {a : Expr} {pos : Pos} {ta : TE} {Ta : TD} (ha : JE X W a ta Ta) : JE X W (.UnaryOp .USub a pos) (tUn (rU fun i => .int (-i)) ta) (dUn uNeg Ta) := ⟨pe_un un_neg ha.pe, fun Γ S Φ Ψ σ w g sl h hx Q q =>
  ha.sem Γ S _ Ψ σ w g sl h hx _ fun v d w1 S1 e1 g1 r1 h1 => by
    cases d with
    | int i => exact ⟨i, rv_int r1, q _ _ w1 S1 e1 g1 (.int _) h1⟩
    | _ => exact h1.elim⟩
mutual
inductive PyR (S : Sto) : D → PyData → Prop
  | non : PyR S .non .none
  | bl (b : Bool) : PyR S (.bl b) (.bool b)
  | int (i : Int) : PyR S (.int i) (.int i)
  | str (x : Str) : PyR S (.str x) (.str x)
  | lst {ds : List D} {ps : List PyData} : PyRA S ds ps → PyR S (.lst ds) (.list ps)
  | sq {ds : List D} {ps : List PyData} : PyRA S ds ps → PyR S (.sq ds) (.list ps)
  | tup {ds : List D} {ps : List PyData} : PyRA S ds ps → PyR S (.tup ds) (.tuple ps)
  | own {h : Nat} {ds : List D} {ps : List PyData} : S[h]? = some (.lst ds) → PyRA S ds ps → PyR S (.own h) (.list ps)
inductive PyRA (S : Sto) : List D → List PyData → Prop
  | nil : PyRA S [] []
  | cons {d : D} {ds : List D} {p : PyData} {ps : List PyData} : PyR S d p → PyRA S ds ps → PyRA S (d :: ds) (p :: ps)
end
section
variable {K : PySem.W.Frag} {w : Hs} {S : Sto}
mutual
theorem dp_of (g : Good K w S) : ∀ (p : PyData) (d : D) (v : V), PyR S d p → Rv K w v d → Dp K w.H v p
  | .none, _, _, h, r => by cases h; cases r; exact .non
  | .bool _, _, _, h, r => by cases h; cases r; exact .bl _
  | .int _, _, _, h, r => by cases h; cases r; exact .int _
  | .str _, _, _, h, r => by cases h; cases r; exact .str _
  | .list ps, _, _, h, r => by
    cases h with
    | lst h1 =>
      cases r with
      | lst h2 h3 => exact .lst (.inl (.inl (g.sub _ _ h2))) (dpa_of g ps _ _ h1 h3)
    | sq h1 =>
      cases r with
      | sq h2 h3 => exact .lst (sameSql g.sub h2) (dpa_of g ps _ _ h1 h3)
    | own h1 h2 =>
      obtain ⟨a, xs, rfl, _, h3, h4⟩ := own_at g r h1
      exact .lst (.inl (.inl h3)) (dpa_of g ps _ _ h2 h4)
  | .tuple ps, _, _, h, r => by
    cases h with
    | tup h1 =>
      cases r with
      | tup h2 h3 => exact .tup (sameSqt g.sub h2) (dpa_of g ps _ _ h1 h3)
  | .dict _, _, _, h, _ => by cases h
theorem dpa_of (g : Good K w S) : ∀ (ps : List PyData) (ds : List D) (vs : List V), PyRA S ds ps → Ra K w vs ds → DpAll K w.H vs ps
  | [], _, _, h, r => by cases h; cases r; exact .nil
  | p :: ps, _, _, h, r => by
    cases h with
    | cons h1 h2 =>
      cases r with
      | cons r1 r2 => exact .cons (dp_of g p _ _ h1 r1) (dpa_of g ps _ _ h2 r2)
end
end
def dEq (x y : D) (S : Sto) (Φ : KD) : Prop := ∃ p q, PyR S x p ∧ PyR S y q ∧ SeqAt.shaped p = true ∧ SeqAt.shaped q = true ∧ Φ S (.bl (PyData.eqv p q))
def dNe (x y : D) (S : Sto) (Φ : KD) : Prop := ∃ p q, PyR S x p ∧ PyR S y q ∧ SeqAt.shaped p = true ∧ SeqAt.shaped q = true ∧ Φ S (.bl (!PyData.eqv p q))
theorem opd_eq {K : PySem.W.Frag} : OpD K (rEqD K) dEq := fun w S x y u v Φ Q g r1 r2 ⟨p, p2, h1, h2, h3, h4, h5⟩ q => ⟨p, p2, dp_of g p u x h1 r1, dp_of g p2 v y h2 r2, h3, h4, q _ _ w S (Ext.refl w) g (.bl _) h5⟩
theorem opd_ne {K : PySem.W.Frag} : OpD K (rNeD K) dNe := fun w S x y u v Φ Q g r1 r2 ⟨p, p2, h1, h2, h3, h4, h5⟩ q => ⟨p, p2, dp_of g p u x h1 r1, dp_of g p2 v y h2 r2, h3, h4, q _ _ w S (Ext.refl w) g (.bl _) h5⟩
/-- is None -/
def isNon : D → Bool
  | .non => true
  | _ => false
theorem dec_non {K : PySem.W.Frag} {w : Hs} {v : V} {d : D} (r : Rv K w v d) : decide (v = .non) = isNon d := by
  cases r <;> rfl
def dIsN (x y : D) (S : Sto) (Φ : KD) : Prop := match y with
  | .non => Φ S (.bl (isNon x))
  | _ => False
def dNotN (x y : D) (S : Sto) (Φ : KD) : Prop := match y with
  | .non => Φ S (.bl (!isNon x))
  | _ => False
theorem opd_isN {K : PySem.W.Frag} : OpD K (fun x y H Q => y = .non ∧ Q (.bl (decide (x = .non))) H) dIsN := fun w S x y u v Φ Q g r1 r2 h q => by
  cases v with
  | non => exact ⟨rv_non r2, by rw [dec_non r1]; exact q _ _ w S (Ext.refl w) g (.bl _) h⟩
  | _ => exact h.elim
theorem opd_notN {K : PySem.W.Frag} : OpD K (fun x y H Q => y = .non ∧ Q (.bl (!decide (x = .non))) H) dNotN := fun w S x y u v Φ Q g r1 r2 h q => by
  cases v with
  | non => exact ⟨rv_non r2, by rw [dec_non r1]; exact q _ _ w S (Ext.refl w) g (.bl _) h⟩
  | _ => exact h.elim
/-- in, not in: a list or tuple of flat things -/
def flatD : D → Bool
  | .non => true
  | .bl _ => true
  | .int _ => true
  | .str _ => true
  | _ => false
def eqD : D → D → Bool
  | .non, .non => true
  | .bl a, .bl b => a == b
  | .bl a, .int b => (if a then 1 else 0) == b
  | .int a, .bl b => a == (if b then 1 else 0)
  | .int a, .int b => a == b
  | .str a, .str b => a == b
  | _, _ => false
def inD (x : D) (xs : List D) : Bool := xs.any fun y => eqD y x
def asS (S : Sto) : D → Option (List D)
  | .tup ds => some ds
  | d => asQ S d
theorem flat_of {K : PySem.W.Frag} {w : Hs} {v : V} {d : D} (r : Rv K w v d) (h : flatD d = true) : flatV v = true := by
  cases d <;> first | (cases r; rfl) | cases h
theorem eq_of {K : PySem.W.Frag} {w : Hs} {v u : V} {d e : D} (r : Rv K w v d) (q : Rv K w u e) (h : flatD d = true) (h2 : flatD e = true) : eqV v u = eqD d e := by
  cases d with
  | non => cases e <;> (first | (cases h2; done) | (cases r; cases q; rfl))
  | bl _ => cases e <;> (first | (cases h2; done) | (cases r; cases q; rfl))
  | int _ => cases e <;> (first | (cases h2; done) | (cases r; cases q; rfl))
  | str _ => cases e <;> (first | (cases h2; done) | (cases r; cases q; rfl))
  | _ => cases h
theorem flats_of {K : PySem.W.Frag} {w : Hs} : ∀ {vs : List V} {ds : List D}, Ra K w vs ds → ds.all flatD = true → vs.all flatV = true
  | _, _, .nil, _ => rfl
  | _, _, .cons r t, h => by
    rw [List.all_cons, Bool.and_eq_true] at h ⊢
    exact ⟨flat_of r h.1, flats_of t h.2⟩
theorem in_of {K : PySem.W.Frag} {w : Hs} {x : V} {dx : D} (rx : Rv K w x dx) (hx : flatD dx = true) : ∀ {vs : List V} {ds : List D}, Ra K w vs ds → ds.all flatD = true → inV x vs = inD dx ds
  | _, _, .nil, _ => rfl
  | _, _, .cons r t, h => by
    rw [List.all_cons, Bool.and_eq_true] at h
    have ih := in_of rx hx t h.2
    unfold inV inD at ih ⊢
    rw [List.any_cons, List.any_cons, ih, eq_of r rx h.1 hx]
theorem asS_at {K : PySem.W.Frag} {w : Hs} {S : Sto} (g : Good K w S) {v : V} {d : D} {ds : List D} (r : Rv K w v d) (e : asS S d = some ds) : ∃ a xs, v = .ref a ∧ (SqL K w.H a xs ∨ SqT K w.H a xs) ∧ Ra K w xs ds := by
  cases d with
  | tup es =>
    have e2 : es = ds := Option.some.inj e
    subst e2
    cases r with
    | tup h1 h2 => exact ⟨_, _, rfl, .inr (sameSqt g.sub h1), h2⟩
  | sq es =>
    obtain ⟨a, xs, h1, h2, h3⟩ := asQ_at g (ds := ds) r e
    exact ⟨a, xs, h1, .inl h2, h3⟩
  | lst es =>
    obtain ⟨a, xs, h1, h2, h3⟩ := asQ_at g (ds := ds) r e
    exact ⟨a, xs, h1, .inl h2, h3⟩
  | own h =>
    obtain ⟨a, xs, h1, h2, h3⟩ := asQ_at g (ds := ds) r e
    exact ⟨a, xs, h1, .inl h2, h3⟩
  | _ => cases e
def dIn (neg : Bool) (x y : D) (S : Sto) (Φ : KD) : Prop := ∃ xs, asS S y = some xs ∧ flatD x = true ∧ xs.all flatD = true ∧ Φ S (.bl (if neg then !inD x xs else inD x xs))
theorem opd_in {K : PySem.W.Frag} {neg : Bool} : OpD K (rIn K neg) (dIn neg) := fun w S x y u v Φ Q g r1 r2 ⟨ds, e, h1, h2, h3⟩ q => by
  obtain ⟨a, xs, rfl, hs, ra⟩ := asS_at g r2 e
  exact ⟨a, xs, rfl, hs, flat_of r1 h1, flats_of ra h2, by rw [in_of r1 h1 ra h2]; exact q _ _ w S (Ext.refl w) g (.bl _) h3⟩
def dIx (x y : D) (S : Sto) (Φ : KD) : Prop := match y with
  | .int i => (match x with
    | .str z => z.length ≤ sizeLine ∧ ∃ c, atI z.cps.toList i = some c ∧ Φ S (.str ⟨#[c]⟩)
    | x => ∃ ds d, asS S x = some ds ∧ atI ds i = some d ∧ Φ S d)
  | _ => False
theorem atI_of {K : PySem.W.Frag} {w : Hs} {vs : List V} {ds : List D} {i : Int} {d : D} (r : Ra K w vs ds) (h : atI ds i = some d) : ∃ v, atI vs i = some v ∧ Rv K w v d := by
  unfold atI at h ⊢
  rw [r.length]
  cases q : ixN ds.length i with
  | none => rw [q] at h; cases h
  | some j =>
    rw [q] at h
    exact r.get h
theorem ix_seqD {K : PySem.W.Frag} {w : Hs} {S : Sto} {x y : V} {u : D} {i : Int} {Φ : KD} {Q : VK} (g : Good K w S) (r1 : Rv K w x u) (r2 : Rv K w y (.int i)) (h : ∃ ds d, asS S u = some ds ∧ atI ds i = some d ∧ Φ S d) (q : OkD K w Φ Q) : rIx K x y w.H Q := by
  obtain ⟨ds, d, e, h1, h2⟩ := h
  obtain ⟨a, xs, rfl, hs, ra⟩ := asS_at g r1 e
  obtain ⟨v, h3, r3⟩ := atI_of ra h1
  have qq := q v d w S (Ext.refl w) g r3 h2
  rcases hs with hs | hs
  · exact .inl ⟨a, xs, i, v, rfl, rv_int r2, hs, h3, qq⟩
  · exact .inr (.inl ⟨a, xs, i, v, rfl, rv_int r2, hs, h3, qq⟩)
theorem opd_ix {K : PySem.W.Frag} : OpD K (rIx K) dIx := fun w S x y u v Φ Q g r1 r2 h q => by
  cases v with
  | int i =>
    cases u with
    | str z =>
      obtain ⟨h1, c, h2, h3⟩ := h
      exact .inr (.inr ⟨z, i, c, rv_str r1, rv_int r2, h1, h2, q _ _ w S (Ext.refl w) g (.str _) h3⟩)
    | _ => exact ix_seqD g r1 r2 h q
  | _ => cases u <;> exact h.elim
/-- the items of a slice -/
def cutD {α : Type} (xs : List α) (lo hi : Option Int) : List α := (xs.drop (HT.sIx xs.length 0 lo)).take (HT.sIx xs.length xs.length hi - HT.sIx xs.length 0 lo)
theorem ra_cut {K : PySem.W.Frag} {w : Hs} {vs : List V} {ds : List D} (r : Ra K w vs ds) (lo hi : Option Int) : Ra K w (cutV vs lo hi) (cutD ds lo hi) := by
  unfold cutV cutD
  rw [r.length]
  exact (r.drop _).take _
def dSlL (d : D) (lo hi : Option Int) (S : Sto) (Φ : KD) : Prop := ∃ ds, asQ S d = some ds ∧ Φ S (.lst (cutD ds lo hi))
theorem sld_l {K : PySem.W.Frag} : SlD K (rSlL K) dSlL := fun w S v d lo hi Φ Q g r ⟨ds, e, h⟩ q => by
  obtain ⟨a, xs, rfl, h1, h2⟩ := asQ_at g r e
  exact ⟨a, xs, rfl, h1, new_lst g q (ra_cut h2 lo hi) h⟩
def rLen (K : PySem.W.Frag) : List V → Hp → VK → Prop := fun xs H Q => (∃ p ys, xs = [.ref p] ∧ (SqL K H p ys ∨ SqT K H p ys) ∧ Q (.int ys.length) H) ∨ ∃ z, xs = [.str z] ∧ z.length ≤ sizeLine ∧ Q (.int z.length) H
theorem call_lenA {X : Cx} : CallR X (.builtin "len") (rLen X.K) := call_len_seq.or call_len_str
def cLen (ds : List D) (S : Sto) (Φ : KD) : Prop := match ds with
  | [.str z] => z.length ≤ sizeLine ∧ Φ S (.int z.length)
  | [d] => ∃ xs, asS S d = some xs ∧ Φ S (.int xs.length)
  | _ => False
theorem len_seqD {K : PySem.W.Frag} {w : Hs} {S : Sto} {vs : List V} {d : D} {Φ : KD} {Q : VK} (g : Good K w S) (r : Ra K w vs [d]) (h : ∃ xs, asS S d = some xs ∧ Φ S (.int xs.length)) (q : OkD K w Φ Q) : rLen K vs w.H Q := by
  obtain ⟨xs, e, h⟩ := h
  cases r with
  | cons r1 r2 =>
    cases r2
    obtain ⟨a, ys, rfl, hs, ra⟩ := asS_at g r1 e
    exact .inl ⟨a, ys, rfl, hs, by rw [ra.length]; exact q _ _ w S (Ext.refl w) g (.int _) h⟩
theorem cd_len {K : PySem.W.Frag} : CallD K (rLen K) cLen := fun w S vs ds Φ Q g r h q => by
  cases ds with
  | nil => exact h.elim
  | cons d rest =>
    cases rest with
    | cons e t => cases d <;> exact h.elim
    | nil =>
      cases d with
      | str z =>
        cases r with
        | cons r1 r2 =>
          cases r2
          exact .inr ⟨z, by rw [rv_str r1], h.1, q _ _ w S (Ext.refl w) g (.int _) h.2⟩
      | _ => exact len_seqD g r h q
def cAbs (ds : List D) (S : Sto) (Φ : KD) : Prop := match ds with
  | [.int i] => Φ S (.int (if i < 0 then -i else i))
  | _ => False
def c2I (f : Int → Int → D) (ds : List D) (S : Sto) (Φ : KD) : Prop := match ds with
  | [.int i, .int j] => Φ S (f i j)
  | _ => False
theorem cd_abs {K : PySem.W.Frag} : CallD K (fun xs H Q => ∃ i, xs = [.int i] ∧ Q (.int (if i < 0 then -i else i)) H) cAbs := fun w S vs ds Φ Q g r h q => by
  cases ds with
  | nil => exact h.elim
  | cons d t =>
    cases t with
    | cons _ _ => cases d <;> exact h.elim
    | nil =>
      cases d with
      | int i =>
        cases r with
        | cons r1 r2 => cases r2; exact ⟨i, by rw [rv_int r1], q _ _ w S (Ext.refl w) g (.int _) h⟩
      | _ => exact h.elim
theorem cd_2I {K : PySem.W.Frag} {f : Int → Int → D} {fv : Int → Int → V} (hf : ∀ i j (w : Hs), Rv K w (fv i j) (f i j)) : CallD K (fun xs H Q => ∃ i j, xs = [.int i, .int j] ∧ Q (fv i j) H) (c2I f) := fun w S vs ds Φ Q g r h q => by
  cases ds with
  | nil => exact h.elim
  | cons d t =>
    cases t with
    | nil => cases d <;> exact h.elim
    | cons e t2 =>
      cases t2 with
      | cons _ _ => cases d <;> cases e <;> exact h.elim
      | nil =>
        cases d with
        | int i =>
          cases e with
          | int j =>
            cases r with
            | cons r1 r2 =>
              cases r2 with
              | cons r3 r4 => cases r4; exact ⟨i, j, by rw [rv_int r1, rv_int r3], q _ _ w S (Ext.refl w) g (hf i j w) h⟩
          | _ => exact h.elim
        | _ => cases e <;> exact h.elim
def cMax2 := c2I fun i j => .int (if j > i then j else i)
def cMin2 := c2I fun i j => .int (if j < i then j else i)
theorem cd_max2 {K : PySem.W.Frag} : CallD K (fun xs H Q => ∃ i j, xs = [.int i, .int j] ∧ Q (.int (if j > i then j else i)) H) cMax2 := cd_2I (fv := fun i j => .int (if j > i then j else i)) fun _ _ _ => .int _
theorem cd_min2 {K : PySem.W.Frag} : CallD K (fun xs H Q => ∃ i j, xs = [.int i, .int j] ∧ Q (.int (if j < i then j else i)) H) cMin2 := cd_2I (fv := fun i j => .int (if j < i then j else i)) fun _ _ _ => .int _
def cInt (ds : List D) (S : Sto) (Φ : KD) : Prop := match ds with
  | [.int i] => Φ S (.int i)
  | [.bl k] => Φ S (.int (if k then 1 else 0))
  | _ => False
theorem cd_int {K : PySem.W.Frag} : CallD K (fun xs H Q => (∃ i, xs = [.int i] ∧ Q (.int i) H) ∨ ∃ k, xs = [.bl k] ∧ Q (.int (if k then 1 else 0)) H) cInt := fun w S vs ds Φ Q g r h q => by
  cases ds with
  | nil => exact h.elim
  | cons d t =>
    cases t with
    | cons _ _ => cases d <;> exact h.elim
    | nil =>
      cases r with
      | cons r1 r2 =>
        cases r2
        cases d with
        | int i => exact .inl ⟨i, by rw [rv_int r1], q _ _ w S (Ext.refl w) g (.int _) h⟩
        | bl i => exact .inr ⟨i, by rw [rv_bl r1], q _ _ w S (Ext.refl w) g (.int _) h⟩
        | _ => exact h.elim
/-- list(x): a new list, frozen or a cell -/
def cList (ds : List D) (S : Sto) (Φ : KD) : Prop := match ds with
  | [d] => ∃ xs, asS S d = some xs ∧ Φ S (.lst xs)
  | _ => False
def cListO (ds : List D) (S : Sto) (Φ : KD) : Prop := match ds with
  | [d] => ∃ xs, asS S d = some xs ∧ Φ (S ++ [.lst xs]) (.own S.length)
  | _ => False
theorem cd_list {K : PySem.W.Frag} : CallD K (fun xs H Q => ∃ p ys, xs = [.ref p] ∧ (SqL K H p ys ∨ SqT K H p ys) ∧ ∀ l, H l = none → Q (.ref l) (upd H l (.lst ys))) cList := fun w S vs ds Φ Q g r h q => by
  cases ds with
  | nil => exact h.elim
  | cons d t =>
    cases t with
    | cons _ _ => exact h.elim
    | nil =>
      obtain ⟨xs, e, h⟩ := h
      cases r with
      | cons r1 r2 =>
        cases r2
        obtain ⟨a, ys, rfl, hs, ra⟩ := asS_at g r1 e
        exact ⟨a, ys, rfl, hs, new_lst g q ra h⟩
theorem cd_listO {K : PySem.W.Frag} : CallD K (fun xs H Q => ∃ p ys, xs = [.ref p] ∧ (SqL K H p ys ∨ SqT K H p ys) ∧ ∀ l, H l = none → Q (.ref l) (upd H l (.lst ys))) cListO := fun w S vs ds Φ Q g r h q => by
  cases ds with
  | nil => exact h.elim
  | cons d t =>
    cases t with
    | cons _ _ => exact h.elim
    | nil =>
      obtain ⟨xs, e, h⟩ := h
      cases r with
      | cons r1 r2 =>
        cases r2
        obtain ⟨a, ys, rfl, hs, ra⟩ := asS_at g r1 e
        exact ⟨a, ys, rfl, hs, new_own g q ra h⟩
def cAll (ds : List D) (S : Sto) (Φ : KD) : Prop := match ds with
  | [d] => ∃ bs : List Bool, asQ S d = some (bs.map D.bl) ∧ Φ S (.bl (bs.all id))
  | _ => False
def cMax (ds : List D) (S : Sto) (Φ : KD) : Prop := match ds with
  | [d] => ∃ ns : List Int, asQ S d = some (ns.map D.int) ∧ 0 < ns.length ∧ ∀ m, m ∈ ns → (∀ y, y ∈ ns → y ≤ m) → Φ S (.int m)
  | _ => False
theorem one_of {K : PySem.W.Frag} {w : Hs} {vs : List V} {d : D} (r : Ra K w vs [d]) : ∃ v, vs = [v] ∧ Rv K w v d := by
  cases r with
  | cons r1 r2 => cases r2; exact ⟨_, rfl, r1⟩
theorem cd_all {K : PySem.W.Frag} : CallD K (rAll K) cAll := fun w S vs ds Φ Q g r h q => by
  cases ds with
  | nil => exact h.elim
  | cons d t =>
    cases t with
    | cons _ _ => exact h.elim
    | nil =>
      obtain ⟨bs, e, h⟩ := h
      obtain ⟨v, rfl, r1⟩ := one_of r
      obtain ⟨a, ys, rfl, hs, ra⟩ := asQ_at g r1 e
      rw [ra_bls ra] at hs
      exact ⟨a, bs, rfl, hs, q _ _ w S (Ext.refl w) g (.bl _) h⟩
theorem cd_max {K : PySem.W.Frag} : CallD K (rMax K) cMax := fun w S vs ds Φ Q g r h q => by
  cases ds with
  | nil => exact h.elim
  | cons d t =>
    cases t with
    | cons _ _ => exact h.elim
    | nil =>
      obtain ⟨bs, e, h0, h⟩ := h
      obtain ⟨v, rfl, r1⟩ := one_of r
      obtain ⟨a, ys, rfl, hs, ra⟩ := asQ_at g r1 e
      rw [ra_ints ra] at hs
      exact ⟨a, bs, rfl, hs, h0, fun m h1 h2 => q _ _ w S (Ext.refl w) g (.int _) (h m h1 h2)⟩
def dSetO (o i v : D) (S : Sto) (P : Sto → Prop) : Prop := match o, i with
  | .own h, .int k => ∃ ds j, S[h]? = some (.lst ds) ∧ ixN ds.length k = some j ∧ P (S.set h (.lst (ds.set j v)))
  | _, _ => False
theorem setd_o {K : PySem.W.Frag} : TSetD K rSetL dSetO := fun w S o i v do_ di dv P Q g r1 r2 r3 h q => by
  cases do_ with
  | own hh =>
    cases di with
    | int k =>
      obtain ⟨ds, j, e, hj, hP⟩ := h
      obtain ⟨a, xs, rfl, ha, hH, ra⟩ := own_at g r1 e
      refine ⟨a, xs, k, j, rfl, rv_int r2, hH, by rw [ra.length]; exact hj, ?_⟩
      exact q (w.wr a (.lst (xs.set j v))) _ (Ext.wr _ (List.mem_of_getElem? ha)) (g.wr ha e (ra.set r3 j)) hP
    | _ => exact h.elim
  | _ => cases di <;> exact h.elim
/-- methods of a list in a cell -/
def MtD (K : PySem.W.Frag) (r : V → List V → Hp → VK → Prop) (f : D → List D → Sto → KD → Prop) : Prop :=
  ∀ w S x vs d ds Φ Q, Good K w S → Rv K w x d → Ra K w vs ds → f d ds S Φ → OkD K w Φ Q → r x vs w.H Q
def isLst (S : Sto) (d : D) : Prop := ∃ ds, asL S d = some ds
def dBM (f : D → List D → Sto → KD → Prop) (T : TD) (Tl : TL) : TD := fun Γ S Φ Ψ => T Γ S (fun S1 d => isLst S1 d ∧ Tl Γ S1 (fun S2 ds => f d ds S2 Φ) Ψ) Ψ
def dBM0 (f : D → List D → Sto → KD → Prop) (T : TD) : TD := fun Γ S Φ Ψ => T Γ S (fun S1 d => isLst S1 d ∧ f d [] S1 Φ) Ψ
section
variable {X : Cx} {W : WX} {o e : Expr} {es : List Expr} {apos cpos : Pos} {to : TE} {To : TD} {tl : TA} {Tl : TL}
theorem je_bm {name : Str} {id : String} {r : V → List V → Hp → VK → Prop} {f : D → List D → Sto → KD → Prop} (slot : Slot "list" name id) (hty : typeOf (.builtin id) = pure (.type "method_descriptor")) (hm : MtM X id r) (hd : MtD X.K r f) (ho : JE X W o to To) (ha : JA X W (e :: es) tl Tl)
    (hbase : attributeBase o name X.env (eval o X.env) = eval o X.env := by rfl)
    (hfew : ((backTo cpos (starEach (e :: es) X.env)).all (fun x => !x.1) && (backToKw cpos (keywordEach [] X.env)).all (fun x => x.1.isSome)
      && decide ((e :: es).length + ([] : List Keyword).length + (if ([] : List Keyword).isEmpty then 0 else 1) < 30)) = true := by rfl)
    (hline : (apos.endLine == cpos.line) = true := by rfl) (hs : starEach (e :: es) X.env = (false, eval e X.env) :: starEach es X.env := by rfl) (hplain : (backTo cpos (starEach es X.env)).any (·.1) = false := by rfl) :
    JE X W (.Call (.Attribute o name apos) (e :: es) [] cpos) (tBM X.K "list" r to tl) (dBM f To Tl) := ⟨pe_bm PySem.F.plainAttrs_list slot hty hm ho.pe ha.pa hbase hfew hline hs hplain, fun Γ S Φ Ψ σ w g sl h hx Q q =>
  ho.sem Γ S _ Ψ σ w g sl h hx _ fun v d w1 S1 e1 g1 r1 ⟨⟨xs, hl⟩, h1⟩ => by
    obtain ⟨a, ys, rfl, hH, _⟩ := asL_at g1 r1 hl
    exact ⟨Or.inl ⟨rfl, _, Or.inl (Or.inl hH)⟩, ha.sem Γ S1 _ Ψ σ w1 g1 (sl.ext e1) h1 (hx.ext e1) _ fun vs ds w2 S2 e2 g2 r2 h2 => hd w2 S2 _ vs d ds Φ Q g2 (e2.rp r1) r2 h2 (q.ext (e1.trans e2))⟩⟩
end
def mAppend (d : D) (ds : List D) (S : Sto) (Φ : KD) : Prop := match d, ds with
  | .own h, [y] => ∃ xs, S[h]? = some (.lst xs) ∧ xs.length < sizeLine ∧ Φ (S.set h (.lst (xs ++ [y]))) .non
  | _, _ => False
theorem mtd_append {K : PySem.W.Frag} : MtD K rAppend mAppend := fun w S x vs d ds Φ Q g r1 r2 h q => by
  cases d with
  | own hh =>
    cases ds with
    | nil => exact h.elim
    | cons y t =>
      cases t with
      | cons _ _ => exact h.elim
      | nil =>
        obtain ⟨xs, e, hl, hΦ⟩ := h
        obtain ⟨a, ys, rfl, ha, hH, ra⟩ := own_at g r1 e
        obtain ⟨v, rfl, rv⟩ := one_of r2
        exact ⟨a, ys, v, rfl, rfl, hH, by rw [ra.length]; exact hl, q .non .non (w.wr a (.lst (ys ++ [v]))) _ (Ext.wr _ (List.mem_of_getElem? ha)) (g.wr ha e (ra.append (.cons rv .nil))) .non hΦ⟩
  | _ => exact h.elim
def mExtend (d : D) (ds : List D) (S : Sto) (Φ : KD) : Prop := match d, ds with
  | .own h, [y] => ∃ xs ys, S[h]? = some (.lst xs) ∧ asL S y = some ys ∧ xs.length + ys.length ≤ sizeLine ∧ Φ (S.set h (.lst (xs ++ ys))) .non
  | _, _ => False
theorem mtd_extend {K : PySem.W.Frag} : MtD K rExtend mExtend := fun w S x vs d ds Φ Q g r1 r2 h q => by
  cases d with
  | own hh =>
    cases ds with
    | nil => exact h.elim
    | cons y t =>
      cases t with
      | cons _ _ => exact h.elim
      | nil =>
        obtain ⟨xs, zs, e, e2, hl, hΦ⟩ := h
        obtain ⟨a, ys, rfl, ha, hH, ra⟩ := own_at g r1 e
        obtain ⟨v, rfl, rv⟩ := one_of r2
        obtain ⟨b, us, rfl, hb, rb⟩ := asL_at g rv e2
        exact ⟨a, b, ys, us, rfl, rfl, hH, hb, by rw [ra.length, rb.length]; exact hl, q .non .non (w.wr a (.lst (ys ++ us))) _ (Ext.wr _ (List.mem_of_getElem? ha)) (g.wr ha e (ra.append rb)) .non hΦ⟩
  | _ => exact h.elim
def mReverse (d : D) (ds : List D) (S : Sto) (Φ : KD) : Prop := match d, ds with
  | .own h, [] => ∃ xs, S[h]? = some (.lst xs) ∧ Φ (S.set h (.lst xs.reverse)) .non
  | _, _ => False
def mClear (d : D) (ds : List D) (S : Sto) (Φ : KD) : Prop := match d, ds with
  | .own h, [] => ∃ xs, S[h]? = some (.lst xs) ∧ Φ (S.set h (.lst [])) .non
  | _, _ => False
section
variable {X : Cx} {W : WX} {tg e a b : Expr} {te : TE} {Te : TD} {tl : TA} {Tl : TL} {p pos : Pos}
def iSeq (T : TD) : TId := fun Γ S Φ Ψ => T Γ S (fun S1 d => (∃ ds, asQ S1 d = some ds) ∧ Φ S1 (fun S' => asQ S' d)) Ψ
theorem src_list {K : PySem.W.Frag} {w0 : Hs} {v : V} {d : D} {a : Addr} (r : Rv K w0 v d) (e : v = .ref a) : SrcOk K w0 (Itl K a) (fun S' => asQ S' d) := fun w S ds i e' g h => by
  subst e
  obtain ⟨b, xs, eb, hs, ra⟩ := asQ_at g (e'.rp r) h
  cases eb
  refine ⟨fun d' hd => ?_, fun hl => ⟨xs, hs, by rw [ra.length]; exact hl⟩⟩
  obtain ⟨x, hx, rx⟩ := ra.get hd
  refine ⟨⟨xs, x, hs, hx⟩, fun y H' ⟨e1, hy⟩ => ?_⟩
  have := hy xs hs
  rw [hx] at this
  cases this
  exact ⟨w, Ext.refl w, g, e1.symm, rx⟩
theorem ji_list (h : JE X W e te Te) : JI X W tg e (iList X.K te) (iSeq Te) := ⟨pi_list h.pe, fun Γ S Φ Ψ σ w g sl hT hx Q q =>
  h.sem Γ S _ Ψ σ w g sl hT hx _ fun v d w1 S1 e1 g1 r1 ⟨⟨ds, hd⟩, h1⟩ => by
    obtain ⟨a, xs, rfl, hs, _⟩ := asQ_at g1 r1 hd
    exact ⟨a, rfl, ⟨xs, hs⟩, q _ _ w1 S1 e1 g1 (src_list r1 rfl) h1⟩⟩
def iTupD (T : TD) : TId := fun Γ S Φ Ψ => T Γ S (fun S1 d => ∃ ds, d = .tup ds ∧ Φ S1 (fun _ => some ds)) Ψ
theorem ji_tup (h : JE X W e te Te) : JI X W tg e (iTup X.K te) (iTupD Te) := ⟨pi_tup h.pe, fun Γ S Φ Ψ σ w g sl hT hx Q q =>
  h.sem Γ S _ Ψ σ w g sl hT hx _ fun v d w1 S1 e1 g1 r1 ⟨ds, ed, h1⟩ => by
    subst ed
    cases r1 with
    | @tup a xs _ hs ra =>
      refine ⟨a, rfl, ⟨xs, sameSqt g1.sub hs⟩, q _ _ w1 S1 e1 g1 (fun w S ds' i e' g hh => ?_) h1⟩
      cases hh
      have hs' := sameSqt g.sub (sameSqt e'.f hs)
      refine ⟨fun d' hd => ?_, fun hl => ⟨xs, hs', by rw [ra.length]; exact hl⟩⟩
      obtain ⟨x, hx, rx⟩ := ra.get hd
      refine ⟨⟨xs, x, hs', hx⟩, fun y H' ⟨e1, hy⟩ => ?_⟩
      have := hy xs hs'
      rw [hx] at this
      cases this
      exact ⟨w, Ext.refl w, g, e1.symm, e'.rp rx⟩⟩
def rngD (lo : Int) (n : Nat) : List D := (List.range n).map fun (i : Nat) => D.int (lo + (i : Int))
theorem rngD_get {lo : Int} {n i : Nat} {d : D} (h : (rngD lo n)[i]? = some d) : i < n ∧ d = .int (lo + (i : Int)) := by
  unfold rngD at h
  rw [List.getElem?_map] at h
  cases q : (List.range n)[i]? with
  | none => rw [q] at h; cases h
  | some j =>
    rw [q] at h
    obtain ⟨h1, h2⟩ := List.getElem?_eq_some_iff.mp q
    rw [List.getElem_range] at h2
    rw [List.length_range] at h1
    subst h2
    cases h
    exact ⟨h1, rfl⟩
theorem rngD_len (lo : Int) (n : Nat) : (rngD lo n).length = n := by
  unfold rngD
  rw [List.length_map, List.length_range]
theorem src_rng {K : PySem.W.Frag} {w0 : Hs} {lo : Int} {n : Nat} : SrcOk K w0 (Itr lo n) (fun _ => some (rngD lo n)) := fun w S ds i e' g h => by
  cases h
  refine ⟨fun d hd => ?_, fun hl => by rw [rngD_len] at hl; exact hl⟩
  obtain ⟨h1, rfl⟩ := rngD_get hd
  exact ⟨h1, fun x H' ⟨e1, e2⟩ => ⟨w, Ext.refl w, g, e1.symm, by rw [e2]; exact .int _⟩⟩
def iRg1 (T : TL) : TId := fun Γ S Φ Ψ => T Γ S (fun S1 ds => ∃ j, ds = [.int j] ∧ -(2 ^ 62) ≤ j ∧ j < 2 ^ 62 ∧ Φ S1 (fun _ => some (rngD 0 j.toNat))) Ψ
def iRg2 (T : TL) : TId := fun Γ S Φ Ψ => T Γ S (fun S1 ds => ∃ i j, ds = [.int i, .int j] ∧ (-(2 ^ 62) ≤ i ∧ i < 2 ^ 62 ∧ -(2 ^ 62) ≤ j ∧ j < 2 ^ 62) ∧ Φ S1 (fun _ => some (rngD i (j - i).toNat))) Ψ
theorem ji_range1 (hg : Gl X "range") (hm : X.mg "range" = none) (ha : JA X W [a] tl Tl) (hs : starEach [a] X.env = [(false, eval a X.env)] := by rfl) : JI X W tg (.Call (.Name "range" p) [a] [] pos) (iRng1 tl) (iRg1 Tl) := ⟨pi_range1 hg hm ha.pa hs, fun Γ S Φ Ψ σ w g sl hT hx Q q =>
  ha.sem Γ S _ Ψ σ w g sl hT hx _ fun vs ds w1 S1 e1 g1 r1 ⟨j, ed, h1, h2, h3⟩ => by
    subst ed
    obtain ⟨v, rfl, rv⟩ := one_of r1
    exact ⟨j, by rw [rv_int rv], h1, h2, q _ _ w1 S1 e1 g1 src_rng h3⟩⟩
theorem ji_range2 (hg : Gl X "range") (hm : X.mg "range" = none) (ha : JA X W [a, b] tl Tl) (hs : starEach [a, b] X.env = [(false, eval a X.env), (false, eval b X.env)] := by rfl) (hs2 : starEach [b] X.env = [(false, eval b X.env)] := by rfl) : JI X W tg (.Call (.Name "range" p) [a, b] [] pos) (iRng2 tl) (iRg2 Tl) := ⟨pi_range2 hg hm ha.pa hs hs2, fun Γ S Φ Ψ σ w g sl hT hx Q q =>
  ha.sem Γ S _ Ψ σ w g sl hT hx _ fun vs ds w1 S1 e1 g1 r1 ⟨i, j, ed, h1, h3⟩ => by
    subst ed
    cases r1 with
    | cons ra rb =>
      obtain ⟨v, rfl, rv⟩ := one_of rb
      exact ⟨i, j, by rw [rv_int ra, rv_int rv], h1, q _ _ w1 S1 e1 g1 src_rng h3⟩⟩
/-- zip of two lists, enumerate of a list: a new tuple each -/
def zipD (xs ys : List D) : List D := (xs.zip ys).map fun p => D.tup [p.1, p.2]
def enumD (xs : List D) : List D := (List.range xs.length).map fun (i : Nat) => D.tup [.int (i : Int), xs.getD i .non]
theorem zipD_get {xs ys : List D} {i : Nat} {d : D} (h : (zipD xs ys)[i]? = some d) : ∃ x y, xs[i]? = some x ∧ ys[i]? = some y ∧ d = .tup [x, y] := by
  unfold zipD at h
  rw [List.getElem?_map] at h
  cases q : (xs.zip ys)[i]? with
  | none => rw [q] at h; cases h
  | some p =>
    rw [q] at h
    cases h
    obtain ⟨h1, h2⟩ := List.getElem?_zip_eq_some.mp q
    exact ⟨p.1, p.2, h1, h2, rfl⟩
theorem enumD_get {xs : List D} {i : Nat} {d : D} (h : (enumD xs)[i]? = some d) : ∃ x, xs[i]? = some x ∧ d = .tup [.int (i : Int), x] := by
  unfold enumD at h
  rw [List.getElem?_map] at h
  cases q : (List.range xs.length)[i]? with
  | none => rw [q] at h; cases h
  | some j =>
    rw [q] at h
    obtain ⟨h1, h2⟩ := List.getElem?_eq_some_iff.mp q
    rw [List.getElem_range] at h2
    rw [List.length_range] at h1
    subst h2
    cases h
    refine ⟨xs[i], List.getElem?_eq_getElem h1, ?_⟩
    show D.tup [D.int (i : Int), xs.getD i D.non] = D.tup [D.int (i : Int), xs[i]]
    rw [List.getD_eq_getElem?_getD, List.getElem?_eq_getElem h1] <;> rfl
theorem enumD_len (xs : List D) : (enumD xs).length = xs.length := by
  unfold enumD
  rw [List.length_map, List.length_range]
theorem zipD_len (xs ys : List D) : (zipD xs ys).length = min xs.length ys.length := by
  unfold zipD
  rw [List.length_map, List.length_zip]
def iZipD (T : TL) : TId := fun Γ S Φ Ψ => T Γ S (fun S1 ds => ∃ d e, ds = [d, e] ∧ (∃ xs, asQ S1 d = some xs) ∧ (∃ ys, asQ S1 e = some ys) ∧ Φ S1 (fun S' => (asQ S' d).bind fun xs => (asQ S' e).map fun ys => zipD xs ys)) Ψ
def iEnumD (T : TL) : TId := fun Γ S Φ Ψ => T Γ S (fun S1 ds => ∃ d, ds = [d] ∧ (∃ xs, asQ S1 d = some xs) ∧ Φ S1 (fun S' => (asQ S' d).map enumD)) Ψ
theorem tup_new {K : PySem.W.Frag} {w : Hs} {S : Sto} (g : Good K w S) {T : Addr} {vs : List V} {ds : List D} (hT : w.H T = none) (r : Ra K w vs ds) : ∃ w', Ext w w' ∧ Good K w' S ∧ w'.H = upd w.H T (.tup vs) ∧ Rv K w' (.ref T) (.tup ds) :=
  ⟨w.frz T (.tup vs), Ext.frz g _ hT, g.frz _ hT, rfl, .tup (.inl (.inl upd_same)) ((Ext.frz g _ hT).ra r)⟩
theorem ji_zip {e2 : Expr} {elts : List Expr} {kk : Nat} {tpos : Pos} (hg : Gl X "zip") (hm : X.mg "zip" = none) (ha : JA X W [e, e2] tl Tl) (hs : starEach [e, e2] X.env = (false, eval e X.env) :: starEach [e2] X.env := by rfl) (hpl : (backTo pos (starEach [e2] X.env)).any (·.1) = false := by rfl) :
    JI X W (.Tuple elts kk tpos) (.Call (.Name "zip" p) [e, e2] [] pos) (iZip X.K tl) (iZipD Tl) := ⟨pi_zip hg hm ha.pa hs hpl, fun Γ S Φ Ψ σ w g sl hT hx Q q =>
  ha.sem Γ S _ Ψ σ w g sl hT hx _ fun vs ds w1 S1 e1 g1 r1 ⟨d, d2, ed, ⟨xs, hxs⟩, ⟨ys, hys⟩, h3⟩ => by
    subst ed
    cases r1 with
    | cons ra rb =>
      obtain ⟨v, rfl, rv⟩ := one_of rb
      obtain ⟨a1, us, rfl, hs1, _⟩ := asQ_at g1 ra hxs
      obtain ⟨a2, us2, rfl, hs2, _⟩ := asQ_at g1 rv hys
      refine ⟨a1, a2, us, us2, rfl, hs1, hs2, q _ _ w1 S1 e1 g1 (fun w S ds i e' g hh => ?_) h3⟩
      cases q1 : asQ S d with
      | none => rw [q1] at hh; cases hh
      | some xs' =>
        cases q2 : asQ S d2 with
        | none => rw [q1, q2] at hh; cases hh
        | some ys' =>
          rw [q1, q2] at hh
          cases hh
          obtain ⟨b1, vs1, eb1, hsa, ra1⟩ := asQ_at g (e'.rp ra) q1
          obtain ⟨b2, vs2, eb2, hsb, ra2⟩ := asQ_at g (e'.rp rv) q2
          cases eb1
          cases eb2
          refine ⟨fun dd hd => ?_, fun hl => ⟨vs1, vs2, hsa, hsb, ?_⟩⟩
          · obtain ⟨x, y, hx1, hy1, rfl⟩ := zipD_get hd
            obtain ⟨vx, hvx, rvx⟩ := ra1.get hx1
            obtain ⟨vy, hvy, rvy⟩ := ra2.get hy1
            refine ⟨⟨vs1, vs2, vx, vy, hsa, hsb, hvx, hvy⟩, fun z H' ⟨T, x', y', ez, hn, eH, fx, fy⟩ => ?_⟩
            have f1 := fx vs1 hsa
            have f2 := fy vs2 hsb
            rw [hvx] at f1
            rw [hvy] at f2
            cases f1
            cases f2
            subst ez
            obtain ⟨w', ee, gg, eh, rr⟩ := tup_new g hn (.cons rvx (.cons rvy .nil))
            exact ⟨w', ee, gg, by rw [eh, eH], rr⟩
          · rw [zipD_len] at hl
            rw [ra1.length, ra2.length]
            omega⟩
theorem ji_enum {elts : List Expr} {kk : Nat} {tpos : Pos} (hg : Gl X "enumerate") (hm : X.mg "enumerate" = none) (ha : JA X W [e] tl Tl) (hs : starEach [e] X.env = [(false, eval e X.env)] := by rfl) :
    JI X W (.Tuple elts kk tpos) (.Call (.Name "enumerate" p) [e] [] pos) (iEnum X.K tl) (iEnumD Tl) := ⟨pi_enum hg hm ha.pa hs, fun Γ S Φ Ψ σ w g sl hT hx Q q =>
  ha.sem Γ S _ Ψ σ w g sl hT hx _ fun vs ds w1 S1 e1 g1 r1 ⟨d, ed, ⟨xs, hxs⟩, h3⟩ => by
    subst ed
    obtain ⟨v, rfl, rv⟩ := one_of r1
    obtain ⟨a1, us, rfl, hs1, _⟩ := asQ_at g1 rv hxs
    refine ⟨a1, us, rfl, hs1, q _ _ w1 S1 e1 g1 (fun w S ds i e' g hh => ?_) h3⟩
    cases q1 : asQ S d with
    | none => rw [q1] at hh; cases hh
    | some xs' =>
      rw [q1] at hh
      cases hh
      obtain ⟨b1, vs1, eb1, hsa, ra1⟩ := asQ_at g (e'.rp rv) q1
      cases eb1
      refine ⟨fun dd hd => ?_, fun hl => ⟨vs1, hsa, ?_⟩⟩
      · obtain ⟨x, hx1, rfl⟩ := enumD_get hd
        obtain ⟨vx, hvx, rvx⟩ := ra1.get hx1
        refine ⟨⟨vs1, vx, hsa, hvx⟩, fun z H' ⟨T, x', ez, hn, eH, fx⟩ => ?_⟩
        have f1 := fx vs1 hsa
        rw [hvx] at f1
        cases f1
        subst ez
        obtain ⟨w', ee, gg, eh, rr⟩ := tup_new g hn (.cons (.int (i : Int)) (.cons rvx .nil))
        exact ⟨w', ee, gg, by rw [eh, eH], rr⟩
      · rw [enumD_len] at hl
        rw [ra1.length]
        exact hl⟩
end
end DL
namespace DL
open PySem PySem.Spec PyProof.Rows L2
def sRaise (C : Addr) : TSd := fun D _ S => D.er S ⟨C, []⟩
theorem js_raise {X : Cx} {W : WX} {x m : Str} {C : Addr} {j : Nat} {p p2 pos pos' : Pos} (hc : X.calm = true) (tk : Takes X W) (q : PySem.W.excIn X.K C He.veBase "ValueError.__new__" = true) (gC : X.mg x = some (.ref C)) (kC : PySem.W.keepIn X.K (.ref C) = true)
    (b : PySem.W.subIn X.K (.ref C) (.type "BaseException") = some true) (t : PySem.W.typeIn X.K (.ref C) = some (.type "type")) (hg : Gl X x) (hdb : (x == ("__debug__" : Str)) = false := by decide) :
    JS X W (.Raise (some (.Call (.Name x p) [.Constant (.str m) j p2] [] pos')) none pos) (fun _ σ H => (fun (_ : L2.St) (H : Hp) (Q : XK) => Q (.ref C) none H) σ H fun cls d H' => W cls d σ H') (sRaise C) :=
  ⟨ps_raise hc tk (pmk_own PySem.F.excBase_ValueError q gC kC (raises_own b t) hg hdb), fun D' Γ S σ w D g sl h r => r.er σ (.ref C) none ⟨C, []⟩ w S (Ext.refl w) g ⟨rfl, rfl⟩ h⟩
def tyOf (S : Sto) : D → Option String
  | .non => some "NoneType"
  | .bl _ => some "bool"
  | .int _ => some "int"
  | .str _ => some "str"
  | .lst _ => some "list"
  | .sq _ => some "list"
  | .tup _ => some "tuple"
  | .dic _ => some "dict"
  | .own h => match S[h]? with
    | some (.lst _) => some "list"
    | _ => none
  | _ => none
def isTyB (a n : String) : Bool := a == n || (a == "bool" && n == "int")
def tys : List String := ["NoneType", "bool", "int", "str", "list", "tuple", "dict"]
def tyN : List String := ["int", "bool", "str", "list", "tuple", "dict"]
theorem kit_all : (tys.all fun a => tyN.all fun n => decide (kitB a n = some (isTyB a n))) = true := by decide +kernel
theorem kit_at {K : PySem.W.Frag} {a n : String} (ha : a ∈ tys) (hn : n ∈ tyN) : PySem.W.kitOne K (.type a) (.type n) = some (isTyB a n) := by
  have h := List.all_eq_true.mp kit_all a ha
  have h2 := List.all_eq_true.mp h n hn
  exact kit_ty (of_decide_eq_true h2)
theorem tyx_of {K : PySem.W.Frag} {w : Hs} {S : Sto} (g : Good K w S) {v : V} {d : D} {n : String} (r : Rv K w v d) (h : tyOf S d = some n) : TyX K w.H v (.type n) ∧ n ∈ tys := by
  cases d with
  | non => cases r; cases h; exact ⟨.base .non, by decide⟩
  | bl b => cases r; cases h; exact ⟨.base (.bl b), by decide⟩
  | int b => cases r; cases h; exact ⟨.base (.int b), by decide⟩
  | str b => cases r; cases h; exact ⟨.base (.str b), by decide⟩
  | lst ds =>
    cases h
    cases r with
    | lst h1 h2 => exact ⟨.base (.lst (g.sub _ _ h1)), by decide⟩
  | sq ds =>
    cases h
    cases r with
    | sq h1 h2 =>
      refine ⟨?_, by decide⟩
      rcases h1 with (h1 | ⟨o, h1⟩) | ⟨o, its, m, h1, hc, _⟩
      · exact .base (.lst (g.sub _ _ h1))
      · exact .base (.frz (g.sub _ _ h1))
      · exact .kList h1 hc
  | tup ds =>
    cases h
    cases r with
    | tup h1 h2 =>
      refine ⟨?_, by decide⟩
      rcases h1 with (h1 | ⟨o, h1⟩) | ⟨o, its, m, h1, hc, _⟩
      · exact .base (.tup (g.sub _ _ h1))
      · exact .fTuple (g.sub _ _ h1)
      · exact .kTuple h1 hc
  | dic ds =>
    cases h
    cases r with
    | dic h1 h2 => exact ⟨.base (.dK (g.sub _ _ h1)), by decide⟩
  | own hh =>
    have e2 : (match S[hh]? with
      | some (.lst _) => some "list"
      | _ => none) = some n := h
    cases q : S[hh]? with
    | none => rw [q] at e2; cases e2
    | some c =>
      rw [q] at e2
      cases c with
      | gone => cases e2
      | ins _ _ => cases e2
      | dct _ => cases e2
      | dck _ => cases e2
      | lck _ _ _ => cases e2
      | lct _ _ _ => cases e2
      | tpl _ => cases e2
      | lst es =>
        cases e2
        obtain ⟨a, xs, rfl, _, h2, _⟩ := own_at g r q
        exact ⟨.base (.lst h2), by decide⟩
  | _ => cases h
def cIsi (ds : List D) (S : Sto) (Φ : KD) : Prop := match ds with
  | [d, .ty n] => ∃ a, tyOf S d = some a ∧ n ∈ tyN ∧ Φ S (.bl (isTyB a n))
  | _ => False
theorem two_of {K : PySem.W.Frag} {w : Hs} {vs : List V} {d e : D} (r : Ra K w vs [d, e]) : ∃ v u, vs = [v, u] ∧ Rv K w v d ∧ Rv K w u e := by
  cases r with
  | cons r1 r2 =>
    obtain ⟨u, rfl, ru⟩ := one_of r2
    exact ⟨_, _, rfl, r1, ru⟩
theorem rv_ty {K : PySem.W.Frag} {w : Hs} {v : V} {n : String} (r : Rv K w v (.ty n)) : v = .ty n := by cases r; rfl
theorem cd_isi {K : PySem.W.Frag} : CallD K (rIsi K) cIsi := fun w S vs ds Φ Q g r h q => by
  cases ds with
  | nil => exact h.elim
  | cons d t =>
    cases t with
    | nil => exact h.elim
    | cons e t2 =>
      cases t2 with
      | cons _ _ => cases e <;> exact h.elim
      | nil =>
        cases e with
        | ty n =>
          obtain ⟨a, h1, h2, h3⟩ := h
          obtain ⟨v, u, rfl, rv, ru⟩ := two_of r
          rw [rv_ty ru]
          obtain ⟨h4, h5⟩ := tyx_of g rv h1
          exact ⟨v, .ty n, .type a, .type n, isTyB a n, rfl, .ty n, h4, kit_at h5 h2, q _ _ w S (Ext.refl w) g (.bl _) h3⟩
        | _ => exact h.elim
/-- as FnOk, where the guards around are known to be none -/
structure FnOkG (P : Program) (wd : World) (K : PySem.W.Frag) (mg : Str → Option Value) (B : Heap) (cx : CXT) (k : Nat) (f : Addr) (fd : FuncData) (ps : List Str) (sp : Sp) : Prop where
  many : ∀ as H Q E, sp as H Q E → as.length = ps.length
  go : ∀ (Ar : Around) (out : List Env) (s0 : Shared) (H : Hp) (ar : Args) (us : List Value) (as : List V) (Q : VK) (E : XK),
    Ar.guards = some [] → Room k Ar → Env0 P wd K mg B Ar out s0 H → BindsTo s0 fd ar (ps.zip us) → Vals as us → sp as H Q E →
      codeAny (model P wd) Ar (.call (.ref f) ar) (CR cx out P wd H s0 Q E) s0
section
variable {P : Program} {wd : World} {K : PySem.W.Frag} {mg : Str → Option Value} {B : Heap} {cx : CXT} {k : Nat} {f : Addr} {fd : FuncData} {ps N : List Str} {sp : Sp}
theorem FnOkG.of (F : FnOk P wd K mg B cx k f fd ps sp) : FnOkG P wd K mg B cx k f fd ps sp where
  many := F.len
  go := fun Ar out s0 H ar us as Q E _ room en bi vs h => F.run Ar out s0 H ar us as Q E room en bi vs h
/-- how a body's end is a call's end -/
theorem end_of {qual : Str} {scope : Scope} {cdv : Value} {Ar : Around} {out : List Env} {s0 s1 : Shared} {H : Hp} {Q : VK} {E : XK} {fl : Flow}
    (h : SP (cxOf cx P wd K mg B N qual scope f cdv Ar out s0 H E) [] { nx := fun _ H1 => Q .non H1, rt := Q } fl s1) :
    match fl with
    | .ret u => CE out P wd H s0 Q u s1
    | .next => CE out P wd H s0 Q .none s1
    | _ => False := by
  cases fl with
  | ret u => exact let ⟨v, _, H1, J, r, q⟩ := h; ⟨v, H1, J.os, J.bare, J.base, J.hok, r, q⟩
  | next => exact let ⟨_, H1, J, q⟩ := h; ⟨.non, H1, J.os, J.bare, J.base, J.hok, rfl, q⟩
  | brk => exact let ⟨_, _, _, q⟩ := h; q.elim
  | cont => exact let ⟨_, _, _, q⟩ := h; q.elim
theorem fn_ofG {nm qual : Str} {pr : Arguments} {bd : List Stmt} {scope : Scope} {dV kV doc pm cdv ct oc : Value} {an od : Option Addr} {osl : Array (Option Value)}
    (there : K.lookup f = some ⟨oc, od, .func (PySem.W.fnOf nm qual pr bd scope dV kV doc pm an cdv ct), osl⟩) (code : PySem.W.codeIn K cdv qual = true) (Sc : FnScope N ps scope) (many : ∀ as H Q E, sp as H Q E → as.length = ps.length)
    (body : ∀ (Ar : Around) (out : List Env) (s0 : Shared) (H : Hp) (as : List V) (Q : VK) (E : XK), Ar.guards = some [] → Room k (Ar.deeper (envOfC qual scope s0.heap.objs.size f cdv)) → sp as H Q E →
      ∃ t, PSs (cxOf cx P wd K mg B N qual scope f cdv Ar out s0 H E) bd t ∧ t { nx := fun _ H1 => Q .non H1, rt := Q } (L2.start N as) H) :
    FnOkG P wd K mg B cx (k + 1) f (PySem.W.fnOf nm qual pr bd scope dV kV doc pm an cdv ct) ps sp where
  many := many
  go := by
    intro Ar out s0 H ar us as Q E gd room en bi vs hs
    obtain ⟨t, run, ask⟩ := body Ar out s0 H as Q E gd (room.deeper _) hs
    have up : ∀ c o, B.get? c = some o → s0.heap.get? c = some o := fun c o e => (en.bs c o e).1
    have kin : K.In s0.heap := en.mod.kin.keeps up
    have noLim := en.mod.nolimit.keeps up
    refine codeAny_call_function room.depth (kin _ _ there) rfl Sc.co Sc.gen rfl (PySem.W.codeRec_of kin code)
      (bi _ _ _ _ (wpAny_newFunctionEnv_cells Sc.kind (fun y hy => (Sc.par y.1 (List.of_mem_zip hy).1).elim .inl fun c => .inr ⟨c, PySem.W.cellsFrom_some _ _ _ (.inl c)⟩) ?_))
    intro env ee s1 inc
    subst ee
    refine ⟨noLim.keeps inc.toInCall.keep, codeAny_func ?_⟩
    refine wpAny_mono (run.run [] s1 (L2.start N as) H _ (inv_start Sc room.hd en (many _ _ _ _ hs) vs inc) ask) (fun fl s2 h => ?_) (fun _ _ h => h)
    have z := end_of (fl := fl) h
    cases fl <;> first | exact z | exact z.elim
end
section
variable {X : Cx} {W : WX} {e : Expr} {es : List Expr} {pos p : Pos} {tl : TA} {Tl : TL} {k : Nat} {f : Addr} {fd : FuncData} {ps : List Str} {sp : DSpec} {x : Str}
/-- the callee's run, its guards known -/
theorem goG {s0 : Sp} {pins : List (Addr × Obj)} {σ : L2.St} {H : Hp} {s : Shared} {Q : VK} {us : List Value} {vs : List V} (F : FnOkG X.prog X.w X.K X.mg X.base (L2.CX X.prog X.w) k f fd ps s0) (gd : X.A.guards = some []) (room : Room k X.A) (hb : Binds X.K fd ps []) (tk : Takes X W)
    (I : Inv X pins σ H s) (r : Vals vs us) (h : s0 vs H Q (WE W σ)) : wpAny (model X.prog X.w) X.A (call (.ref f) us) (EP X pins σ Q) X.xe s := by
  have many : (us ++ []).length = ps.length := by rw [List.append_nil, ← r.length, F.many _ _ _ _ h]
  have bi : BindsTo s fd ⟨us, []⟩ (ps.zip us) := by
    have z := hb s us I.kIn many
    rwa [List.append_nil] at z
  refine wpAny_call (codeAny_mono (F.go _ _ s H _ us vs Q _ gd room I.env0 bi r h) fun rr s2 hq => ?_)
  match rr, hq with
  | .error u, hq => exact passAt tk σ pins H s u s2 I hq
  | .ok (.ret u), hq => exact I.after hq
  | .ok .next, hq => exact False.elim hq
  | .ok .brk, hq => exact False.elim hq
  | .ok .cont, hq => exact False.elim hq
theorem je_callG (F : FnOkG X.prog X.w X.K X.mg X.base (L2.CX X.prog X.w) k f fd ps (spOf X.K sp)) (gd : X.A.guards = some []) (room : Room k X.A) (hg : Gl X x) (hm : X.mg x = some (.ref f)) (hk : PySem.W.keepIn X.K (.ref f) = true) (hb : Binds X.K fd ps [])
    (tk : Takes X W) (ha : JA X W (e :: es) tl Tl) (hdb : (x == ("__debug__" : Str)) = false := by decide) (he : starEach (e :: es) X.env = (false, eval e X.env) :: starEach es X.env := by rfl) (hpl : (backTo pos (starEach es X.env)).any (·.1) = false := by rfl) :
    JE X W (.Call (.Name x p) (e :: es) [] pos) (tCallS (spOf X.K sp) (WE W) tl) (dCall sp Tl) where
  sem := sem_call ha.sem
  pe := ⟨fun pins s σ H Q I h => wpAny_Call_Name_kw (ld_glob I hg hm (PySem.W.callWith_K (h₀ := X.base) I.ok.mod.kin hk
    (thn (ha.pa.run pos pins s σ H _ I h) fun us s1 ⟨vs, H1, I1, r, q⟩ => ⟨I1.kIn, goG F gd room hb tk I1 r q⟩) he hpl) hdb)⟩
end
end DL
namespace DL
open PySem PySem.Spec PyProof.Rows L2
section
variable {P : Program} {wd : World} {K : PySem.W.Frag} {mg mb : Str → Option Value} {k : Nat} {fa a : Addr} {fd : FuncData} {x : Str} {sp : DSpec} {s1 : Shared} {vs : List Value} {ns : List Int}
abbrev scrO (vs : List Value) : Obj := { cls := .type "list", data := .seq vs.toArray }
/-- the row's call, from what is tracked: nothing, or the script -/
theorem law_from {H : Hp} (hH : ∀ b u, H b = some u → b = a ∧ u = .frz (scrO vs) (.lst (ns.map V.int))) (hK : H a ≠ none → K.lookup a = none) (hS : SqL K H a (ns.map V.int))
    (kin : K.In s1.heap) (hns : s1.heap.Ns mainGlobals mg) (hb : s1.heap.Ns builtinsNs mb) (hbb : ∀ y : Str, y ≠ "__name__" → mb y = bootBuiltins y) (lim : s1.heap.NoLimit) (hg : s1.gens = #[]) (ha : s1.heap.get? a = some (scrO vs)) (hi : IntsAre vs ns) (hl : ns.length ≤ sizeLine)
    (room : Room k callerA) (F : ∀ base : Heap, K.In base → base.Ns mainGlobals mg → FnOkG P wd K mg base (L2.CX P wd) k fa fd [x] (spOf K sp)) (bind : ∀ (s : Shared) (u : Value), BindsTo s fd ⟨[u], []⟩ [(x, u)])
    (holds : sp [.sq (ns.map D.int)] [] (fun _ d => d = .bl true) fun _ _ => False) :
    codeAny (model P wd) callerA (.call (.ref fa) ⟨[.ref a], []⟩) (fun r s' => r = .ok (.ret (.bool true)) ∧ OldK s1.heap s'.heap ∧ s'.os = s1.os ∧ AllBare s'.gens) s1 := by
  have rv : Vals (ns.map V.int) vs := vals_ints hi
  have hok : HOk P wd H s1.heap := fun b u e => by
    obtain ⟨rfl, rfl⟩ := hH b u e
    exact ⟨ha, by rw [List.length_map]; exact hl, vs, _, rv, ha⟩
  have noD : ∀ {b : Addr} {o : Obj} {es : Array DictEntry} {n : Nat}, s1.heap.get? b = some o → o.data = .dict es n → H b = none := fun {b o es n} e d => by
    cases q : H b with
    | none => rfl
    | some u =>
      have z := (hH b u q).1
      rw [z, ha] at e
      rw [← Option.some.inj e] at d
      exact nomatch d
  have ns_ : ∀ {b : Addr} {m : Str → Option Value}, s1.heap.Ns b m → (hidT s1.heap H).Ns b m := fun {b m} n => by
    obtain ⟨o, es, ep, e, d, r⟩ := n
    exact ⟨o, es, ep, hidT_get e (noD e d), d, r⟩
  have kinB : K.In (hidT s1.heap H) := fun b o e => hidT_get (kin b o e) (by
    cases q : H b with
    | none => rfl
    | some u =>
      have z := (hH b u q).1
      have y := hK (by rw [← z, q]; exact fun t => nomatch t)
      rw [← z, e] at y
      exact nomatch y)
  have md : Mod K mg (hidT s1.heap H) := by
    obtain ⟨mc, l1, l2⟩ := lim
    exact ⟨kinB, ns_ hns, ⟨mb, ns_ hb, hbb⟩, ⟨mc, ns_ l1, l2⟩⟩
  have en : Env0 P wd K mg (hidT s1.heap H) callerA [] s1 H :=
    ⟨rfl, md, fun _ _ e => of_hidT e, Nat.le_of_eq (hidT_size _ _), trivial, (fun _ h => nomatch h), hok, .of_eq hg⟩
  have sps : spOf K sp [.ref a] H (fun v _ => v = .bl true) fun _ _ _ => False := by
    refine ⟨⟨H, [], H⟩, [], [.sq (ns.map D.int)], (fun _ d => d = .bl true), (fun _ _ => False), rfl, ⟨fun _ _ e => e, List.nodup_nil, rfl, fun h b c e => by simp at e, fun b h => nomatch h⟩, .cons (.sq hS ?_) .nil, holds, fun v d w' S' _ _ r q => ?_, fun _ _ _ _ _ _ _ _ z => z⟩
    · have e : ∀ l : List Int, RpA K H [] (l.map V.int) (l.map D.int) := fun l => by
        induction l with
        | nil => exact .nil
        | cons i l ih => exact .cons (.int i) ih
      exact e ns
    · have q : d = .bl true := q
      subst q
      exact rv_bl r
  refine codeAny_mono ((F _ kinB (ns_ hns)).go callerA [] s1 H ⟨[.ref a], []⟩ [.ref a] [.ref a] _ _ rfl room en (bind s1 _) (.cons rfl .nil) sps) fun r s2 h => ?_
  match r, h with
  | .ok (.ret u), h =>
    obtain ⟨v, H2, os, bare, un, hok2, r2, q⟩ := h
    have q : v = .bl true := q
    subst q
    have eu : u = Value.bool true := r2
    refine ⟨by rw [eu], OldK.of_keep fun b o e => ?_, os, bare⟩
    cases z : H b with
    | none => exact un.keep b o e z (fun t => nomatch t) (fun t => nomatch t)
    | some y =>
      obtain ⟨rfl, rfl⟩ := hH b y z
      have t1 := (hok2 b _ (un.frzs b _ _ z)).1
      rw [ha] at e
      rw [← Option.some.inj e]
      exact t1
  | .ok .next, h => exact False.elim h
  | .ok .brk, h => exact False.elim h
  | .ok .cont, h => exact False.elim h
  | .error e, h =>
    have h : L2.CX P wd [] H s1 (fun _ _ _ => False) e s2 := h
    obtain ⟨_, _, _, _, _, _, _, _, _, _, _, _, z⟩ := h
    exact z.elim
theorem law_end (kin : K.In s1.heap) (hns : s1.heap.Ns mainGlobals mg) (hb : s1.heap.Ns builtinsNs mb) (hbb : ∀ y : Str, y ≠ "__name__" → mb y = bootBuiltins y) (lim : s1.heap.NoLimit) (hg : s1.gens = #[]) (ha : s1.heap.get? a = some (scrO vs)) (hi : IntsAre vs ns) (hl : ns.length ≤ sizeLine)
    (room : Room k callerA) (F : ∀ base : Heap, K.In base → base.Ns mainGlobals mg → FnOkG P wd K mg base (L2.CX P wd) k fa fd [x] (spOf K sp)) (bind : ∀ (s : Shared) (u : Value), BindsTo s fd ⟨[u], []⟩ [(x, u)])
    (holds : sp [.sq (ns.map D.int)] [] (fun _ d => d = .bl true) fun _ _ => False) :
    codeAny (model P wd) callerA (.call (.ref fa) ⟨[.ref a], []⟩) (fun r s' => r = .ok (.ret (.bool true)) ∧ OldK s1.heap s'.heap ∧ s'.os = s1.os ∧ AllBare s'.gens) s1 := by
  cases q : K.lookup a with
  | some o =>
    have e := kin a o q
    rw [ha] at e
    have e2 := Option.some.inj e
    refine law_from (H := fun _ => none) (fun b u z => nomatch z) (fun z => absurd rfl z) (.inr ⟨o, vs.toArray, 0, q, ?_, ?_, ?_, ?_, ?_⟩) kin hns hb hbb lim hg ha hi hl room F bind holds
    · rw [← e2]
    · rw [← e2]
    · rw [← e2]
    · rw [List.size_toArray, hi.length]; exact hl
    · exact vals_ints hi
  | none =>
    refine law_from (H := fun b => if b = a then some (.frz (scrO vs) (.lst (ns.map V.int))) else none) (fun b u z => ?_) (fun _ => q) (.inl (.inr ⟨scrO vs, if_pos rfl⟩)) kin hns hb hbb lim hg ha hi hl room F bind holds
    by_cases e : b = a
    · exact ⟨e, (Option.some.inj ((if_pos e).symm.trans z)).symm⟩
    · exact nomatch (if_neg e).symm.trans z
end
/-- what the row's head leaves, from the law's promise by data -/
theorem walk_end {l : PySem.W.OpenLaw} {n k : Nat} {q : Program} {loose : List Str} {XP : (Str → Option Value) → Heap → Prop} {YP : World → Heap → Prop} {d : DefRec} {x : Str} (hn : l.most = some n) (hn2 : n ≤ sizeLine) (hdf : d.params.defaults = []) (room : Room k callerA)
    (F : ∀ (w : World) (mg : Str → Option Value) (fa : Addr) (h : Heap), YP w h → h.Ns mainGlobals mg → mg d.name = some (.ref fa) →
      ∃ (K : PySem.W.Frag) (fd : FuncData) (sp : DSpec), K.In h ∧ (∀ (s : Shared) (u : Value), BindsTo s fd ⟨[u], []⟩ [(x, u)]) ∧ (∀ ns : List Int, ns.length ≤ n → (∀ z ∈ ns, Builtin.Int.intBits z ≤ 1048576) → sp [.sq (ns.map D.int)] [] (fun _ d => d = .bl true) fun _ _ => False) ∧
        ∀ base : Heap, K.In base → base.Ns mainGlobals mg → FnOkG l.prog w K mg base (L2.CX l.prog w) k fa fd [x] (spOf K sp)) :
    PySem.W.WalkO q loose XP YP l.row.toRowW d [] (fun f vs => PySem.call f vs) := by
  refine Att.attach_callB hn hdf fun w s0 s1 mg mb fa o pm cd doc a vs ns G Y ho hd hcd hmg hobj hints hlen hbits hg => ?_
  obtain ⟨K, fd, sp, kin, hb, hs, hF⟩ := F w mg fa _ Y G.T.g hmg
  exact law_end kin G.T.g G.T.b G.T.builtins G.T.nolimit hg hobj hints (Nat.le_trans hlen hn2) room hF hb (hs ns hlen hbits)
end DL
namespace DL
open PySem PySem.Spec PyProof.Rows L2
def fzD (d : D) (S : Sto) (Φ : KD) : Prop := match d with
  | .own h => ∃ ds, S[h]? = some (.lst ds) ∧ Φ (S.set h .gone) (.lst ds)
  | d => Φ S d
def dFz (T : TD) : TD := fun Γ S Φ Ψ => T Γ S (fun S1 d => fzD d S1 Φ) Ψ
theorem fz_ok {K : PySem.W.Frag} {w : Hs} {S : Sto} (g : Good K w S) {Φ : KD} {Q : VK} {v : V} {d : D} (r : Rv K w v d) (h : fzD d S Φ) (q : OkD K w Φ Q) : Q v w.H := by
  have other : Φ S d → Q v w.H := fun z => q v d w S (Ext.refl w) g r z
  cases d with
  | own hh =>
    obtain ⟨ds, e, hΦ⟩ := h
    obtain ⟨a, xs, rfl, ha, hH, ra⟩ := own_at g r e
    have hm : a ∈ w.al := List.mem_of_getElem? ha
    have hF : w.F a = none := (g.cell hh a _ ha e).1
    have ee : Ext w (w.fz a (.lst xs)) := Ext.fz hm hF
    exact q (.ref a) (.lst ds) (w.fz a (.lst xs)) _ ee (g.fz ha e hH) (.lst upd_same (ee.ra ra)) hΦ
  | _ => exact other h
theorem je_fz {X : Cx} {W : WX} {e : Expr} {t : TE} {T : TD} (h : JE X W e t T) : JE X W e t (dFz T) := ⟨h.pe, fun Γ S Φ Ψ σ w g sl hT hx Q q =>
  h.sem Γ S _ Ψ σ w g sl hT hx Q fun v d w1 S1 e1 g1 r1 h1 => fz_ok g1 r1 h1 (q.ext e1)⟩
mutual
def D.low (n : Nat) : D → Bool
  | .own h => decide (h < n)
  | .lst ds => lowA n ds
  | .sq ds => lowA n ds
  | .tup ds => lowA n ds
  | .ins _ fs => lowF n fs
  | .dic kvs => lowK n kvs
  | .non => true
  | .bl _ => true
  | .int _ => true
  | .str _ => true
  | .obj _ => true
  | .ty _ => true
  | .exc _ fs => lowF n fs
def lowA (n : Nat) : List D → Bool
  | [] => true
  | d :: ds => D.low n d && lowA n ds
def lowF (n : Nat) : List (Str × D) → Bool
  | [] => true
  | (_, d) :: ds => D.low n d && lowF n ds
def lowK (n : Nat) : List (Key × D) → Bool
  | [] => true
  | (_, d) :: ds => D.low n d && lowK n ds
end
section
variable {K : PySem.W.Frag} {F : Hp} {al : List Addr}
mutual
theorem rp_low (n : Nat) : ∀ (d : D) (v : V), Rp K F al v d → d.low n = true → Rp K F (al.take n) v d
  | .non, _, h, _ => by cases h; exact .non
  | .bl _, _, h, _ => by cases h; exact .bl _
  | .int _, _, h, _ => by cases h; exact .int _
  | .str _, _, h, _ => by cases h; exact .str _
  | .lst ds, _, h, l => by
    cases h with
    | lst h1 h2 => exact .lst h1 (ra_low n ds _ h2 (by simpa [D.low] using l))
  | .sq ds, _, h, l => by
    cases h with
    | sq h1 h2 => exact .sq h1 (ra_low n ds _ h2 (by simpa [D.low] using l))
  | .tup ds, _, h, l => by
    cases h with
    | tup h1 h2 => exact .tup h1 (ra_low n ds _ h2 (by simpa [D.low] using l))
  | .ins C fs, _, h, l => by
    cases h with
    | ins h1 h2 => exact .ins h1 (rf_low n fs _ h2 (by simpa [D.low] using l))
  | .dic fs, _, h, l => by
    cases h with
    | dic h1 h2 => exact .dic h1 (rk_low n fs _ h2 (by simpa [D.low] using l))
  | .obj _, _, h, _ => by cases h; exact .obj _
  | .own m, _, h, l => by
    cases h with
    | own h1 =>
      have hm : m < n := by simpa [D.low] using l
      exact .own (by rw [List.getElem?_take_of_lt hm]; exact h1)
  | .ty _, _, h, _ => by cases h; exact .ty _
  | .exc C fs, _, h, l => by
    cases h with
    | exc0 h1 h2 h0 h3 => exact .exc0 h1 h2 h0 h3
    | excD h1 h2 h0 h3 h4 h5 => exact .excD h1 h2 h0 h3 h4 (rf_low n fs _ h5 (by simpa [D.low] using l))
theorem ra_low (n : Nat) : ∀ (ds : List D) (vs : List V), RpA K F al vs ds → lowA n ds = true → RpA K F (al.take n) vs ds
  | [], _, h, _ => by cases h; exact .nil
  | d :: ds, _, h, l => by
    rw [lowA, Bool.and_eq_true] at l
    cases h with
    | cons h1 h2 => exact .cons (rp_low n d _ h1 l.1) (ra_low n ds _ h2 l.2)
theorem rf_low (n : Nat) : ∀ (ds : List (Str × D)) (vs : List (Str × V)), RpF K F al vs ds → lowF n ds = true → RpF K F (al.take n) vs ds
  | [], _, h, _ => by cases h; exact .nil
  | (_, d) :: ds, _, h, l => by
    rw [lowF, Bool.and_eq_true] at l
    cases h with
    | cons h1 h2 => exact .cons (rp_low n d _ h1 l.1) (rf_low n ds _ h2 l.2)
theorem rk_low (n : Nat) : ∀ (ds : List (Key × D)) (vs : List (Key × V)), RpK K F al vs ds → lowK n ds = true → RpK K F (al.take n) vs ds
  | [], _, h, _ => by cases h; exact .nil
  | (_, d) :: ds, _, h, l => by
    rw [lowK, Bool.and_eq_true] at l
    cases h with
    | cons h1 h2 => exact .cons (rp_low n d _ h1 l.1) (rk_low n ds _ h2 l.2)
end
mutual
theorem low_of {n : Nat} (hn : al.length ≤ n) : ∀ (d : D) (v : V), Rp K F al v d → d.low n = true
  | .non, _, h => by simp [D.low]
  | .bl _, _, h => by simp [D.low]
  | .int _, _, h => by simp [D.low]
  | .str _, _, h => by simp [D.low]
  | .lst ds, _, h => by
    cases h with
    | lst h1 h2 => rw [D.low]; exact lowA_of hn ds _ h2
  | .sq ds, _, h => by
    cases h with
    | sq h1 h2 => rw [D.low]; exact lowA_of hn ds _ h2
  | .tup ds, _, h => by
    cases h with
    | tup h1 h2 => rw [D.low]; exact lowA_of hn ds _ h2
  | .ins C fs, _, h => by
    cases h with
    | ins h1 h2 => rw [D.low]; exact lowF_of hn fs _ h2
  | .dic fs, _, h => by
    cases h with
    | dic h1 h2 => rw [D.low]; exact lowK_of hn fs _ h2
  | .obj _, _, h => by simp [D.low]
  | .own m, _, h => by
    cases h with
    | own h1 =>
      have := (List.getElem?_eq_some_iff.mp h1).1
      rw [D.low, decide_eq_true_eq]
      omega
  | .ty _, _, h => by simp [D.low]
  | .exc C fs, _, h => by
    cases h with
    | exc0 h1 h2 h0 h3 => rw [D.low, lowF]
    | excD h1 h2 h0 h3 h4 h5 => rw [D.low]; exact lowF_of hn fs _ h5
theorem lowA_of {n : Nat} (hn : al.length ≤ n) : ∀ (ds : List D) (vs : List V), RpA K F al vs ds → lowA n ds = true
  | [], _, h => by rw [lowA]
  | d :: ds, _, h => by
    cases h with
    | cons h1 h2 => rw [lowA, low_of hn d _ h1, lowA_of hn ds _ h2] <;> rfl
theorem lowF_of {n : Nat} (hn : al.length ≤ n) : ∀ (ds : List (Str × D)) (vs : List (Str × V)), RpF K F al vs ds → lowF n ds = true
  | [], _, h => by rw [lowF]
  | (_, d) :: ds, _, h => by
    cases h with
    | cons h1 h2 => rw [lowF, low_of hn d _ h1, lowF_of hn ds _ h2] <;> rfl
theorem lowK_of {n : Nat} (hn : al.length ≤ n) : ∀ (ds : List (Key × D)) (vs : List (Key × V)), RpK K F al vs ds → lowK n ds = true
  | [], _, h => by rw [lowK]
  | (_, d) :: ds, _, h => by
    cases h with
    | cons h1 h2 => rw [lowK, low_of hn d _ h1, lowK_of hn ds _ h2] <;> rfl
end
end
def Cell.low (n : Nat) : Cell → Bool
  | .lst ds => lowA n ds
  | .ins _ fs => lowF n fs
  | .dct ks => ks.all fun p => p.2.low n
  | .dck ks => lowK n ks
  | .lck _ _ ks => lowK n ks
  | .lct _ _ ks => ks.all fun p => p.2.low n
  | .tpl _ => true
  | .gone => true
/-- behind a def: the cells of its own are left behind -/
def Cut (S0 S1 S' : Sto) : Prop := S0.length ≤ S1.length ∧ S1 <+: S' ∧ ∀ (h : Nat) (c : Cell), S1[h]? = some c → S0[h]? = some c ∨ c.low S1.length = true
def RetOk (S0 : Sto) (Φ : KD) : KD := fun S' d => Φ S' d ∨ ∃ S1, Cut S0 S1 S' ∧ d.low S1.length = true ∧ Φ S1 d
def ErOk (S0 : Sto) (Ψ : KX) : KX := fun S' x => Ψ S' x ∨ ∃ S1, Cut S0 S1 S' ∧ lowF S1.length x.fs = true ∧ Ψ S1 x
theorem Cut.same {S0 cs : Sto} : Cut S0 S0 (S0 ++ cs) := ⟨Nat.le_refl _, List.prefix_append _ _, fun h c e => .inl e⟩
theorem ret_cut {S0 cs : Sto} {Φ : KD} {d : D} (hl : d.low S0.length = true) (h : Φ S0 d) : RetOk S0 Φ (S0 ++ cs) d := .inr ⟨S0, Cut.same, hl, h⟩
theorem ret_now {S0 S : Sto} {Φ : KD} {d : D} (h : Φ S d) : RetOk S0 Φ S d := .inl h
section
variable {K : PySem.W.Frag} {w0 w' : Hs} {S0 S1 S' : Sto}
def Hs.tk (w : Hs) (n : Nat) : Hs := ⟨w.F, w.al.take n, w.H⟩
theorem cut_ok (g0 : Good K w0 S0) (e : Ext w0 w') (g' : Good K w' S') (c : Cut S0 S1 S') : Ext w0 (w'.tk S1.length) ∧ Good K (w'.tk S1.length) S1 := by
  obtain ⟨hl, ⟨cs, hp⟩, hc⟩ := c
  have hle : S1.length ≤ w'.al.length := by rw [g'.len, ← hp, List.length_append]; omega
  have get : ∀ (n : Nat) (a : Addr), (w'.al.take S1.length)[n]? = some a → n < S1.length ∧ w'.al[n]? = some a := fun n a q => by
    have h1 := (List.getElem?_eq_some_iff.mp q).1
    rw [List.length_take] at h1
    have h2 : n < S1.length := by omega
    rw [List.getElem?_take_of_lt h2] at q
    exact ⟨h2, q⟩
  refine ⟨⟨e.f, ?_, e.new, e.kp, e.dm⟩, ⟨g'.sub, g'.nd.sublist (List.take_sublist _ _), ?_, fun n a cc q1 q2 => ?_, fun a q => g'.dom a (List.mem_of_mem_take q)⟩⟩
  · obtain ⟨β, eb, hb⟩ := e.al
    refine ⟨β.take (S1.length - w0.al.length), ?_, fun b q => hb b (List.mem_of_mem_take q)⟩
    show w'.al.take S1.length = _
    rw [eb, List.take_append, List.take_of_length_le (by rw [g0.len]; exact hl)]
  · show (w'.al.take S1.length).length = _
    rw [List.length_take]; omega
  · obtain ⟨h2, q1⟩ := get n a q1
    have q3 : S'[n]? = some cc := by rw [← hp, List.getElem?_append_left h2]; exact q2
    have ok := g'.cell n a cc q1 q3
    cases cc with
    | gone => exact True.intro
    | lst ds =>
      obtain ⟨hF, xs, hH, ra⟩ := ok
      refine ⟨hF, xs, hH, ra_low _ ds xs ra ?_⟩
      rcases hc n _ q2 with z | z
      · have hn0 : n < w0.al.length := by rw [g0.len]; exact (List.getElem?_eq_some_iff.mp z).1
        have q0 : w0.al[n]? = some w0.al[n] := List.getElem?_eq_getElem hn0
        obtain ⟨_, ys, _, r0⟩ := g0.cell n _ _ q0 z
        exact lowA_of (by rw [g0.len]; exact hl) ds ys r0
      · exact z
    | ins C fs =>
      obtain ⟨hF, dx, xs, hH, ra⟩ := ok
      refine ⟨hF, dx, xs, hH, rf_low _ fs xs ra ?_⟩
      rcases hc n _ q2 with z | z
      · have hn0 : n < w0.al.length := by rw [g0.len]; exact (List.getElem?_eq_some_iff.mp z).1
        have q0 : w0.al[n]? = some w0.al[n] := List.getElem?_eq_getElem hn0
        obtain ⟨_, _, ys, _, r0⟩ := g0.cell n _ _ q0 z
        exact lowF_of (by rw [g0.len]; exact hl) fs ys r0
      · exact z
    | dct ks =>
      obtain ⟨hF, us, hH, ra⟩ := ok
      refine ⟨hF, us, hH, ra.1, fun i k d q => ?_⟩
      obtain ⟨v, q5, rv⟩ := ra.2 i k d q
      refine ⟨v, q5, rp_low _ d v rv ?_⟩
      rcases hc n _ q2 with z | z
      · have hn0 : n < w0.al.length := by rw [g0.len]; exact (List.getElem?_eq_some_iff.mp z).1
        have q0 : w0.al[n]? = some w0.al[n] := List.getElem?_eq_getElem hn0
        obtain ⟨_, ys, _, r0⟩ := g0.cell n _ _ q0 z
        obtain ⟨v0, _, rv0⟩ := r0.2 i k d q
        exact low_of (by rw [g0.len]; exact hl) d v0 rv0
      · have z : (ks.all fun p => p.2.low S1.length) = true := z
        rw [List.all_eq_true] at z
        exact z (k, d) (List.mem_of_getElem? q)
    | dck ks =>
      obtain ⟨hF, us, hH, ra⟩ := ok
      refine ⟨hF, us, hH, rk_low _ ks us ra ?_⟩
      rcases hc n _ q2 with z | z
      · have hn0 : n < w0.al.length := by rw [g0.len]; exact (List.getElem?_eq_some_iff.mp z).1
        have q0 : w0.al[n]? = some w0.al[n] := List.getElem?_eq_getElem hn0
        obtain ⟨_, ys, _, r0⟩ := g0.cell n _ _ q0 z
        exact lowK_of (by rw [g0.len]; exact hl) ks ys r0
      · exact z
    | lck o us ks =>
      obtain ⟨hF, hH, ra⟩ := ok
      refine ⟨hF, hH, rk_low _ ks us ra ?_⟩
      rcases hc n _ q2 with z | z
      · have hn0 : n < w0.al.length := by rw [g0.len]; exact (List.getElem?_eq_some_iff.mp z).1
        have q0 : w0.al[n]? = some w0.al[n] := List.getElem?_eq_getElem hn0
        obtain ⟨_, _, r0⟩ := g0.cell n _ _ q0 z
        exact lowK_of (by rw [g0.len]; exact hl) ks us r0
      · exact z
    | lct o us ks =>
      obtain ⟨hF, hH, ra⟩ := ok
      refine ⟨hF, hH, ra.1, fun i k d q => ?_⟩
      obtain ⟨v, q5, rv⟩ := ra.2 i k d q
      refine ⟨v, q5, rp_low _ d v rv ?_⟩
      rcases hc n _ q2 with z | z
      · have hn0 : n < w0.al.length := by rw [g0.len]; exact (List.getElem?_eq_some_iff.mp z).1
        have q0 : w0.al[n]? = some w0.al[n] := List.getElem?_eq_getElem hn0
        obtain ⟨_, _, r0⟩ := g0.cell n _ _ q0 z
        obtain ⟨v0, _, rv0⟩ := r0.2 i k d q
        exact low_of (by rw [g0.len]; exact hl) d v0 rv0
      · have z : (ks.all fun p => p.2.low S1.length) = true := z
        rw [List.all_eq_true] at z
        exact z (k, d) (List.mem_of_getElem? q)
    | tpl ks => exact ok
end
theorem body_ok2 {K : PySem.W.Frag} {N : List Str} {t : TS} {T : TSd} {sp : DSpec} {E : XK} (hb : SemS K (WD E) t T) (h : ∀ ds S Φ Ψ, sp ds S Φ Ψ → T { nx := fun _ S' => RetOk S Φ S' .non, rt := RetOk S Φ, er := ErOk S Ψ } (gstart N ds) S) {vs : List V} {H : Hp} {Q : VK} (hs : spOf K sp vs H Q E) :
    t { nx := fun _ H' => Q .non H', rt := Q } (L2.start N vs) H := by
  obtain ⟨w, S, ds, Φ, Ψ, rfl, g, r, h1, q, hx⟩ := hs
  have qr : OkD K w (RetOk S Φ) Q := fun v d w' S' e' g' r' hr => by
    rcases hr with hr | ⟨S1, c, hl, hr⟩
    · exact q v d w' S' e' g' r' hr
    · obtain ⟨e2, g2⟩ := cut_ok g e' g' c
      exact q v d (w'.tk S1.length) S1 e2 g2 (rp_low _ d v r' hl) hr
  refine hb _ _ S _ w _ g (slots_start r) (h ds S Φ Ψ h1) ⟨fun σ' Γ' w' S' e' g' _ h' => qr .non .non w' S' e' g' .non h', qr, fun _ _ _ _ _ _ _ z => z.elim, fun _ _ _ _ _ _ _ z => z.elim, fun _ cv dx x w' S' e' g' r' h' => ?_⟩
  rcases h' with h' | ⟨S1, c, hl, h'⟩
  · exact hx cv dx x w' S' e' g' r' h'
  · obtain ⟨e2, g2⟩ := cut_ok g e' g' c
    refine hx cv dx x (w'.tk S1.length) S1 e2 g2 ⟨r'.1, ?_⟩ h'
    cases dx with
    | none => exact r'.2
    | some a =>
      obtain ⟨vs, k1, k2⟩ := r'.2
      exact ⟨vs, k1, rf_low _ _ _ k2 hl⟩
abbrev FunS (K : PySem.W.Frag) (x : Str) (st : Stmt) (f : Addr) (fd : FuncData) : Prop := FunD K x x (defArgs st) (defBody st) (defScope st) [] [] f fd
section
variable (P : Program) (wd : World) (K : PySem.W.Frag) (mg : Str → Option Value) (base : Heap)
/-- a callee by its name -/
structure Cal (x : Str) (st : Stmt) (k : Nat) (ps : List Str) (sp : DSpec) : Prop where
  ex : ∃ (f : Addr) (fd : FuncData), FnOk P wd K mg base (L2.CX P wd) k f fd ps (spOf K sp) ∧ mg x = some (.ref f) ∧ FunS K x st f fd ∧ Binds K fd ps []
structure CalG (x : Str) (st : Stmt) (k : Nat) (ps : List Str) (sp : DSpec) : Prop where
  ex : ∃ (f : Addr) (fd : FuncData), FnOkG P wd K mg base (L2.CX P wd) k f fd ps (spOf K sp) ∧ mg x = some (.ref f) ∧ FunS K x st f fd ∧ Binds K fd ps []
/-- a class of errors -/
structure ExcF (x : Str) (C : Addr) : Prop where
  q : PySem.W.excIn K C He.veBase "ValueError.__new__" = true
  g : mg x = some (.ref C)
  k : PySem.W.keepIn K (.ref C) = true
  b : PySem.W.subIn K (.ref C) (.type "BaseException") = some true
  t : PySem.W.typeIn K (.ref C) = some (.type "type")
/-- a def of the text -/
structure Tx (x : Str) (st : Stmt) : Prop where
  ex : ∃ (f : Addr) (fd : FuncData), FunS K x st f fd ∧ mg x = some (.ref f)
end
section
variable {P : Program} {wd : World} {K : PySem.W.Frag} {mg : Str → Option Value} {base : Heap} {x : Str} {st : Stmt} {k : Nat} {ps : List Str} {sp : DSpec}
theorem Cal.g (c : Cal P wd K mg base x st k ps sp) : CalG P wd K mg base x st k ps sp := let ⟨f, fd, h, r⟩ := c.ex; ⟨f, fd, FnOkG.of h, r⟩
theorem binds_of {f : Addr} {fd : FuncData} (F : FunS K x st f fd)
    (h : ∀ (kV doc pm : Value) (an : Option Addr) (cdv ct : Value) (us : List Value), us.length = ps.length → bindArgs (PySem.W.fnOf x x (defArgs st) (defBody st) (defScope st) .none kV doc pm an cdv ct) ⟨us, []⟩ = pure (ps.zip us)) : Binds K fd ps [] := F.bindsN h
theorem calG_ok {N : List Str} (F : Tx K mg x st)
    (hbind : ∀ (kV doc pm : Value) (an : Option Addr) (cdv ct : Value) (us : List Value), us.length = ps.length → bindArgs (PySem.W.fnOf x x (defArgs st) (defBody st) (defScope st) .none kV doc pm an cdv ct) ⟨us, []⟩ = pure (ps.zip us))
    (Sc : FnScope N ps (defScope st)) (len : ∀ ds S Φ Ψ, sp ds S Φ Ψ → ds.length = ps.length)
    (hbody : ∀ (f : Addr) (cdv : Value) (A : Around) (outer : List Env) (s : Shared) (H : Hp) (E : XK), (A.deeper (envOfC x (defScope st) s.heap.objs.size f cdv)).guards = some [] → Room k (A.deeper (envOfC x (defScope st) s.heap.objs.size f cdv)) →
      ∃ t T, JB (cxOf (L2.CX P wd) P wd K mg base N x (defScope st) f cdv A outer s H E) (WD E) (defBody st) t T ∧ ∀ ds S Φ Ψ, sp ds S Φ Ψ → T { nx := fun _ S' => RetOk S Φ S' .non, rt := RetOk S Φ, er := ErOk S Ψ } (gstart N ds) S) :
    CalG P wd K mg base x st (k + 1) ps sp := by
  obtain ⟨f, fd, F, hm⟩ := F.ex
  refine ⟨f, fd, ?_, hm, F, binds_of F hbind⟩
  obtain ⟨_, _, _, _, _, _, _, cdv, _, _, e, lk, hcd, _, _⟩ := F.ex
  subst e
  refine fn_ofG lk hcd Sc (fun vs H Q E h => ?_) fun A outer s H vs Q E hG hr hs => ?_
  · obtain ⟨w, S, ds, Φ, Ψ, _, _, r, h1, _⟩ := h
    rw [r.length]
    exact len ds S Φ Ψ h1
  · obtain ⟨t, T, jb, hq⟩ := hbody f cdv A outer s H E (by show A.guards = some []; exact hG) hr
    exact ⟨t, jb.pss, body_ok2 jb.sem hq hs⟩
end
section
variable {X : Cx} {W : WX} {e : Expr} {es : List Expr} {pos p : Pos} {tl tk' : TA} {Tl Tk : TL} {k n : Nat} {ps ks : List Str} {sp : DSpec} {x : Str} {st : Stmt} {kws : List Keyword}
theorem je_callCG (c : CalG X.prog X.w X.K X.mg X.base x st k ps sp) (gd : X.A.guards = some []) (hr : Room k X.A) (hg : Gl X x) (tk : Takes X W) (ha : JA X W (e :: es) tl Tl) (hdb : (x == ("__debug__" : Str)) = false := by decide)
    (he : starEach (e :: es) X.env = (false, eval e X.env) :: starEach es X.env := by rfl) (hpl : (backTo pos (starEach es X.env)).any (·.1) = false := by rfl) : JE X W (.Call (.Name x p) (e :: es) [] pos) (tCallS (spOf X.K sp) (WE W) tl) (dCall sp Tl) := by
  obtain ⟨f, fd, F, hm, hk, hb⟩ := c.ex
  exact je_callG F gd hr hg hm hk.kp hb tk ha hdb he hpl
theorem js_raiseC {m : Str} {C : Addr} {j : Nat} {p2 pos' : Pos} (c : ExcF X.K X.mg x C) (hc : X.calm = true) (tk : Takes X W) (hg : Gl X x) (hdb : (x == ("__debug__" : Str)) = false := by decide) :
    JS X W (.Raise (some (.Call (.Name x p) [.Constant (.str m) j p2] [] pos')) none pos) (fun _ σ H => (fun (_ : L2.St) (H : Hp) (Q : XK) => Q (.ref C) none H) σ H fun cls d H' => W cls d σ H') (sRaise C) := js_raise hc tk c.q c.g c.k c.b c.t hg hdb
/-- keywords -/
structure JK (X : Cx) (W : WX) (kws : List Keyword) (t : TA) (T : TL) : Prop where
  pk : PK X kws t
  sem : SemA X.K W t T
theorem jk_nil : JK X W [] tNil lNil := ⟨pk_nil, (ja_nil (X := X)).sem⟩
theorem jk_cons {nm : Option Str} {kpos : Pos} {te : TE} {Te : TD} (ha : JE X W e te Te) (hr : JK X W kws tl Tl) : JK X W (⟨nm, e, kpos⟩ :: kws) (tCons te tl) (lCons Te Tl) := ⟨pk_cons ha.pe hr.pk, fun Γ S Φ Ψ σ w g sl h hx Q q =>
  ha.sem Γ S _ Ψ σ w g sl h hx _ fun v d w1 S1 e1 g1 r1 h1 => hr.sem Γ S1 _ Ψ σ w1 g1 (sl.ext e1) h1 (hx.ext e1) _ fun vs ds w2 S2 e2 g2 r2 h2 => q _ _ w2 S2 (e1.trans e2) g2 (.cons (e2.rp r1) r2) h2⟩
def dCallK (n m : Nat) (sp : DSpec) (g : List D → List D → List D) (T Tk : TL) : TD := fun Γ S Φ Ψ => T Γ S (fun S1 ds => Tk Γ S1 (fun S2 es => ds.length = n ∧ es.length = m ∧ sp (g ds es) S2 Φ Ψ) Ψ) Ψ
end
end DL
namespace DL
open PySem PySem.Spec PyProof.Rows L2
section
variable {X : Cx} {W : WX} {a b c : Expr} {pos : Pos} {tl : TA} {Tl : TL}
def sPar3 (i j l : Nat) (T : TL) : TSd := fun D Γ S => T Γ S (fun S1 ds => ∃ x y z, ds = [x, y, z] ∧ D.nx (((Γ.set i (some x)).set j (some y)).set l (some z)) S1) D.er
theorem js_par3 (i j l : Nat) {x y z : Str} {px py pz pt : Pos} {kt k2 pt2} (hc : X.calm = true) (hN : X.N.Nodup) (ha : JA X W [a, b, c] tl Tl) (hij : i ≠ j := by decide) (hil : i ≠ l := by decide) (hjl : j ≠ l := by decide) (hi : X.N[i]? = some x := by rfl) (hj : X.N[j]? = some y := by rfl) (hl : X.N[l]? = some z := by rfl)
    (hx : X.env.scope.names.lookup x = some .local := by rfl) (hy : X.env.scope.names.lookup y = some .local := by rfl) (hz : X.env.scope.names.lookup z = some .local := by rfl)
    (hw : swappedStores [.Tuple [.Name x px, .Name y py, .Name z pz] kt pt] (.Tuple [a, b, c] k2 pt2) X.env = pure (some [x, y, z]) := by rfl)
    (hsw : swapsWithSole [.Tuple [.Name x px, .Name y py, .Name z pz] kt pt] (.Tuple [a, b, c] k2 pt2) pos.line X.env = pure false := by rfl) :
    JS X W (.Assign [.Tuple [.Name x px, .Name y py, .Name z pz] kt pt] (.Tuple [a, b, c] k2 pt2) pos) (tPar3 i j l tl) (sPar3 i j l Tl) :=
  ⟨ps_par3 hc hN hi hj hl hij hil hjl hx hy hz ha.pa hw hsw, fun D' Γ S σ w D g sl hT r =>
    ha.sem Γ S _ _ σ w g sl hT (r.er σ) _ fun vs ds w1 S1 e1 g1 r1 ⟨x, y, z, e, h1⟩ => by
      subst e
      cases r1 with
      | cons ra rb =>
        obtain ⟨v2, v3, rfl, rc, rd⟩ := two_of rb
        exact ⟨_, _, _, rfl, r.nx _ _ w1 S1 e1 g1 ((((sl.ext e1).set ra i).set rc j).set rd l) h1⟩⟩
end
def pick {α : Type} (perm : List Nat) (as es : List α) : List α := perm.filterMap fun i => (as ++ es)[i]?
theorem pick_vals {vs zs : List V} {us ws : List Value} (h : Vals vs us) (h2 : Vals zs ws) : ∀ perm : List Nat, Vals (pick perm vs zs) (pick perm us ws)
  | [] => .nil
  | i :: r => by
    have ih := pick_vals h h2 r
    have ap := Vals.append h h2
    unfold pick at ih ⊢
    rw [List.filterMap_cons, List.filterMap_cons]
    cases e : (vs ++ zs)[i]? with
    | none => rw [ap.none_of e]; exact ih
    | some v =>
      obtain ⟨u, e2, r2⟩ := ap.get e
      rw [e2]
      exact .cons r2 ih
theorem pick_ra {K : PySem.W.Frag} {w : Hs} {vs zs : List V} {ds es : List D} (h : Ra K w vs ds) (h2 : Ra K w zs es) : ∀ perm : List Nat, Ra K w (pick perm vs zs) (pick perm ds es)
  | [] => .nil
  | i :: r => by
    have ih := pick_ra h h2 r
    have ap := RpA.append h h2
    unfold pick at ih ⊢
    rw [List.filterMap_cons, List.filterMap_cons]
    cases e : (vs ++ zs)[i]? with
    | none =>
      have e2 : (ds ++ es)[i]? = none := by
        have h1 := List.getElem?_eq_none_iff.mp e
        rw [ap.length] at h1
        exact List.getElem?_eq_none h1
      rw [e2]; exact ih
    | some v =>
      obtain ⟨u, e2, r2⟩ := ap.getV e
      rw [e2]
      exact .cons r2 ih
/-- x += e of ints -/
theorem ipd_int {K : PySem.W.Frag} {f : Int → Int → Int} : IpD K (ipI f) (iOp0 fun i j => .int (f i j)) := fun w S x y u v Φ Q g r1 r2 h q => by
  cases u with
  | int i =>
    cases v with
    | int j => exact ⟨i, j, rv_int r1, rv_int r2, q _ _ w S (Ext.refl w) g (.int _) h⟩
    | _ => exact h.elim
  | _ => cases v <;> exact h.elim
/-- an item by an open place: all items will do -/
theorem ix_all {α : Type} {xs : List α} {i : Int} (h0 : 0 ≤ i) (h1 : i < xs.length) : ∃ x, atI xs i = some x ∧ x ∈ xs := by
  refine ⟨xs[i.toNat]'(by omega), ?_, List.getElem_mem _⟩
  have e : ixN xs.length i = some i.toNat := by
    unfold ixN
    rw [if_pos h0, if_pos h1]
  unfold atI
  rw [e]
  exact List.getElem?_eq_getElem (by omega)
theorem lowA_ints (n : Nat) : ∀ xs : List Int, lowA n (xs.map D.int) = true
  | [] => by simp [lowA]
  | x :: xs => by rw [List.map_cons, lowA, lowA_ints n xs, D.low] <;> rfl
theorem lowA_map {α : Type} (n : Nat) (f : α → D) (h : ∀ x, (f x).low n = true) : ∀ xs : List α, lowA n (xs.map f) = true
  | [] => by simp [lowA]
  | x :: xs => by rw [List.map_cons, lowA, lowA_map n f h xs, h] <;> rfl
theorem get_app {S T : Sto} {h : Nat} {c : Cell} (e : S[h]? = some c) : (S ++ T)[h]? = some c := by
  rw [List.getElem?_append_left (List.getElem?_eq_some_iff.mp e).1]
  exact e
theorem get_at {S T : Sto} {c : Cell} : (S ++ c :: T)[S.length]? = some c := by
  rw [List.getElem?_append_right (Nat.le_refl _), Nat.sub_self] <;> rfl
theorem set_app {S T : Sto} {h : Nat} {c : Cell} (e : h < S.length) : (S ++ T).set h c = S.set h c ++ T := List.set_append_left h c e
theorem set_at {S T : Sto} {b c : Cell} : (S ++ b :: T).set S.length c = S ++ c :: T := by
  rw [List.set_append_right _ _ (Nat.le_refl _), Nat.sub_self] <;> rfl
def FdC (n : Nat) (c : Cell) : Prop := ∃ a b k : Int, c = .lst [.int a, .int b, .int k] ∧ 0 ≤ a ∧ 0 ≤ b ∧ b < 2 ^ 200 ∧ 0 ≤ k ∧ k ≤ n
def FdAt (S : Sto) (h : Nat) (n : Nat) : Prop := ∃ c, S[h]? = some c ∧ FdC n c
/-- S' is S but for the feed at h -/
def Fs (h n : Nat) (S S' : Sto) : Prop := ∃ c, FdC n c ∧ S' = S.set h c
theorem FdC.mono {n m : Nat} {c : Cell} (h : FdC n c) (l : n ≤ m) : FdC m c := by
  obtain ⟨a, b, k, e, h1, h2, h3, h4, h5⟩ := h
  exact ⟨a, b, k, e, h1, h2, h3, h4, by omega⟩
theorem FdAt.mono {S : Sto} {h n m : Nat} (f : FdAt S h n) (l : n ≤ m) : FdAt S h m := let ⟨c, e, q⟩ := f; ⟨c, e, q.mono l⟩
theorem FdAt.lt {S : Sto} {h n : Nat} (f : FdAt S h n) : h < S.length := let ⟨_, e, _⟩ := f; (List.getElem?_eq_some_iff.mp e).1
theorem Fs.mono {h n m : Nat} {S S' : Sto} (f : Fs h n S S') (l : n ≤ m) : Fs h m S S' := let ⟨c, q, e⟩ := f; ⟨c, q.mono l, e⟩
theorem Fs.at {h n : Nat} {S S' : Sto} (f : Fs h n S S') (hl : h < S.length) : FdAt S' h n := by
  obtain ⟨c, q, rfl⟩ := f
  exact ⟨c, by rw [List.getElem?_set_self hl], q⟩
theorem Fs.refl {h n : Nat} {S : Sto} (f : FdAt S h n) : Fs h n S S := by
  obtain ⟨c, e, q⟩ := f
  refine ⟨c, q, ?_⟩
  obtain ⟨hl, e2⟩ := List.getElem?_eq_some_iff.mp e
  rw [← e2, List.set_getElem_self]
theorem Fs.trans {h n m : Nat} {S S1 S2 : Sto} (a : Fs h n S S1) (b : Fs h m S1 S2) : Fs h m S S2 := by
  obtain ⟨c, _, rfl⟩ := a
  obtain ⟨c2, q, rfl⟩ := b
  exact ⟨c2, q, by rw [List.set_set]⟩
theorem Fs.len {h n : Nat} {S S' : Sto} (f : Fs h n S S') : S'.length = S.length := by
  obtain ⟨c, _, rfl⟩ := f
  rw [List.length_set]
/-- cells behind it stay -/
theorem Fs.app {h n : Nat} {S T S' : Sto} (f : Fs h n (S ++ T) S') (hl : h < S.length) : ∃ S1, Fs h n S S1 ∧ S' = S1 ++ T := by
  obtain ⟨c, q, rfl⟩ := f
  exact ⟨S.set h c, ⟨c, q, rfl⟩, set_app hl⟩
theorem FdAt.app {S T : Sto} {h n : Nat} (f : FdAt S h n) : FdAt (S ++ T) h n := let ⟨c, e, q⟩ := f; ⟨c, get_app e, q⟩
theorem Fs.get {h n i : Nat} {S S' : Sto} {c : Cell} (f : Fs h n S S') (e : S[i]? = some c) (hi : h ≠ i) : S'[i]? = some c := by
  obtain ⟨c2, _, rfl⟩ := f
  rw [List.getElem?_set_ne hi]
  exact e
/-- a def that draws: behind it the feed is a feed, by at most n draws more -/
theorem cut_feed {h n : Nat} {S S1 cs : Sto} (f : Fs h n S S1) : Cut S S1 (S1 ++ cs) := by
  refine ⟨by rw [f.len]; exact Nat.le_refl _, List.prefix_append _ _, fun i c e => ?_⟩
  obtain ⟨c2, ⟨a, b, k, ec, _⟩, rfl⟩ := f
  by_cases hi : h = i
  · subst hi
    by_cases hl : h < S.length
    · rw [List.getElem?_set_self hl] at e
      cases e
      subst ec
      exact .inr (by simp [Cell.low, lowA, D.low])
    · rw [List.getElem?_eq_none (by rw [List.length_set]; omega)] at e
      cases e
  · rw [List.getElem?_set_ne hi] at e
    exact .inl e
theorem ret_feed {h n : Nat} {S S1 cs : Sto} {Φ : KD} {d : D} (f : Fs h n S S1) (hl : d.low S1.length = true) (q : Φ S1 d) : RetOk S Φ (S1 ++ cs) d := .inr ⟨S1, cut_feed f, hl, q⟩
end DL
namespace DL
open PySem PySem.Spec PyProof.Rows L2
def fzLD : List D → Sto → (Sto → List D → Prop) → Prop
  | [], S, Φ => Φ S []
  | d :: ds, S, Φ => fzD d S fun S1 d' => fzLD ds S1 fun S2 ds' => Φ S2 (d' :: ds')
theorem fzL_ok {K : PySem.W.Frag} : ∀ {ds : List D} {vs : List V} {w : Hs} {S : Sto} {Φ : Sto → List D → Prop} {Q : List V → Hp → Prop}, Good K w S → Ra K w vs ds → fzLD ds S Φ → OkL K w Φ Q → Q vs w.H
  | [], _, w, S, Φ, Q, g, .nil, h, q => q [] [] w S (Ext.refl w) g .nil h
  | d :: ds, v :: vs, w, S, Φ, Q, g, .cons r1 r2, h, q => by
    refine fz_ok (Q := fun v' H' => Q (v' :: vs) H') g r1 h fun v' d' w' S' e' g' r' h' => ?_
    exact fzL_ok (Q := fun vs' H' => Q (v' :: vs') H') g' (e'.ra r2) h' fun vs2 ds2 w2 S2 e2 g2 ra2 h2 => q _ _ w2 S2 (e'.trans e2) g2 (.cons (e2.rp r') ra2) h2
def fzD2 (d : D) (S : Sto) (Φ : KD) : Prop := match d with
  | .own h => ∃ ds, S[h]? = some (.lst ds) ∧ fzLD ds (S.set h .gone) fun S' ds' => Φ S' (.lst ds')
  | d => Φ S d
def dFz2 (T : TD) : TD := fun Γ S Φ Ψ => T Γ S (fun S1 d => fzD2 d S1 Φ) Ψ
theorem fz2_ok {K : PySem.W.Frag} {w : Hs} {S : Sto} (g : Good K w S) {Φ : KD} {Q : VK} {v : V} {d : D} (r : Rv K w v d) (h : fzD2 d S Φ) (q : OkD K w Φ Q) : Q v w.H := by
  have other : Φ S d → Q v w.H := fun z => q v d w S (Ext.refl w) g r z
  cases d with
  | own hh =>
    obtain ⟨ds, e, hΦ⟩ := h
    obtain ⟨a, xs, rfl, ha, hH, ra⟩ := own_at g r e
    have hm : a ∈ w.al := List.mem_of_getElem? ha
    have hF : w.F a = none := (g.cell hh a _ ha e).1
    have ee : Ext w (w.fz a (.lst xs)) := Ext.fz hm hF
    refine fzL_ok (Q := fun vs' H' => vs' = xs → Q (.ref a) H') (w := w.fz a (.lst xs)) (g.fz ha e hH) (ee.ra ra) hΦ (fun vs' ds' w2 S2 e2 g2 r2 h2 hv => ?_) rfl
    subst hv
    exact q (.ref a) (.lst ds') w2 S2 (ee.trans e2) g2 (.lst (e2.f _ _ upd_same) r2) h2
  | _ => exact other h
theorem je_fz2 {X : Cx} {W : WX} {e : Expr} {t : TE} {T : TD} (h : JE X W e t T) : JE X W e t (dFz2 T) := ⟨h.pe, fun Γ S Φ Ψ σ w g sl hT hx Q q =>
  h.sem Γ S _ Ψ σ w g sl hT hx Q fun v d w1 S1 e1 g1 r1 h1 => fz2_ok g1 r1 h1 (q.ext e1)⟩
section
variable {S : Sto} {Φ : KD} {i j : Int} {ds es : List D} {k : Bool}
theorem ex1 {α : Type} {a : α} {P : α → Prop} : (∃ x, [a] = [x] ∧ P x) ↔ P a := ⟨fun ⟨x, e, h⟩ => by cases e; exact h, fun h => ⟨a, rfl, h⟩⟩
theorem ex2 {α : Type} {a b : α} {P : α → α → Prop} : (∃ x y, [a, b] = [x, y] ∧ P x y) ↔ P a b := ⟨fun ⟨x, y, e, h⟩ => by cases e; exact h, fun h => ⟨a, b, rfl, h⟩⟩
theorem ex3 {α : Type} {a b c : α} {P : α → α → α → Prop} : (∃ x y z, [a, b, c] = [x, y, z] ∧ P x y z) ↔ P a b c := ⟨fun ⟨x, y, z, e, h⟩ => by cases e; exact h, fun h => ⟨a, b, c, rfl, h⟩⟩
theorem exB {b : Bool} {P : Bool → Prop} : (∃ k, D.bl b = .bl k ∧ P k) ↔ P b := ⟨fun ⟨x, e, h⟩ => by cases e; exact h, fun h => ⟨b, rfl, h⟩⟩
theorem exI {b : Int} {P : Int → Prop} : (∃ k, D.int b = .int k ∧ P k) ↔ P b := ⟨fun ⟨x, e, h⟩ => by cases e; exact h, fun h => ⟨b, rfl, h⟩⟩
theorem exI1 {b : Int} {P : Int → Prop} : (∃ k, [D.int b] = [.int k] ∧ P k) ↔ P b := ⟨fun ⟨x, e, h⟩ => by cases e; exact h, fun h => ⟨b, rfl, h⟩⟩
theorem exI2 {a b : Int} {P : Int → Int → Prop} : (∃ i j, [D.int a, D.int b] = [.int i, .int j] ∧ P i j) ↔ P a b := ⟨fun ⟨x, y, e, h⟩ => by cases e; exact h, fun h => ⟨a, b, rfl, h⟩⟩
theorem exS {α : Type} {a : α} {P : α → Prop} : (∃ d, some a = some d ∧ P d) ↔ P a := ⟨fun ⟨x, e, h⟩ => by cases e; exact h, fun h => ⟨a, rfl, h⟩⟩
theorem exSS {α : Type} {a : α} {P : α → Prop} : (∃ d, some (some a) = some (some d) ∧ P d) ↔ P a := ⟨fun ⟨x, e, h⟩ => by cases e; exact h, fun h => ⟨a, rfl, h⟩⟩
theorem exT {ts : List D} {P : List D → Prop} : (∃ ds, D.tup ts = .tup ds ∧ P ds) ↔ P ts := ⟨fun ⟨x, e, h⟩ => by cases e; exact h, fun h => ⟨ts, rfl, h⟩⟩
theorem exC {α : Type} {a : α} {l : List α} {P : α → List α → Prop} : (∃ d r, a :: l = d :: r ∧ P d r) ↔ P a l := ⟨fun ⟨x, y, e, h⟩ => by cases e; exact h, fun h => ⟨a, l, rfl, h⟩⟩
theorem exL {a : List D} {P : List D → Prop} : (∃ d, some (Cell.lst a) = some (.lst d) ∧ P d) ↔ P a := ⟨fun ⟨x, e, h⟩ => by cases e; exact h, fun h => ⟨a, rfl, h⟩⟩
theorem exAs {a : List D} {P : List D → Prop} : (∃ xs, some a = some xs ∧ P xs) ↔ P a := ⟨fun ⟨x, e, h⟩ => by cases e; exact h, fun h => ⟨a, rfl, h⟩⟩
theorem dAdd_i : dAdd (.int i) (.int j) S Φ = Φ S (.int (i + j)) := rfl
theorem dAdd_l : dAdd (.lst ds) (.lst es) S Φ = (ds.length + es.length ≤ sizeLine ∧ Φ S (.lst (ds ++ es))) := by
  show (∃ xs ys, some ds = some xs ∧ some es = some ys ∧ xs.length + ys.length ≤ sizeLine ∧ Φ S (.lst (xs ++ ys))) = _
  exact propext ⟨fun ⟨_, _, e1, e2, h⟩ => by cases e1; cases e2; exact h, fun h => ⟨_, _, rfl, rfl, h⟩⟩
theorem dSub_i : dSub (.int i) (.int j) S Φ = Φ S (.int (i - j)) := rfl
theorem dMul_i : dMul (.int i) (.int j) S Φ = (CMulA i j ∧ Φ S (.int (i * j))) := rfl
theorem dMul_l : dMul (.lst ds) (.int j) S Φ = (-(2 ^ 63) ≤ j ∧ j < 2 ^ 63 ∧ ds.length * j.toNat ≤ sizeLine ∧ Φ S (.lst ((List.replicate j.toNat ds).flatten))) := by
  show (∃ xs, some ds = some xs ∧ _) = _
  exact propext exAs
theorem dMod_i : dMod (.int i) (.int j) S Φ = (0 < j ∧ Φ S (.int (i % j))) := rfl
theorem dDiv_i : dDiv (.int i) (.int j) S Φ = (CDivW i j ∧ Φ S (.int (i / j))) := rfl
theorem dPow_i : dPow (.int i) (.int j) S Φ = (CPowW i j ∧ Φ S (.int (i ^ j.toNat))) := rfl
theorem dLt_i : dLt (.int i) (.int j) S Φ = Φ S (.bl (decide (i < j))) := rfl
theorem dLe_i : dLe (.int i) (.int j) S Φ = Φ S (.bl (decide (i ≤ j))) := rfl
theorem dGt_i : dGt (.int i) (.int j) S Φ = Φ S (.bl (decide (j < i))) := rfl
theorem dGe_i : dGe (.int i) (.int j) S Φ = Φ S (.bl (decide (j ≤ i))) := rfl
theorem uNeg_i : uNeg (.int i) S Φ = Φ S (.int (-i)) := rfl
theorem cMax2_i : cMax2 [.int i, .int j] S Φ = Φ S (.int (if j > i then j else i)) := rfl
theorem cMin2_i : cMin2 [.int i, .int j] S Φ = Φ S (.int (if j < i then j else i)) := rfl
theorem cAbs_i : cAbs [.int i] S Φ = Φ S (.int (if i < 0 then -i else i)) := rfl
theorem cInt_i : cInt [.int i] S Φ = Φ S (.int i) := rfl
theorem cInt_b : cInt [.bl k] S Φ = Φ S (.int (if k then 1 else 0)) := rfl
theorem cLen_l : cLen [.lst ds] S Φ = Φ S (.int ds.length) := by
  show (∃ xs, some ds = some xs ∧ Φ S (.int xs.length)) = _
  exact propext exAs
theorem cLen_q : cLen [.sq ds] S Φ = Φ S (.int ds.length) := by
  show (∃ xs, some ds = some xs ∧ Φ S (.int xs.length)) = _
  exact propext exAs
theorem cLen_t : cLen [.tup ds] S Φ = Φ S (.int ds.length) := by
  show (∃ xs, some ds = some xs ∧ Φ S (.int xs.length)) = _
  exact propext exAs
theorem cList_l : cList [.lst ds] S Φ = Φ S (.lst ds) := propext exAs
theorem cList_q : cList [.sq ds] S Φ = Φ S (.lst ds) := propext exAs
theorem cList_t : cList [.tup ds] S Φ = Φ S (.lst ds) := propext exAs
theorem cListO_l : cListO [.lst ds] S Φ = Φ (S ++ [.lst ds]) (.own S.length) := propext exAs
theorem cListO_t : cListO [.tup ds] S Φ = Φ (S ++ [.lst ds]) (.own S.length) := propext exAs
theorem dIx_l : dIx (.lst ds) (.int i) S Φ = ∃ d, atI ds i = some d ∧ Φ S d := by
  show (∃ es d, some ds = some es ∧ atI es i = some d ∧ Φ S d) = _
  exact propext ⟨fun ⟨_, d, e, h⟩ => by cases e; exact ⟨d, h⟩, fun ⟨d, h⟩ => ⟨_, d, rfl, h⟩⟩
theorem dIx_q : dIx (.sq ds) (.int i) S Φ = ∃ d, atI ds i = some d ∧ Φ S d := by
  show (∃ es d, some ds = some es ∧ atI es i = some d ∧ Φ S d) = _
  exact propext ⟨fun ⟨_, d, e, h⟩ => by cases e; exact ⟨d, h⟩, fun ⟨d, h⟩ => ⟨_, d, rfl, h⟩⟩
theorem dIx_t : dIx (.tup ds) (.int i) S Φ = ∃ d, atI ds i = some d ∧ Φ S d := by
  show (∃ es d, some ds = some es ∧ atI es i = some d ∧ Φ S d) = _
  exact propext ⟨fun ⟨_, d, e, h⟩ => by cases e; exact ⟨d, h⟩, fun ⟨d, h⟩ => ⟨_, d, rfl, h⟩⟩
theorem dIx_o {h : Nat} : dIx (.own h) (.int i) S Φ = ∃ ds d, S[h]? = some (.lst ds) ∧ atI ds i = some d ∧ Φ S d := by
  show (∃ es d, asS S (.own h) = some es ∧ atI es i = some d ∧ Φ S d) = _
  refine propext ⟨fun ⟨es, d, e, q⟩ => ?_, fun ⟨es, d, e, q⟩ => ⟨es, d, ?_, q⟩⟩
  · have e : (match S[h]? with | some (.lst ds) => some ds | _ => none) = some es := e
    split at e
    · cases e; exact ⟨es, d, by assumption, q⟩
    · cases e
  · show (match S[h]? with | some (.lst ds) => some ds | _ => none) = some es
    rw [e]
theorem dSlL_l {lo hi : Option Int} : dSlL (.lst ds) lo hi S Φ = Φ S (.lst (cutD ds lo hi)) := propext exAs
theorem dSlL_q {lo hi : Option Int} : dSlL (.sq ds) lo hi S Φ = Φ S (.lst (cutD ds lo hi)) := propext exAs
theorem asQ_l : asQ S (.lst ds) = some ds := rfl
theorem asL_l : asL S (.lst ds) = some ds := rfl
theorem asL_at' {h : Nat} (e : S[h]? = some (.lst ds)) : asL S (.own h) = some ds := by
  show (match S[h]? with | some (.lst ds) => some ds | _ => none) = some ds
  rw [e]
theorem asQ_at' {h : Nat} (e : S[h]? = some (.lst ds)) : asQ S (.own h) = some ds := by
  show (match S[h]? with | some (.lst ds) => some ds | _ => none) = some ds
  rw [e]
theorem cIsi_of {d : D} {a n : String} (e : tyOf S d = some a) (h : n ∈ tyN := by decide) : cIsi [d, .ty n] S Φ = Φ S (.bl (isTyB a n)) := by
  show (∃ a, tyOf S d = some a ∧ n ∈ tyN ∧ Φ S (.bl (isTyB a n))) = _
  rw [e]
  exact propext ⟨fun ⟨_, e, _, z⟩ => by cases e; exact z, fun z => ⟨_, rfl, h, z⟩⟩
theorem isi_non_int  : cIsi [.non, .ty "int"] S Φ = Φ S (.bl false) := cIsi_of (a := "NoneType") rfl
theorem isi_non_bool  : cIsi [.non, .ty "bool"] S Φ = Φ S (.bl false) := cIsi_of (a := "NoneType") rfl
theorem isi_non_str  : cIsi [.non, .ty "str"] S Φ = Φ S (.bl false) := cIsi_of (a := "NoneType") rfl
theorem isi_non_list  : cIsi [.non, .ty "list"] S Φ = Φ S (.bl false) := cIsi_of (a := "NoneType") rfl
theorem isi_non_tuple  : cIsi [.non, .ty "tuple"] S Φ = Φ S (.bl false) := cIsi_of (a := "NoneType") rfl
theorem isi_non_dict  : cIsi [.non, .ty "dict"] S Φ = Φ S (.bl false) := cIsi_of (a := "NoneType") rfl
theorem isi_bl_int {b : Bool} : cIsi [.bl b, .ty "int"] S Φ = Φ S (.bl true) := cIsi_of (a := "bool") rfl
theorem isi_bl_bool {b : Bool} : cIsi [.bl b, .ty "bool"] S Φ = Φ S (.bl true) := cIsi_of (a := "bool") rfl
theorem isi_bl_str {b : Bool} : cIsi [.bl b, .ty "str"] S Φ = Φ S (.bl false) := cIsi_of (a := "bool") rfl
theorem isi_bl_list {b : Bool} : cIsi [.bl b, .ty "list"] S Φ = Φ S (.bl false) := cIsi_of (a := "bool") rfl
theorem isi_bl_tuple {b : Bool} : cIsi [.bl b, .ty "tuple"] S Φ = Φ S (.bl false) := cIsi_of (a := "bool") rfl
theorem isi_bl_dict {b : Bool} : cIsi [.bl b, .ty "dict"] S Φ = Φ S (.bl false) := cIsi_of (a := "bool") rfl
theorem isi_int_int  : cIsi [.int i, .ty "int"] S Φ = Φ S (.bl true) := cIsi_of (a := "int") rfl
theorem isi_int_bool  : cIsi [.int i, .ty "bool"] S Φ = Φ S (.bl false) := cIsi_of (a := "int") rfl
theorem isi_int_str  : cIsi [.int i, .ty "str"] S Φ = Φ S (.bl false) := cIsi_of (a := "int") rfl
theorem isi_int_list  : cIsi [.int i, .ty "list"] S Φ = Φ S (.bl false) := cIsi_of (a := "int") rfl
theorem isi_int_tuple  : cIsi [.int i, .ty "tuple"] S Φ = Φ S (.bl false) := cIsi_of (a := "int") rfl
theorem isi_int_dict  : cIsi [.int i, .ty "dict"] S Φ = Φ S (.bl false) := cIsi_of (a := "int") rfl
theorem isi_str_int {z : Str} : cIsi [.str z, .ty "int"] S Φ = Φ S (.bl false) := cIsi_of (a := "str") rfl
theorem isi_str_bool {z : Str} : cIsi [.str z, .ty "bool"] S Φ = Φ S (.bl false) := cIsi_of (a := "str") rfl
theorem isi_str_str {z : Str} : cIsi [.str z, .ty "str"] S Φ = Φ S (.bl true) := cIsi_of (a := "str") rfl
theorem isi_str_list {z : Str} : cIsi [.str z, .ty "list"] S Φ = Φ S (.bl false) := cIsi_of (a := "str") rfl
theorem isi_str_tuple {z : Str} : cIsi [.str z, .ty "tuple"] S Φ = Φ S (.bl false) := cIsi_of (a := "str") rfl
theorem isi_str_dict {z : Str} : cIsi [.str z, .ty "dict"] S Φ = Φ S (.bl false) := cIsi_of (a := "str") rfl
theorem isi_lst_int  : cIsi [.lst ds, .ty "int"] S Φ = Φ S (.bl false) := cIsi_of (a := "list") rfl
theorem isi_lst_bool  : cIsi [.lst ds, .ty "bool"] S Φ = Φ S (.bl false) := cIsi_of (a := "list") rfl
theorem isi_lst_str  : cIsi [.lst ds, .ty "str"] S Φ = Φ S (.bl false) := cIsi_of (a := "list") rfl
theorem isi_lst_list  : cIsi [.lst ds, .ty "list"] S Φ = Φ S (.bl true) := cIsi_of (a := "list") rfl
theorem isi_lst_tuple  : cIsi [.lst ds, .ty "tuple"] S Φ = Φ S (.bl false) := cIsi_of (a := "list") rfl
theorem isi_lst_dict  : cIsi [.lst ds, .ty "dict"] S Φ = Φ S (.bl false) := cIsi_of (a := "list") rfl
theorem isi_sq_int  : cIsi [.sq ds, .ty "int"] S Φ = Φ S (.bl false) := cIsi_of (a := "list") rfl
theorem isi_sq_bool  : cIsi [.sq ds, .ty "bool"] S Φ = Φ S (.bl false) := cIsi_of (a := "list") rfl
theorem isi_sq_str  : cIsi [.sq ds, .ty "str"] S Φ = Φ S (.bl false) := cIsi_of (a := "list") rfl
theorem isi_sq_list  : cIsi [.sq ds, .ty "list"] S Φ = Φ S (.bl true) := cIsi_of (a := "list") rfl
theorem isi_sq_tuple  : cIsi [.sq ds, .ty "tuple"] S Φ = Φ S (.bl false) := cIsi_of (a := "list") rfl
theorem isi_sq_dict  : cIsi [.sq ds, .ty "dict"] S Φ = Φ S (.bl false) := cIsi_of (a := "list") rfl
theorem isi_tup_int  : cIsi [.tup ds, .ty "int"] S Φ = Φ S (.bl false) := cIsi_of (a := "tuple") rfl
theorem isi_tup_bool  : cIsi [.tup ds, .ty "bool"] S Φ = Φ S (.bl false) := cIsi_of (a := "tuple") rfl
theorem isi_tup_str  : cIsi [.tup ds, .ty "str"] S Φ = Φ S (.bl false) := cIsi_of (a := "tuple") rfl
theorem isi_tup_list  : cIsi [.tup ds, .ty "list"] S Φ = Φ S (.bl false) := cIsi_of (a := "tuple") rfl
theorem isi_tup_tuple  : cIsi [.tup ds, .ty "tuple"] S Φ = Φ S (.bl true) := cIsi_of (a := "tuple") rfl
theorem isi_tup_dict  : cIsi [.tup ds, .ty "dict"] S Φ = Φ S (.bl false) := cIsi_of (a := "tuple") rfl
theorem isi_dic_int {kv : List (Key × D)} : cIsi [.dic kv, .ty "int"] S Φ = Φ S (.bl false) := cIsi_of (a := "dict") rfl
theorem isi_dic_bool {kv : List (Key × D)} : cIsi [.dic kv, .ty "bool"] S Φ = Φ S (.bl false) := cIsi_of (a := "dict") rfl
theorem isi_dic_str {kv : List (Key × D)} : cIsi [.dic kv, .ty "str"] S Φ = Φ S (.bl false) := cIsi_of (a := "dict") rfl
theorem isi_dic_list {kv : List (Key × D)} : cIsi [.dic kv, .ty "list"] S Φ = Φ S (.bl false) := cIsi_of (a := "dict") rfl
theorem isi_dic_tuple {kv : List (Key × D)} : cIsi [.dic kv, .ty "tuple"] S Φ = Φ S (.bl false) := cIsi_of (a := "dict") rfl
theorem isi_dic_dict {kv : List (Key × D)} : cIsi [.dic kv, .ty "dict"] S Φ = Φ S (.bl true) := cIsi_of (a := "dict") rfl
theorem at_0 {α : Type} {a : α} {l : List α} : atI (a :: l) 0 = some a := by
  unfold atI ixN
  rw [if_pos (by decide), if_pos (by rw [List.length_cons]; omega)]
  rfl
theorem at_nat {α : Type} {l : List α} {n : Nat} : atI l (n : Int) = l[n]? := by
  unfold atI ixN
  rw [if_pos (by omega)]
  by_cases h : n < l.length
  · rw [if_pos (by omega)]; rfl
  · rw [if_neg (by omega), List.getElem?_eq_none (by omega)] <;> rfl
theorem dIx_p {p : D → Prop} (h0 : 0 ≤ i) (h1 : i < ds.length) (hp : ∀ d ∈ ds, p d) (k : ∀ d, p d → Φ S d) : dIx (.lst ds) (.int i) S Φ := by
  rw [dIx_l]
  obtain ⟨x, e, m⟩ := ix_all h0 h1
  exact ⟨x, e, k x (hp x m)⟩
end
theorem strOk_lit {s : String} : PyData.strOk (Str.ofString s) = true := by
  unfold PyData.strOk
  rw [Str.ofString_eq_toList, List.all_toArray, List.all_eq_true]
  intro x hx
  obtain ⟨c, _, rfl⟩ := List.mem_map.mp hx
  have h : UInt32.isValidChar c.val := c.valid
  simp only [UInt32.isValidChar, Nat.isValidChar] at h
  rw [decide_eq_true_eq]
  show c.val.toNat < _
  omega
theorem strOk_app {a b : Str} (h : PyData.strOk a = true) (h2 : PyData.strOk b = true) : PyData.strOk (a ++ b) = true := by
  unfold PyData.strOk at h h2 ⊢
  show (a.cps ++ b.cps).all _ = true
  rw [Array.all_append, h, h2]
  rfl
theorem strOk_from : ∀ {ts : List Str} {k : Nat} {acc : Str}, PyData.strOk acc = true → (∀ t ∈ ts, PyData.strOk t = true) → PyData.strOk (textFrom k acc ts) = true
  | [], _, _, h, _ => h
  | t :: ts, k, acc, h, h2 => strOk_from (ts := ts) (k := k + 1) (acc := acc ++ (if k > 0 then ", " else "" : String) ++ t) (strOk_app (strOk_app h strOk_lit) (h2 t List.mem_cons_self)) fun u hu => h2 u (List.mem_cons_of_mem _ hu)
theorem strOk_listText {ts : List Str} (h : ∀ t ∈ ts, PyData.strOk t = true) : PyData.strOk (listText ts) = true := strOk_app (strOk_from strOk_lit h) strOk_lit
theorem len_app (a b : Str) : (a ++ b).length = a.length + b.length := strLen_append a b
theorem from_le {m : Nat} : ∀ {ts : List Str} {k : Nat} {acc : Str}, (∀ t ∈ ts, t.length ≤ m) → (textFrom k acc ts).length ≤ acc.length + ts.length * (m + 2)
  | [], _, acc, _ => by show acc.length ≤ _; omega
  | t :: ts, k, acc, h => by
    have ih := from_le (m := m) (ts := ts) (k := k + 1) (acc := acc ++ (if k > 0 then ", " else "" : String) ++ t) fun u hu => h u (List.mem_cons_of_mem _ hu)
    have h1 := h t List.mem_cons_self
    have e : (Str.ofString (if k > 0 then ", " else "")).length ≤ 2 := by
      split
      · rw [PySem.ofString_length]; decide
      · rw [PySem.ofString_length]; decide
    rw [len_app, len_app] at ih
    show (textFrom (k + 1) _ ts).length ≤ _
    rw [List.length_cons, Nat.succ_mul]
    omega
theorem listText_le {m : Nat} {ts : List Str} (h : ∀ t ∈ ts, t.length ≤ m) : (listText ts).length ≤ 2 + ts.length * (m + 2) := by
  unfold listText
  rw [len_app]
  have h1 := from_le (m := m) (k := 0) (acc := "[") h
  have e1 : (Str.ofString "[").length = 1 := by rw [PySem.ofString_length] <;> rfl
  have e2 : (Str.ofString "]").length = 1 := by rw [PySem.ofString_length] <;> rfl
  omega
/-- data of a depth and of a text within bounds -/
structure Fit (n m : Nat) (p : PyData) : Prop where
  can : p.canLay0 = true
  show_ : p.showable = true
  plain : p.hasDict = false
  deep : p.depth ≤ n
  text : PyData.strOk p.shown = true
  len : p.shown.length ≤ m
theorem Fit.mono {n m n' m' : Nat} {p : PyData} (h : Fit n m p) (a : n ≤ n') (b : m ≤ m') : Fit n' m' p := ⟨h.can, h.show_, h.plain, Nat.le_trans h.deep a, h.text, Nat.le_trans h.len b⟩
theorem shownAll_mem {t : Str} : ∀ {ps : List PyData}, t ∈ PyData.shownAll ps → ∃ p ∈ ps, p.shown = t
  | [], h => by rw [PyData.shownAll] at h; cases h
  | p :: ps, h => by
    rw [PyData.shownAll] at h
    rcases List.mem_cons.mp h with e | h
    · exact ⟨p, List.mem_cons_self, e.symm⟩
    · obtain ⟨q, hq, e⟩ := shownAll_mem h
      exact ⟨q, List.mem_cons_of_mem _ hq, e⟩
theorem shownAll_len : ∀ ps : List PyData, (PyData.shownAll ps).length = ps.length
  | [] => by rw [PyData.shownAll] <;> rfl
  | p :: ps => by rw [PyData.shownAll, List.length_cons, List.length_cons, shownAll_len ps]
theorem fits_all {n m : Nat} : ∀ {ps : List PyData}, (∀ p ∈ ps, Fit n m p) → PyData.canLayAll0 ps = true ∧ PyData.showableAll ps = true ∧ PyData.hasDictAll ps = false ∧ PyData.depthAll ps ≤ n
  | [], _ => by simp [PyData.canLayAll0, PyData.showableAll, PyData.hasDictAll, PyData.depthAll]
  | p :: ps, h => by
    obtain ⟨a, b, c, d⟩ := fits_all (n := n) (m := m) (ps := ps) fun q hq => h q (List.mem_cons_of_mem _ hq)
    have f := h p List.mem_cons_self
    rw [PyData.canLayAll0, PyData.showableAll, PyData.hasDictAll, PyData.depthAll, f.can, f.show_, f.plain, a, b, c]
    exact ⟨rfl, rfl, rfl, Nat.max_le.mpr ⟨f.deep, d⟩⟩
theorem fit_list {n m l : Nat} {ps : List PyData} (h : ∀ p ∈ ps, Fit n m p) (hl : ps.length ≤ l) : Fit (n + 1) (2 + l * (m + 2)) (.list ps) := by
  obtain ⟨a, b, c, d⟩ := fits_all h
  refine ⟨by rw [PyData.canLay0]; exact a, by rw [PyData.showable]; exact b, by rw [PyData.hasDict]; exact c, by rw [PyData.depth]; omega, ?_, ?_⟩
  · rw [PyData.shown]
    exact strOk_listText fun t ht => by
      obtain ⟨p, hp, rfl⟩ := shownAll_mem ht
      exact (h p hp).text
  · rw [PyData.shown]
    have := listText_le (m := m) (ts := PyData.shownAll ps) fun t ht => by
      obtain ⟨p, hp, rfl⟩ := shownAll_mem ht
      exact (h p hp).len
    rw [shownAll_len] at this
    have h2 : ps.length * (m + 2) ≤ l * (m + 2) := Nat.mul_le_mul_right _ hl
    omega
theorem fit_int {i : Int} {k : Nat} (h : i.natAbs < 10 ^ k) (h0 : 0 < k := by decide) (hk : k ≤ 500 := by decide) : Fit 0 (k + 1) (.int i) := by
  have h1 : i.natAbs.log2 < 1920 := by
    refine PySem.Flt.log2_lt_of (by decide : 0 < 1920) (Nat.lt_of_lt_of_le h (Nat.le_trans (Nat.pow_le_pow_right (by decide) hk) (by decide +kernel)))
  refine ⟨by rw [PyData.canLay0], by rw [PyData.showable, decide_eq_true h1], by rw [PyData.hasDict], by rw [PyData.depth] <;> omega, by rw [PyData.shown]; exact strOk_lit, ?_⟩
  rw [PyData.shown, PySem.ofString_length]
  exact int_text_length_le10 h0 h
theorem Fit.shaped {n m : Nat} {p : PyData} (h : Fit n m p) (hn : n ≤ 64 := by decide) : SeqAt.shaped p = true := by
  unfold SeqAt.shaped
  rw [h.can, Bool.true_and, decide_eq_true_eq]
  exact Nat.le_trans h.deep hn
abbrev rowD (r : List Int) : D := .lst (r.map D.int)
abbrev rowP (r : List Int) : PyData := .list (r.map PyData.int)
abbrev tabD (t : List (List Int)) : D := .lst (t.map rowD)
abbrev tabP (t : List (List Int)) : PyData := .list (t.map rowP)
theorem pyra_map {α : Type} {S : Sto} {f : α → D} {g : α → PyData} (h : ∀ x, PyR S (f x) (g x)) : ∀ xs : List α, PyRA S (xs.map f) (xs.map g)
  | [] => .nil
  | x :: xs => .cons (h x) (pyra_map h xs)
theorem pyr_row {S : Sto} (r : List Int) : PyR S (rowD r) (rowP r) := .lst (pyra_map PyR.int r)
theorem fit_row {r : List Int} {k l : Nat} (h : ∀ i ∈ r, i.natAbs < 10 ^ k) (hl : r.length ≤ l) (h0 : 0 < k := by decide) (hk : k ≤ 500 := by decide) : Fit 1 (2 + l * (k + 3)) (rowP r) := by
  refine fit_list (n := 0) (m := k + 1) (fun p hp => ?_) (by rw [List.length_map]; exact hl)
  obtain ⟨i, hi, rfl⟩ := List.mem_map.mp hp
  exact fit_int (h i hi) h0 hk
end DL
namespace DL
open PySem PySem.Spec PyProof.Rows L2
def forP (src : Src) (G : TGd) (B : TSd) : TSd := fun D Γ S1 => ∃ (P : Nat → Gam → Sto → Prop) (n : Nat), P 0 Γ S1 ∧
  (∀ i Γ' S', i ≤ n → P i Γ' S' → ∃ ds, src S' = some ds ∧ ds.length = n) ∧
  (∀ i Γ' S' ds d, P i Γ' S' → src S' = some ds → ds[i]? = some d → G d Γ' S' fun Γ2 S2 => B { D with nx := P (i + 1), ct := P (i + 1), bk := D.nx } Γ2 S2) ∧
  (∀ Γ' S', P n Γ' S' → D.nx Γ' S')
/-- marks: where ways meet again -/
def dJ (T : TD) : TD := T
def sJ (T : TSd) : TSd := T
theorem joinD {T : TD} {Γ : Gam} {S : Sto} {Φ : KD} {Ψ : KX} (J : KD) (h : ∀ S' d, J S' d → Φ S' d) (k : ∀ Φ' : KD, (∀ S' d, J S' d → Φ' S' d) → T Γ S Φ' Ψ) : dJ T Γ S Φ Ψ := k Φ h
theorem joinS {T : TSd} {Γ : Gam} {S : Sto} {E : EdD} (J : Gam → Sto → Prop) (h : ∀ Γ' S', J Γ' S' → E.nx Γ' S') (k : ∀ N : Gam → Sto → Prop, (∀ Γ' S', J Γ' S' → N Γ' S') → T { E with nx := N } Γ S) : sJ T E Γ S := k E.nx h
theorem dJ_e {T : TD} {Γ : Gam} {S : Sto} {Φ : KD} {Ψ : KX} : dJ T Γ S Φ Ψ = T Γ S Φ Ψ := rfl
theorem sJ_e {T : TSd} {Γ : Gam} {S : Sto} {E : EdD} : sJ T E Γ S = T E Γ S := rfl
def lcP (src : Src) (G : TGd) (C : TB) (Te : TD) (vs : List Nat) (Fin : List D → Sto → KD → Prop) (Γ : Gam) (S1 : Sto) (Φ : KD) : Prop := ∃ (P : Nat → List D → Sto → Prop) (n : Nat), n ≤ sizeLine ∧ P 0 [] S1 ∧
  (∀ i acc S', i ≤ n → P i acc S' → ∃ ds, src S' = some ds ∧ ds.length = n) ∧
  (∀ i acc S' ds d, P i acc S' → src S' = some ds → ds[i]? = some d → G d (gwipe Γ vs) S' fun Γ2 S2 => C Γ2 S2 (fun S3 k => if k = true then Te Γ2 S3 (fun S4 y => P (i + 1) (acc ++ [y]) S4) (fun _ _ => False) else P (i + 1) acc S3) (fun _ _ => False)) ∧
  (∀ acc S', P n acc S' → Fin acc S' Φ)
section
variable {Γ : Gam} {S : Sto} {Φ : KD} {Ψ : KX}
theorem sNext_e {E : EdD} : sNext E Γ S = (E.nx Γ S) := rfl
theorem sSeq_e {E : EdD} {T U : TSd} : sSeq T U E Γ S = (T { E with nx := U E } Γ S) := rfl
theorem sBrk_e {E : EdD} : sBrk E Γ S = (E.bk Γ S) := rfl
theorem sCnt_e {E : EdD} : sCnt E Γ S = (E.ct Γ S) := rfl
theorem sDrop_e {E : EdD} {T : TD} : sDrop T E Γ S = (T Γ S (fun S1 _ => E.nx Γ S1) E.er) := rfl
theorem sRet_e {E : EdD} {T : TD} : sRet T E Γ S = (T Γ S E.rt E.er) := rfl
theorem sRetN_e {E : EdD} : sRetN E Γ S = (E.rt S .non) := rfl
theorem sIf_e {E : EdD} {C : TB} {T U : TSd} : sIf C T U E Γ S = (C Γ S (fun S1 k => if k = true then T E Γ S1 else U E Γ S1) E.er) := rfl
theorem sAsg_e {E : EdD} {T : TD} {G : TGd} : sAsg T G E Γ S = (T Γ S (fun S1 d => G d Γ S1 E.nx) E.er) := rfl
theorem sPar_e {E : EdD} {i j : Nat} {T : TL} : sPar i j T E Γ S = (T Γ S (fun S1 ds => ∃ x y, ds = [x, y] ∧ E.nx ((Γ.set i (some x)).set j (some y)) S1) E.er) := rfl
theorem sPar3_e {E : EdD} {i j l : Nat} {T : TL} : sPar3 i j l T E Γ S = (T Γ S (fun S1 ds => ∃ x y z, ds = [x, y, z] ∧ E.nx (((Γ.set i (some x)).set j (some y)).set l (some z)) S1) E.er) := rfl
theorem sAug_e {E : EdD} {i : Nat} {T : TD} {f : D → D → Sto → KD → Prop} : sAug i T f E Γ S = (∃ d, Γ[i]? = some (some d) ∧ T Γ S (fun S1 y => f d y S1 fun S2 z => E.nx (Γ.set i (some z)) S2) E.er) := rfl
theorem sRaise_e {E : EdD} {C : Addr} : sRaise C E Γ S = (E.er S ⟨C, []⟩) := rfl
theorem nmG_e {i : Nat} {d : D} {P : Gam → Sto → Prop} : nmG i d Γ S P = (P (Γ.set i (some d)) S) := rfl
theorem tupG_e {n : Nat} {T : TGs'} {d : D} {P : Gam → Sto → Prop} : tupG n T d Γ S P = (∃ ds, d = .tup ds ∧ ds.length = n ∧ T ds Γ S P) := rfl
theorem gsNil_e {ds : List D} {P : Gam → Sto → Prop} : gsNil ds Γ S P = (ds = [] ∧ P Γ S) := rfl
theorem gsCons_e {ds : List D} {T : TGd} {U : TGs'} {P : Gam → Sto → Prop} : gsCons T U ds Γ S P = (∃ d r, ds = d :: r ∧ T d Γ S fun Γ' S' => U r Γ' S' P) := rfl
theorem subG_e {f : D → D → D → Sto → (Sto → Prop) → Prop} {To Ti : TD} {d : D} {P : Gam → Sto → Prop} : subG f To Ti d Γ S P = (To Γ S (fun S1 o => Ti Γ S1 (fun S2 i => f o i d S2 fun S3 => P Γ S3) fun _ _ => False) fun _ _ => False) := rfl
theorem dVar_e {i : Nat} : dVar i Γ S Φ Ψ = (∃ d, Γ[i]? = some (some d) ∧ Φ S d) := rfl
theorem dC_e {d : D} : dC d Γ S Φ Ψ = (Φ S d) := rfl
theorem dOp_e {f : D → D → Sto → KD → Prop} {A B : TD} : dOp f A B Γ S Φ Ψ = (A Γ S (fun S1 x => B Γ S1 (fun S2 y => f x y S2 Φ) Ψ) Ψ) := rfl
theorem dUn_e {f : D → Sto → KD → Prop} {A : TD} : dUn f A Γ S Φ Ψ = (A Γ S (fun S1 d => f d S1 Φ) Ψ) := rfl
theorem dChain_e {f g : D → D → Sto → KD → Prop} {A B C : TD} : dChain f g A B C Γ S Φ Ψ = (A Γ S (fun S1 x => B Γ S1 (fun S2 y => f x y S2 fun S3 z => ∃ k, z = .bl k ∧ (if k = true then C Γ S3 (fun S4 u => g y u S4 Φ) Ψ else Φ S3 (.bl false))) Ψ) Ψ) := rfl
theorem bOf_e {A : TD} {Φ : Sto → Bool → Prop} : bOf A Γ S Φ Ψ = (A Γ S (fun S1 d => ∃ k, d = .bl k ∧ Φ S1 k) Ψ) := rfl
theorem bAnd_e {A B : TB} {Φ : Sto → Bool → Prop} : bAnd A B Γ S Φ Ψ = (A Γ S (fun S1 k => if k = true then B Γ S1 Φ Ψ else Φ S1 false) Ψ) := rfl
theorem bOr_e {A B : TB} {Φ : Sto → Bool → Prop} : bOr A B Γ S Φ Ψ = (A Γ S (fun S1 k => if k = true then Φ S1 true else B Γ S1 Φ Ψ) Ψ) := rfl
theorem bNot_e {A : TB} {Φ : Sto → Bool → Prop} : bNot A Γ S Φ Ψ = (A Γ S (fun S1 k => Φ S1 (!k)) Ψ) := rfl
theorem bYes_e {Φ : Sto → Bool → Prop} : bYes Γ S Φ Ψ = (Φ S true) := rfl
theorem dAnd_e {A B : TD} : dAnd A B Γ S Φ Ψ = (A Γ S (fun S1 x => ∃ k, x = .bl k ∧ if k = true then B Γ S1 Φ Ψ else Φ S1 (.bl false)) Ψ) := rfl
theorem dOr_e {A B : TD} : dOr A B Γ S Φ Ψ = (A Γ S (fun S1 x => ∃ k, x = .bl k ∧ if k = true then Φ S1 (.bl true) else B Γ S1 Φ Ψ) Ψ) := rfl
theorem dNot_e {A : TD} : dNot A Γ S Φ Ψ = (A Γ S (fun S1 x => ∃ k, x = .bl k ∧ Φ S1 (.bl (!k))) Ψ) := rfl
theorem dIf_e {C : TB} {A B : TD} : dIf C A B Γ S Φ Ψ = (C Γ S (fun S1 k => if k = true then A Γ S1 Φ Ψ else B Γ S1 Φ Ψ) Ψ) := rfl
theorem lNil_e {Φ : Sto → List D → Prop} : lNil Γ S Φ Ψ = (Φ S []) := rfl
theorem lCons_e {T : TD} {U : TL} {Φ : Sto → List D → Prop} : lCons T U Γ S Φ Ψ = (T Γ S (fun S1 x => U Γ S1 (fun S2 xs => Φ S2 (x :: xs)) Ψ) Ψ) := rfl
theorem dLst_e {T : TL} : dLst T Γ S Φ Ψ = (T Γ S (fun S1 ds => ds.length ≤ sizeLine ∧ Φ S1 (.lst ds)) Ψ) := rfl
theorem dLstO_e {T : TL} : dLstO T Γ S Φ Ψ = (T Γ S (fun S1 ds => ds.length ≤ sizeLine ∧ Φ (S1 ++ [.lst ds]) (.own S1.length)) Ψ) := rfl
theorem dTup_e {T : TL} : dTup T Γ S Φ Ψ = (T Γ S (fun S1 ds => ds.length ≤ sizeLine ∧ Φ S1 (.tup ds)) Ψ) := rfl
theorem dCB_e {f : List D → Sto → KD → Prop} {T : TL} : dCB f T Γ S Φ Ψ = (T Γ S (fun S1 ds => f ds S1 Φ) Ψ) := rfl
theorem dCall_e {sp : DSpec} {T : TL} : dCall sp T Γ S Φ Ψ = (T Γ S (fun S1 ds => sp ds S1 Φ Ψ) Ψ) := rfl
theorem dCallK_e {n m : Nat} {sp : DSpec} {g : List D → List D → List D} {T U : TL} : dCallK n m sp g T U Γ S Φ Ψ = (T Γ S (fun S1 ds => U Γ S1 (fun S2 es => ds.length = n ∧ es.length = m ∧ sp (g ds es) S2 Φ Ψ) Ψ) Ψ) := rfl
theorem oNone_e {Φ : Sto → Option Int → Prop} : oNone Γ S Φ Ψ = (Φ S none) := rfl
theorem oSome_e {T : TD} {Φ : Sto → Option Int → Prop} : oSome T Γ S Φ Ψ = (T Γ S (fun S1 d => ∃ i, d = .int i ∧ Φ S1 (some i)) Ψ) := rfl
theorem dSl_e {f : D → Option Int → Option Int → Sto → KD → Prop} {T : TD} {A B : TOd} : dSl f T A B Γ S Φ Ψ = (T Γ S (fun S1 d => A Γ S1 (fun S2 lo => B Γ S2 (fun S3 hi => f d lo hi S3 Φ) Ψ) Ψ) Ψ) := rfl
theorem dBM_e {f : D → List D → Sto → KD → Prop} {T : TD} {U : TL} : dBM f T U Γ S Φ Ψ = (T Γ S (fun S1 d => isLst S1 d ∧ U Γ S1 (fun S2 ds => f d ds S2 Φ) Ψ) Ψ) := rfl
theorem dBM0_e {f : D → List D → Sto → KD → Prop} {T : TD} : dBM0 f T Γ S Φ Ψ = (T Γ S (fun S1 d => isLst S1 d ∧ f d [] S1 Φ) Ψ) := rfl
theorem dFz_e {T : TD} : dFz T Γ S Φ Ψ = (T Γ S (fun S1 d => fzD d S1 Φ) Ψ) := rfl
theorem dFz2_e {T : TD} : dFz2 T Γ S Φ Ψ = (T Γ S (fun S1 d => fzD2 d S1 Φ) Ψ) := rfl
theorem iSeq_e {T : TD} {Φ : Sto → Src → Prop} : iSeq T Γ S Φ Ψ = (T Γ S (fun S1 d => (∃ ds, asQ S1 d = some ds) ∧ Φ S1 (fun S' => asQ S' d)) Ψ) := rfl
theorem iTupD_e {T : TD} {Φ : Sto → Src → Prop} : iTupD T Γ S Φ Ψ = (T Γ S (fun S1 d => ∃ ds, d = .tup ds ∧ Φ S1 (fun _ => some ds)) Ψ) := rfl
theorem iRg1_e {T : TL} {Φ : Sto → Src → Prop} : iRg1 T Γ S Φ Ψ = (T Γ S (fun S1 ds => ∃ j, ds = [.int j] ∧ -(2 ^ 62) ≤ j ∧ j < 2 ^ 62 ∧ Φ S1 (fun _ => some (rngD 0 j.toNat))) Ψ) := rfl
theorem iRg2_e {T : TL} {Φ : Sto → Src → Prop} : iRg2 T Γ S Φ Ψ = (T Γ S (fun S1 ds => ∃ i j, ds = [.int i, .int j] ∧ (-(2 ^ 62) ≤ i ∧ i < 2 ^ 62 ∧ -(2 ^ 62) ≤ j ∧ j < 2 ^ 62) ∧ Φ S1 (fun _ => some (rngD i (j - i).toNat))) Ψ) := rfl
theorem iZipD_e {T : TL} {Φ : Sto → Src → Prop} : iZipD T Γ S Φ Ψ = (T Γ S (fun S1 ds => ∃ d e, ds = [d, e] ∧ (∃ xs, asQ S1 d = some xs) ∧ (∃ ys, asQ S1 e = some ys) ∧ Φ S1 (fun S' => (asQ S' d).bind fun xs => (asQ S' e).map fun ys => zipD xs ys)) Ψ) := rfl
theorem iEnumD_e {T : TL} {Φ : Sto → Src → Prop} : iEnumD T Γ S Φ Ψ = (T Γ S (fun S1 ds => ∃ d, ds = [d] ∧ (∃ xs, asQ S1 d = some xs) ∧ Φ S1 (fun S' => (asQ S' d).map enumD)) Ψ) := rfl
theorem sFor_e {E : EdD} {I : TId} {G : TGd} {B : TSd} : sFor I G B E Γ S = (I Γ S (fun S1 src => forP src G B E Γ S1) E.er) := rfl
theorem dLc_e {I : TId} {G : TGd} {C : TB} {T : TD} {vs : List Nat} {Fin : List D → Sto → KD → Prop} : dLc I G C T vs Fin Γ S Φ Ψ = (I Γ S (fun S1 src => lcP src G C T vs Fin Γ S1 Φ) Ψ) := rfl
theorem finF_e {acc : List D} : finF acc S Φ = (Φ S (.lst acc)) := rfl
theorem finO_e {acc : List D} : finO acc S Φ = (Φ (S ++ [.lst acc]) (.own S.length)) := rfl
theorem fzD_l {ds : List D} : fzD (.lst ds) S Φ = (Φ S (.lst ds)) := rfl
theorem fzD_i {i : Int} : fzD (.int i) S Φ = (Φ S (.int i)) := rfl
theorem fzD_o {h : Nat} : fzD (.own h) S Φ = (∃ ds, S[h]? = some (.lst ds) ∧ Φ (S.set h .gone) (.lst ds)) := rfl
theorem fzD2_o {h : Nat} : fzD2 (.own h) S Φ = (∃ ds, S[h]? = some (.lst ds) ∧ fzLD ds (S.set h .gone) fun S' ds' => Φ S' (.lst ds')) := rfl
theorem dSetO_e {h : Nat} {k : Int} {v : D} {P : Sto → Prop} : dSetO (.own h) (.int k) v S P = (∃ ds, S[h]? = some (.lst ds) ∧ ∃ j, ixN ds.length k = some j ∧ P (S.set h (.lst (ds.set j v)))) := propext ⟨fun ⟨a, b, c, d⟩ => ⟨a, c, b, d⟩, fun ⟨a, c, b, d⟩ => ⟨a, b, c, d⟩⟩
theorem mAppend_e {h : Nat} {y : D} : mAppend (.own h) [y] S Φ = (∃ xs, S[h]? = some (.lst xs) ∧ xs.length < sizeLine ∧ Φ (S.set h (.lst (xs ++ [y]))) .non) := rfl
theorem mClear_e {h : Nat} : mClear (.own h) [] S Φ = (∃ xs, S[h]? = some (.lst xs) ∧ Φ (S.set h (.lst [])) .non) := rfl
theorem mReverse_e {h : Nat} : mReverse (.own h) [] S Φ = (∃ xs, S[h]? = some (.lst xs) ∧ Φ (S.set h (.lst xs.reverse)) .non) := rfl
end
section
variable {Γ : Gam} {S : Sto} {Φ : KD} {G : TGd} {B : TSd} {E : EdD} {C : TB} {Te : TD} {vs : List Nat} {Fin : List D → Sto → KD → Prop}
theorem for_l {ds : List D} (P : Nat → Gam → Sto → Prop) (h0 : P 0 Γ S) (hs : ∀ i Γ' S' (hi : i < ds.length), P i Γ' S' → G ds[i] Γ' S' fun Γ2 S2 => B { E with nx := P (i + 1), ct := P (i + 1), bk := E.nx } Γ2 S2) (hd : ∀ Γ' S', P ds.length Γ' S' → E.nx Γ' S') : forP (fun _ => some ds) G B E Γ S :=
  ⟨P, ds.length, h0, fun _ _ _ _ _ => ⟨ds, rfl, rfl⟩, fun i Γ' S' es d hp e hd => by
    cases e
    obtain ⟨hi, rfl⟩ := List.getElem?_eq_some_iff.mp hd
    exact hs i Γ' S' hi hp, hd⟩
theorem for_s {src : Src} {ds : List D} (P : Nat → Gam → Sto → Prop) (h0 : P 0 Γ S) (hl : ∀ i Γ' S', P i Γ' S' → src S' = some ds) (hs : ∀ i Γ' S' (hi : i < ds.length), P i Γ' S' → G ds[i] Γ' S' fun Γ2 S2 => B { E with nx := P (i + 1), ct := P (i + 1), bk := E.nx } Γ2 S2) (hd : ∀ Γ' S', P ds.length Γ' S' → E.nx Γ' S') : forP src G B E Γ S :=
  ⟨P, ds.length, h0, fun i Γ' S' _ hp => ⟨ds, hl i Γ' S' hp, rfl⟩, fun i Γ' S' es d hp e hd => by
    rw [hl i Γ' S' hp] at e
    cases e
    obtain ⟨hi, rfl⟩ := List.getElem?_eq_some_iff.mp hd
    exact hs i Γ' S' hi hp, hd⟩
theorem rng_len (lo : Int) (n : Nat) : (rngD lo n).length = n := by simp [rngD]
theorem rng_get {lo : Int} {n i : Nat} {d : D} (h : (rngD lo n)[i]? = some d) : i < n ∧ d = .int (lo + i) := by
  obtain ⟨hi, e⟩ := List.getElem?_eq_some_iff.mp h
  rw [rng_len] at hi
  refine ⟨hi, ?_⟩
  rw [← e]
  simp [rngD]
theorem for_r {lo : Int} {n : Nat} (P : Nat → Gam → Sto → Prop) (h0 : P 0 Γ S) (hs : ∀ (i : Nat) Γ' S', i < n → P i Γ' S' → G (.int (lo + (i : Int))) Γ' S' fun Γ2 S2 => B { E with nx := P (i + 1), ct := P (i + 1), bk := E.nx } Γ2 S2) (hd : ∀ Γ' S', P n Γ' S' → E.nx Γ' S') : forP (fun _ => some (rngD lo n)) G B E Γ S :=
  ⟨P, n, h0, fun _ _ _ _ _ => ⟨_, rfl, rng_len _ _⟩, fun i Γ' S' es d hp e hd => by
    cases e
    obtain ⟨hi, rfl⟩ := rng_get hd
    exact hs i Γ' S' hi hp, hd⟩
theorem for_r0 {n : Nat} (P : Nat → Gam → Sto → Prop) (h0 : P 0 Γ S) (hs : ∀ (i : Nat) Γ' S', i < n → P i Γ' S' → G (.int (i : Int)) Γ' S' fun Γ2 S2 => B { E with nx := P (i + 1), ct := P (i + 1), bk := E.nx } Γ2 S2) (hd : ∀ Γ' S', P n Γ' S' → E.nx Γ' S') : forP (fun _ => some (rngD 0 n)) G B E Γ S :=
  for_r P h0 (fun i Γ' S' hi hp => by rw [Int.zero_add]; exact hs i Γ' S' hi hp) hd
theorem lc_l {ds : List D} (P : Nat → List D → Sto → Prop) (hl : ds.length ≤ sizeLine) (h0 : P 0 [] S) (hs : ∀ i acc S' (hi : i < ds.length), P i acc S' → G ds[i] (gwipe Γ vs) S' fun Γ2 S2 => C Γ2 S2 (fun S3 k => if k = true then Te Γ2 S3 (fun S4 y => P (i + 1) (acc ++ [y]) S4) (fun _ _ => False) else P (i + 1) acc S3) (fun _ _ => False))
    (hd : ∀ acc S', P ds.length acc S' → Fin acc S' Φ) : lcP (fun _ => some ds) G C Te vs Fin Γ S Φ :=
  ⟨P, ds.length, hl, h0, fun _ _ _ _ _ => ⟨ds, rfl, rfl⟩, fun i acc S' es d hp e hd => by
    cases e
    obtain ⟨hi, rfl⟩ := List.getElem?_eq_some_iff.mp hd
    exact hs i acc S' hi hp, hd⟩
theorem lc_r0 {n : Nat} (P : Nat → List D → Sto → Prop) (hl : n ≤ sizeLine) (h0 : P 0 [] S) (hs : ∀ (i : Nat) acc S', i < n → P i acc S' → G (.int (i : Int)) (gwipe Γ vs) S' fun Γ2 S2 => C Γ2 S2 (fun S3 k => if k = true then Te Γ2 S3 (fun S4 y => P (i + 1) (acc ++ [y]) S4) (fun _ _ => False) else P (i + 1) acc S3) (fun _ _ => False))
    (hd : ∀ acc S', P n acc S' → Fin acc S' Φ) : lcP (fun _ => some (rngD 0 n)) G C Te vs Fin Γ S Φ :=
  ⟨P, n, hl, h0, fun _ _ _ _ _ => ⟨_, rfl, rng_len _ _⟩, fun i acc S' es d hp e hd => by
    cases e
    obtain ⟨hi, rfl⟩ := rng_get hd
    rw [Int.zero_add]
    exact hs i acc S' hi hp, hd⟩
theorem dIx_o' {h : Nat} {i : Int} {S : Sto} {Φ : KD} : dIx (.own h) (.int i) S Φ = (∃ ds, S[h]? = some (.lst ds) ∧ ∃ d, atI ds i = some d ∧ Φ S d) := by
  rw [dIx_o]
  exact propext ⟨fun ⟨a, b, c, d⟩ => ⟨a, c, b, d⟩, fun ⟨a, c, b, d⟩ => ⟨a, b, c, d⟩⟩
theorem at_1 {α : Type} {a b : α} {l : List α} : atI (a :: b :: l) 1 = some b := at_nat (n := 1)
theorem at_2 {α : Type} {a b c : α} {l : List α} : atI (a :: b :: c :: l) 2 = some c := at_nat (n := 2)
theorem at_3 {α : Type} {a b c d : α} {l : List α} : atI (a :: b :: c :: d :: l) 3 = some d := at_nat (n := 3)
theorem at_4 {α : Type} {a b c d e : α} {l : List α} : atI (a :: b :: c :: d :: e :: l) 4 = some e := at_nat (n := 4)
theorem Fs.last {S S' : Sto} {h n : Nat} {x : Cell} (f : Fs h n (S ++ [x]) S') (hl : h < S.length) : S'[S.length]? = some x ∧ ∀ y, Fs h n (S ++ [y]) (S'.set S.length y) := by
  obtain ⟨c, q, rfl⟩ := f
  rw [set_app hl]
  have e : S.length = (S.set h c).length := by rw [List.length_set]
  refine ⟨by rw [e]; exact get_at, fun y => ⟨c, q, ?_⟩⟩
  rw [set_app hl]
  conv => lhs; rw [e]
  exact set_at
theorem Fs.cell {S S' : Sto} {h n : Nat} (f : Fs h n S S') (x : Cell) (hl : h < S.length) : Fs h n (S ++ [x]) (S' ++ [x]) := by
  obtain ⟨c, q, rfl⟩ := f
  exact ⟨c, q, (set_app hl).symm⟩
theorem isLst_at {S : Sto} {h : Nat} {ds : List D} (e : S[h]? = some (.lst ds)) : isLst S (.own h) := ⟨ds, asL_at' e⟩
theorem isLst_l {S : Sto} {ds : List D} : isLst S (.lst ds) = True := propext ⟨fun _ => trivial, fun _ => ⟨ds, rfl⟩⟩
theorem ix_nat {n i : Nat} (h : i < n) : ixN n (i : Int) = some i := by
  unfold ixN
  rw [if_pos (by omega), if_pos (by omega)]
  rfl
theorem ix30 : ixN 3 0 = some 0 := ix_nat (i := 0) (by decide)
theorem ix31 : ixN 3 1 = some 1 := ix_nat (i := 1) (by decide)
theorem ix32 : ixN 3 2 = some 2 := ix_nat (i := 2) (by decide)
theorem cpw {i j : Int} (h0 : 0 ≤ j) (h1 : j ≤ 1000) (h : i.natAbs < 2 ^ 250) : CPowW i j := ⟨h0, h1, Nat.lt_of_lt_of_le h (Nat.pow_le_pow_right (by decide) (by decide))⟩
theorem cdw {i j : Int} (h0 : 0 < j) (h : j.natAbs < 2 ^ 250) : CDivW i j :=
  ⟨h0, PySem.Flt.log2_lt_of (by decide) (Nat.lt_of_lt_of_le h (Nat.pow_le_pow_right (by decide) (by decide)))⟩
theorem cmr {i j : Int} (h0 : -(2 ^ 64) < j) (h : j < 2 ^ 64) : CMulA i j := .inl (.inr ⟨h0, h⟩)
theorem cml {i j : Int} (h0 : -(2 ^ 64) < i) (h : i < 2 ^ 64) : CMulA i j := .inl (.inl ⟨h0, h⟩)
theorem small {n : Nat} (h : n ≤ 1000000 := by decide) : n ≤ sizeLine := Nat.le_trans h (by decide)
theorem exAny {α : Type} {a : α} : (∃ x, some a = some x) = True := propext ⟨fun _ => trivial, fun _ => ⟨a, rfl⟩⟩
theorem rep_0 : List.replicate 0 (none : Option D) = [] := rfl
theorem rep_s {n : Nat} : List.replicate (n + 1) (none : Option D) = none :: List.replicate n none := rfl
/-- a comprehension that changes no cell: the item x gives g x -/
theorem lc_map {α : Type} (xs : List α) (f g : α → D) (hl : xs.length ≤ sizeLine) (hs : ∀ x ∈ xs, ∀ R : KD, R S (g x) → G (f x) (gwipe Γ vs) S fun Γ2 S2 => Te Γ2 S2 R (fun _ _ => False)) (hd : Fin (xs.map g) S Φ) : lcP (fun _ => some (xs.map f)) G bYes Te vs Fin Γ S Φ := by
  refine lc_l (fun i acc S' => S' = S ∧ acc = (xs.map g).take i) (by rw [List.length_map]; exact hl) ⟨rfl, by simp⟩ (fun i acc S' hi hp => ?_) fun acc S' hp => ?_
  · obtain ⟨rfl, rfl⟩ := hp
    have hi2 : i < xs.length := by rw [List.length_map] at hi; exact hi
    rw [List.getElem_map]
    refine hs _ (List.getElem_mem hi2) _ ⟨rfl, ?_⟩
    have hi3 : i < (xs.map g).length := by rw [List.length_map]; exact hi2
    rw [List.take_add_one, List.getElem?_eq_getElem hi3, List.getElem_map]
    rfl
  · obtain ⟨rfl, rfl⟩ := hp
    rw [List.length_map, List.take_of_length_le (by rw [List.length_map]; exact Nat.le_refl _)]
    exact hd
end
end DL
namespace DL
open PySem PySem.Spec PyProof.Rows L2
section
variable {S T : Sto} {Φ : KD} {i j : Int} {d e : D} {xs ys : List D}
theorem asL_cases (h : asL S d = some xs) : d = .lst xs ∨ ∃ n, d = .own n ∧ S[n]? = some (.lst xs) := by
  cases d with
  | lst ds => cases h; exact .inl rfl
  | own n =>
    have h : (match S[n]? with | some (.lst ds) => some ds | _ => none) = some xs := h
    split at h
    · cases h; exact .inr ⟨n, rfl, by assumption⟩
    · cases h
  | _ => cases h
theorem asL_app (h : asL S d = some xs) : asL (S ++ T) d = some xs := by
  rcases asL_cases h with rfl | ⟨n, rfl, e⟩
  · rfl
  · exact asL_at' (get_app e)
theorem asQ_L (h : asL S d = some xs) : asQ S d = some xs := by
  rcases asL_cases h with rfl | ⟨n, rfl, e⟩
  · rfl
  · exact asQ_at' e
theorem asS_L (h : asL S d = some xs) : asS S d = some xs := by
  rcases asL_cases h with rfl | ⟨n, rfl, e⟩
  · rfl
  · exact asQ_at' e
theorem tyOf_L (h : asL S d = some xs) : tyOf S d = some "list" := by
  rcases asL_cases h with rfl | ⟨n, rfl, e⟩
  · rfl
  · show (match S[n]? with | some (.lst _) => some "list" | _ => none) = some "list"
    rw [e]
theorem cLen_L (h : asL S d = some xs) : cLen [d] S Φ = Φ S (.int xs.length) := by
  rcases asL_cases h with rfl | ⟨n, rfl, e⟩
  · exact cLen_l
  · show (∃ ys, asS S (.own n) = some ys ∧ Φ S (.int ys.length)) = _
    rw [asS_L h]
    exact propext exAs
theorem cListO_L (h : asL S d = some xs) : cListO [d] S Φ = Φ (S ++ [.lst xs]) (.own S.length) := by
  show (∃ ys, asS S d = some ys ∧ Φ (S ++ [.lst ys]) (.own S.length)) = _
  rw [asS_L h]
  exact propext exAs
theorem cList_L (h : asL S d = some xs) : cList [d] S Φ = Φ S (.lst xs) := by
  show (∃ ys, asS S d = some ys ∧ Φ S (.lst ys)) = _
  rw [asS_L h]
  exact propext exAs
theorem dSlL_L {lo hi : Option Int} (h : asL S d = some xs) : dSlL d lo hi S Φ = Φ S (.lst (cutD xs lo hi)) := by
  show (∃ ds, asQ S d = some ds ∧ Φ S (.lst (cutD ds lo hi))) = _
  rw [asQ_L h]
  exact propext exAs
theorem dIx_L (h : asL S d = some xs) : dIx d (.int i) S Φ = ∃ x, atI xs i = some x ∧ Φ S x := by
  rcases asL_cases h with rfl | ⟨n, rfl, e⟩
  · exact dIx_l
  · rw [dIx_o', e]
    exact propext exL
theorem dEq_i : dEq (.int i) (.int j) S Φ = Φ S (.bl (i == j)) := propext
  ⟨fun ⟨p, q, h1, h2, _, _, h⟩ => by cases h1; cases h2; simpa [PyData.eqv] using h, fun h => ⟨_, _, .int i, .int j, by simp [SeqAt.shaped, PyData.canLay0, PyData.depth], by simp [SeqAt.shaped, PyData.canLay0, PyData.depth], by simpa [PyData.eqv] using h⟩⟩
theorem dNe_i : dNe (.int i) (.int j) S Φ = Φ S (.bl (!(i == j))) := propext
  ⟨fun ⟨p, q, h1, h2, _, _, h⟩ => by cases h1; cases h2; simpa [PyData.eqv] using h, fun h => ⟨_, _, .int i, .int j, by simp [SeqAt.shaped, PyData.canLay0, PyData.depth], by simp [SeqAt.shaped, PyData.canLay0, PyData.depth], by simpa [PyData.eqv] using h⟩⟩
end
section
variable {Γ : Gam} {S : Sto} {Φ : KD} {G : TGd} {C : TB} {Te : TD} {vs : List Nat} {Fin : List D → Sto → KD → Prop} {src : Src}
theorem lc_s {ds : List D} (P : Nat → List D → Sto → Prop) (hl : ds.length ≤ sizeLine) (h0 : P 0 [] S) (hsrc : ∀ i acc S', P i acc S' → src S' = some ds) (hs : ∀ i acc S' (hi : i < ds.length), P i acc S' → G ds[i] (gwipe Γ vs) S' fun Γ2 S2 => C Γ2 S2 (fun S3 k => if k = true then Te Γ2 S3 (fun S4 y => P (i + 1) (acc ++ [y]) S4) (fun _ _ => False) else P (i + 1) acc S3) (fun _ _ => False))
    (hd : ∀ acc S', P ds.length acc S' → Fin acc S' Φ) : lcP src G C Te vs Fin Γ S Φ :=
  ⟨P, ds.length, hl, h0, fun i acc S' _ hp => ⟨ds, hsrc i acc S' hp, rfl⟩, fun i acc S' es d hp e hd => by
    rw [hsrc i acc S' hp] at e
    cases e
    obtain ⟨hi, rfl⟩ := List.getElem?_eq_some_iff.mp hd
    exact hs i acc S' hi hp, hd⟩
theorem lc_mapS {α : Type} (xs : List α) (f g : α → D) (hsrc : src S = some (xs.map f)) (hl : xs.length ≤ sizeLine) (hs : ∀ x ∈ xs, ∀ R : KD, R S (g x) → G (f x) (gwipe Γ vs) S fun Γ2 S2 => Te Γ2 S2 R (fun _ _ => False)) (hd : Fin (xs.map g) S Φ) : lcP src G bYes Te vs Fin Γ S Φ := by
  refine lc_s (ds := xs.map f) (fun i acc S' => S' = S ∧ acc = (xs.map g).take i) (by rw [List.length_map]; exact hl) ⟨rfl, by simp⟩ (fun i acc S' hp => by rw [hp.1]; exact hsrc) (fun i acc S' hi hp => ?_) fun acc S' hp => ?_
  · obtain ⟨rfl, rfl⟩ := hp
    have hi2 : i < xs.length := by rw [List.length_map] at hi; exact hi
    rw [List.getElem_map]
    refine hs _ (List.getElem_mem hi2) _ ⟨rfl, ?_⟩
    have hi3 : i < (xs.map g).length := by rw [List.length_map]; exact hi2
    rw [List.take_add_one, List.getElem?_eq_getElem hi3, List.getElem_map]
    rfl
  · obtain ⟨rfl, rfl⟩ := hp
    rw [List.length_map, List.take_of_length_le (by rw [List.length_map]; exact Nat.le_refl _)]
    exact hd
theorem lc_idS (ds : List D) (g : D → D) (hsrc : src S = some ds) (hl : ds.length ≤ sizeLine) (hs : ∀ x ∈ ds, ∀ R : KD, R S (g x) → G x (gwipe Γ vs) S fun Γ2 S2 => Te Γ2 S2 R (fun _ _ => False)) (hd : Fin (ds.map g) S Φ) : lcP src G bYes Te vs Fin Γ S Φ :=
  lc_mapS ds id g (by rw [List.map_id]; exact hsrc) hl hs hd
end
theorem all_true {α : Type} (xs : List α) : (xs.map fun _ => true).all id = true := by
  rw [List.all_eq_true]
  intro x hx
  obtain ⟨_, _, rfl⟩ := List.mem_map.mp hx
  rfl
/-- rows of a table, read by the cells -/
inductive RowsS (S : Sto) : List D → List (List Int) → Prop
  | nil : RowsS S [] []
  | cons {d : D} {ds : List D} {r : List Int} {t : List (List Int)} : asL S d = some (r.map D.int) → RowsS S ds t → RowsS S (d :: ds) (r :: t)
def TabS (S : Sto) (d : D) (t : List (List Int)) : Prop := ∃ ds, asL S d = some ds ∧ RowsS S ds t
namespace RowsS
variable {S T : Sto} {ds es : List D} {t u : List (List Int)}
theorem len (h : RowsS S ds t) : ds.length = t.length := by
  induction h with
  | nil => rfl
  | cons _ _ ih => rw [List.length_cons, List.length_cons, ih]
theorem app (h : RowsS S ds t) : RowsS (S ++ T) ds t := by
  induction h with
  | nil => exact .nil
  | cons a _ ih => exact .cons (asL_app a) ih
theorem take (h : RowsS S ds t) : ∀ n, RowsS S (ds.take n) (t.take n) := by
  induction h with
  | nil => intro n; rw [List.take_nil, List.take_nil]; exact .nil
  | cons a _ ih =>
    intro n
    cases n with
    | zero => exact .nil
    | succ n => exact .cons a (ih n)
theorem drop (h : RowsS S ds t) : ∀ n, RowsS S (ds.drop n) (t.drop n) := by
  induction h with
  | nil => intro n; rw [List.drop_nil, List.drop_nil]; exact .nil
  | cons a b ih =>
    intro n
    cases n with
    | zero => exact .cons a b
    | succ n => exact ih n
theorem get (h : RowsS S ds t) : ∀ {i : Nat} (hi : i < t.length) (hd : i < ds.length), asL S ds[i] = some ((t[i]).map D.int) := by
  induction h with
  | nil => intro i hi; exact absurd hi (by simp)
  | cons a b ih =>
    intro i hi hd
    cases i with
    | zero => exact a
    | succ i => exact ih (by simpa using hi) (by simpa using hd)
theorem mem (h : RowsS S ds t) {d : D} (hd : d ∈ ds) : ∃ r ∈ t, asL S d = some (r.map D.int) := by
  induction h with
  | nil => cases hd
  | cons a _ ih =>
    rcases List.mem_cons.mp hd with rfl | hd
    · exact ⟨_, List.mem_cons_self, a⟩
    · obtain ⟨r, hr, e⟩ := ih hd
      exact ⟨r, List.mem_cons_of_mem _ hr, e⟩
theorem pyr (h : RowsS S ds t) : PyRA S ds (t.map rowP) := by
  induction h with
  | nil => exact .nil
  | cons a _ ih =>
    refine .cons ?_ ih
    rcases asL_cases a with rfl | ⟨n, rfl, e⟩
    · exact pyr_row _
    · exact .own e (pyra_map PyR.int _)
end RowsS
theorem rows_map {S : Sto} : ∀ t : List (List Int), RowsS S (t.map rowD) t
  | [] => .nil
  | _ :: t => .cons rfl (rows_map t)
theorem tabS_l {S : Sto} (t : List (List Int)) : TabS S (tabD t) t := ⟨_, rfl, rows_map t⟩
theorem TabS.pyr {S : Sto} {d : D} {t : List (List Int)} (h : TabS S d t) : PyR S d (tabP t) := by
  obtain ⟨ds, e, r⟩ := h
  rcases asL_cases e with rfl | ⟨n, rfl, e'⟩
  · exact .lst r.pyr
  · exact .own e' r.pyr
theorem TabS.app {S T : Sto} {d : D} {t : List (List Int)} (h : TabS S d t) : TabS (S ++ T) d t := let ⟨ds, e, r⟩ := h; ⟨ds, asL_app e, r.app⟩
theorem TabS.ty {S : Sto} {d : D} {t : List (List Int)} (h : TabS S d t) : tyOf S d = some "list" := let ⟨_, e, _⟩ := h; tyOf_L e
end DL
namespace DL
open PySem PySem.Spec PyProof.Rows L2
/-- an instance, frozen or a cell -/
def asI (S : Sto) : D → Option (Addr × List (Str × D))
  | .ins C fs => some (C, fs)
  | .own h => match S[h]? with
    | some (.ins C fs) => some (C, fs)
    | _ => none
  | _ => none
section
variable {K : PySem.W.Frag} {w : Hs} {S : Sto}
theorem asI_own {h : Nat} {C : Addr} {fs : List (Str × D)} (e : S[h]? = some (.ins C fs)) : asI S (.own h) = some (C, fs) := by
  show (match S[h]? with
    | some (.ins C fs) => some (C, fs)
    | _ => none) = some (C, fs)
  rw [e]
theorem own_ins {h : Nat} {C : Addr} {fs : List (Str × D)} (e : asI S (.own h) = some (C, fs)) : S[h]? = some (.ins C fs) := by
  unfold asI at e
  dsimp only at e
  split at e
  · cases e; assumption
  · cases e
theorem ins_at (g : Good K w S) {h : Nat} {v : V} {C : Addr} {fs : List (Str × D)} (r : Rv K w v (.own h)) (e : S[h]? = some (.ins C fs)) : ∃ a dx vs, v = .ref a ∧ w.al[h]? = some a ∧ w.H a = some (.ins C dx vs) ∧ RpF K w.F w.al vs fs := by
  cases r with
  | @own h a q =>
    obtain ⟨_, dx, vs, h2, h3⟩ := g.cell h a _ q e
    exact ⟨a, dx, vs, rfl, q, h2, h3⟩
theorem asI_at (g : Good K w S) {v : V} {d : D} {C : Addr} {fs : List (Str × D)} (r : Rv K w v d) (e : asI S d = some (C, fs)) : ∃ a dx vs, v = .ref a ∧ w.H a = some (.ins C dx vs) ∧ RpF K w.F w.al vs fs := by
  cases d with
  | ins C' fs' =>
    cases e
    cases r with
    | ins h1 h2 => exact ⟨_, _, _, rfl, g.sub _ _ h1, h2⟩
  | own h =>
    obtain ⟨a, dx, vs, e1, _, h2, h3⟩ := ins_at g r (own_ins e)
    exact ⟨a, dx, vs, e1, h2, h3⟩
  | _ => cases e
variable {F : Hp} {al : List Addr}
theorem rf_some {f : Str} {d : D} : ∀ {vs : List (Str × V)} {fs : List (Str × D)}, RpF K F al vs fs → fs.lookup f = some d → ∃ v, vs.lookup f = some v ∧ Rp K F al v d
  | _, _, .nil, e => by cases e
  | (n, v) :: vs, (_, d') :: fs, .cons r t, e => by
    rw [List.lookup_cons] at e ⊢
    cases q : (f == n) with
    | true =>
      rw [q] at e
      cases e
      exact ⟨v, rfl, r⟩
    | false =>
      rw [q] at e
      exact rf_some t e
theorem rf_len : ∀ {vs : List (Str × V)} {fs : List (Str × D)}, RpF K F al vs fs → vs.length = fs.length
  | _, _, .nil => rfl
  | _ :: _, _ :: _, .cons _ t => by rw [List.length_cons, List.length_cons, rf_len t]
/-- an attribute written -/
def putD (f : Str) (d : D) : List (Str × D) → List (Str × D)
  | [] => [(f, d)]
  | (g, x) :: r => if g = f then (g, d) :: r else (g, x) :: putD f d r
theorem rf_put {f : Str} {v : V} {d : D} (rv : Rp K F al v d) : ∀ {vs : List (Str × V)} {fs : List (Str × D)}, RpF K F al vs fs → RpF K F al (putF f v vs) (putD f d fs)
  | _, _, .nil => .cons rv .nil
  | (n, x) :: vs, (_, d') :: fs, .cons r t => by
    unfold putF putD
    by_cases h : n = f
    · rw [if_pos h, if_pos h]; exact .cons rv t
    · rw [if_neg h, if_neg h]; exact .cons r (rf_put rv t)
end
section
variable {X : Cx} {W : WX} {o e : Expr} {es : List Expr} {f m x : Str} {pos apos p : Pos} {to te : TE} {To Te : TD} {tl tk' : TA} {Tl Tk : TL} {C : Addr} {k : Nat} {sp : DSpec}
/-- o.f, o an instance of the class at C -/
def dFld (C : Addr) (f : Str) (T : TD) : TD := fun Γ S Φ Ψ => T Γ S (fun S1 d => ∃ fs, asI S1 d = some (C, fs) ∧ ∃ y, fs.lookup f = some y ∧ Φ S1 y) Ψ
theorem je_fld (cl : Cls X.K C) (na : NoAttr X.K C f) (he : JE X W o to To) (hb : attributeBase o f X.env (eval o X.env) = eval o X.env := by rfl) : JE X W (.Attribute o f pos) (tFld X.K to f) (dFld C f To) :=
  ⟨pe_fld he.pe hb, fun Γ S Φ Ψ σ w g sl h hx Q q => he.sem Γ S _ Ψ σ w g sl h hx _ fun v d w1 S1 e1 g1 r1 ⟨fs, e2, y, l, h1⟩ => by
    obtain ⟨a, dx, vs, rfl, hH, rf⟩ := asI_at g1 r1 e2
    obtain ⟨u, lu, ru⟩ := rf_some rf l
    exact ⟨a, C, dx, vs, u, rfl, hH, cl, na, lu, q u y w1 S1 e1 g1 ru h1⟩⟩
/-- o.f, a constant of o's class: by a table of classes -/
def dConI (tab : List (Addr × D)) (f : Str) (T : TD) : TD := fun Γ S Φ Ψ => T Γ S (fun S1 d => ∃ C fs, asI S1 d = some (C, fs) ∧ fs.lookup f = none ∧ ∃ y, (C, y) ∈ tab ∧ Φ S1 y) Ψ
/-- C.f, a constant read off a class -/
structure CValF (K : PySem.W.Frag) (C : Addr) (f : Str) (d : D) : Prop where
  ex : ∃ mc v u, ClX.CRead K C mc ∧ ClX.CVal K C mc f v u ∧ ∀ w : Hs, Rv K w v d
def dCVal (tab : List (Addr × D)) (f : Str) (T : TD) : TD := fun Γ S Φ Ψ => T Γ S (fun S1 d => ∃ C, d = .obj C ∧ ∃ y, (C, y) ∈ tab ∧ Φ S1 y) Ψ
theorem je_cval {tab : List (Addr × D)} (c : ∀ q ∈ tab, CValF X.K q.1 f q.2) (he : JE X W o to To) (hb : attributeBase o f X.env (eval o X.env) = eval o X.env := by rfl) : JE X W (.Attribute o f pos) (ClX.tCVal X.K to f) (dCVal tab f To) :=
  ⟨ClX.pe_cval he.pe hb, fun Γ S Φ Ψ σ w g sl h hx Q q => he.sem Γ S _ Ψ σ w g sl h hx _ fun v d w1 S1 e1 g1 r1 ⟨C, ed, y, ly, h1⟩ => by
    subst ed
    cases r1
    obtain ⟨mc, vv, u, c1, c2, rv⟩ := c _ ly
    exact ⟨C, mc, vv, u, rfl, c1, c2, q vv y w1 S1 e1 g1 (rv w1) h1⟩⟩
/-- o.f = e, o a cell -/
def sFldS (C : Addr) (f : Str) (To Te : TD) : TSd := fun D Γ S => Te Γ S (fun S1 y => To Γ S1 (fun S2 d => ∃ h fs, d = .own h ∧ S2[h]? = some (.ins C fs) ∧ fs.length < 1000 ∧ D.nx Γ (S2.set h (.ins C (putD f y fs)))) D.er) D.er
theorem js_fld {pos' : Pos} (cl : Cls X.K C) (na : NoAttr X.K C f) (ho : JE X W o to To) (he : JE X W e te Te) (hs : swapsWith e (some (.Attribute o f pos')) pos.line X.env = pure false := by rfl) : JS X W (.Assign [.Attribute o f pos'] e pos) (sFld X.K to te f) (sFldS C f To Te) :=
  ⟨ps_fld ho.pe he.pe hs, fun D' Γ S σ w D g sl h r => he.sem Γ S _ _ σ w g sl h (r.er σ) _ fun y dy w1 S1 e1 g1 r1 h1 => ho.sem Γ S1 _ _ σ w1 g1 (sl.ext e1) h1 ((r.er σ).ext e1) _ fun v d w2 S2 e2 g2 r2 ⟨hh, fs, ed, es, hl, h2⟩ => by
    subst ed
    obtain ⟨a, dx, vs, rfl, ha, hH, rf⟩ := ins_at g2 r2 es
    have e12 := e1.trans e2
    refine ⟨a, C, dx, vs, rfl, hH, cl, na, by rw [rf_len rf]; exact hl, ?_⟩
    have hm : a ∈ w2.al := List.mem_of_getElem? ha
    exact r.nx σ Γ (w2.wr a (.ins C dx (putF f y vs))) _ (e12.trans (Ext.wr _ hm)) (g2.wrI ha es (rf_put (e2.rp r1) rf)) ((sl.ext e12).ext (Ext.wr _ hm)) h2⟩
theorem at_last {al : List Addr} {p : Addr} {n : Nat} (h : al.length = n) : (al ++ [p])[n]? = some p := by
  rw [← h, List.getElem?_append_right (Nat.le_refl _), Nat.sub_self] <;> rfl
end
end DL
namespace DL
open PySem PySem.Spec PyProof.Rows L2
section
variable {M : Model} {A : Around} {E : Value → Shared → Prop} {s : Shared}
abbrev Keeps (M : Model) (f : Value) (h : Heap) : Prop := ∃ k, (k = Keeper.frame ∨ k = Keeper.machine ∨ k = Keeper.boundFrame) ∧ PySem.W.Looks M h (keeperOf f) k
theorem cw_any {f : Value} {first : List Value} {pos : Pos} {R : Value → Shared → Prop} {args : List (Bool × Sem Value)} {kws : List (Option Str × Sem Value)}
    (h : wpAny M A (evalArgs f true args kws) (fun a s1 => Keeps M f s1.heap ∧ wpAny M A (call f (first ++ a.pos) a.kw) R E s1) E s) : wpAny M A (callWith pos f first args kws) R E s := by
  cases st : (args.any (·.1) || kws.any (·.1.isNone)) with
  | false => exact PySem.W.callWith_of (P := Keeps M f) st (fun _ q => q) h
  | true =>
    unfold callWith
    refine wpAny_bind (wpAny_holding (wpAny_mono h (fun a s1 q => wpAny_bind (wpAny_standAt ?_)) fun _ _ z => z))
    obtain ⟨⟨k, hk, L⟩, q⟩ := q
    simp only [st]
    refine wpAny_bind (L.here ?_)
    have tail : ∀ {t : Sem Value}, wpAny M A t R E s1 → wpAny M A (t >>= fun r => holding [r] point >>= fun _ => pure r) R E s1 :=
      fun ht => wpAny_bind (wpAny_mono ht (fun r s2 hr => wpAny_bind (wpAny_holding (wpAny_point (wpAny_pure hr)))) fun _ _ y => y)
    have marked (mk : Value) : wpAny M A (callMarked mk f (first ++ a.pos) a.kw) R E s1 := by unfold callMarked; exact PySem.Calls.wpAny_keep q
    rcases hk with rfl | rfl | rfl <;> dsimp only <;> first | exact tail (marked _) | exact tail (wpAny_operating q)
theorem ea_lone {f : Value} {x : Sem Value} {pos : Pos} {kws : List (Option Str × Sem Value)} {Q : Args → Shared → Prop} (hall : kws.all (·.1.isSome) = true)
    (h : wpAny M A x (fun v s1 => wpAny M A (evalAll (kws.map (·.2))) (fun ks s2 => PySem.W.StarOf M A E v (fun vs s3 => Q ⟨vs, (kws.filterMap (·.1)).zip ks⟩ s3) s2) E s1) E s) :
    wpAny M A (evalArgs f true [(true, (do let v ← x; standAt pos; pure v))] kws) Q E s := by
  unfold evalArgs
  first
    | refine wpAny_bind (wpAny_bind (wpAny_mono h (fun v s1 q => wpAny_bind (wpAny_standAt (wpAny_pure ?_))) fun _ _ z => z))
    | refine wpAny_bind (wpAny_bind (wpAny_bind (wpAny_mono h (fun v s1 q => wpAny_bind (wpAny_standAt (wpAny_pure (wpAny_pure ?_)))) fun _ _ z => z)))
  refine wpAny_holding ?_
  simp only [hall, if_true]
  refine wpAny_bind (wpAny_mono q (fun ks s2 q2 => ?_) fun _ _ z => z)
  unfold PySem.W.StarOf at q2
  refine wpAny_bind (wpAny_bind (wpAny_mono q2 (fun b s3 q3 => ?_) fun _ _ z => z))
  obtain ⟨rfl, q4⟩ := q3
  have fin := wpAny_holding (vs := ((kws.filterMap (·.1)).zip ks).map (·.2)) (wpAny_mono q4 (fun vs s4 q5 => (wpAny_pure q5 : wpAny M A (pure (⟨vs, (kws.filterMap (·.1)).zip ks⟩ : Args)) Q E s4)) fun _ _ z => z)
  have fin2 := wpAny_mono (wpAny_holding (vs := ((kws.filterMap (·.1)).zip ks).map (·.2)) q4) (fun vs s4 q5 => (wpAny_pure q5 : wpAny M A (pure (⟨vs, (kws.filterMap (·.1)).zip ks⟩ : Args)) Q E s4)) fun _ _ z => z
  try simp only [Bool.false_eq_true, if_false]
  first
    | exact fin2
    | exact wpAny_bind (wpAny_pure fin2)
    | exact wpAny_bind fin2
    | exact fin
end
abbrev TA2 := L2.St → Hp → (List V → List V → Hp → Prop) → Prop
abbrev TL2 := Gam → Sto → (Sto → List D → List D → Prop) → KX → Prop
def SemA2 (K : PySem.W.Frag) (W : WX) (t : TA2) (T : TL2) : Prop := ∀ Γ S Φ Ψ σ w, Good K w S → Slots K w σ Γ → T Γ S Φ Ψ → OkX K W w Ψ σ → ∀ Q : List V → List V → Hp → Prop,
  (∀ vs zs ds es w' S', Ext w w' → Good K w' S' → Ra K w' vs ds → Ra K w' zs es → Φ S' ds es → Q vs zs w'.H) → t σ w.H Q
structure JC (X : Cx) (W : WX) (es : List Expr) (kws : List Keyword) (ks : List Str) (t : TA2) (T : TL2) : Prop where
  run : ∀ (pins : List (Addr × Obj)) (s : Shared) (σ : L2.St) (H : Hp) (Q : List V → List V → Hp → Prop) (f : Value) (first : List Value) (pos : Pos) (R : Value → Shared → Prop), Inv X pins σ H s → t σ H Q →
    (∀ s1 H1 us ws vs zs, Inv X pins σ H1 s1 → Vals vs us → Vals zs ws → zs.length = ks.length → Q vs zs H1 → Keeps (model X.prog X.w) f s1.heap ∧ wpAny (model X.prog X.w) X.A (call f (first ++ us) (ks.zip ws)) R X.xe s1) →
    wpAny (model X.prog X.w) X.A (callWith pos f first (backTo pos (starEach es X.env)) (backToKw pos (keywordEach kws X.env))) R X.xe s
  sem : SemA2 X.K W t T
def t2 (t tk : TA) (n : Nat) : TA2 := fun σ H Q => t σ H fun vs H1 => tk σ H1 fun zs H2 => zs.length = n ∧ Q vs zs H2
def d2 (T Tk : TL) (n : Nat) : TL2 := fun Γ S Φ Ψ => T Γ S (fun S1 ds => Tk Γ S1 (fun S2 es => es.length = n ∧ Φ S2 ds es) Ψ) Ψ
def tLone (K : PySem.W.Frag) (te : TE) (tk : TA) (n : Nat) : TA2 := fun σ H Q => te σ H fun x H1 => tk σ H1 fun zs H2 => zs.length = n ∧ ∃ p xs, x = V.ref p ∧ (SqT K H2 p xs ∨ SqL K H2 p xs) ∧ Q xs zs H2
def dLone (T : TD) (Tk : TL) (n : Nat) : TL2 := fun Γ S Φ Ψ => T Γ S (fun S1 d => Tk Γ S1 (fun S2 es => es.length = n ∧ ∃ ds, asS S2 d = some ds ∧ Φ S2 ds es) Ψ) Ψ
def lStar (T : TD) (U : TL) : TL := fun Γ S Φ Ψ => T Γ S (fun S1 d => ∃ ds, asS S1 d = some ds ∧ U Γ S1 (fun S2 xs => Φ S2 (ds ++ xs)) Ψ) Ψ
section
variable {X : Cx} {W : WX} {e : Expr} {es : List Expr} {kws : List Keyword} {ks : List Str} {te : TE} {Te : TD} {tl tk : TA} {Tl Tk : TL} {p : Pos}
theorem sem_t2 {K : PySem.W.Frag} {n : Nat} (h1 : SemA K W tl Tl) (h2 : SemA K W tk Tk) : SemA2 K W (t2 tl tk n) (d2 Tl Tk n) := fun Γ S Φ Ψ σ w g sl h hx Q q =>
  h1 Γ S _ Ψ σ w g sl h hx _ fun vs ds w1 S1 e1 g1 r1 k1 => h2 Γ S1 _ Ψ σ w1 g1 (sl.ext e1) k1 (hx.ext e1) _ fun zs es w2 S2 e2 g2 r2 ⟨hl, k2⟩ => ⟨by rw [r2.length]; exact hl, q vs zs ds es w2 S2 (e1.trans e2) g2 (e2.ra r1) r2 k2⟩
/-- the keywords' values -/
theorem kw_run {pos : Pos} {pins : List (Addr × Obj)} {s : Shared} {σ : L2.St} {H : Hp} {Q : List V → Hp → Prop} {Z : List Value → Shared → Prop} (hk : JK X W kws tk Tk) (I : Inv X pins σ H s) (h : tk σ H Q) (q : ∀ ws s1 zs H1, Inv X pins σ H1 s1 → Vals zs ws → Q zs H1 → Z ws s1) :
    wpAny (model X.prog X.w) X.A (evalAll ((backToKw pos (keywordEach kws X.env)).map (·.2))) Z X.xe s := thn (hk.pk.run pos pins s σ H Q I h) fun ws s1 ⟨zs, H1, I1, r, q1⟩ => q ws s1 zs H1 I1 r q1
/-- the first one is not starred -/
theorem jc_cons (ha : JA X W (e :: es) tl Tl) (hk : JK X W kws tk Tk) (hall : ∀ pos, (backToKw pos (keywordEach kws X.env)).all (·.1.isSome) = true := by intro _; rfl) (hks : ∀ pos, (backToKw pos (keywordEach kws X.env)).filterMap (·.1) = ks := by intro _; rfl)
    (he : starEach (e :: es) X.env = (false, eval e X.env) :: starEach es X.env := by rfl) : JC X W (e :: es) kws ks (t2 tl tk ks.length) (d2 Tl Tk ks.length) :=
  ⟨fun pins s σ H Q f first pos R I h q => cw_any (evalArgs_kw2 (hall pos) (thn (ha.pa.run pos pins s σ H _ I h) fun us s1 ⟨vs, H1, I1, r, h1⟩ => kw_run hk I1 h1 fun ws s2 zs H2 I2 rz h2 => by
    rw [hks pos]
    exact q s2 H2 us ws vs zs I2 r rz h2.1 h2.2) he), sem_t2 ha.sem hk.sem⟩
/-- one starred one alone -/
theorem jc_lone (ha : JE X W e te Te) (hk : JK X W kws tk Tk) (hall : ∀ pos, (backToKw pos (keywordEach kws X.env)).all (·.1.isSome) = true := by intro _; rfl) (hks : ∀ pos, (backToKw pos (keywordEach kws X.env)).filterMap (·.1) = ks := by intro _; rfl)
    (he : starEach [.Starred e p] X.env = [(true, eval e X.env)] := by rfl) : JC X W [.Starred e p] kws ks (tLone X.K te tk ks.length) (dLone Te Tk ks.length) := by
  refine ⟨fun pins s σ H Q f first pos R I h q => ?_, fun Γ S Φ Ψ σ w g sl h hx Q q => ?_⟩
  · rw [he]
    refine cw_any (ea_lone (hall pos) (thn (ha.pe.run pins s σ H _ I h) fun u s1 ⟨x, H1, I1, rx, h1⟩ => kw_run hk I1 h1 fun ws s2 zs H2 I2 rz ⟨hl, a, xs, ex, hx, h2⟩ => ?_))
    subst ex
    obtain rfl : u = Value.ref a := rx
    refine StX.star_any I2 hx fun us s3 I3 rv => ?_
    rw [hks pos]
    exact q s3 H2 us ws xs zs I3 rv rz hl h2
  · refine ha.sem Γ S _ Ψ σ w g sl h hx _ fun v d w1 S1 e1 g1 r1 k1 => hk.sem Γ S1 _ Ψ σ w1 g1 (sl.ext e1) k1 (hx.ext e1) _ fun zs es w2 S2 e2 g2 r2 ⟨hl, ds, ed, k2⟩ => ⟨by rw [r2.length]; exact hl, ?_⟩
    obtain ⟨a, xs, rfl, hq, ra⟩ := asS_at g2 (e2.rp r1) ed
    exact ⟨a, xs, rfl, hq.symm, q xs zs ds es w2 S2 (e1.trans e2) g2 ra r2 k2⟩
/-- a starred one among others -/
theorem ja_star (ha : JE X W e te Te) (hr : JA X W es tl Tl) (hs : starEach (.Starred e p :: es) X.env = (true, eval e X.env) :: starEach es X.env := by rfl) : JA X W (.Starred e p :: es) (StX.tStar X.K te tl) (lStar Te Tl) :=
  ⟨StX.pa_star ha.pe hr.pa hs, fun Γ S Φ Ψ σ w g sl h hx Q q => ha.sem Γ S _ Ψ σ w g sl h hx _ fun v d w1 S1 e1 g1 r1 ⟨ds, ed, k1⟩ => by
    obtain ⟨a, xs, rfl, hq, ra⟩ := asS_at g1 r1 ed
    exact ⟨a, xs, rfl, hq.symm, hr.sem Γ S1 _ Ψ σ w1 g1 (sl.ext e1) k1 (hx.ext e1) _ fun vs ds2 w2 S2 e2 g2 r2 k2 => q _ _ w2 S2 (e1.trans e2) g2 ((e2.ra ra).append r2) k2⟩⟩
end
abbrev DSpK := List D → List D → Sto → KD → KX → Prop
def spK (K : PySem.W.Frag) (sp : DSpK) (vs zs : List V) (H : Hp) (Q : VK) (E : XK) : Prop := ∃ w S ds es Φ Ψ, w.H = H ∧ Good K w S ∧ Ra K w vs ds ∧ Ra K w zs es ∧ sp ds es S Φ Ψ ∧ OkD K w Φ Q ∧
  ∀ cv dx x w' S', Ext w w' → Good K w' S' → RpX K w' cv dx x → Ψ S' x → E cv dx w'.H
structure FnK (P : Program) (wd : World) (K : PySem.W.Frag) (mg : Str → Option Value) (base : Heap) (k : Nat) (f : Addr) (ks : List Str) (sp : DSpK) : Prop where
  kp : PySem.W.keepIn K (.ref f) = true
  go : ∀ (A : Around) (outer : List Env) (s : Shared) (H : Hp) (us ws : List Value) (vs zs : List V) (Q : VK) (E : XK), A.guards = some [] → Room k A → Env0 P wd K mg base A outer s H → Vals vs us → Vals zs ws → zs.length = ks.length → spK K sp vs zs H Q E →
    codeAny (model P wd) A (.call (.ref f) ⟨us, ks.zip ws⟩) (CR (L2.CX P wd) outer P wd H s Q E) s
/-- a def's promise, called with n values: the parameters' places in values, defaults, keywords; with a star parameter behind a values -/
def pkP (n : Nat) (perm : List Nat) (md : List D) (sp : DSpec) : DSpK := fun ds es S Φ Ψ => ds.length = n ∧ sp (pick perm (ds ++ md) es) S Φ Ψ
def pkS (b : Bool) (a : Nat) (perm : List Nat) (md : List D) (sp : DSpec) : DSpK := fun ds es S Φ Ψ => (ds.take a).length = a ∧ (b = false → ds.drop a = []) ∧ (ds.drop a).length ≤ sizeLine ∧ sp (pick perm (ds.take a ++ md) es ++ [.tup (ds.drop a)]) S Φ Ψ
/-- the names looked up, one behind another, then m -/
def KwTo {α : Type} (D : Addr) : List (Str × Value) → Sem α → Sem α → Prop
  | [], t, m => t = m
  | q :: l, t, m => ∃ (β γ : Type) (k1 : Option Value → Sem β) (k2 : β → Sem γ) (k3 : γ → Sem α) (a : β), t = ((nsGet D q.1 >>= k1) >>= k2) >>= k3 ∧ k1 (some q.2) = pure a ∧ KwTo D l (k2 a >>= k3) m
theorem KwTo.wp {α : Type} {K : PySem.W.Frag} {M : Model} {A : Around} {E : Value → Shared → Prop} {Q : α → Shared → Prop} {s : Shared} {D : Addr} (X : K.In s.heap) : ∀ {l : List (Str × Value)} {t m : Sem α}, (∀ q ∈ l, PySem.W.nsIn K D q.1 = some (some q.2)) → KwTo D l t m → wpAny M A m Q E s → wpAny M A t Q E s
  | [], t, m, _, e, h => by
    obtain rfl : t = m := e
    exact h
  | q :: l, t, m, hl, ⟨β, γ, k1, k2, k3, a, e1, e2, e3⟩, h => by
    have l1 : PySem.W.Looks M s.heap (nsGet D q.1 >>= k1) a := (PySem.W.looks_nsIn X (hl q List.mem_cons_self)).andThen (PySem.W.Looks.of_pure e2)
    rw [e1, bind_assoc]
    exact wpAny_bind (l1.here (KwTo.wp X (fun p hp => hl p (List.mem_cons_of_mem _ hp)) e3 h))
/-- the lacking keyword-only ones -/
theorem kwd_of {K : PySem.W.Frag} {kV : Value} {kws ms : List (Str × V)} (h : KwdV K kV kws) (hm : ∀ q ∈ ms, q ∈ kws) : ∃ (D : Addr) (mv : List Value), (ms = [] ∨ kV = .ref D) ∧ mv.length = ms.length ∧ Vals (ms.map (·.2)) mv ∧ ∀ q ∈ (ms.map (·.1)).zip mv, PySem.W.nsIn K D q.1 = some (some q.2) := by
  cases ms with
  | nil => exact ⟨0, [], .inl rfl, rfl, .nil, fun q hq => by cases hq⟩
  | cons m ms =>
    rcases h with e | ⟨D, e, hq⟩
    · subst e
      exact absurd (hm m List.mem_cons_self) (by simp)
    · obtain ⟨mv, hl, rk, hks⟩ := kwd_vals (ms := m :: ms) fun q hq2 => hq q (hm q hq2)
      exact ⟨D, mv, .inr e, hl, rk, hks⟩
theorem vals_pre : ∀ {vs : List V} {us : List Value} {n : Nat}, Vals vs us → ∃ u1 u2, us = u1 ++ u2 ∧ Vals (vs.take n) u1 ∧ Vals (vs.drop n) u2
  | vs, us, 0, r => ⟨[], us, rfl, .nil, r⟩
  | [], _, _ + 1, .nil => ⟨[], [], rfl, .nil, .nil⟩
  | v :: vs, _, n + 1, .cons a r => by
    obtain ⟨u1, u2, e, r1, r2⟩ := vals_pre (n := n) r
    exact ⟨_ :: u1, u2, by rw [e]; rfl, .cons a r1, r2⟩
section
variable {P : Program} {wd : World} {K : PySem.W.Frag} {mg : Str → Option Value} {base : Heap} {x qual : Str} {st : Stmt} {kws ms : List (Str × V)} {md : List D} {f : Addr} {fd : FuncData} {N ps ks : List Str} {k n : Nat} {perm : List Nat} {sp : DSpec}
abbrev BodyOk (P : Program) (wd : World) (K : PySem.W.Frag) (mg : Str → Option Value) (base : Heap) (N : List Str) (qual : Str) (st : Stmt) (f : Addr) (k : Nat) (sp : DSpec) : Prop :=
  ∀ (cdv : Value) (A : Around) (outer : List Env) (s : Shared) (H : Hp) (E : XK), (A.deeper (envOfC qual (defScope st) s.heap.objs.size f cdv)).guards = some [] → Room k (A.deeper (envOfC qual (defScope st) s.heap.objs.size f cdv)) →
    ∃ t T, JB (cxOf (L2.CX P wd) P wd K mg base N qual (defScope st) f cdv A outer s H E) (WD E) (defBody st) t T ∧ ∀ ds S Φ Ψ, sp ds S Φ Ψ → T { nx := fun _ S' => RetOk S Φ S' .non, rt := RetOk S Φ, er := ErOk S Ψ } (gstart N ds) S
/-- THE RULE: a def without a star parameter -/
theorem fnK_plain (F : FunD K x qual (defArgs st) (defBody st) (defScope st) [] kws f fd) (Sc : FnScope N ps (defScope st)) (hms : ∀ q ∈ ms, q ∈ kws) (hmd : ∀ w, Ra K w (ms.map (·.2)) md) (len : ∀ ds S Φ Ψ, sp ds S Φ Ψ → ds.length = ps.length)
    (hb : ∀ (D : Addr) (kV doc pm : Value) (an : Option Addr) (cdv ct : Value) (us mv ws : List Value), (ms = [] ∨ kV = .ref D) → us.length = n → mv.length = ms.length → ws.length = ks.length →
      KwTo D ((ms.map (·.1)).zip mv) (bindArgs (PySem.W.fnOf x qual (defArgs st) (defBody st) (defScope st) .none kV doc pm an cdv ct) ⟨us, ks.zip ws⟩) (pure (ps.zip (pick perm (us ++ mv) ws))))
    (hbody : BodyOk P wd K mg base N qual st f k sp) : FnK P wd K mg base (k + 1) f ks (pkP n perm md sp) := by
  refine ⟨F.kp, fun A outer s H us ws vs zs Q E gd hr e0 rv rz hl ⟨w, S, ds, es, Φ, Ψ, hH, g, r1, r2, ⟨hn, hsp⟩, q, hx⟩ => ?_⟩
  subst hH
  obtain ⟨oc, od, dV, kV, doc, pm, an, cdv, ct, osl, rfl, lk, hcd, hD, hK⟩ := F.ex
  obtain ⟨D, mv, h1, h2, rm, hks⟩ := kwd_of hK hms
  have KX : K.In s.heap := e0.mod.kin.keeps fun b o e => (e0.bs b o e).1
  have eD : dV = .none := hD.elim (fun z => z.2) fun z => absurd rfl z.1
  subst eD
  have bd := hb D kV doc pm an cdv ct us mv ws h1 (by rw [← rv.length, r1.length]; exact hn) (by rw [h2]) (by rw [← rz.length]; exact hl)
  have rr : Ra K w (pick perm (vs ++ ms.map (·.2)) zs) (pick perm (ds ++ md) es) := pick_ra (r1.append (hmd w)) r2 _
  have rp : Vals (pick perm (vs ++ ms.map (·.2)) zs) (pick perm (us ++ mv) ws) := pick_vals (rv.append rm) rz _
  have many := len _ _ _ _ hsp
  refine StX.run_bnd (N := N) (ps := ps) (G := fun xs H2 => xs = pick perm (vs ++ ms.map (·.2)) zs ∧ H2 = w.H) lk hcd Sc hr e0 (fun A' Ex Q' h => ?_) fun s2 H2 xs ⟨ex, eH⟩ hr' => ?_
  · exact KwTo.wp KX hks bd (wpAny_pure (h s w.H _ _ e0 Un.refl rfl (fun _ _ z => z) rp (by rw [rr.length]; exact many) ⟨rfl, rfl⟩))
  · subst ex eH
    obtain ⟨t, T, jb, hq⟩ := hbody cdv A outer s2 w.H E (by show A.guards = some []; exact gd) hr'
    exact ⟨t, jb.pss, body_ok2 jb.sem hq ⟨w, S, _, Φ, Ψ, rfl, g, rr, hsp, q, hx⟩⟩
/-- THE RULE: a def with a star parameter, behind a others -/
theorem fnK_star {pv : Str} {a : Nat} {b : Bool} (F : FunD K x qual (defArgs st) (defBody st) (defScope st) [] kws f fd) (Sc : FnScope N (ps ++ [pv]) (defScope st)) (hms : ∀ q ∈ ms, q ∈ kws) (hmd : ∀ w, Ra K w (ms.map (·.2)) md) (len : ∀ ds S Φ Ψ, sp ds S Φ Ψ → ds.length = ps.length + 1)
    (hb : ∀ (D : Addr) (kV doc pm : Value) (an : Option Addr) (cdv ct : Value) (us rest mv ws : List Value), (ms = [] ∨ kV = .ref D) → (b = false → rest = []) → us.length = a → mv.length = ms.length → ws.length = ks.length →
      KwTo D ((ms.map (·.1)).zip mv) (bindArgs (PySem.W.fnOf x qual (defArgs st) (defBody st) (defScope st) .none kV doc pm an cdv ct) ⟨us ++ rest, ks.zip ws⟩) (newTuple rest >>= fun t => pure (ps.zip (pick perm (us ++ mv) ws) ++ [(pv, t)])))
    (hbody : BodyOk P wd K mg base N qual st f k sp) : FnK P wd K mg base (k + 1) f ks (pkS b a perm md sp) := by
  refine ⟨F.kp, fun A outer s H us ws vs zs Q E gd hr e0 rv rz hl ⟨w, S, ds, es, Φ, Ψ, hH, g, r1, r2, ⟨hn, hb0, hz, hsp⟩, q, hx⟩ => ?_⟩
  subst hH
  obtain ⟨oc, od, dV, kV, doc, pm, an, cdv, ct, osl, rfl, lk, hcd, hD, hK⟩ := F.ex
  obtain ⟨D, mv, h1, h2, rm, hks⟩ := kwd_of hK hms
  have KX : K.In s.heap := e0.mod.kin.keeps fun b o e => (e0.bs b o e).1
  have eD : dV = .none := hD.elim (fun z => z.2) fun z => absurd rfl z.1
  subst eD
  obtain ⟨u1, u2, eu, ra1, ra2⟩ := vals_pre (n := a) rv
  subst eu
  have q1 : Ra K w (vs.take a) (ds.take a) := RpA.take a r1
  have q2 : Ra K w (vs.drop a) (ds.drop a) := RpA.drop a r1
  have bd := hb D kV doc pm an cdv ct u1 u2 mv ws h1 (fun e => List.eq_nil_of_length_eq_zero (by rw [← ra2.length, q2.length, hb0 e]; rfl)) (by rw [← ra1.length, q1.length]; exact hn) (by rw [h2]) (by rw [← rz.length]; exact hl)
  have rr : Ra K w (pick perm (vs.take a ++ ms.map (·.2)) zs) (pick perm (ds.take a ++ md) es) := pick_ra (q1.append (hmd w)) r2 _
  have rp : Vals (pick perm (vs.take a ++ ms.map (·.2)) zs) (pick perm (u1 ++ mv) ws) := pick_vals (ra1.append rm) rz _
  have many := len _ _ _ _ hsp
  rw [List.length_append] at many
  have many2 : (pick perm (ds.take a ++ md) es).length = ps.length := by simpa using many
  have lp : (pick perm (u1 ++ mv) ws).length = ps.length := by rw [← rp.length, rr.length]; exact many2
  have hz2 : u2.length ≤ sizeLine := by rw [← ra2.length, q2.length]; exact hz
  have hnew : w.H s.heap.objs.size = Option.none := e0.hok.fresh (Nat.le_refl _)
  refine StX.run_bnd (N := N) (ps := ps ++ [pv]) (G := fun xs H2 => ∃ p, w.H p = Option.none ∧ xs = pick perm (vs.take a ++ ms.map (·.2)) zs ++ [V.ref p] ∧ H2 = upd w.H p (.tup (vs.drop a))) lk hcd Sc hr e0 (fun A' Ex Q' h => ?_) fun s2 H2 xs ⟨p, hp, ex, eH⟩ hr' => ?_
  · refine KwTo.wp KX hks bd (wpAny_bind (wpAny_newTuple (wpAny_pure ?_) hz2))
    have made : ObjOk P wd (upd w.H s.heap.objs.size (.tup (vs.drop a))) (s.heap.push ({ cls := .type "tuple", data := .seq u2.toArray } : Obj)) s.heap.objs.size (.tup (vs.drop a)) := ⟨by rw [q2.length]; exact hz, u2, ra2, ⟨_, Heap.get?_push_size _ rfl, rfl, _, rfl⟩⟩
    have un := StX.un_laid (fs := frs outer) (s := s) (o := ({ cls := .type "tuple", data := .seq u2.toArray } : Obj)) (u := .tup (vs.drop a)) hnew
    have z := h _ _ (pick perm (vs.take a ++ ms.map (·.2)) zs ++ [V.ref s.heap.objs.size]) (pick perm (u1 ++ mv) ws ++ [Value.ref s.heap.objs.size]) (StX.env0_laid e0 made) un rfl
      (fun e s' => StX.cxUp outer s w.H _ _ E e s' un (fun b o q => Heap.get?_push_of_some _ q) rfl) (rp.append (.cons rfl .nil)) (by rw [List.length_append, List.length_append, rr.length, many2] <;> rfl) ⟨_, hnew, rfl, rfl⟩
    rw [List.zip_append lp.symm] at z
    exact z
  · subst ex eH
    obtain ⟨t, T, jb, hq⟩ := hbody cdv A outer s2 _ E (by show A.guards = some []; exact gd) hr'
    have ee := Ext.frz g (.tup (vs.drop a)) hp
    refine ⟨t, jb.pss, body_ok2 jb.sem hq ⟨w.frz p (.tup (vs.drop a)), S, _, Φ, Ψ, rfl, g.frz _ hp, (ee.ra rr).append (.cons (.tup (.inl (.inl upd_same)) (ee.ra q2)) .nil), hsp, q.ext ee, fun cv dx x w' S' e gg r hΨ => hx cv dx x w' S' (ee.trans e) gg r hΨ⟩⟩
end
end DL
namespace DL
open PySem PySem.Spec PyProof.Rows L2
theorem under_guards {A : Around} {C : Addr} {us : List Value} {kw : List (Str × Value)} : (A.under (.builtin "type.__call__" ⟨.ref C :: us, kw⟩)).guards = A.guards := by
  first | rfl | simp [Around.under, Code.weight, Code.isCreation, Code.isGuard, Code.isCaller, Code.frames, Code.isFrame, guardIds]
def tCallA (K : PySem.W.Frag) (sp : DSpK) (W : WX) (t : TA2) : TE := fun σ H Q => t σ H fun vs zs H1 => spK K sp vs zs H1 Q (WE W σ)
def dCallA (sp : DSpK) (T : TL2) : TD := fun Γ S Φ Ψ => T Γ S (fun S1 ds es => sp ds es S1 Φ Ψ) Ψ
def tMakeA (K : PySem.W.Frag) (C : Addr) (sp : DSpK) (W : WX) (t : TA2) : TE := fun σ H Q => t σ H fun vs zs H1 => ∀ x dx, H1 x = none → H1 dx = none → dx ≠ x → spK K sp (.ref x :: vs) zs (upd (upd H1 dx (.own x)) x (.ins C dx [])) (fun v H2 => v = .non ∧ Q (.ref x) H2) (WE W σ)
def dMakeA (C : Addr) (sp : DSpK) (T : TL2) : TD := fun Γ S Φ Ψ => T Γ S (fun S1 ds es => sp (.own S1.length :: ds) es (S1 ++ [.ins C []]) (fun S2 d => d = .non ∧ Φ S2 (.own S1.length)) Ψ) Ψ
def dMethA (C : Addr) (m : Str) (sp : DSpK) (To : TD) (T : TL2) : TD := fun Γ S Φ Ψ => To Γ S (fun S1 d => ∃ fs, asI S1 d = some (C, fs) ∧ fs.lookup m = none ∧ T Γ S1 (fun S2 ds es => sp (d :: ds) es S2 Φ Ψ) Ψ) Ψ
def tCMethA (K : PySem.W.Frag) (C : Addr) (sp : DSpK) (W : WX) (to : TE) (t : TA2) : TE := fun σ H Q => to σ H fun x H1 => x = .ref C ∧ t σ H1 fun vs zs H2 => spK K sp (.ref C :: vs) zs H2 Q (WE W σ)
def dCMethA (C : Addr) (sp : DSpK) (To : TD) (T : TL2) : TD := fun Γ S Φ Ψ => To Γ S (fun S1 d => d = .obj C ∧ T Γ S1 (fun S2 ds es => sp (.obj C :: ds) es S2 Φ Ψ) Ψ) Ψ
def tPropA (K : PySem.W.Frag) (C : Addr) (sp : DSpK) (to : TE) : TE := fun σ H Q => to σ H fun x H1 => ∃ a dx fs, x = .ref a ∧ H1 a = some (.ins C dx fs) ∧ spK K sp [x] [] H1 Q (fun _ _ _ => False)
def dPropA (C : Addr) (sp : DSpK) (To : TD) : TD := fun Γ S Φ Ψ => To Γ S (fun S1 d => ∃ fs, asI S1 d = some (C, fs) ∧ sp [d] [] S1 Φ (fun _ _ => False)) Ψ
/-- the class in a local name: cls(..) -/
def tMakeV (K : PySem.W.Frag) (i : Nat) (C : Addr) (sp : DSpK) (W : WX) (t : TA2) : TE := fun σ H Q => σ[i]? = some (some (.ref C)) ∧ tMakeA K C sp W t σ H Q
def dMakeV (i : Nat) (C : Addr) (sp : DSpK) (T : TL2) : TD := fun Γ S Φ Ψ => Γ[i]? = some (some (.obj C)) ∧ dMakeA C sp T Γ S Φ Ψ
section
variable {K : PySem.W.Frag} {W : WX} {sp : DSpK} {t : TA2} {T : TL2} {to : TE} {To : TD} {C : Addr} {m : Str}
theorem spk_of {w : Hs} {S : Sto} {vs zs : List V} {ds es : List D} {Φ : KD} {Ψ : KX} {Q : VK} {σ : L2.St} {w0 : Hs} (g : Good K w S) (r : Ra K w vs ds) (rz : Ra K w zs es) (h : sp ds es S Φ Ψ) (q : OkD K w Φ Q) (e : Ext w0 w) (hx : OkX K W w0 Ψ σ) : spK K sp vs zs w.H Q (WE W σ) :=
  ⟨w, S, ds, es, Φ, Ψ, rfl, g, r, rz, h, q, fun cv dx x w' S' e2 gg rr hΨ => hx cv dx x w' S' (e.trans e2) gg rr hΨ⟩
theorem sem_callA (h : SemA2 K W t T) : SemE K W (tCallA K sp W t) (dCallA sp T) := fun Γ S Φ Ψ σ w g sl hT hx Q q =>
  h Γ S _ Ψ σ w g sl hT hx _ fun vs zs ds es w1 S1 e1 g1 r1 r2 h1 => spk_of g1 r1 r2 h1 (q.ext e1) e1 hx
theorem sem_makeA (h : SemA2 K W t T) : SemE K W (tMakeA K C sp W t) (dMakeA C sp T) := fun Γ S Φ Ψ σ w g sl hT hx Q q =>
  h Γ S _ Ψ σ w g sl hT hx _ fun vs zs ds es w1 S1 e1 g1 r1 r2 h1 => fun x dx h0 hd _ => by
    have e2 : Ext w1 (w1.celI x dx C) := Ext.celI g1 h0 hd
    have own : Rv K (w1.celI x dx C) (.ref x) (.own S1.length) := .own (at_last g1.len)
    refine spk_of (g1.celI h0 hd) (.cons own (e2.ra r1)) (e2.ra r2) h1 ?_ (e1.trans e2) hx
    rintro v d w3 S3 e3 g3 r3 ⟨ed, h3⟩
    subst ed
    exact ⟨rv_non r3, q (.ref x) (.own S1.length) w3 S3 ((e1.trans e2).trans e3) g3 (e3.rp own) h3⟩
theorem sem_makeV {i : Nat} (h : SemA2 K W t T) : SemE K W (tMakeV K i C sp W t) (dMakeV i C sp T) := fun Γ S Φ Ψ σ w g sl ⟨hi, hT⟩ hx Q q => by
  obtain ⟨v, hv, r⟩ := sl.2 i _ hi
  cases r
  exact ⟨hv, sem_makeA h Γ S Φ Ψ σ w g sl hT hx Q q⟩
theorem sem_cmethA (ho : SemE K W to To) (h : SemA2 K W t T) : SemE K W (tCMethA K C sp W to t) (dCMethA C sp To T) := fun Γ S Φ Ψ σ w g sl hT hx Q q =>
  ho Γ S _ Ψ σ w g sl hT hx _ fun v d w1 S1 e1 g1 r1 ⟨ed, h1⟩ => by
    subst ed
    cases r1
    exact ⟨rfl, h Γ S1 _ Ψ σ w1 g1 (sl.ext e1) h1 (hx.ext e1) _ fun us zs ds es w2 S2 e3 g2 r2 r3 h2 => spk_of g2 (.cons (.obj C) r2) r3 h2 (q.ext (e1.trans e3)) (e1.trans e3) hx⟩
theorem sem_propA (ho : SemE K W to To) : SemE K W (tPropA K C sp to) (dPropA C sp To) := fun Γ S Φ Ψ σ w g sl hT hx Q q =>
  ho Γ S _ Ψ σ w g sl hT hx _ fun v d w1 S1 e1 g1 r1 ⟨fs, e2, h1⟩ => by
    obtain ⟨a, dx, vs, rfl, hH, rf⟩ := asI_at g1 r1 e2
    exact ⟨a, dx, vs, rfl, hH, w1, S1, [d], [], Φ, _, rfl, g1, .cons r1 .nil, .nil, h1, q.ext e1, fun _ _ _ _ _ _ _ _ z => z.elim⟩
end
section
variable {X : Cx} {W : WX} {o : Expr} {es : List Expr} {kws : List Keyword} {ks : List Str} {t : TA2} {T : TL2} {to : TE} {To : TD} {C : Addr} {m x : Str} {pos apos p : Pos} {k : Nat} {sp : DSpK} {f : Addr}
/-- the callee's run -/
theorem runK {pins : List (Addr × Obj)} {σ : L2.St} {H : Hp} {s : Shared} {Q : VK} {us ws : List Value} {vs zs : List V} (F : FnK X.prog X.w X.K X.mg X.base k f ks sp) (gd : X.A.guards = some []) (hr : Room k X.A) (tk : Takes X W) (I : Inv X pins σ H s) (r : Vals vs us) (rz : Vals zs ws) (hl : zs.length = ks.length)
    (h : spK X.K sp vs zs H Q (WE W σ)) : codeAny (model X.prog X.w) X.A (.call (.ref f) ⟨us, ks.zip ws⟩) (fun r s' => match r with | .ok (.ret v) => EP X pins σ Q v s' | .ok _ => False | .error e => X.xe e s') s := by
  refine codeAny_mono (F.go X.A X.stack s H us ws vs zs Q _ gd hr I.env0 r rz hl h) fun rr s2 hq => ?_
  match rr, hq with
  | .error u, hq => exact passAt tk σ pins H s u s2 I hq
  | .ok (.ret u), hq => exact I.after hq
  | .ok .next, hq => exact False.elim hq
  | .ok .brk, hq => exact False.elim hq
  | .ok .cont, hq => exact False.elim hq
theorem je_callA (F : FnK X.prog X.w X.K X.mg X.base k f ks sp) (hm : X.mg x = some (.ref f)) (gd : X.A.guards = some []) (hr : Room k X.A) (hg : Gl X x) (tk : Takes X W) (ha : JC X W es kws ks t T) (hdb : (x == ("__debug__" : Str)) = false := by decide) :
    JE X W (.Call (.Name x p) es kws pos) (tCallA X.K sp W t) (dCallA sp T) :=
  ⟨⟨fun pins s σ H Q I h => wpAny_Call_Name_kw (ld_glob I hg hm (ha.run pins s σ H _ _ [] pos _ I h fun s1 H1 us ws vs zs I1 r rz hl h1 => ⟨PySem.W.keeps_K F.kp _ I1.kIn, wpAny_call (runK F gd hr tk I1 r rz hl h1)⟩) hdb)⟩, sem_callA ha.sem⟩
/-- a class and its __init__ -/
structure CtorK (P : Program) (wd : World) (K : PySem.W.Frag) (mg : Str → Option Value) (base : Heap) (C : Addr) (k : Nat) (ks : List Str) (sp : DSpK) : Prop where
  ex : ∃ fi, Mk K C fi ∧ FnK P wd K mg base k fi ks sp
theorem goCtor {pins : List (Addr × Obj)} {σ : L2.St} {H : Hp} {s : Shared} {Q : VK} {us ws : List Value} {vs zs : List V} (c : CtorK X.prog X.w X.K X.mg X.base C k ks sp) (gd : X.A.guards = some []) (hr : Room (k + 1) X.A) (tk : Takes X W) (I : Inv X pins σ H s) (r : Vals vs us) (rz : Vals zs ws) (hl : zs.length = ks.length)
    (h : ∀ x dx, H x = none → H dx = none → dx ≠ x → spK X.K sp (.ref x :: vs) zs (upd (upd H dx (.own x)) x (.ins C dx [])) (fun v H2 => v = .non ∧ Q (.ref x) H2) (WE W σ)) : Keeps (model X.prog X.w) (.ref C) s.heap ∧ wpAny (model X.prog X.w) X.A (call (.ref C) us (ks.zip ws)) (EP X pins σ Q) X.xe s := by
  obtain ⟨fi, M, F⟩ := c.ex
  refine ⟨PySem.W.keeps_K M.kp _ I.kIn, ?_⟩
  have hs := h (s.heap.objs.size + 1) s.heap.objs.size (I.hok.fresh (Nat.le_succ _)) (I.hok.fresh (Nat.le_refl _)) (Nat.ne_of_lt (Nat.lt_succ_self _))
  have J := Inv.made (C := C) I
  have rr : Vals (V.ref (s.heap.objs.size + 1) :: vs) (Value.ref (s.heap.objs.size + 1) :: us) := .cons rfl r
  refine wpAny_call (make_map (f := fi) I.kIn M.makes M.init (beq_iff_eq.mp M.fn) (codeAny_mono (F.go _ X.stack _ _ _ ws _ zs _ _ (under_guards.trans gd) (hr.make C us (ks.zip ws)) (J.env0.make C us (ks.zip ws)) rr rz hl hs) fun z s2 hz => ?_))
  match z, hz with
  | .error u, hz => exact passAt tk σ pins _ _ u s2 J hz
  | .ok (.ret u), hz =>
    obtain ⟨v, H2, J2, rv, ev, q2⟩ := J.after hz
    subst ev
    exact ⟨rv, ⟨V.ref (s.heap.objs.size + 1), H2, J2, rfl, q2⟩⟩
  | .ok .next, hz => exact False.elim hz
  | .ok .brk, hz => exact False.elim hz
  | .ok .cont, hz => exact False.elim hz
theorem je_makeV (i : Nat) (c : CtorK X.prog X.w X.K X.mg X.base C k ks sp) (gd : X.A.guards = some []) (hr : Room (k + 1) X.A) (tk : Takes X W) (ha : JC X W es kws ks t T) (hN : X.N[i]? = some x := by rfl) (hv : Vis X.env.scope x := by first | exact Or.inl rfl | exact Or.inr (Or.inl rfl) | exact Or.inr (Or.inr rfl))
    (hdb : (x == ("__debug__" : Str)) = false := by decide) (hcd : (x == ("__classdict__" : Str)) = false := by decide) : JE X W (.Call (.Name x p) es kws pos) (tMakeV X.K i C sp W t) (dMakeV i C sp T) := by
  refine ⟨⟨fun pins s σ H Q I ⟨hi, h⟩ => wpAny_Call_Name_kw (thn ((pe_var (pos := p) hN hv hdb hcd).run pins s σ H (fun v H1 => v = .ref C ∧ H1 = H) I ⟨.ref C, hi, rfl, rfl⟩) fun u s1 ⟨v, H1, I1, r1, q1⟩ => ?_)⟩, sem_makeV ha.sem⟩
  obtain ⟨rfl, rfl⟩ := q1
  cases r1
  exact ha.run pins s1 σ _ _ _ [] pos _ I1 h fun s2 H2 us ws vs zs I2 r rz hl h1 => goCtor c gd hr tk I2 r rz hl h1
/-- a class method, read off the class -/
structure CMetK (P : Program) (wd : World) (K : PySem.W.Frag) (mg : Str → Option Value) (base : Heap) (C : Addr) (m : Str) (k : Nat) (ks : List Str) (sp : DSpK) : Prop where
  ex : ∃ mc p g, ClX.CRead K C mc ∧ ClX.CMet K C mc m p g ∧ FnK P wd K mg base k g ks sp
theorem je_cmethA {pl : Sem Bool} (c : CMetK X.prog X.w X.K X.mg X.base C m k ks sp) (gd : X.A.guards = some []) (hr : Room k X.A) (tk : Takes X W) (ho : JE X W o to To) (ha : JC X W es kws ks t T)
    (ht : eval (.Call (.Attribute o m apos) es kws pos) X.env = (do
      let ov ← eval o X.env
      standAt apos.atName
      let (f, first) ← holding [ov] (getMethod ov m pl)
      callWith pos f first (backTo pos (starEach es X.env)) (backToKw pos (keywordEach kws X.env))) := by rfl) :
    JE X W (.Call (.Attribute o m apos) es kws pos) (tCMethA X.K C sp W to t) (dCMethA C sp To T) := by
  obtain ⟨mc, pp, g, cr, cm, F⟩ := c.ex
  refine ⟨⟨fun pins s σ H Q I h => PySem.W.methodCall_KW (pl := pl) (thn (ho.pe.run pins s σ H _ I h) fun u s1 ⟨y, H1, I1, rx, ex, q⟩ => ?_) ht⟩, sem_cmethA ho.sem ha.sem⟩
  subst ex
  obtain rfl : u = Value.ref C := rx
  refine ClX.getmethcm_ok I1 cr cm fun s2 I2 => ha.run _ s2 σ H1 _ _ [] pos _ I2 q fun s3 H2 us ws vs zs I3 r rz hl h1 => ⟨PySem.W.keeps_M cm.fi _ ⟨ClX.pin_at I3, I3.kIn⟩, ?_⟩
  exact thn (wpAny_call (PySem.W.method_call (ClX.pin_at I3) (runK (us := .ref C :: us) (vs := .ref C :: vs) F gd hr tk I3 (.cons rfl r) rz hl h1))) fun _ _ y => ClX.unpinE y
/-- a property -/
structure PropK (P : Program) (wd : World) (K : PySem.W.Frag) (mg : Str → Option Value) (base : Heap) (C : Addr) (m : Str) (k : Nat) (sp : DSpK) : Prop where
  cl : Cls K C
  ex : ∃ p g, PropOf K C m p g ∧ FnK P wd K mg base k g [] sp
theorem je_propA (c : PropK X.prog X.w X.K X.mg X.base C m k sp) (gd : X.A.guards = some []) (hr : Room (k + 1) X.A) (ho : JE X W o to To) (hb : attributeBase o m X.env (eval o X.env) = eval o X.env := by rfl) : JE X W (.Attribute o m pos) (tPropA X.K C sp to) (dPropA C sp To) := by
  obtain ⟨pp, g, hp, F⟩ := c.ex
  refine ⟨⟨fun pins s σ H Q I h => attr_of hb (thn (ho.pe.run pins s σ H _ I h) fun u s1 ⟨y, H1, I1, rx, a, dx, fs, ex, ea, q⟩ => ?_)⟩, sem_propA ho.sem⟩
  subst ex
  obtain rfl : u = Value.ref a := rx
  obtain ⟨mA, O, _, _, _, _⟩ := ins_get I1.hok ea
  obtain ⟨od, J, _⟩ := O.look
  obtain ⟨rest, hrec⟩ := hp.rec_
  have I2 := I1.tok (s1.toks + 1)
  have hc : (PySem.W.clsIn X.K C).isSome = true := by
    obtain ⟨cd, hc, _⟩ := PySem.W.any_some c.cl.hd
    rw [hc]
    rfl
  refine PySem.W.get_bind I1.kIn J (PySem.W.plainGet_of (c.cl.get m)).1 (PySem.W.findObj_data hc hp.at_ hp.get hp.tak) (PySem.W.plainGet_of (c.cl.get m)).2 (wpAny_call (PySem.W.prop_get (s := { s1 with toks := s1.toks + 1 }) I1.kIn hrec ?_))
  refine codeAny_mono (F.go X.A.in1 X.stack { s1 with toks := s1.toks + 1 } H1 [.ref a] [] [.ref a] [] Q _ gd hr.in1 I2.env0.in1 (.cons rfl .nil) .nil rfl q) fun rr s2 hq => ?_
  match rr, hq with
  | .error u, ⟨_, _, _, _, _, _, _, _, _, _, _, _, z⟩ => exact z.elim
  | .ok (.ret u), hq =>
    obtain ⟨v, H', I3, rv, q3⟩ := I2.after hq
    show wpAny _ _ (handedOut u) _ _ _
    rw [PySem.W.handedOut_of (handed_of rv)]
    exact wpAny_pure ⟨v, H', I3, rv, q3⟩
  | .ok .next, hq => exact False.elim hq
  | .ok .brk, hq => exact False.elim hq
  | .ok .cont, hq => exact False.elim hq
end
def fzID (d : D) (S : Sto) (Φ : KD) : Prop := match d with
  | .own h => ∃ C fs, S[h]? = some (.ins C fs) ∧ Φ (S.set h .gone) (.ins C fs)
  | d => Φ S d
def dFzI (T : TD) : TD := fun Γ S Φ Ψ => T Γ S (fun S1 d => fzID d S1 Φ) Ψ
theorem fzI_ok {K : PySem.W.Frag} {w : Hs} {S : Sto} (g : Good K w S) {Φ : KD} {Q : VK} {v : V} {d : D} (r : Rv K w v d) (h : fzID d S Φ) (q : OkD K w Φ Q) : Q v w.H := by
  have other : Φ S d → Q v w.H := fun z => q v d w S (Ext.refl w) g r z
  cases d with
  | own hh =>
    obtain ⟨C, fs, e, hΦ⟩ := h
    obtain ⟨a, dx, vs, rfl, ha, hH, rf⟩ := ins_at g r e
    have hm : a ∈ w.al := List.mem_of_getElem? ha
    have hF : w.F a = none := (g.cell hh a _ ha e).1
    have ee : Ext w (w.fz a (.ins C dx vs)) := Ext.fz hm hF
    exact q (.ref a) (.ins C fs) (w.fz a (.ins C dx vs)) _ ee (g.fzC ha e (fun z => nomatch z) hH) (.ins upd_same (RpF.mono ee.f ee.alx fs vs rf)) hΦ
  | _ => exact other h
theorem je_fzI {X : Cx} {W : WX} {e : Expr} {t : TE} {T : TD} (h : JE X W e t T) : JE X W e t (dFzI T) := ⟨h.pe, fun Γ S Φ Ψ σ w g sl hT hx Q q =>
  h.sem Γ S _ Ψ σ w g sl hT hx Q fun v d w1 S1 e1 g1 r1 h1 => fzI_ok g1 r1 h1 (q.ext e1)⟩
end DL
namespace DL
open PySem PySem.Spec PyProof.Rows L2
abbrev FaX : Type := PySem.W.Frag → Bool
def obsX (fa : List FaX) (fn : List He5.DefA) (K : PySem.W.Frag) : He.AlD := ((fa.all fun f => f K) && fn.all fun d => d.ok K, fn.map fun d => He5.fnA K (d.at_ K))
def SaysX (fa : List FaX) (fn : List He5.DefA) (K : PySem.W.Frag) : Prop := obsX fa fn K = He5.valA fn
def obsXG (n : Nat) (fa : List FaX) (fn : List He5.DefA) (g : Addr → Option Obj) : He.AlD := obsX fa fn (He.frG g (He5.asA g n))
def hookX (n : Nat) (fa : List FaX) (fn : List He5.DefA) : PySem.W.Hook where
  α := He.AlD
  obs := fun s => obsXG n fa fn s.heap.get?
  val := fun _ => He5.valA fn
  says := fun _ h => ∃ K : PySem.W.Frag, K.In h ∧ SaysX fa fn K
  of := fun _ _ e => ⟨_, He.frG_in, e⟩
  keeps := fun _ _ _ ⟨K, hK, c⟩ k => ⟨K, PySem.W.Frag.In.keeps hK k, c⟩
theorem obsXG_eq {n : Nat} {fa : List FaX} {fn : List He5.DefA} {g : Addr → Option Obj} {s : Shared} (h : ∀ a, g a = s.heap.get? a) : obsXG n fa fn g = (hookX n fa fn).obs s := by
  have e : g = s.heap.get? := funext h
  rw [e] <;> rfl
section
variable {fa : List FaX} {fn : List He5.DefA} {K : PySem.W.Frag}
theorem SaysX.all (c : SaysX fa fn K) : (fa.all fun f => f K) = true ∧ (fn.all fun d => d.ok K) = true := by
  have c1 : ((fa.all fun f => f K) && fn.all fun d => d.ok K) = true := congrArg (fun z : He.AlD => z.1) c
  exact Bool.and_eq_true_iff.mp c1
theorem SaysX.fact (c : SaysX fa fn K) (i : Nat) {f : FaX} (h : fa[i]? = some f := by rfl) : f K = true := List.all_eq_true.mp c.all.1 f (List.mem_of_getElem? h)
theorem SaysX.def_ (c : SaysX fa fn K) (i : Nat) {d : He5.DefA} (h : fn[i]? = some d := by rfl) : ∃ fd, FunD K d.name d.qual d.params d.body d.scope (d.dvs K) (d.kws K) (d.at_ K) fd := by
  have e : fn.map (fun d => He5.fnA K (d.at_ K)) = fn.map He5.DefA.val := congrArg (fun z : He.AlD => z.2) c
  have e2 : (fn.map fun d => He5.fnA K (d.at_ K))[i]? = (fn.map He5.DefA.val)[i]? := by rw [e]
  rw [List.getElem?_map, List.getElem?_map, h] at e2
  exact He5.DefA.funD (Option.some.inj e2) (List.all_eq_true.mp c.all.2 d (List.mem_of_getElem? h))
end
section
variable {K : PySem.W.Frag} {x f m : Str}
open He
def bProp (x f : Str) : FaX := fun K => eqO (PySem.W.findIn K (.ref (ga K x)) f) (some (some (.ref (ma K (ga K x) f)))) && (eqO (PySem.W.specialIn K (.ref (ma K (ga K x) f)) "__get__") (some (some (.builtin "property.__get__"))) && (decide (PySem.W.takesIn K (.ref (ma K (ga K x) f)) = some true) &&
  (match PySem.W.recIn K (ma K (ga K x) f) "property" with
    | some (.ref _ :: _) => true
    | _ => false)))
theorem bProp_ok (h : bProp x f K = true) : PropOf K (ga K x) f (ma K (ga K x) f) (He5.wf K (ga K x) "property" f) := by
  obtain ⟨h1, h⟩ := ba h
  obtain ⟨h2, h⟩ := ba h
  obtain ⟨h3, h4⟩ := ba h
  refine ⟨eqO_ok h1, eqO_ok h2, of_decide_eq_true h3, ?_⟩
  unfold He5.wf
  split at h4
  · rename_i g r e
    exact ⟨r, by rw [e]⟩
  · cases h4
def bCMet (x m : Str) : FaX := fun K => He5.wrapB K (ga K x) "classmethod" "classmethod.__get__" m && PySem.W.fnIn K (He5.wf K (ga K x) "classmethod" m)
theorem bCMet_ok (h : bCMet x m K = true) : ClX.CMet K (ga K x) (.type "type") m (ma K (ga K x) m) (He5.wf K (ga K x) "classmethod" m) := by
  obtain ⟨h1, h2⟩ := ba h
  obtain ⟨k1, k2⟩ := He5.wrapB_ok h1
  exact ⟨k1, k2, h2⟩
def bCRd (x : Str) : FaX := fun K => PySem.W.readsIn K (ga K x) (.type "type") && eqO (PySem.W.specialIn K (.ref (ga K x)) "__getattribute__") (some (some (.builtin "type.__getattribute__")))
theorem bCRd_ok (h : bCRd x K = true) : ClX.CRead K (ga K x) (.type "type") := ⟨(ba h).1, eqO_ok (ba h).2⟩
end
end DL
namespace DL
open PySem PySem.Spec PyProof.Rows L2
/-- a, b, .. = a list of that length -/
def lstG (n : Nat) (T : TGs') : TGd := fun d Γ S P => ∃ ds, asQ S d = some ds ∧ ds.length = n ∧ T ds Γ S P
section
variable {Γ : Gam} {S : Sto} {Φ : KD} {Ψ : KX}
theorem lstG_e {n : Nat} {T : TGs'} {d : D} {P : Gam → Sto → Prop} : lstG n T d Γ S P = (∃ ds, asQ S d = some ds ∧ ds.length = n ∧ T ds Γ S P) := rfl
theorem d2_e {T Tk : TL} {n : Nat} {Φ : Sto → List D → List D → Prop} : d2 T Tk n Γ S Φ Ψ = (T Γ S (fun S1 ds => Tk Γ S1 (fun S2 es => es.length = n ∧ Φ S2 ds es) Ψ) Ψ) := rfl
theorem dLone_e {T : TD} {Tk : TL} {n : Nat} {Φ : Sto → List D → List D → Prop} : dLone T Tk n Γ S Φ Ψ = (T Γ S (fun S1 d => Tk Γ S1 (fun S2 es => es.length = n ∧ ∃ ds, asS S2 d = some ds ∧ Φ S2 ds es) Ψ) Ψ) := rfl
theorem lStar_e {T : TD} {U : TL} {Φ : Sto → List D → Prop} : lStar T U Γ S Φ Ψ = (T Γ S (fun S1 d => ∃ ds, asS S1 d = some ds ∧ U Γ S1 (fun S2 xs => Φ S2 (ds ++ xs)) Ψ) Ψ) := rfl
theorem dCallA_e {sp : DSpK} {T : TL2} : dCallA sp T Γ S Φ Ψ = (T Γ S (fun S1 ds es => sp ds es S1 Φ Ψ) Ψ) := rfl
theorem dMakeA_e {C : Addr} {sp : DSpK} {T : TL2} : dMakeA C sp T Γ S Φ Ψ = (T Γ S (fun S1 ds es => sp (.own S1.length :: ds) es (S1 ++ [.ins C []]) (fun S2 d => d = .non ∧ Φ S2 (.own S1.length)) Ψ) Ψ) := rfl
theorem dMakeV_e {i : Nat} {C : Addr} {sp : DSpK} {T : TL2} : dMakeV i C sp T Γ S Φ Ψ = (Γ[i]? = some (some (.obj C)) ∧ dMakeA C sp T Γ S Φ Ψ) := rfl
theorem dMethA_e {C : Addr} {m : Str} {sp : DSpK} {To : TD} {T : TL2} : dMethA C m sp To T Γ S Φ Ψ = (To Γ S (fun S1 d => ∃ fs, asI S1 d = some (C, fs) ∧ fs.lookup m = none ∧ T Γ S1 (fun S2 ds es => sp (d :: ds) es S2 Φ Ψ) Ψ) Ψ) := rfl
theorem dCMethA_e {C : Addr} {sp : DSpK} {To : TD} {T : TL2} : dCMethA C sp To T Γ S Φ Ψ = (To Γ S (fun S1 d => d = .obj C ∧ T Γ S1 (fun S2 ds es => sp (.obj C :: ds) es S2 Φ Ψ) Ψ) Ψ) := rfl
theorem dPropA_e {C : Addr} {sp : DSpK} {To : TD} : dPropA C sp To Γ S Φ Ψ = (To Γ S (fun S1 d => ∃ fs, asI S1 d = some (C, fs) ∧ sp [d] [] S1 Φ (fun _ _ => False)) Ψ) := rfl
theorem dFld_e {C : Addr} {f : Str} {T : TD} : dFld C f T Γ S Φ Ψ = (T Γ S (fun S1 d => ∃ fs, asI S1 d = some (C, fs) ∧ ∃ y, fs.lookup f = some y ∧ Φ S1 y) Ψ) := rfl
theorem sFldS_e {E : EdD} {C : Addr} {f : Str} {To Te : TD} : sFldS C f To Te E Γ S = (Te Γ S (fun S1 y => To Γ S1 (fun S2 d => ∃ h fs, d = .own h ∧ S2[h]? = some (.ins C fs) ∧ fs.length < 1000 ∧ E.nx Γ (S2.set h (.ins C (putD f y fs)))) E.er) E.er) := rfl
theorem dFzI_e {T : TD} : dFzI T Γ S Φ Ψ = (T Γ S (fun S1 d => fzID d S1 Φ) Ψ) := rfl
theorem fzID_o {h : Nat} : fzID (.own h) S Φ = (∃ C fs, S[h]? = some (.ins C fs) ∧ Φ (S.set h .gone) (.ins C fs)) := rfl
theorem pkP_e {n : Nat} {perm : List Nat} {md ds es : List D} {sp : DSpec} : pkP n perm md sp ds es S Φ Ψ = (ds.length = n ∧ sp (pick perm (ds ++ md) es) S Φ Ψ) := rfl
theorem pkS_e {b : Bool} {a : Nat} {perm : List Nat} {md ds es : List D} {sp : DSpec} : pkS b a perm md sp ds es S Φ Ψ = ((ds.take a).length = a ∧ (b = false → ds.drop a = []) ∧ (ds.drop a).length ≤ sizeLine ∧ sp (pick perm (ds.take a ++ md) es ++ [.tup (ds.drop a)]) S Φ Ψ) := rfl
theorem asI_i {C : Addr} {fs : List (Str × D)} : asI S (.ins C fs) = some (C, fs) := rfl
end
end DL
namespace DL
open PySem PySem.Spec PyProof.Rows L2
/-- try: e / except c as n: y = n; all that e raises is of the classes Cs -/
def sKeep (Cs : List Addr) (i j : Nat) (T : TD) : TSd := fun E Γ S => T Γ S (fun S1 _ => E.nx Γ S1) (fun S1 x => x.cls ∈ Cs ∧ i < Γ.length ∧ E.nx (((Γ.set i (some (.exc x.cls x.fs))).set j (some (.exc x.cls x.fs))).set i none) S1)
end DL
namespace DL
open PySem PySem.Spec PyProof.Rows L2
/-- C() -/
def dMk0 (C : Addr) : TD := fun _ S Φ _ => Φ (S ++ [.ins C []]) (.own S.length)
end DL
namespace DL
open PySem PySem.Spec PyProof.Rows L2
def dSlS (d : D) (lo hi : Option Int) (S : Sto) (Φ : KD) : Prop := ∃ z, d = .str z ∧ z.length ≤ sizeLine ∧ Φ S (.str (cutS z lo hi))
/-- tuple(x), x a list -/
def cTup (ds : List D) (S : Sto) (Φ : KD) : Prop := match ds with
  | [d] => ∃ xs, asQ S d = some xs ∧ Φ S (.tup xs)
  | _ => False
end DL
namespace DL
open PySem PySem.Spec PyProof.Rows L2
section
variable {K : PySem.W.Frag} {x y f : Str}
open He
/-- a text; a tuple of texts -/
def isS (s : Str) : Value → Bool
  | .str z _ => z == s
  | _ => false
def areS : List Str → List Value → Bool
  | [], [] => true
  | s :: r, u :: q => isS s u && areS r q
  | _, _ => false
def isT (K : PySem.W.Frag) (ss : List Str) : Value → Bool
  | .ref a => match K.lookup a with
    | some ⟨.type "tuple", _, .seq its _, _⟩ => decide (its.size ≤ 1000) && areS ss its.toList
    | _ => false
  | _ => false
theorem isS_ok {s : Str} {u : Value} (h : isS s u = true) : RelV (.str s) u := by
  cases u <;> first | (cases h; done) | skip
  rename_i z t
  have : z = s := beq_iff_eq.mp h
  subst this
  exact ⟨t, rfl⟩
theorem areS_ok {K : PySem.W.Frag} : ∀ {ss : List Str} {us : List Value}, areS ss us = true → Vals (ss.map V.str) us
  | [], [], _ => .nil
  | s :: r, u :: q, h => .cons (isS_ok (ba h).1) (areS_ok (K := K) (ba h).2)
  | [], _ :: _, h => by cases h
  | _ :: _, [], h => by cases h
theorem isT_ok {ss : List Str} {u : Value} (h : isT K ss u = true) : ∃ a, u = .ref a ∧ ∀ H : Hp, SqT K H a (ss.map V.str) := by
  unfold isT at h
  split at h
  · split at h
    · rename_i a _ dd its n sl e
      obtain ⟨h1, h2⟩ := ba h
      refine ⟨_, rfl, fun H => .inr ⟨_, its, n, e, rfl, rfl, ?_, areS_ok (K := K) h2⟩⟩
      exact Nat.le_trans (of_decide_eq_true h1) (by decide)
    · cases h
  · cases h
theorem rv_tupS {w : Hs} {a : Addr} {ss : List Str} (h : ∀ H : Hp, SqT K H a (ss.map V.str)) : Rv K w (.ref a) (.tup (ss.map D.str)) := by
  refine .tup (h _) ?_
  clear h
  induction ss with
  | nil => exact .nil
  | cons s r ih => exact .cons (.str s) ih
def cvOf (K : PySem.W.Frag) (x f : Str) (p : Value → Bool) : Bool := match PySem.W.findCls K (.ref (ga K x)) (.type "type") f with
  | some (.val u) => p u
  | _ => false
theorem cvOf_ok {p : Value → Bool} (h : cvOf K x f p = true) : ∃ u, p u = true ∧ ∀ v, RelV v u → ClX.CVal K (ga K x) (.type "type") f v u := by
  unfold cvOf at h
  split at h
  · rename_i u e
    exact ⟨u, h, fun v r => ⟨e, r⟩⟩
  · cases h
def bCVT (x f : Str) (ss : List Str) : FaX := fun K => bCRd x K && cvOf K x f (isT K ss)
theorem bCVT_ok {ss : List Str} (h : bCVT x f ss K = true) : CValF K (ga K x) f (.tup (ss.map D.str)) := by
  obtain ⟨h1, h2⟩ := ba h
  obtain ⟨u, h3, h4⟩ := cvOf_ok h2
  obtain ⟨a, rfl, h5⟩ := isT_ok h3
  exact ⟨_, .ref a, _, bCRd_ok h1, h4 _ rfl, fun w => rv_tupS h5⟩
end
end DL
namespace DL
open PySem PySem.Spec PyProof.Rows L2
section
variable {Γ : Gam} {S : Sto} {Φ : KD} {Ψ : KX}
theorem dMk0_e {C : Addr} : dMk0 C Γ S Φ Ψ = Φ (S ++ [.ins C []]) (.own S.length) := rfl
theorem sKeep_e {E : EdD} {Cs : List Addr} {i j : Nat} {T : TD} : sKeep Cs i j T E Γ S = T Γ S (fun S1 _ => E.nx Γ S1) (fun S1 x => x.cls ∈ Cs ∧ i < Γ.length ∧ E.nx (((Γ.set i (some (.exc x.cls x.fs))).set j (some (.exc x.cls x.fs))).set i none) S1) := rfl
theorem dCVal_e {tab : List (Addr × D)} {f : Str} {T : TD} : dCVal tab f T Γ S Φ Ψ = T Γ S (fun S1 d => ∃ C, d = .obj C ∧ ∃ y, (C, y) ∈ tab ∧ Φ S1 y) Ψ := rfl
theorem dConI_e {tab : List (Addr × D)} {f : Str} {T : TD} : dConI tab f T Γ S Φ Ψ = T Γ S (fun S1 d => ∃ C fs, asI S1 d = some (C, fs) ∧ fs.lookup f = none ∧ ∃ y, (C, y) ∈ tab ∧ Φ S1 y) Ψ := rfl
theorem cLen_s {z : Str} : cLen [.str z] S Φ = (z.length ≤ sizeLine ∧ Φ S (.int z.length)) := rfl
theorem dIx_s {z : Str} {i : Int} : dIx (.str z) (.int i) S Φ = (z.length ≤ sizeLine ∧ ∃ c, atI z.cps.toList i = some c ∧ Φ S (.str ⟨#[c]⟩)) := rfl
theorem dSlS_s {z : Str} {lo hi : Option Int} : dSlS (.str z) lo hi S Φ = (z.length ≤ sizeLine ∧ Φ S (.str (cutS z lo hi))) := propext ⟨fun ⟨_, e, h1, h2⟩ => by cases e; exact ⟨h1, h2⟩, fun h => ⟨z, rfl, h.1, h.2⟩⟩
theorem dAdd_s {a b : Str} : dAdd (.str a) (.str b) S Φ = (a.length + b.length ≤ sizeLine ∧ Φ S (.str (a ++ b))) := rfl
theorem cTup_l {ds : List D} : cTup [.lst ds] S Φ = Φ S (.tup ds) := propext ⟨fun ⟨_, e, h⟩ => by cases e; exact h, fun h => ⟨ds, rfl, h⟩⟩
end
end DL
namespace DL
open PySem PySem.Spec PyProof.Rows L2
section
variable {X : Cx} {W : WX} {o e : Expr} {to te : TE} {To Te : TD}
def dM1 (f : D → List D → Sto → KD → Prop) (To Te : TD) : TD := fun Γ S Φ Ψ => To Γ S (fun S1 d => (∃ a, d = .str a) ∧ Te Γ S1 (fun S2 y => f d [y] S2 Φ) Ψ) Ψ
def mSplit (d : D) (ds : List D) (S : Sto) (Φ : KD) : Prop := ∃ a b, d = .str a ∧ ds = [.str b] ∧ (b.length == 0) = false ∧ a.length + 2 ≤ sizeLine ∧ Φ S (.lst ((Txt.split a b).map D.str))
def cIntS (ds : List D) (S : Sto) (Φ : KD) : Prop := ∃ a n, ds = [.str a] ∧ PySem.intText? a = some n ∧ a.length ≤ 640 ∧ Φ S (.int n)
def cStrI (ds : List D) (S : Sto) (Φ : KD) : Prop := ∃ i : Int, ds = [.int i] ∧ i.natAbs.log2 < 1920 ∧ Φ S (.str (toString i))
def dSign (neg : Bool) (x y : D) (S : Sto) (Φ : KD) : Prop := ∃ (c : Nat) (z : Str), x = .str ⟨#[c]⟩ ∧ y = .str z ∧ Φ S (.bl (if neg then !decide (c ∈ z.cps.toList) else decide (c ∈ z.cps.toList)))
def signsD (z : Str) : List D := z.cps.toList.map fun c => D.str ⟨#[c]⟩
def iStrD (T : TD) : TId := fun Γ S Φ Ψ => T Γ S (fun S1 d => ∃ z, d = .str z ∧ Φ S1 (fun _ => some (signsD z))) Ψ
end
end DL
namespace DL
open PySem PySem.Spec PyProof.Rows L2
def sRaiseI (C : Addr) (f : Str) (T : TD) : TSd := fun D Γ S => T Γ S (fun S1 d => D.er S1 ⟨C, [(f, d)]⟩) D.er
end DL
namespace DL
open PySem PySem.Spec PyProof.Rows L2
section
variable {X : Cx} {W : WX} {e : Expr} {te : TE} {Te : TD} {f : Str} {pos : Pos}
/-- x.f, x a kept exception of one of the classes Cs -/
def dXFld (Cs : List Addr) (f : Str) (T : TD) : TD := fun Γ S Φ Ψ => T Γ S (fun S1 d => ∃ D fs y, d = .exc D fs ∧ D ∈ Cs ∧ fs.lookup f = some y ∧ Φ S1 y) Ψ
end
end DL
namespace DL
open PySem PySem.Spec PyProof.Rows L2
theorem sRaiseI_e {C : Addr} {f : Str} {T : TD} {D : EdD} {Γ : Gam} {S : Sto} : sRaiseI C f T D Γ S = T Γ S (fun S1 d => D.er S1 ⟨C, [(f, d)]⟩) D.er := rfl
end DL
namespace DL
open PySem PySem.Spec PyProof.Rows L2
theorem RpA.dropLast {K : PySem.W.Frag} {F : Hp} {al : List Addr} {vs : List V} {ds : List D} (r : RpA K F al vs ds) : RpA K F al vs.dropLast ds.dropLast := by
  rw [List.dropLast_eq_take, List.dropLast_eq_take, r.length]
  exact r.take _
def mPop (d : D) (ds : List D) (S : Sto) (Φ : KD) : Prop := ∃ h xs y, d = .own h ∧ ds = [] ∧ S[h]? = some (.lst xs) ∧ xs[xs.length - 1]? = some y ∧ Φ (S.set h (.lst xs.dropLast)) y
section
variable {X : Cx} {W : WX} {o e : Expr} {to te : TE} {To Te : TD}
def dM0 (f : D → List D → Sto → KD → Prop) (To : TD) : TD := fun Γ S Φ Ψ => To Γ S (fun S1 d => (∃ a, d = .str a) ∧ f d [] S1 Φ) Ψ
def mUpper (d : D) (ds : List D) (S : Sto) (Φ : KD) : Prop := ∃ a, d = .str a ∧ ds = [] ∧ a.length ≤ 5592405 ∧ Φ S (.str (Txt.upper a))
def dRev (T : TD) : TD := fun Γ S Φ Ψ => T Γ S (fun S1 d => ∃ ds, asQ S1 d = some ds ∧ Φ S1 (.lst ds.reverse)) Ψ
theorem je_rev {k : Nat} {p1 p2 p3 pos : Pos} (he : JE X W e te Te) : JE X W (.Subscript e (.Slice none none (some (.UnaryOp .USub (.Constant (.int 1) k p1) p2)) p3) pos) (tRevL X.K te) (dRev Te) :=
  ⟨pe_revL he.pe, fun Γ S Φ Ψ σ w g sl h hx Q q => he.sem Γ S _ Ψ σ w g sl h hx _ fun v d w1 S1 e1 g1 r1 ⟨ds, ed, h1⟩ => by
    obtain ⟨a, xs, rfl, hs, ra⟩ := asQ_at g1 r1 ed
    exact ⟨a, xs, rfl, hs, new_lst g1 (q.ext e1) ra.reverse h1⟩⟩
end
/-- a new list in a cell -/
def dAddO (x y : D) (S : Sto) (Φ : KD) : Prop := ∃ xs ys, asL S x = some xs ∧ asL S y = some ys ∧ xs.length + ys.length ≤ sizeLine ∧ Φ (S ++ [.lst (xs ++ ys)]) (.own S.length)
def plainD : D → D → Bool
  | .str _, .str _ | .int _, .int _ | .non, .non | .int _, .non | .non, .int _ | .str _, .non | .non, .str _ | .int _, .str _ | .str _, .int _ | .bl _, .bl _ => true
  | _, _ => false
def dEqF (x y : D) (S : Sto) (Φ : KD) : Prop := plainD x y = true ∧ Φ S (.bl (eqD x y))
def dNeF (x y : D) (S : Sto) (Φ : KD) : Prop := plainD x y = true ∧ Φ S (.bl (!eqD x y))
theorem opd_eqF {K : PySem.W.Frag} : OpD K rEq dEqF := fun w S x y u v Φ Q g r1 r2 ⟨hp, h⟩ q => by
  cases u <;> cases v <;> first | (exact absurd hp Bool.false_ne_true) | (cases r1; cases r2; exact ⟨by rfl, by
    first | (rw [dec_str]; exact q _ _ w S (Ext.refl w) g (.bl _) h) | (rw [dec_int]; exact q _ _ w S (Ext.refl w) g (.bl _) h) | (rw [dec_bl]; exact q _ _ w S (Ext.refl w) g (.bl _) h) | (simp only [decide_true, decide_false, reduceCtorEq]; exact q _ _ w S (Ext.refl w) g (.bl _) h)⟩)
theorem opd_neF {K : PySem.W.Frag} : OpD K rNe dNeF := fun w S x y u v Φ Q g r1 r2 ⟨hp, h⟩ q => by
  cases u <;> cases v <;> first | (exact absurd hp Bool.false_ne_true) | (cases r1; cases r2; exact ⟨by rfl, by
    first | (rw [dec_str]; exact q _ _ w S (Ext.refl w) g (.bl _) h) | (rw [dec_int]; exact q _ _ w S (Ext.refl w) g (.bl _) h) | (rw [dec_bl]; exact q _ _ w S (Ext.refl w) g (.bl _) h) | (simp only [decide_true, decide_false, reduceCtorEq]; exact q _ _ w S (Ext.refl w) g (.bl _) h)⟩)
section
variable {Γ : Gam} {S : Sto} {Φ : KD} {Ψ : KX}
theorem dM1_e {f : D → List D → Sto → KD → Prop} {To Te : TD} : dM1 f To Te Γ S Φ Ψ = To Γ S (fun S1 d => (∃ a, d = .str a) ∧ Te Γ S1 (fun S2 y => f d [y] S2 Φ) Ψ) Ψ := rfl
theorem dM0_e {f : D → List D → Sto → KD → Prop} {To : TD} : dM0 f To Γ S Φ Ψ = To Γ S (fun S1 d => (∃ a, d = .str a) ∧ f d [] S1 Φ) Ψ := rfl
theorem dRev_e {T : TD} : dRev T Γ S Φ Ψ = T Γ S (fun S1 d => ∃ ds, asQ S1 d = some ds ∧ Φ S1 (.lst ds.reverse)) Ψ := rfl
theorem mSplit_s {a b : Str} : mSplit (.str a) [.str b] S Φ = ((b.length == 0) = false ∧ a.length + 2 ≤ sizeLine ∧ Φ S (.lst ((Txt.split a b).map D.str))) := propext ⟨fun ⟨_, _, e1, e2, h⟩ => by cases e1; cases e2; exact h, fun h => ⟨a, b, rfl, rfl, h⟩⟩
theorem mUpper_s {a : Str} : mUpper (.str a) [] S Φ = (a.length ≤ 5592405 ∧ Φ S (.str (Txt.upper a))) := propext ⟨fun ⟨_, e1, _, h⟩ => by cases e1; exact h, fun h => ⟨a, rfl, rfl, h⟩⟩
theorem exZ {a : Str} {P : Str → Prop} : (∃ z, D.str a = .str z ∧ P z) ↔ P a := ⟨fun ⟨_, e, h⟩ => by cases e; exact h, fun h => ⟨a, rfl, h⟩⟩
theorem exStr {a : Str} : (∃ z, D.str a = .str z) = True := eq_true ⟨a, rfl⟩
theorem cStrI_i {i : Int} : cStrI [.int i] S Φ = (i.natAbs.log2 < 1920 ∧ Φ S (.str (toString i))) := propext ⟨fun ⟨_, e, h⟩ => by cases e; exact h, fun h => ⟨i, rfl, h⟩⟩
theorem cIntS_s {a : Str} : cIntS [.str a] S Φ = (∃ n, PySem.intText? a = some n ∧ a.length ≤ 640 ∧ Φ S (.int n)) := propext ⟨fun ⟨_, n, e, h⟩ => by cases e; exact ⟨n, h⟩, fun ⟨n, h⟩ => ⟨a, n, rfl, h⟩⟩
theorem iStrD_e {T : TD} {Ω : Sto → (Sto → Option (List D)) → Prop} : iStrD T Γ S Ω Ψ = T Γ S (fun S1 d => ∃ z, d = .str z ∧ Ω S1 (fun _ => some (signsD z))) Ψ := rfl
theorem dEqF_s {a b : Str} : dEqF (.str a) (.str b) S Φ = Φ S (.bl (a == b)) := propext ⟨fun h => h.2, fun h => ⟨rfl, h⟩⟩
theorem dNeF_s {a b : Str} : dNeF (.str a) (.str b) S Φ = Φ S (.bl (!(a == b))) := propext ⟨fun h => h.2, fun h => ⟨rfl, h⟩⟩
theorem dEqF_i {a b : Int} : dEqF (.int a) (.int b) S Φ = Φ S (.bl (a == b)) := propext ⟨fun h => h.2, fun h => ⟨rfl, h⟩⟩
theorem dNeF_i {a b : Int} : dNeF (.int a) (.int b) S Φ = Φ S (.bl (!(a == b))) := propext ⟨fun h => h.2, fun h => ⟨rfl, h⟩⟩
theorem dXFld_e {Cs : List Addr} {f : Str} {T : TD} : dXFld Cs f T Γ S Φ Ψ = T Γ S (fun S1 d => ∃ D fs y, d = .exc D fs ∧ D ∈ Cs ∧ fs.lookup f = some y ∧ Φ S1 y) Ψ := rfl
theorem mPop_e {h : Nat} : mPop (.own h) [] S Φ = (∃ xs y, S[h]? = some (.lst xs) ∧ xs[xs.length - 1]? = some y ∧ Φ (S.set h (.lst xs.dropLast)) y) := propext ⟨fun ⟨_, xs, y, e, _, h⟩ => by cases e; exact ⟨xs, y, h⟩, fun ⟨xs, y, h'⟩ => ⟨h, xs, y, rfl, rfl, h'⟩⟩
theorem dAddO_l {ds es : List D} : dAddO (.lst ds) (.lst es) S Φ = (ds.length + es.length ≤ sizeLine ∧ Φ (S ++ [.lst (ds ++ es)]) (.own S.length)) := propext ⟨fun ⟨_, _, e1, e2, h⟩ => by cases e1; cases e2; exact h, fun h => ⟨ds, es, rfl, rfl, h⟩⟩
theorem dAddO_o {h : Nat} {es : List D} : dAddO (.own h) (.lst es) S Φ = (∃ ds, S[h]? = some (.lst ds) ∧ ds.length + es.length ≤ sizeLine ∧ Φ (S ++ [.lst (ds ++ es)]) (.own S.length)) := propext ⟨fun ⟨ds, _, e1, e2, h⟩ => by cases e2; exact ⟨ds, asL_own e1, h⟩, fun ⟨ds, e, h'⟩ => ⟨ds, es, asL_at' e, rfl, h'⟩⟩
theorem dSign_s {neg : Bool} {c : Nat} {z : Str} : dSign neg (.str ⟨#[c]⟩) (.str z) S Φ = Φ S (.bl (if neg then !decide (c ∈ z.cps.toList) else decide (c ∈ z.cps.toList))) := propext ⟨fun ⟨_, _, e1, e2, h⟩ => by cases e1; cases e2; exact h, fun h => ⟨c, z, rfl, rfl, h⟩⟩
end
end DL
namespace DL
open PySem PySem.Spec PyProof.Rows L2
section
variable {Γ : Gam} {S : Sto} {Φ : KD} {Ψ : KX} {P : Gam → Sto → Prop}
theorem dv0 {d : D} : dVar 0 (some d :: Γ) S Φ Ψ = Φ S d := propext ⟨fun ⟨_, e, h⟩ => by cases e; exact h, fun h => ⟨d, rfl, h⟩⟩
theorem nm0 {o : Option D} {d : D} : nmG 0 d (o :: Γ) S P = P (some d :: Γ) S := rfl
theorem dv1 {a0 : Option D} {d : D} : dVar 1 (a0 :: some d :: Γ) S Φ Ψ = Φ S d := propext ⟨fun ⟨_, e, h⟩ => by cases e; exact h, fun h => ⟨d, rfl, h⟩⟩
theorem nm1 {a0 : Option D} {o : Option D} {d : D} : nmG 1 d (a0 :: o :: Γ) S P = P (a0 :: some d :: Γ) S := rfl
theorem dv2 {a0 a1 : Option D} {d : D} : dVar 2 (a0 :: a1 :: some d :: Γ) S Φ Ψ = Φ S d := propext ⟨fun ⟨_, e, h⟩ => by cases e; exact h, fun h => ⟨d, rfl, h⟩⟩
theorem nm2 {a0 a1 : Option D} {o : Option D} {d : D} : nmG 2 d (a0 :: a1 :: o :: Γ) S P = P (a0 :: a1 :: some d :: Γ) S := rfl
theorem dv3 {a0 a1 a2 : Option D} {d : D} : dVar 3 (a0 :: a1 :: a2 :: some d :: Γ) S Φ Ψ = Φ S d := propext ⟨fun ⟨_, e, h⟩ => by cases e; exact h, fun h => ⟨d, rfl, h⟩⟩
theorem nm3 {a0 a1 a2 : Option D} {o : Option D} {d : D} : nmG 3 d (a0 :: a1 :: a2 :: o :: Γ) S P = P (a0 :: a1 :: a2 :: some d :: Γ) S := rfl
theorem dv4 {a0 a1 a2 a3 : Option D} {d : D} : dVar 4 (a0 :: a1 :: a2 :: a3 :: some d :: Γ) S Φ Ψ = Φ S d := propext ⟨fun ⟨_, e, h⟩ => by cases e; exact h, fun h => ⟨d, rfl, h⟩⟩
theorem nm4 {a0 a1 a2 a3 : Option D} {o : Option D} {d : D} : nmG 4 d (a0 :: a1 :: a2 :: a3 :: o :: Γ) S P = P (a0 :: a1 :: a2 :: a3 :: some d :: Γ) S := rfl
theorem dv5 {a0 a1 a2 a3 a4 : Option D} {d : D} : dVar 5 (a0 :: a1 :: a2 :: a3 :: a4 :: some d :: Γ) S Φ Ψ = Φ S d := propext ⟨fun ⟨_, e, h⟩ => by cases e; exact h, fun h => ⟨d, rfl, h⟩⟩
theorem nm5 {a0 a1 a2 a3 a4 : Option D} {o : Option D} {d : D} : nmG 5 d (a0 :: a1 :: a2 :: a3 :: a4 :: o :: Γ) S P = P (a0 :: a1 :: a2 :: a3 :: a4 :: some d :: Γ) S := rfl
theorem dv6 {a0 a1 a2 a3 a4 a5 : Option D} {d : D} : dVar 6 (a0 :: a1 :: a2 :: a3 :: a4 :: a5 :: some d :: Γ) S Φ Ψ = Φ S d := propext ⟨fun ⟨_, e, h⟩ => by cases e; exact h, fun h => ⟨d, rfl, h⟩⟩
theorem nm6 {a0 a1 a2 a3 a4 a5 : Option D} {o : Option D} {d : D} : nmG 6 d (a0 :: a1 :: a2 :: a3 :: a4 :: a5 :: o :: Γ) S P = P (a0 :: a1 :: a2 :: a3 :: a4 :: a5 :: some d :: Γ) S := rfl
theorem dv7 {a0 a1 a2 a3 a4 a5 a6 : Option D} {d : D} : dVar 7 (a0 :: a1 :: a2 :: a3 :: a4 :: a5 :: a6 :: some d :: Γ) S Φ Ψ = Φ S d := propext ⟨fun ⟨_, e, h⟩ => by cases e; exact h, fun h => ⟨d, rfl, h⟩⟩
theorem nm7 {a0 a1 a2 a3 a4 a5 a6 : Option D} {o : Option D} {d : D} : nmG 7 d (a0 :: a1 :: a2 :: a3 :: a4 :: a5 :: a6 :: o :: Γ) S P = P (a0 :: a1 :: a2 :: a3 :: a4 :: a5 :: a6 :: some d :: Γ) S := rfl
theorem dv8 {a0 a1 a2 a3 a4 a5 a6 a7 : Option D} {d : D} : dVar 8 (a0 :: a1 :: a2 :: a3 :: a4 :: a5 :: a6 :: a7 :: some d :: Γ) S Φ Ψ = Φ S d := propext ⟨fun ⟨_, e, h⟩ => by cases e; exact h, fun h => ⟨d, rfl, h⟩⟩
theorem nm8 {a0 a1 a2 a3 a4 a5 a6 a7 : Option D} {o : Option D} {d : D} : nmG 8 d (a0 :: a1 :: a2 :: a3 :: a4 :: a5 :: a6 :: a7 :: o :: Γ) S P = P (a0 :: a1 :: a2 :: a3 :: a4 :: a5 :: a6 :: a7 :: some d :: Γ) S := rfl
theorem dv9 {a0 a1 a2 a3 a4 a5 a6 a7 a8 : Option D} {d : D} : dVar 9 (a0 :: a1 :: a2 :: a3 :: a4 :: a5 :: a6 :: a7 :: a8 :: some d :: Γ) S Φ Ψ = Φ S d := propext ⟨fun ⟨_, e, h⟩ => by cases e; exact h, fun h => ⟨d, rfl, h⟩⟩
theorem nm9 {a0 a1 a2 a3 a4 a5 a6 a7 a8 : Option D} {o : Option D} {d : D} : nmG 9 d (a0 :: a1 :: a2 :: a3 :: a4 :: a5 :: a6 :: a7 :: a8 :: o :: Γ) S P = P (a0 :: a1 :: a2 :: a3 :: a4 :: a5 :: a6 :: a7 :: a8 :: some d :: Γ) S := rfl
theorem dv10 {a0 a1 a2 a3 a4 a5 a6 a7 a8 a9 : Option D} {d : D} : dVar 10 (a0 :: a1 :: a2 :: a3 :: a4 :: a5 :: a6 :: a7 :: a8 :: a9 :: some d :: Γ) S Φ Ψ = Φ S d := propext ⟨fun ⟨_, e, h⟩ => by cases e; exact h, fun h => ⟨d, rfl, h⟩⟩
theorem nm10 {a0 a1 a2 a3 a4 a5 a6 a7 a8 a9 : Option D} {o : Option D} {d : D} : nmG 10 d (a0 :: a1 :: a2 :: a3 :: a4 :: a5 :: a6 :: a7 :: a8 :: a9 :: o :: Γ) S P = P (a0 :: a1 :: a2 :: a3 :: a4 :: a5 :: a6 :: a7 :: a8 :: a9 :: some d :: Γ) S := rfl
theorem dv11 {a0 a1 a2 a3 a4 a5 a6 a7 a8 a9 a10 : Option D} {d : D} : dVar 11 (a0 :: a1 :: a2 :: a3 :: a4 :: a5 :: a6 :: a7 :: a8 :: a9 :: a10 :: some d :: Γ) S Φ Ψ = Φ S d := propext ⟨fun ⟨_, e, h⟩ => by cases e; exact h, fun h => ⟨d, rfl, h⟩⟩
theorem nm11 {a0 a1 a2 a3 a4 a5 a6 a7 a8 a9 a10 : Option D} {o : Option D} {d : D} : nmG 11 d (a0 :: a1 :: a2 :: a3 :: a4 :: a5 :: a6 :: a7 :: a8 :: a9 :: a10 :: o :: Γ) S P = P (a0 :: a1 :: a2 :: a3 :: a4 :: a5 :: a6 :: a7 :: a8 :: a9 :: a10 :: some d :: Γ) S := rfl
theorem dv12 {a0 a1 a2 a3 a4 a5 a6 a7 a8 a9 a10 a11 : Option D} {d : D} : dVar 12 (a0 :: a1 :: a2 :: a3 :: a4 :: a5 :: a6 :: a7 :: a8 :: a9 :: a10 :: a11 :: some d :: Γ) S Φ Ψ = Φ S d := propext ⟨fun ⟨_, e, h⟩ => by cases e; exact h, fun h => ⟨d, rfl, h⟩⟩
theorem nm12 {a0 a1 a2 a3 a4 a5 a6 a7 a8 a9 a10 a11 : Option D} {o : Option D} {d : D} : nmG 12 d (a0 :: a1 :: a2 :: a3 :: a4 :: a5 :: a6 :: a7 :: a8 :: a9 :: a10 :: a11 :: o :: Γ) S P = P (a0 :: a1 :: a2 :: a3 :: a4 :: a5 :: a6 :: a7 :: a8 :: a9 :: a10 :: a11 :: some d :: Γ) S := rfl
theorem dv13 {a0 a1 a2 a3 a4 a5 a6 a7 a8 a9 a10 a11 a12 : Option D} {d : D} : dVar 13 (a0 :: a1 :: a2 :: a3 :: a4 :: a5 :: a6 :: a7 :: a8 :: a9 :: a10 :: a11 :: a12 :: some d :: Γ) S Φ Ψ = Φ S d := propext ⟨fun ⟨_, e, h⟩ => by cases e; exact h, fun h => ⟨d, rfl, h⟩⟩
theorem nm13 {a0 a1 a2 a3 a4 a5 a6 a7 a8 a9 a10 a11 a12 : Option D} {o : Option D} {d : D} : nmG 13 d (a0 :: a1 :: a2 :: a3 :: a4 :: a5 :: a6 :: a7 :: a8 :: a9 :: a10 :: a11 :: a12 :: o :: Γ) S P = P (a0 :: a1 :: a2 :: a3 :: a4 :: a5 :: a6 :: a7 :: a8 :: a9 :: a10 :: a11 :: a12 :: some d :: Γ) S := rfl
theorem dv14 {a0 a1 a2 a3 a4 a5 a6 a7 a8 a9 a10 a11 a12 a13 : Option D} {d : D} : dVar 14 (a0 :: a1 :: a2 :: a3 :: a4 :: a5 :: a6 :: a7 :: a8 :: a9 :: a10 :: a11 :: a12 :: a13 :: some d :: Γ) S Φ Ψ = Φ S d := propext ⟨fun ⟨_, e, h⟩ => by cases e; exact h, fun h => ⟨d, rfl, h⟩⟩
theorem nm14 {a0 a1 a2 a3 a4 a5 a6 a7 a8 a9 a10 a11 a12 a13 : Option D} {o : Option D} {d : D} : nmG 14 d (a0 :: a1 :: a2 :: a3 :: a4 :: a5 :: a6 :: a7 :: a8 :: a9 :: a10 :: a11 :: a12 :: a13 :: o :: Γ) S P = P (a0 :: a1 :: a2 :: a3 :: a4 :: a5 :: a6 :: a7 :: a8 :: a9 :: a10 :: a11 :: a12 :: a13 :: some d :: Γ) S := rfl
theorem dv15 {a0 a1 a2 a3 a4 a5 a6 a7 a8 a9 a10 a11 a12 a13 a14 : Option D} {d : D} : dVar 15 (a0 :: a1 :: a2 :: a3 :: a4 :: a5 :: a6 :: a7 :: a8 :: a9 :: a10 :: a11 :: a12 :: a13 :: a14 :: some d :: Γ) S Φ Ψ = Φ S d := propext ⟨fun ⟨_, e, h⟩ => by cases e; exact h, fun h => ⟨d, rfl, h⟩⟩
theorem nm15 {a0 a1 a2 a3 a4 a5 a6 a7 a8 a9 a10 a11 a12 a13 a14 : Option D} {o : Option D} {d : D} : nmG 15 d (a0 :: a1 :: a2 :: a3 :: a4 :: a5 :: a6 :: a7 :: a8 :: a9 :: a10 :: a11 :: a12 :: a13 :: a14 :: o :: Γ) S P = P (a0 :: a1 :: a2 :: a3 :: a4 :: a5 :: a6 :: a7 :: a8 :: a9 :: a10 :: a11 :: a12 :: a13 :: a14 :: some d :: Γ) S := rfl
theorem dv16 {a0 a1 a2 a3 a4 a5 a6 a7 a8 a9 a10 a11 a12 a13 a14 a15 : Option D} {d : D} : dVar 16 (a0 :: a1 :: a2 :: a3 :: a4 :: a5 :: a6 :: a7 :: a8 :: a9 :: a10 :: a11 :: a12 :: a13 :: a14 :: a15 :: some d :: Γ) S Φ Ψ = Φ S d := propext ⟨fun ⟨_, e, h⟩ => by cases e; exact h, fun h => ⟨d, rfl, h⟩⟩
theorem nm16 {a0 a1 a2 a3 a4 a5 a6 a7 a8 a9 a10 a11 a12 a13 a14 a15 : Option D} {o : Option D} {d : D} : nmG 16 d (a0 :: a1 :: a2 :: a3 :: a4 :: a5 :: a6 :: a7 :: a8 :: a9 :: a10 :: a11 :: a12 :: a13 :: a14 :: a15 :: o :: Γ) S P = P (a0 :: a1 :: a2 :: a3 :: a4 :: a5 :: a6 :: a7 :: a8 :: a9 :: a10 :: a11 :: a12 :: a13 :: a14 :: a15 :: some d :: Γ) S := rfl
theorem dv17 {a0 a1 a2 a3 a4 a5 a6 a7 a8 a9 a10 a11 a12 a13 a14 a15 a16 : Option D} {d : D} : dVar 17 (a0 :: a1 :: a2 :: a3 :: a4 :: a5 :: a6 :: a7 :: a8 :: a9 :: a10 :: a11 :: a12 :: a13 :: a14 :: a15 :: a16 :: some d :: Γ) S Φ Ψ = Φ S d := propext ⟨fun ⟨_, e, h⟩ => by cases e; exact h, fun h => ⟨d, rfl, h⟩⟩
theorem nm17 {a0 a1 a2 a3 a4 a5 a6 a7 a8 a9 a10 a11 a12 a13 a14 a15 a16 : Option D} {o : Option D} {d : D} : nmG 17 d (a0 :: a1 :: a2 :: a3 :: a4 :: a5 :: a6 :: a7 :: a8 :: a9 :: a10 :: a11 :: a12 :: a13 :: a14 :: a15 :: a16 :: o :: Γ) S P = P (a0 :: a1 :: a2 :: a3 :: a4 :: a5 :: a6 :: a7 :: a8 :: a9 :: a10 :: a11 :: a12 :: a13 :: a14 :: a15 :: a16 :: some d :: Γ) S := rfl
theorem dv18 {a0 a1 a2 a3 a4 a5 a6 a7 a8 a9 a10 a11 a12 a13 a14 a15 a16 a17 : Option D} {d : D} : dVar 18 (a0 :: a1 :: a2 :: a3 :: a4 :: a5 :: a6 :: a7 :: a8 :: a9 :: a10 :: a11 :: a12 :: a13 :: a14 :: a15 :: a16 :: a17 :: some d :: Γ) S Φ Ψ = Φ S d := propext ⟨fun ⟨_, e, h⟩ => by cases e; exact h, fun h => ⟨d, rfl, h⟩⟩
theorem nm18 {a0 a1 a2 a3 a4 a5 a6 a7 a8 a9 a10 a11 a12 a13 a14 a15 a16 a17 : Option D} {o : Option D} {d : D} : nmG 18 d (a0 :: a1 :: a2 :: a3 :: a4 :: a5 :: a6 :: a7 :: a8 :: a9 :: a10 :: a11 :: a12 :: a13 :: a14 :: a15 :: a16 :: a17 :: o :: Γ) S P = P (a0 :: a1 :: a2 :: a3 :: a4 :: a5 :: a6 :: a7 :: a8 :: a9 :: a10 :: a11 :: a12 :: a13 :: a14 :: a15 :: a16 :: a17 :: some d :: Γ) S := rfl
theorem dv19 {a0 a1 a2 a3 a4 a5 a6 a7 a8 a9 a10 a11 a12 a13 a14 a15 a16 a17 a18 : Option D} {d : D} : dVar 19 (a0 :: a1 :: a2 :: a3 :: a4 :: a5 :: a6 :: a7 :: a8 :: a9 :: a10 :: a11 :: a12 :: a13 :: a14 :: a15 :: a16 :: a17 :: a18 :: some d :: Γ) S Φ Ψ = Φ S d := propext ⟨fun ⟨_, e, h⟩ => by cases e; exact h, fun h => ⟨d, rfl, h⟩⟩
theorem nm19 {a0 a1 a2 a3 a4 a5 a6 a7 a8 a9 a10 a11 a12 a13 a14 a15 a16 a17 a18 : Option D} {o : Option D} {d : D} : nmG 19 d (a0 :: a1 :: a2 :: a3 :: a4 :: a5 :: a6 :: a7 :: a8 :: a9 :: a10 :: a11 :: a12 :: a13 :: a14 :: a15 :: a16 :: a17 :: a18 :: o :: Γ) S P = P (a0 :: a1 :: a2 :: a3 :: a4 :: a5 :: a6 :: a7 :: a8 :: a9 :: a10 :: a11 :: a12 :: a13 :: a14 :: a15 :: a16 :: a17 :: a18 :: some d :: Γ) S := rfl
theorem dv20 {a0 a1 a2 a3 a4 a5 a6 a7 a8 a9 a10 a11 a12 a13 a14 a15 a16 a17 a18 a19 : Option D} {d : D} : dVar 20 (a0 :: a1 :: a2 :: a3 :: a4 :: a5 :: a6 :: a7 :: a8 :: a9 :: a10 :: a11 :: a12 :: a13 :: a14 :: a15 :: a16 :: a17 :: a18 :: a19 :: some d :: Γ) S Φ Ψ = Φ S d := propext ⟨fun ⟨_, e, h⟩ => by cases e; exact h, fun h => ⟨d, rfl, h⟩⟩
theorem nm20 {a0 a1 a2 a3 a4 a5 a6 a7 a8 a9 a10 a11 a12 a13 a14 a15 a16 a17 a18 a19 : Option D} {o : Option D} {d : D} : nmG 20 d (a0 :: a1 :: a2 :: a3 :: a4 :: a5 :: a6 :: a7 :: a8 :: a9 :: a10 :: a11 :: a12 :: a13 :: a14 :: a15 :: a16 :: a17 :: a18 :: a19 :: o :: Γ) S P = P (a0 :: a1 :: a2 :: a3 :: a4 :: a5 :: a6 :: a7 :: a8 :: a9 :: a10 :: a11 :: a12 :: a13 :: a14 :: a15 :: a16 :: a17 :: a18 :: a19 :: some d :: Γ) S := rfl
theorem dv21 {a0 a1 a2 a3 a4 a5 a6 a7 a8 a9 a10 a11 a12 a13 a14 a15 a16 a17 a18 a19 a20 : Option D} {d : D} : dVar 21 (a0 :: a1 :: a2 :: a3 :: a4 :: a5 :: a6 :: a7 :: a8 :: a9 :: a10 :: a11 :: a12 :: a13 :: a14 :: a15 :: a16 :: a17 :: a18 :: a19 :: a20 :: some d :: Γ) S Φ Ψ = Φ S d := propext ⟨fun ⟨_, e, h⟩ => by cases e; exact h, fun h => ⟨d, rfl, h⟩⟩
theorem nm21 {a0 a1 a2 a3 a4 a5 a6 a7 a8 a9 a10 a11 a12 a13 a14 a15 a16 a17 a18 a19 a20 : Option D} {o : Option D} {d : D} : nmG 21 d (a0 :: a1 :: a2 :: a3 :: a4 :: a5 :: a6 :: a7 :: a8 :: a9 :: a10 :: a11 :: a12 :: a13 :: a14 :: a15 :: a16 :: a17 :: a18 :: a19 :: a20 :: o :: Γ) S P = P (a0 :: a1 :: a2 :: a3 :: a4 :: a5 :: a6 :: a7 :: a8 :: a9 :: a10 :: a11 :: a12 :: a13 :: a14 :: a15 :: a16 :: a17 :: a18 :: a19 :: a20 :: some d :: Γ) S := rfl
theorem dv22 {a0 a1 a2 a3 a4 a5 a6 a7 a8 a9 a10 a11 a12 a13 a14 a15 a16 a17 a18 a19 a20 a21 : Option D} {d : D} : dVar 22 (a0 :: a1 :: a2 :: a3 :: a4 :: a5 :: a6 :: a7 :: a8 :: a9 :: a10 :: a11 :: a12 :: a13 :: a14 :: a15 :: a16 :: a17 :: a18 :: a19 :: a20 :: a21 :: some d :: Γ) S Φ Ψ = Φ S d := propext ⟨fun ⟨_, e, h⟩ => by cases e; exact h, fun h => ⟨d, rfl, h⟩⟩
theorem nm22 {a0 a1 a2 a3 a4 a5 a6 a7 a8 a9 a10 a11 a12 a13 a14 a15 a16 a17 a18 a19 a20 a21 : Option D} {o : Option D} {d : D} : nmG 22 d (a0 :: a1 :: a2 :: a3 :: a4 :: a5 :: a6 :: a7 :: a8 :: a9 :: a10 :: a11 :: a12 :: a13 :: a14 :: a15 :: a16 :: a17 :: a18 :: a19 :: a20 :: a21 :: o :: Γ) S P = P (a0 :: a1 :: a2 :: a3 :: a4 :: a5 :: a6 :: a7 :: a8 :: a9 :: a10 :: a11 :: a12 :: a13 :: a14 :: a15 :: a16 :: a17 :: a18 :: a19 :: a20 :: a21 :: some d :: Γ) S := rfl
theorem dv23 {a0 a1 a2 a3 a4 a5 a6 a7 a8 a9 a10 a11 a12 a13 a14 a15 a16 a17 a18 a19 a20 a21 a22 : Option D} {d : D} : dVar 23 (a0 :: a1 :: a2 :: a3 :: a4 :: a5 :: a6 :: a7 :: a8 :: a9 :: a10 :: a11 :: a12 :: a13 :: a14 :: a15 :: a16 :: a17 :: a18 :: a19 :: a20 :: a21 :: a22 :: some d :: Γ) S Φ Ψ = Φ S d := propext ⟨fun ⟨_, e, h⟩ => by cases e; exact h, fun h => ⟨d, rfl, h⟩⟩
theorem nm23 {a0 a1 a2 a3 a4 a5 a6 a7 a8 a9 a10 a11 a12 a13 a14 a15 a16 a17 a18 a19 a20 a21 a22 : Option D} {o : Option D} {d : D} : nmG 23 d (a0 :: a1 :: a2 :: a3 :: a4 :: a5 :: a6 :: a7 :: a8 :: a9 :: a10 :: a11 :: a12 :: a13 :: a14 :: a15 :: a16 :: a17 :: a18 :: a19 :: a20 :: a21 :: a22 :: o :: Γ) S P = P (a0 :: a1 :: a2 :: a3 :: a4 :: a5 :: a6 :: a7 :: a8 :: a9 :: a10 :: a11 :: a12 :: a13 :: a14 :: a15 :: a16 :: a17 :: a18 :: a19 :: a20 :: a21 :: a22 :: some d :: Γ) S := rfl
theorem dv24 {a0 a1 a2 a3 a4 a5 a6 a7 a8 a9 a10 a11 a12 a13 a14 a15 a16 a17 a18 a19 a20 a21 a22 a23 : Option D} {d : D} : dVar 24 (a0 :: a1 :: a2 :: a3 :: a4 :: a5 :: a6 :: a7 :: a8 :: a9 :: a10 :: a11 :: a12 :: a13 :: a14 :: a15 :: a16 :: a17 :: a18 :: a19 :: a20 :: a21 :: a22 :: a23 :: some d :: Γ) S Φ Ψ = Φ S d := propext ⟨fun ⟨_, e, h⟩ => by cases e; exact h, fun h => ⟨d, rfl, h⟩⟩
theorem nm24 {a0 a1 a2 a3 a4 a5 a6 a7 a8 a9 a10 a11 a12 a13 a14 a15 a16 a17 a18 a19 a20 a21 a22 a23 : Option D} {o : Option D} {d : D} : nmG 24 d (a0 :: a1 :: a2 :: a3 :: a4 :: a5 :: a6 :: a7 :: a8 :: a9 :: a10 :: a11 :: a12 :: a13 :: a14 :: a15 :: a16 :: a17 :: a18 :: a19 :: a20 :: a21 :: a22 :: a23 :: o :: Γ) S P = P (a0 :: a1 :: a2 :: a3 :: a4 :: a5 :: a6 :: a7 :: a8 :: a9 :: a10 :: a11 :: a12 :: a13 :: a14 :: a15 :: a16 :: a17 :: a18 :: a19 :: a20 :: a21 :: a22 :: a23 :: some d :: Γ) S := rfl
theorem dv25 {a0 a1 a2 a3 a4 a5 a6 a7 a8 a9 a10 a11 a12 a13 a14 a15 a16 a17 a18 a19 a20 a21 a22 a23 a24 : Option D} {d : D} : dVar 25 (a0 :: a1 :: a2 :: a3 :: a4 :: a5 :: a6 :: a7 :: a8 :: a9 :: a10 :: a11 :: a12 :: a13 :: a14 :: a15 :: a16 :: a17 :: a18 :: a19 :: a20 :: a21 :: a22 :: a23 :: a24 :: some d :: Γ) S Φ Ψ = Φ S d := propext ⟨fun ⟨_, e, h⟩ => by cases e; exact h, fun h => ⟨d, rfl, h⟩⟩
theorem nm25 {a0 a1 a2 a3 a4 a5 a6 a7 a8 a9 a10 a11 a12 a13 a14 a15 a16 a17 a18 a19 a20 a21 a22 a23 a24 : Option D} {o : Option D} {d : D} : nmG 25 d (a0 :: a1 :: a2 :: a3 :: a4 :: a5 :: a6 :: a7 :: a8 :: a9 :: a10 :: a11 :: a12 :: a13 :: a14 :: a15 :: a16 :: a17 :: a18 :: a19 :: a20 :: a21 :: a22 :: a23 :: a24 :: o :: Γ) S P = P (a0 :: a1 :: a2 :: a3 :: a4 :: a5 :: a6 :: a7 :: a8 :: a9 :: a10 :: a11 :: a12 :: a13 :: a14 :: a15 :: a16 :: a17 :: a18 :: a19 :: a20 :: a21 :: a22 :: a23 :: a24 :: some d :: Γ) S := rfl
theorem dv26 {a0 a1 a2 a3 a4 a5 a6 a7 a8 a9 a10 a11 a12 a13 a14 a15 a16 a17 a18 a19 a20 a21 a22 a23 a24 a25 : Option D} {d : D} : dVar 26 (a0 :: a1 :: a2 :: a3 :: a4 :: a5 :: a6 :: a7 :: a8 :: a9 :: a10 :: a11 :: a12 :: a13 :: a14 :: a15 :: a16 :: a17 :: a18 :: a19 :: a20 :: a21 :: a22 :: a23 :: a24 :: a25 :: some d :: Γ) S Φ Ψ = Φ S d := propext ⟨fun ⟨_, e, h⟩ => by cases e; exact h, fun h => ⟨d, rfl, h⟩⟩
theorem nm26 {a0 a1 a2 a3 a4 a5 a6 a7 a8 a9 a10 a11 a12 a13 a14 a15 a16 a17 a18 a19 a20 a21 a22 a23 a24 a25 : Option D} {o : Option D} {d : D} : nmG 26 d (a0 :: a1 :: a2 :: a3 :: a4 :: a5 :: a6 :: a7 :: a8 :: a9 :: a10 :: a11 :: a12 :: a13 :: a14 :: a15 :: a16 :: a17 :: a18 :: a19 :: a20 :: a21 :: a22 :: a23 :: a24 :: a25 :: o :: Γ) S P = P (a0 :: a1 :: a2 :: a3 :: a4 :: a5 :: a6 :: a7 :: a8 :: a9 :: a10 :: a11 :: a12 :: a13 :: a14 :: a15 :: a16 :: a17 :: a18 :: a19 :: a20 :: a21 :: a22 :: a23 :: a24 :: a25 :: some d :: Γ) S := rfl
theorem dv27 {a0 a1 a2 a3 a4 a5 a6 a7 a8 a9 a10 a11 a12 a13 a14 a15 a16 a17 a18 a19 a20 a21 a22 a23 a24 a25 a26 : Option D} {d : D} : dVar 27 (a0 :: a1 :: a2 :: a3 :: a4 :: a5 :: a6 :: a7 :: a8 :: a9 :: a10 :: a11 :: a12 :: a13 :: a14 :: a15 :: a16 :: a17 :: a18 :: a19 :: a20 :: a21 :: a22 :: a23 :: a24 :: a25 :: a26 :: some d :: Γ) S Φ Ψ = Φ S d := propext ⟨fun ⟨_, e, h⟩ => by cases e; exact h, fun h => ⟨d, rfl, h⟩⟩
theorem nm27 {a0 a1 a2 a3 a4 a5 a6 a7 a8 a9 a10 a11 a12 a13 a14 a15 a16 a17 a18 a19 a20 a21 a22 a23 a24 a25 a26 : Option D} {o : Option D} {d : D} : nmG 27 d (a0 :: a1 :: a2 :: a3 :: a4 :: a5 :: a6 :: a7 :: a8 :: a9 :: a10 :: a11 :: a12 :: a13 :: a14 :: a15 :: a16 :: a17 :: a18 :: a19 :: a20 :: a21 :: a22 :: a23 :: a24 :: a25 :: a26 :: o :: Γ) S P = P (a0 :: a1 :: a2 :: a3 :: a4 :: a5 :: a6 :: a7 :: a8 :: a9 :: a10 :: a11 :: a12 :: a13 :: a14 :: a15 :: a16 :: a17 :: a18 :: a19 :: a20 :: a21 :: a22 :: a23 :: a24 :: a25 :: a26 :: some d :: Γ) S := rfl
theorem dv28 {a0 a1 a2 a3 a4 a5 a6 a7 a8 a9 a10 a11 a12 a13 a14 a15 a16 a17 a18 a19 a20 a21 a22 a23 a24 a25 a26 a27 : Option D} {d : D} : dVar 28 (a0 :: a1 :: a2 :: a3 :: a4 :: a5 :: a6 :: a7 :: a8 :: a9 :: a10 :: a11 :: a12 :: a13 :: a14 :: a15 :: a16 :: a17 :: a18 :: a19 :: a20 :: a21 :: a22 :: a23 :: a24 :: a25 :: a26 :: a27 :: some d :: Γ) S Φ Ψ = Φ S d := propext ⟨fun ⟨_, e, h⟩ => by cases e; exact h, fun h => ⟨d, rfl, h⟩⟩
theorem nm28 {a0 a1 a2 a3 a4 a5 a6 a7 a8 a9 a10 a11 a12 a13 a14 a15 a16 a17 a18 a19 a20 a21 a22 a23 a24 a25 a26 a27 : Option D} {o : Option D} {d : D} : nmG 28 d (a0 :: a1 :: a2 :: a3 :: a4 :: a5 :: a6 :: a7 :: a8 :: a9 :: a10 :: a11 :: a12 :: a13 :: a14 :: a15 :: a16 :: a17 :: a18 :: a19 :: a20 :: a21 :: a22 :: a23 :: a24 :: a25 :: a26 :: a27 :: o :: Γ) S P = P (a0 :: a1 :: a2 :: a3 :: a4 :: a5 :: a6 :: a7 :: a8 :: a9 :: a10 :: a11 :: a12 :: a13 :: a14 :: a15 :: a16 :: a17 :: a18 :: a19 :: a20 :: a21 :: a22 :: a23 :: a24 :: a25 :: a26 :: a27 :: some d :: Γ) S := rfl
theorem dv29 {a0 a1 a2 a3 a4 a5 a6 a7 a8 a9 a10 a11 a12 a13 a14 a15 a16 a17 a18 a19 a20 a21 a22 a23 a24 a25 a26 a27 a28 : Option D} {d : D} : dVar 29 (a0 :: a1 :: a2 :: a3 :: a4 :: a5 :: a6 :: a7 :: a8 :: a9 :: a10 :: a11 :: a12 :: a13 :: a14 :: a15 :: a16 :: a17 :: a18 :: a19 :: a20 :: a21 :: a22 :: a23 :: a24 :: a25 :: a26 :: a27 :: a28 :: some d :: Γ) S Φ Ψ = Φ S d := propext ⟨fun ⟨_, e, h⟩ => by cases e; exact h, fun h => ⟨d, rfl, h⟩⟩
theorem nm29 {a0 a1 a2 a3 a4 a5 a6 a7 a8 a9 a10 a11 a12 a13 a14 a15 a16 a17 a18 a19 a20 a21 a22 a23 a24 a25 a26 a27 a28 : Option D} {o : Option D} {d : D} : nmG 29 d (a0 :: a1 :: a2 :: a3 :: a4 :: a5 :: a6 :: a7 :: a8 :: a9 :: a10 :: a11 :: a12 :: a13 :: a14 :: a15 :: a16 :: a17 :: a18 :: a19 :: a20 :: a21 :: a22 :: a23 :: a24 :: a25 :: a26 :: a27 :: a28 :: o :: Γ) S P = P (a0 :: a1 :: a2 :: a3 :: a4 :: a5 :: a6 :: a7 :: a8 :: a9 :: a10 :: a11 :: a12 :: a13 :: a14 :: a15 :: a16 :: a17 :: a18 :: a19 :: a20 :: a21 :: a22 :: a23 :: a24 :: a25 :: a26 :: a27 :: a28 :: some d :: Γ) S := rfl
theorem dv30 {a0 a1 a2 a3 a4 a5 a6 a7 a8 a9 a10 a11 a12 a13 a14 a15 a16 a17 a18 a19 a20 a21 a22 a23 a24 a25 a26 a27 a28 a29 : Option D} {d : D} : dVar 30 (a0 :: a1 :: a2 :: a3 :: a4 :: a5 :: a6 :: a7 :: a8 :: a9 :: a10 :: a11 :: a12 :: a13 :: a14 :: a15 :: a16 :: a17 :: a18 :: a19 :: a20 :: a21 :: a22 :: a23 :: a24 :: a25 :: a26 :: a27 :: a28 :: a29 :: some d :: Γ) S Φ Ψ = Φ S d := propext ⟨fun ⟨_, e, h⟩ => by cases e; exact h, fun h => ⟨d, rfl, h⟩⟩
theorem nm30 {a0 a1 a2 a3 a4 a5 a6 a7 a8 a9 a10 a11 a12 a13 a14 a15 a16 a17 a18 a19 a20 a21 a22 a23 a24 a25 a26 a27 a28 a29 : Option D} {o : Option D} {d : D} : nmG 30 d (a0 :: a1 :: a2 :: a3 :: a4 :: a5 :: a6 :: a7 :: a8 :: a9 :: a10 :: a11 :: a12 :: a13 :: a14 :: a15 :: a16 :: a17 :: a18 :: a19 :: a20 :: a21 :: a22 :: a23 :: a24 :: a25 :: a26 :: a27 :: a28 :: a29 :: o :: Γ) S P = P (a0 :: a1 :: a2 :: a3 :: a4 :: a5 :: a6 :: a7 :: a8 :: a9 :: a10 :: a11 :: a12 :: a13 :: a14 :: a15 :: a16 :: a17 :: a18 :: a19 :: a20 :: a21 :: a22 :: a23 :: a24 :: a25 :: a26 :: a27 :: a28 :: a29 :: some d :: Γ) S := rfl
theorem dv31 {a0 a1 a2 a3 a4 a5 a6 a7 a8 a9 a10 a11 a12 a13 a14 a15 a16 a17 a18 a19 a20 a21 a22 a23 a24 a25 a26 a27 a28 a29 a30 : Option D} {d : D} : dVar 31 (a0 :: a1 :: a2 :: a3 :: a4 :: a5 :: a6 :: a7 :: a8 :: a9 :: a10 :: a11 :: a12 :: a13 :: a14 :: a15 :: a16 :: a17 :: a18 :: a19 :: a20 :: a21 :: a22 :: a23 :: a24 :: a25 :: a26 :: a27 :: a28 :: a29 :: a30 :: some d :: Γ) S Φ Ψ = Φ S d := propext ⟨fun ⟨_, e, h⟩ => by cases e; exact h, fun h => ⟨d, rfl, h⟩⟩
theorem nm31 {a0 a1 a2 a3 a4 a5 a6 a7 a8 a9 a10 a11 a12 a13 a14 a15 a16 a17 a18 a19 a20 a21 a22 a23 a24 a25 a26 a27 a28 a29 a30 : Option D} {o : Option D} {d : D} : nmG 31 d (a0 :: a1 :: a2 :: a3 :: a4 :: a5 :: a6 :: a7 :: a8 :: a9 :: a10 :: a11 :: a12 :: a13 :: a14 :: a15 :: a16 :: a17 :: a18 :: a19 :: a20 :: a21 :: a22 :: a23 :: a24 :: a25 :: a26 :: a27 :: a28 :: a29 :: a30 :: o :: Γ) S P = P (a0 :: a1 :: a2 :: a3 :: a4 :: a5 :: a6 :: a7 :: a8 :: a9 :: a10 :: a11 :: a12 :: a13 :: a14 :: a15 :: a16 :: a17 :: a18 :: a19 :: a20 :: a21 :: a22 :: a23 :: a24 :: a25 :: a26 :: a27 :: a28 :: a29 :: a30 :: some d :: Γ) S := rfl
theorem dv32 {a0 a1 a2 a3 a4 a5 a6 a7 a8 a9 a10 a11 a12 a13 a14 a15 a16 a17 a18 a19 a20 a21 a22 a23 a24 a25 a26 a27 a28 a29 a30 a31 : Option D} {d : D} : dVar 32 (a0 :: a1 :: a2 :: a3 :: a4 :: a5 :: a6 :: a7 :: a8 :: a9 :: a10 :: a11 :: a12 :: a13 :: a14 :: a15 :: a16 :: a17 :: a18 :: a19 :: a20 :: a21 :: a22 :: a23 :: a24 :: a25 :: a26 :: a27 :: a28 :: a29 :: a30 :: a31 :: some d :: Γ) S Φ Ψ = Φ S d := propext ⟨fun ⟨_, e, h⟩ => by cases e; exact h, fun h => ⟨d, rfl, h⟩⟩
theorem nm32 {a0 a1 a2 a3 a4 a5 a6 a7 a8 a9 a10 a11 a12 a13 a14 a15 a16 a17 a18 a19 a20 a21 a22 a23 a24 a25 a26 a27 a28 a29 a30 a31 : Option D} {o : Option D} {d : D} : nmG 32 d (a0 :: a1 :: a2 :: a3 :: a4 :: a5 :: a6 :: a7 :: a8 :: a9 :: a10 :: a11 :: a12 :: a13 :: a14 :: a15 :: a16 :: a17 :: a18 :: a19 :: a20 :: a21 :: a22 :: a23 :: a24 :: a25 :: a26 :: a27 :: a28 :: a29 :: a30 :: a31 :: o :: Γ) S P = P (a0 :: a1 :: a2 :: a3 :: a4 :: a5 :: a6 :: a7 :: a8 :: a9 :: a10 :: a11 :: a12 :: a13 :: a14 :: a15 :: a16 :: a17 :: a18 :: a19 :: a20 :: a21 :: a22 :: a23 :: a24 :: a25 :: a26 :: a27 :: a28 :: a29 :: a30 :: a31 :: some d :: Γ) S := rfl
theorem dv33 {a0 a1 a2 a3 a4 a5 a6 a7 a8 a9 a10 a11 a12 a13 a14 a15 a16 a17 a18 a19 a20 a21 a22 a23 a24 a25 a26 a27 a28 a29 a30 a31 a32 : Option D} {d : D} : dVar 33 (a0 :: a1 :: a2 :: a3 :: a4 :: a5 :: a6 :: a7 :: a8 :: a9 :: a10 :: a11 :: a12 :: a13 :: a14 :: a15 :: a16 :: a17 :: a18 :: a19 :: a20 :: a21 :: a22 :: a23 :: a24 :: a25 :: a26 :: a27 :: a28 :: a29 :: a30 :: a31 :: a32 :: some d :: Γ) S Φ Ψ = Φ S d := propext ⟨fun ⟨_, e, h⟩ => by cases e; exact h, fun h => ⟨d, rfl, h⟩⟩
theorem nm33 {a0 a1 a2 a3 a4 a5 a6 a7 a8 a9 a10 a11 a12 a13 a14 a15 a16 a17 a18 a19 a20 a21 a22 a23 a24 a25 a26 a27 a28 a29 a30 a31 a32 : Option D} {o : Option D} {d : D} : nmG 33 d (a0 :: a1 :: a2 :: a3 :: a4 :: a5 :: a6 :: a7 :: a8 :: a9 :: a10 :: a11 :: a12 :: a13 :: a14 :: a15 :: a16 :: a17 :: a18 :: a19 :: a20 :: a21 :: a22 :: a23 :: a24 :: a25 :: a26 :: a27 :: a28 :: a29 :: a30 :: a31 :: a32 :: o :: Γ) S P = P (a0 :: a1 :: a2 :: a3 :: a4 :: a5 :: a6 :: a7 :: a8 :: a9 :: a10 :: a11 :: a12 :: a13 :: a14 :: a15 :: a16 :: a17 :: a18 :: a19 :: a20 :: a21 :: a22 :: a23 :: a24 :: a25 :: a26 :: a27 :: a28 :: a29 :: a30 :: a31 :: a32 :: some d :: Γ) S := rfl
theorem dv34 {a0 a1 a2 a3 a4 a5 a6 a7 a8 a9 a10 a11 a12 a13 a14 a15 a16 a17 a18 a19 a20 a21 a22 a23 a24 a25 a26 a27 a28 a29 a30 a31 a32 a33 : Option D} {d : D} : dVar 34 (a0 :: a1 :: a2 :: a3 :: a4 :: a5 :: a6 :: a7 :: a8 :: a9 :: a10 :: a11 :: a12 :: a13 :: a14 :: a15 :: a16 :: a17 :: a18 :: a19 :: a20 :: a21 :: a22 :: a23 :: a24 :: a25 :: a26 :: a27 :: a28 :: a29 :: a30 :: a31 :: a32 :: a33 :: some d :: Γ) S Φ Ψ = Φ S d := propext ⟨fun ⟨_, e, h⟩ => by cases e; exact h, fun h => ⟨d, rfl, h⟩⟩
theorem nm34 {a0 a1 a2 a3 a4 a5 a6 a7 a8 a9 a10 a11 a12 a13 a14 a15 a16 a17 a18 a19 a20 a21 a22 a23 a24 a25 a26 a27 a28 a29 a30 a31 a32 a33 : Option D} {o : Option D} {d : D} : nmG 34 d (a0 :: a1 :: a2 :: a3 :: a4 :: a5 :: a6 :: a7 :: a8 :: a9 :: a10 :: a11 :: a12 :: a13 :: a14 :: a15 :: a16 :: a17 :: a18 :: a19 :: a20 :: a21 :: a22 :: a23 :: a24 :: a25 :: a26 :: a27 :: a28 :: a29 :: a30 :: a31 :: a32 :: a33 :: o :: Γ) S P = P (a0 :: a1 :: a2 :: a3 :: a4 :: a5 :: a6 :: a7 :: a8 :: a9 :: a10 :: a11 :: a12 :: a13 :: a14 :: a15 :: a16 :: a17 :: a18 :: a19 :: a20 :: a21 :: a22 :: a23 :: a24 :: a25 :: a26 :: a27 :: a28 :: a29 :: a30 :: a31 :: a32 :: a33 :: some d :: Γ) S := rfl
theorem dv35 {a0 a1 a2 a3 a4 a5 a6 a7 a8 a9 a10 a11 a12 a13 a14 a15 a16 a17 a18 a19 a20 a21 a22 a23 a24 a25 a26 a27 a28 a29 a30 a31 a32 a33 a34 : Option D} {d : D} : dVar 35 (a0 :: a1 :: a2 :: a3 :: a4 :: a5 :: a6 :: a7 :: a8 :: a9 :: a10 :: a11 :: a12 :: a13 :: a14 :: a15 :: a16 :: a17 :: a18 :: a19 :: a20 :: a21 :: a22 :: a23 :: a24 :: a25 :: a26 :: a27 :: a28 :: a29 :: a30 :: a31 :: a32 :: a33 :: a34 :: some d :: Γ) S Φ Ψ = Φ S d := propext ⟨fun ⟨_, e, h⟩ => by cases e; exact h, fun h => ⟨d, rfl, h⟩⟩
theorem nm35 {a0 a1 a2 a3 a4 a5 a6 a7 a8 a9 a10 a11 a12 a13 a14 a15 a16 a17 a18 a19 a20 a21 a22 a23 a24 a25 a26 a27 a28 a29 a30 a31 a32 a33 a34 : Option D} {o : Option D} {d : D} : nmG 35 d (a0 :: a1 :: a2 :: a3 :: a4 :: a5 :: a6 :: a7 :: a8 :: a9 :: a10 :: a11 :: a12 :: a13 :: a14 :: a15 :: a16 :: a17 :: a18 :: a19 :: a20 :: a21 :: a22 :: a23 :: a24 :: a25 :: a26 :: a27 :: a28 :: a29 :: a30 :: a31 :: a32 :: a33 :: a34 :: o :: Γ) S P = P (a0 :: a1 :: a2 :: a3 :: a4 :: a5 :: a6 :: a7 :: a8 :: a9 :: a10 :: a11 :: a12 :: a13 :: a14 :: a15 :: a16 :: a17 :: a18 :: a19 :: a20 :: a21 :: a22 :: a23 :: a24 :: a25 :: a26 :: a27 :: a28 :: a29 :: a30 :: a31 :: a32 :: a33 :: a34 :: some d :: Γ) S := rfl
theorem dv36 {a0 a1 a2 a3 a4 a5 a6 a7 a8 a9 a10 a11 a12 a13 a14 a15 a16 a17 a18 a19 a20 a21 a22 a23 a24 a25 a26 a27 a28 a29 a30 a31 a32 a33 a34 a35 : Option D} {d : D} : dVar 36 (a0 :: a1 :: a2 :: a3 :: a4 :: a5 :: a6 :: a7 :: a8 :: a9 :: a10 :: a11 :: a12 :: a13 :: a14 :: a15 :: a16 :: a17 :: a18 :: a19 :: a20 :: a21 :: a22 :: a23 :: a24 :: a25 :: a26 :: a27 :: a28 :: a29 :: a30 :: a31 :: a32 :: a33 :: a34 :: a35 :: some d :: Γ) S Φ Ψ = Φ S d := propext ⟨fun ⟨_, e, h⟩ => by cases e; exact h, fun h => ⟨d, rfl, h⟩⟩
theorem nm36 {a0 a1 a2 a3 a4 a5 a6 a7 a8 a9 a10 a11 a12 a13 a14 a15 a16 a17 a18 a19 a20 a21 a22 a23 a24 a25 a26 a27 a28 a29 a30 a31 a32 a33 a34 a35 : Option D} {o : Option D} {d : D} : nmG 36 d (a0 :: a1 :: a2 :: a3 :: a4 :: a5 :: a6 :: a7 :: a8 :: a9 :: a10 :: a11 :: a12 :: a13 :: a14 :: a15 :: a16 :: a17 :: a18 :: a19 :: a20 :: a21 :: a22 :: a23 :: a24 :: a25 :: a26 :: a27 :: a28 :: a29 :: a30 :: a31 :: a32 :: a33 :: a34 :: a35 :: o :: Γ) S P = P (a0 :: a1 :: a2 :: a3 :: a4 :: a5 :: a6 :: a7 :: a8 :: a9 :: a10 :: a11 :: a12 :: a13 :: a14 :: a15 :: a16 :: a17 :: a18 :: a19 :: a20 :: a21 :: a22 :: a23 :: a24 :: a25 :: a26 :: a27 :: a28 :: a29 :: a30 :: a31 :: a32 :: a33 :: a34 :: a35 :: some d :: Γ) S := rfl
theorem dv37 {a0 a1 a2 a3 a4 a5 a6 a7 a8 a9 a10 a11 a12 a13 a14 a15 a16 a17 a18 a19 a20 a21 a22 a23 a24 a25 a26 a27 a28 a29 a30 a31 a32 a33 a34 a35 a36 : Option D} {d : D} : dVar 37 (a0 :: a1 :: a2 :: a3 :: a4 :: a5 :: a6 :: a7 :: a8 :: a9 :: a10 :: a11 :: a12 :: a13 :: a14 :: a15 :: a16 :: a17 :: a18 :: a19 :: a20 :: a21 :: a22 :: a23 :: a24 :: a25 :: a26 :: a27 :: a28 :: a29 :: a30 :: a31 :: a32 :: a33 :: a34 :: a35 :: a36 :: some d :: Γ) S Φ Ψ = Φ S d := propext ⟨fun ⟨_, e, h⟩ => by cases e; exact h, fun h => ⟨d, rfl, h⟩⟩
theorem nm37 {a0 a1 a2 a3 a4 a5 a6 a7 a8 a9 a10 a11 a12 a13 a14 a15 a16 a17 a18 a19 a20 a21 a22 a23 a24 a25 a26 a27 a28 a29 a30 a31 a32 a33 a34 a35 a36 : Option D} {o : Option D} {d : D} : nmG 37 d (a0 :: a1 :: a2 :: a3 :: a4 :: a5 :: a6 :: a7 :: a8 :: a9 :: a10 :: a11 :: a12 :: a13 :: a14 :: a15 :: a16 :: a17 :: a18 :: a19 :: a20 :: a21 :: a22 :: a23 :: a24 :: a25 :: a26 :: a27 :: a28 :: a29 :: a30 :: a31 :: a32 :: a33 :: a34 :: a35 :: a36 :: o :: Γ) S P = P (a0 :: a1 :: a2 :: a3 :: a4 :: a5 :: a6 :: a7 :: a8 :: a9 :: a10 :: a11 :: a12 :: a13 :: a14 :: a15 :: a16 :: a17 :: a18 :: a19 :: a20 :: a21 :: a22 :: a23 :: a24 :: a25 :: a26 :: a27 :: a28 :: a29 :: a30 :: a31 :: a32 :: a33 :: a34 :: a35 :: a36 :: some d :: Γ) S := rfl
theorem dv38 {a0 a1 a2 a3 a4 a5 a6 a7 a8 a9 a10 a11 a12 a13 a14 a15 a16 a17 a18 a19 a20 a21 a22 a23 a24 a25 a26 a27 a28 a29 a30 a31 a32 a33 a34 a35 a36 a37 : Option D} {d : D} : dVar 38 (a0 :: a1 :: a2 :: a3 :: a4 :: a5 :: a6 :: a7 :: a8 :: a9 :: a10 :: a11 :: a12 :: a13 :: a14 :: a15 :: a16 :: a17 :: a18 :: a19 :: a20 :: a21 :: a22 :: a23 :: a24 :: a25 :: a26 :: a27 :: a28 :: a29 :: a30 :: a31 :: a32 :: a33 :: a34 :: a35 :: a36 :: a37 :: some d :: Γ) S Φ Ψ = Φ S d := propext ⟨fun ⟨_, e, h⟩ => by cases e; exact h, fun h => ⟨d, rfl, h⟩⟩
theorem nm38 {a0 a1 a2 a3 a4 a5 a6 a7 a8 a9 a10 a11 a12 a13 a14 a15 a16 a17 a18 a19 a20 a21 a22 a23 a24 a25 a26 a27 a28 a29 a30 a31 a32 a33 a34 a35 a36 a37 : Option D} {o : Option D} {d : D} : nmG 38 d (a0 :: a1 :: a2 :: a3 :: a4 :: a5 :: a6 :: a7 :: a8 :: a9 :: a10 :: a11 :: a12 :: a13 :: a14 :: a15 :: a16 :: a17 :: a18 :: a19 :: a20 :: a21 :: a22 :: a23 :: a24 :: a25 :: a26 :: a27 :: a28 :: a29 :: a30 :: a31 :: a32 :: a33 :: a34 :: a35 :: a36 :: a37 :: o :: Γ) S P = P (a0 :: a1 :: a2 :: a3 :: a4 :: a5 :: a6 :: a7 :: a8 :: a9 :: a10 :: a11 :: a12 :: a13 :: a14 :: a15 :: a16 :: a17 :: a18 :: a19 :: a20 :: a21 :: a22 :: a23 :: a24 :: a25 :: a26 :: a27 :: a28 :: a29 :: a30 :: a31 :: a32 :: a33 :: a34 :: a35 :: a36 :: a37 :: some d :: Γ) S := rfl
theorem dv39 {a0 a1 a2 a3 a4 a5 a6 a7 a8 a9 a10 a11 a12 a13 a14 a15 a16 a17 a18 a19 a20 a21 a22 a23 a24 a25 a26 a27 a28 a29 a30 a31 a32 a33 a34 a35 a36 a37 a38 : Option D} {d : D} : dVar 39 (a0 :: a1 :: a2 :: a3 :: a4 :: a5 :: a6 :: a7 :: a8 :: a9 :: a10 :: a11 :: a12 :: a13 :: a14 :: a15 :: a16 :: a17 :: a18 :: a19 :: a20 :: a21 :: a22 :: a23 :: a24 :: a25 :: a26 :: a27 :: a28 :: a29 :: a30 :: a31 :: a32 :: a33 :: a34 :: a35 :: a36 :: a37 :: a38 :: some d :: Γ) S Φ Ψ = Φ S d := propext ⟨fun ⟨_, e, h⟩ => by cases e; exact h, fun h => ⟨d, rfl, h⟩⟩
theorem nm39 {a0 a1 a2 a3 a4 a5 a6 a7 a8 a9 a10 a11 a12 a13 a14 a15 a16 a17 a18 a19 a20 a21 a22 a23 a24 a25 a26 a27 a28 a29 a30 a31 a32 a33 a34 a35 a36 a37 a38 : Option D} {o : Option D} {d : D} : nmG 39 d (a0 :: a1 :: a2 :: a3 :: a4 :: a5 :: a6 :: a7 :: a8 :: a9 :: a10 :: a11 :: a12 :: a13 :: a14 :: a15 :: a16 :: a17 :: a18 :: a19 :: a20 :: a21 :: a22 :: a23 :: a24 :: a25 :: a26 :: a27 :: a28 :: a29 :: a30 :: a31 :: a32 :: a33 :: a34 :: a35 :: a36 :: a37 :: a38 :: o :: Γ) S P = P (a0 :: a1 :: a2 :: a3 :: a4 :: a5 :: a6 :: a7 :: a8 :: a9 :: a10 :: a11 :: a12 :: a13 :: a14 :: a15 :: a16 :: a17 :: a18 :: a19 :: a20 :: a21 :: a22 :: a23 :: a24 :: a25 :: a26 :: a27 :: a28 :: a29 :: a30 :: a31 :: a32 :: a33 :: a34 :: a35 :: a36 :: a37 :: a38 :: some d :: Γ) S := rfl
theorem sPar_n {E : EdD} {i j : Nat} {T : TL} : sPar i j T E Γ S = (T Γ S (fun S1 ds => ∃ x y, ds = [x, y] ∧ nmG i x Γ S1 fun Γ' S' => nmG j y Γ' S' E.nx) E.er) := rfl
theorem sPar3_n {E : EdD} {i j l : Nat} {T : TL} : sPar3 i j l T E Γ S = (T Γ S (fun S1 ds => ∃ x y z, ds = [x, y, z] ∧ nmG i x Γ S1 fun Γ' S' => nmG j y Γ' S' fun Γ2 S2 => nmG l z Γ2 S2 E.nx) E.er) := rfl
theorem sAug_n {E : EdD} {i : Nat} {T : TD} {f : D → D → Sto → KD → Prop} : sAug i T f E Γ S = dVar i Γ S (fun _ d => T Γ S (fun S1 y => f d y S1 fun S2 z => nmG i z Γ S2 E.nx) E.er) E.er := rfl
end
end DL
namespace DL
open PySem PySem.Spec PyProof.Rows L2
section
variable {X : Cx} {W : WX} {e : Expr} {te : TE} {Te : TD}
def dLRg (T : TD) : TD := fun Γ S Φ Ψ => T Γ S (fun S1 d => ∃ n : Nat, d = .int n ∧ n ≤ 1000000 ∧ Φ S1 (.lst (rngD 0 n))) Ψ
def dLRgO (T : TD) : TD := fun Γ S Φ Ψ => T Γ S (fun S1 d => ∃ n : Nat, d = .int n ∧ n ≤ 1000000 ∧ Φ (S1 ++ [.lst (rngD 0 n)]) (.own S1.length)) Ψ
end
def dAddI := iOp0 fun i j => D.int (i + j)
def dSubI := iOp0 fun i j => D.int (i - j)
theorem ipd_addI {K : PySem.W.Frag} : IpD K (ipI fun i j => i + j) dAddI := ipd_int
theorem dAddI_i {i j : Int} {S : Sto} {Φ : KD} : dAddI (.int i) (.int j) S Φ = Φ S (.int (i + j)) := rfl
theorem dSubI_i {i j : Int} {S : Sto} {Φ : KD} : dSubI (.int i) (.int j) S Φ = Φ S (.int (i - j)) := rfl
section
variable {Γ : Gam} {S : Sto} {Φ : KD} {Ψ : KX}
theorem dLRg_e {T : TD} : dLRg T Γ S Φ Ψ = T Γ S (fun S1 d => ∃ n : Nat, d = .int n ∧ n ≤ 1000000 ∧ Φ S1 (.lst (rngD 0 n))) Ψ := rfl
theorem dLRgO_e {T : TD} : dLRgO T Γ S Φ Ψ = T Γ S (fun S1 d => ∃ n : Nat, d = .int n ∧ n ≤ 1000000 ∧ Φ (S1 ++ [.lst (rngD 0 n)]) (.own S1.length)) Ψ := rfl
end
end DL
namespace DL
open PySem PySem.Spec PyProof.Rows L2
def putT (ks : List (List Key × D)) (k : List Key) (d : D) : List (List Key × D) :=
  if (ks.any fun kv => decide (kv.1 = k)) = true then ks.map (fun kv => if kv.1 = k then (kv.1, d) else kv) else ks ++ [(k, d)]
def dMulO (x y : D) (S : Sto) (Φ : KD) : Prop := ∃ xs, ∃ k : Nat, asL S x = some xs ∧ y = .int k ∧ xs.length * k ≤ 1000000 ∧ k ≤ 1000000 ∧ Φ (S ++ [.lst (List.replicate k xs).flatten]) (.own S.length)
def dNew : TD := fun Γ S Φ Ψ => Φ (S ++ [.dct []]) (.own S.length)
section
variable {X : Cx} {W : WX}
def sDct (Tv To : TD) (Tl : TL) : TSd := fun E Γ S => Tv Γ S (fun S1 v => To Γ S1 (fun S2 o => Tl Γ S2 (fun S3 ds => ∃ h ks, ∃ ns : List Int, o = .own h ∧ ds = ns.map D.int ∧ S3[h]? = some (.dct ks) ∧ ks.length < 1000000 ∧ ns.length ≤ 1000 ∧ E.nx Γ (S3.set h (.dct (putT ks (ns.map Sum.inl) v)))) E.er) E.er) E.er
end
section
variable {Γ : Gam} {S : Sto} {Φ : KD} {Ψ : KX}
theorem dNew_e : dNew Γ S Φ Ψ = Φ (S ++ [Cell.dct []]) (.own S.length) := rfl
theorem sDct_e {E : EdD} {Tv To : TD} {Tl : TL} : sDct Tv To Tl E Γ S = Tv Γ S (fun S1 v => To Γ S1 (fun S2 o => Tl Γ S2 (fun S3 ds => ∃ h ks, ∃ ns : List Int, o = .own h ∧ ds = ns.map D.int ∧ S3[h]? = some (.dct ks) ∧ ks.length < 1000000 ∧ ns.length ≤ 1000 ∧ E.nx Γ (S3.set h (.dct (putT ks (ns.map Sum.inl) v)))) E.er) E.er) E.er := rfl
theorem dMulO_l {xs : List D} {k : Nat} : dMulO (.lst xs) (.int k) S Φ = (xs.length * k ≤ 1000000 ∧ k ≤ 1000000 ∧ Φ (S ++ [.lst (List.replicate k xs).flatten]) (.own S.length)) := propext ⟨fun ⟨_, _, e1, e2, h⟩ => by cases e1; cases e2; exact h, fun h => ⟨_, _, rfl, rfl, h⟩⟩
end
end DL
namespace DL
open PySem PySem.Spec PyProof.Rows L2
section
variable {X : Cx} {W : WX} {e : Expr} {es : List Expr} {te : TE} {Te : TD} {tl : TA} {Tl : TL}
def dIsiT (T : TD) (Tl : TL) : TD := fun Γ S Φ Ψ => T Γ S (fun S1 d => Tl Γ S1 (fun S2 ds => ∃ a, ∃ ns : List String, ds = ns.map D.ty ∧ tyOf S2 d = some a ∧ ns.length ≤ 1000 ∧ (∀ n ∈ ns, n ∈ tyN) ∧ Φ S2 (.bl (ns.any (isTyB a)))) Ψ) Ψ
end
theorem dIsiT_e {Γ : Gam} {S : Sto} {Φ : KD} {Ψ : KX} {T : TD} {Tl : TL} : dIsiT T Tl Γ S Φ Ψ = T Γ S (fun S1 d => Tl Γ S1 (fun S2 ds => ∃ a, ∃ ns : List String, ds = ns.map D.ty ∧ tyOf S2 d = some a ∧ ns.length ≤ 1000 ∧ (∀ n ∈ ns, n ∈ tyN) ∧ Φ S2 (.bl (ns.any (isTyB a)))) Ψ) Ψ := rfl
end DL
namespace DL
open PySem PySem.Spec PyProof.Rows L2
def prD (p : Int × Int) : D := .tup [.int p.1, .int p.2]
section
variable {X : Cx} {W : WX} {e : Expr} {te : TE} {Te : TD}
def dLenSet (T : TD) : TD := fun Γ S Φ Ψ => T Γ S (fun S1 d => ∃ ns : List Int, asQ S1 d = some (ns.map D.int) ∧ ns.Nodup ∧ ns.length ≤ 4000 ∧ Φ S1 (.int ns.length)) Ψ
variable {Γ : Gam} {S : Sto} {Φ : KD} {Ψ : KX}
theorem dLenSet_e {T : TD} : dLenSet T Γ S Φ Ψ = T Γ S (fun S1 d => ∃ ns : List Int, asQ S1 d = some (ns.map D.int) ∧ ns.Nodup ∧ ns.length ≤ 4000 ∧ Φ S1 (.int ns.length)) Ψ := rfl
end
section
variable {X : Cx} {W : WX} {a b c d : Expr} {ta tb tc td : TE} {Ta Tb Tc Td : TD} {pos : Pos}
def bChain3 (f g h : D → D → Sto → KD → Prop) (Ta Tb Tc Td : TD) : TB := fun Γ S Φ Ψ => Ta Γ S (fun S1 x => Tb Γ S1 (fun S2 y => f x y S2 fun S3 z => ∃ k, z = .bl k ∧ (if k = true then Tc Γ S3 (fun S4 u => g y u S4 fun S5 z2 => ∃ k2, z2 = .bl k2 ∧ (if k2 = true then Td Γ S5 (fun S6 v => h u v S6 fun S7 z3 => ∃ k3, z3 = .bl k3 ∧ Φ S7 k3) Ψ else Φ S5 false)) Ψ else Φ S3 false)) Ψ) Ψ
variable {Γ : Gam} {S : Sto} {Φ : Sto → Bool → Prop} {Ψ : KX}
theorem bChain3_e {f g h : D → D → Sto → KD → Prop} : bChain3 f g h Ta Tb Tc Td Γ S Φ Ψ = Ta Γ S (fun S1 x => Tb Γ S1 (fun S2 y => f x y S2 fun S3 z => ∃ k, z = .bl k ∧ (if k = true then Tc Γ S3 (fun S4 u => g y u S4 fun S5 z2 => ∃ k2, z2 = .bl k2 ∧ (if k2 = true then Td Γ S5 (fun S6 v => h u v S6 fun S7 z3 => ∃ k3, z3 = .bl k3 ∧ Φ S7 k3) Ψ else Φ S5 false)) Ψ else Φ S3 false)) Ψ) Ψ := rfl
end
section
variable {X : Cx} {W : WX} {e e2 : Expr} {te te2 : TE} {Te Te2 : TD}
def dLRg2 (T U : TD) : TD := fun Γ S Φ Ψ => T Γ S (fun S1 x => U Γ S1 (fun S2 y => ∃ i n : Nat, x = .int i ∧ y = .int ((i + n : Nat) : Int) ∧ i + n ≤ 1000000 ∧ Φ S2 (.lst (rngD i n))) Ψ) Ψ
variable {Γ : Gam} {S : Sto} {Φ : KD} {Ψ : KX}
theorem dLRg2_e {T U : TD} : dLRg2 T U Γ S Φ Ψ = T Γ S (fun S1 x => U Γ S1 (fun S2 y => ∃ i n : Nat, x = .int i ∧ y = .int ((i + n : Nat) : Int) ∧ i + n ≤ 1000000 ∧ Φ S2 (.lst (rngD i n))) Ψ) Ψ := rfl
end
section
def dwD (i : Int) (n : Nat) : List D := (List.range n).map fun (k : Nat) => D.int (i - (k : Int))
def iRg3 (T : TL) : TId := fun Γ S Φ Ψ => T Γ S (fun S1 ds => ∃ i j, ds = [.int i, .int j, .int (-1)] ∧ (-(2 ^ 62) ≤ i ∧ i < 2 ^ 62 ∧ -(2 ^ 62) ≤ j ∧ j < 2 ^ 62) ∧ Φ S1 (fun _ => some (dwD i (i - j).toNat))) Ψ
variable {X : Cx} {W : WX} {a b c tg : Expr} {tl : TA} {Tl : TL} {p pos : Pos}
variable {Γ : Gam} {S : Sto} {Ψ : KX}
theorem iRg3_e {T : TL} {Φ : Sto → Src → Prop} : iRg3 T Γ S Φ Ψ = T Γ S (fun S1 ds => ∃ i j, ds = [.int i, .int j, .int (-1)] ∧ (-(2 ^ 62) ≤ i ∧ i < 2 ^ 62 ∧ -(2 ^ 62) ≤ j ∧ j < 2 ^ 62) ∧ Φ S1 (fun _ => some (dwD i (i - j).toNat))) Ψ := rfl
end
end DL
namespace DL
open PySem PySem.Spec PyProof.Rows L2
section
variable {X : Cx} {W : WX}
/-- [elt for tg in iter if .. for tg1 in iter1 if ..] -/
def dLc2 (I : TId) (G : TGd) (C : TB) (T1 : TD) (G1 : TGd) (C1 : TB) (Te : TD) (vs vs1 : List Nat) (Fin : List D → Sto → KD → Prop) : TD := fun Γ S Φ Ψ => I Γ S (fun S1 src => ∃ (P : Nat → List D → Sto → Prop) (n : Nat), P 0 [] S1 ∧
  (∀ i acc S', i ≤ n → P i acc S' → ∃ ds, src S' = some ds ∧ ds.length = n) ∧
  (∀ i acc S' ds d, P i acc S' → src S' = some ds → ds[i]? = some d → G d (gwipe Γ vs) S' fun Γ2 S2 => C Γ2 S2 (fun S3 k => if k = true then
      T1 Γ2 S3 (fun S4 d4 => (∃ ds, asQ S4 d4 = some ds) ∧ ∃ (P1 : Nat → List D → Sto → Prop) (n1 : Nat), P1 0 acc S4 ∧
        (∀ j acc1 S5, j ≤ n1 → P1 j acc1 S5 → ∃ ds1, asQ S5 d4 = some ds1 ∧ ds1.length = n1) ∧
        (∀ j acc1 S5 ds1 d1, P1 j acc1 S5 → asQ S5 d4 = some ds1 → ds1[j]? = some d1 → G1 d1 (gwipe Γ2 vs1) S5 fun Γ3 S6 => C1 Γ3 S6 (fun S7 k1 => if k1 = true then Te Γ3 S7 (fun S8 y => acc1.length < sizeLine ∧ P1 (j + 1) (acc1 ++ [y]) S8) (fun _ _ => False) else P1 (j + 1) acc1 S7) (fun _ _ => False)) ∧
        (∀ acc1 S5, P1 n1 acc1 S5 → P (i + 1) acc1 S5)) (fun _ _ => False) else P (i + 1) acc S3) (fun _ _ => False)) ∧
  (∀ acc S', P n acc S' → Fin acc S' Φ)) Ψ
theorem sem_lc2 {K : PySem.W.Frag} {wi : TI} {g g1 : TG} {tt tt1 : TT} {te te1 : TE} {I : TId} {G G1 : TGd} {C C1 : TB} {Te T1 : TD} {vs vs1 : List Nat} {Fin : List D → Sto → KD → Prop} (hi : SemI K W wi I) (hg : SemG K g G) (hk : GK vs g) (ht : SemT K (fun _ _ _ _ => False) tt C)
    (hi1 : SemE K (fun _ _ _ _ => False) te1 T1) (hg1 : SemG K g1 G1) (hk1 : GK vs1 g1) (ht1 : SemT K (fun _ _ _ _ => False) tt1 C1) (he : SemE K (fun _ _ _ _ => False) te Te) (hf : FinOk Fin) :
    SemE K W (tLc2 wi g tt (iList K te1) g1 tt1 te vs vs1) (dLc2 I G C T1 G1 C1 Te vs vs1 Fin) := fun Γ S Φ Ψ σ w g0 sl h hx Q q =>
  hi Γ S _ _ σ w g0 sl h hx _ fun J src w1 S1 e1 gd1 ok ⟨P, n, h0, hl, hs, hd⟩ => fun p hp => by
    have hF1 := gd1.notF hp
    have hA1 := gd1.notA hp
    refine ⟨fun i m H' => m + i = n ∧ ∃ w' S' acc accV, H' = w'.H ∧ Ext w1 w' ∧ Good K w' S' ∧ w'.F p = none ∧ p ∉ w'.al ∧ w'.H p = some (.lst accV) ∧ Ra K w' accV acc ∧ P i acc S',
      ⟨n, by omega, w1.at p (.lst []), S1, [], [], rfl, (Ext.refl w1).at _ hp, gd1.at _ hF1 hA1, hF1, hA1, upd_same, .nil, h0⟩, ?_⟩
    rintro i m H' ⟨hm, w', S', acc, accV, rfl, e', g', hF, hA, hH, hr, pp⟩
    obtain ⟨ds, hsrc, hlenD⟩ := hl i acc S' (by omega) pp
    have qq := ok w' S' ds i e' g' hsrc
    by_cases hlt : i < n
    · have hx' : ds[i]? = some ds[i] := List.getElem?_eq_getElem (by omega)
      obtain ⟨hgo, hy⟩ := qq.1 _ hx'
      obtain ⟨Nx, hNx⟩ : ∃ Nx : Hp → Prop, Nx = fun H2 => ∃ w2 S2 acc2 accV2, H2 = w2.H ∧ Ext w1 w2 ∧ Good K w2 S2 ∧ w2.F p = none ∧ p ∉ w2.al ∧ w2.H p = some (.lst accV2) ∧ Ra K w2 accV2 acc2 ∧ P (i + 1) acc2 S2 := ⟨_, rfl⟩
      refine .inr ⟨hgo, Nx, ?_, ?_⟩
      · rw [hNx]
        rintro H2 ⟨w2, S2, acc2, accV2, r⟩
        exact ⟨m - 1, by omega, by omega, w2, S2, acc2, accV2, r⟩
      · intro x H2 hyl
        obtain ⟨w2, e2, g2, rfl, r2⟩ := hy x H2 hyl
        have sl2 : Slots K w2 (L2.wipe σ vs) (gwipe Γ vs) := (sl.ext ((e1.trans e').trans e2)).wipe vs
        have s1 := hk.keep x (L2.wipe σ vs) w2.H _ (hg _ (gwipe Γ vs) S' x (L2.wipe σ vs) w2 _ (fun σ2 H2 => tt σ2 H2 fun b H3 => if b = true then iList K te1 σ2 H3 fun J1 H4 => ∃ W1 : Nat → Nat → Hp → Prop, (∃ m, W1 0 m H4) ∧ ∀ (j k : Nat) (H : Hp), W1 j k H → J1.stop j H ∧ Nx H ∨ J1.go j H ∧ ∃ Nx1 : Hp → Prop, (∀ (H' : Hp), Nx1 H' → ∃ k', k' < k ∧ W1 (j + 1) k' H') ∧ ∀ (x : V) (H' : Hp), J1.yld j H x H' → g1 x (L2.wipe σ2 vs1) H' fun σ3 H5 => L2.wipe σ3 vs1 = L2.wipe σ2 vs1 ∧ tt1 σ3 H5 fun b H6 => if b = true then te σ3 H6 fun y H7 => ∃ acc, H7 p = some (.lst acc) ∧ acc.length < sizeLine ∧ Nx1 (upd H7 p (.lst (acc ++ [y]))) else Nx1 H6
          else Nx H3) g2 sl2 r2 (hs i acc S' ds _ pp hsrc hx') fun σ3 Γ3 w3 S3 e3 g3 sl3 h3 => ?_)
        · rw [wipe_wipe σ vs vs fun _ z => z] at s1
          exact s1
        · have e23 := e2.trans e3
          refine ht Γ3 S3 _ _ σ3 w3 g3 sl3 h3 (fun _ _ _ _ _ _ _ _ z => z) _ fun b w4 S4 e4 g4 h4 => ?_
          have e24 := e23.trans e4
          have ee4 := e'.trans e24
          obtain ⟨hH4, hF4, hA4⟩ := e24.hid hH hF hA
          cases b with
          | false => show Nx w4.H; rw [hNx]; exact ⟨w4, S4, acc, accV, rfl, ee4, g4, hF4, hA4, hH4, e24.ra hr, h4⟩
          | true =>
            refine hi1 Γ3 S4 _ _ σ3 w4 g4 (sl3.ext e4) h4 (fun _ _ _ _ _ _ _ _ z => z) _ fun v5 d5 w5 S5 e5 g5 r5 ⟨⟨es5, hes5⟩, P1, n1, p0, pl, ps, pd⟩ => ?_
            obtain ⟨a5, xs5, rfl, hs5, _⟩ := asQ_at g5 r5 hes5
            refine ⟨a5, rfl, ⟨xs5, hs5⟩, ?_⟩
            have e25 := e24.trans e5
            have ee5 := e'.trans e25
            obtain ⟨hH5, hF5, hA5⟩ := e25.hid hH hF hA
            have sl5 := (sl3.ext e4).ext e5
            refine ⟨fun j k H' => k + j = n1 ∧ ∃ w6 S6 acc6 accV6, H' = w6.H ∧ ((∀ a o, w5.F a = some o → w6.F a = some o) ∧ ∀ (h : Nat) (a : Addr), w5.al[h]? = some a → w6.al[h]? = some a) ∧ Ext w1 w6 ∧ Good K w6 S6 ∧ w6.F p = none ∧ p ∉ w6.al ∧ w6.H p = some (.lst accV6) ∧ Ra K w6 accV6 acc6 ∧ P1 j acc6 S6,
              ⟨n1, by omega, w5, S5, acc, accV, rfl, ⟨fun _ _ z => z, fun _ _ z => z⟩, ee5, g5, hF5, hA5, hH5, e25.ra hr, p0⟩, ?_⟩
            rintro j k H6 ⟨hk6, w6, S6, acc6, accV6, rfl, e6, ee6, g6, hF6, hA6, hH6, hr6, pp6⟩
            obtain ⟨ds1, hsrc1, hlen1⟩ := pl j acc6 S6 (by omega) pp6
            obtain ⟨b6, xs6, eb6, hs6, ra6⟩ := asQ_at g6 (Rp.mono e6.1 e6.2 _ _ r5) hsrc1
            cases eb6
            by_cases hlt1 : j < n1
            · have hx1 : ds1[j]? = some ds1[j] := List.getElem?_eq_getElem (by omega)
              obtain ⟨x6, hx6, rx6⟩ := ra6.get hx1
              refine .inr ⟨⟨xs6, x6, hs6, hx6⟩, fun H7 => ∃ w7 S7 acc7 accV7, H7 = w7.H ∧ ((∀ a o, w5.F a = some o → w7.F a = some o) ∧ ∀ (h : Nat) (a : Addr), w5.al[h]? = some a → w7.al[h]? = some a) ∧ Ext w1 w7 ∧ Good K w7 S7 ∧ w7.F p = none ∧ p ∉ w7.al ∧ w7.H p = some (.lst accV7) ∧ Ra K w7 accV7 acc7 ∧ P1 (j + 1) acc7 S7, ?_, ?_⟩
              · rintro H7 ⟨w7, S7, acc7, accV7, r⟩
                exact ⟨k - 1, by omega, by omega, w7, S7, acc7, accV7, r⟩
              · intro x1 H7 hyl1
                obtain ⟨rfl, hy7⟩ := hyl1
                have hx7 := hy7 xs6 hs6
                rw [hx6] at hx7
                cases hx7
                have sl7 : Slots K w6 (L2.wipe σ3 vs1) (gwipe Γ3 vs1) := (show Slots K w6 σ3 Γ3 from ⟨sl5.1, fun i d q => let ⟨v, a, b⟩ := sl5.2 i d q; ⟨v, a, Rp.mono e6.1 e6.2 _ _ b⟩⟩).wipe vs1
                have s2 := hk1.keep x6 (L2.wipe σ3 vs1) w6.H _ (hg1 _ (gwipe Γ3 vs1) S6 x6 (L2.wipe σ3 vs1) w6 _ (fun σ8 H8 => tt1 σ8 H8 fun b H9 => if b = true then te σ8 H9 fun y Ha => ∃ acc, Ha p = some (.lst acc) ∧ acc.length < sizeLine ∧ (∃ w7 S7 acc7 accV7, upd Ha p (.lst (acc ++ [y])) = w7.H ∧ ((∀ a o, w5.F a = some o → w7.F a = some o) ∧ ∀ (h : Nat) (a : Addr), w5.al[h]? = some a → w7.al[h]? = some a) ∧ Ext w1 w7 ∧ Good K w7 S7 ∧ w7.F p = none ∧ p ∉ w7.al ∧ w7.H p = some (.lst accV7) ∧ Ra K w7 accV7 acc7 ∧ P1 (j + 1) acc7 S7)
                  else ∃ w7 S7 acc7 accV7, H9 = w7.H ∧ ((∀ a o, w5.F a = some o → w7.F a = some o) ∧ ∀ (h : Nat) (a : Addr), w5.al[h]? = some a → w7.al[h]? = some a) ∧ Ext w1 w7 ∧ Good K w7 S7 ∧ w7.F p = none ∧ p ∉ w7.al ∧ w7.H p = some (.lst accV7) ∧ Ra K w7 accV7 acc7 ∧ P1 (j + 1) acc7 S7) g6 sl7 rx6 (ps j acc6 S6 ds1 _ pp6 hsrc1 hx1) fun σ8 Γ8 w8 S8 e8 g8 sl8 h8 => ?_)
                · rw [wipe_wipe σ3 vs1 vs1 fun _ z => z] at s2
                  exact s2
                · refine ht1 Γ8 S8 _ _ σ8 w8 g8 sl8 h8 (fun _ _ _ _ _ _ _ _ z => z) _ fun b w9 S9 e9 g9 h9 => ?_
                  have e79 := e8.trans e9
                  obtain ⟨hH9, hF9, hA9⟩ := e79.hid hH6 hF6 hA6
                  cases b with
                  | false => exact ⟨w9, S9, acc6, accV6, rfl, ⟨fun a o z => e79.f a o (e6.1 a o z), fun h a z => e79.alx h a (e6.2 h a z)⟩, ee6.trans e79, g9, hF9, hA9, hH9, e79.ra hr6, h9⟩
                  | true =>
                    refine he Γ8 S9 _ _ σ8 w9 g9 (sl8.ext e9) h9 (fun _ _ _ _ _ _ _ _ z => z) _ fun y dy wa Sa ea ga ra ⟨hsz, ha⟩ => ?_
                    have e7a := e79.trans ea
                    obtain ⟨hHa, hFa, hAa⟩ := e7a.hid hH6 hF6 hA6
                    exact ⟨accV6, hHa, by rw [hr6.length]; exact hsz, wa.at p (.lst (accV6 ++ [y])), Sa, acc6 ++ [dy], accV6 ++ [y], rfl, ⟨fun a o z => e7a.f a o (e6.1 a o z), fun h a z => e7a.alx h a (e6.2 h a z)⟩, (ee6.trans e7a).at _ hp, ga.at _ hFa hAa, hFa, hAa, upd_same, RpA.append (e7a.ra hr6) (.cons ra .nil), ha⟩
            · have hin : j = n1 := by omega
              subst hin
              refine .inl ⟨⟨xs6, hs6, by rw [ra6.length]; omega⟩, ?_⟩
              rw [hNx]
              exact ⟨w6, S6, acc6, accV6, rfl, ee6, g6, hF6, hA6, hH6, hr6, pd _ _ pp6⟩
    · have hin : i = n := by omega
      subst hin
      refine .inl ⟨qq.2 (by omega), ?_⟩
      refine hf K w' S' acc Φ p accV (fun v H => Q v H) g' hH hF hA hr (hd acc S' pp) fun v d w2 S2 hF2 hN2 hal hHH g2 r2 h2 => q v d w2 S2 (e1.trans ?_) g2 r2 h2
      refine ⟨fun a o z => hF2 a o (e'.f a o z), ?_, fun a o z => ?_, fun a o z nz => by rw [hHH]; exact e'.kp a o z nz, fun a z => by rw [hHH]; exact e'.dm a z⟩
      · obtain ⟨β, eb, hb⟩ := e'.al
        rcases hal with z | z
        · exact ⟨β, by rw [z, eb], hb⟩
        · refine ⟨β ++ [p], by rw [z, eb, List.append_assoc], fun b hbm => ?_⟩
          rcases List.mem_append.mp hbm with y | y
          · exact hb b y
          · rw [List.mem_singleton.mp y]; exact hp
      · rcases hN2 a o z with y | y
        · exact e'.new a o y
        · subst y; exact .inr (.inl hp)
theorem js_setLc2 (i : Nat) {y : Str} {py spos : Pos} {elt tg iter tg1 iter1 : Expr} {ifs ifs1 : List Expr} {scope : Scope} {own : List (Str × Nat)} {vs1 : List Nat} {pos : Pos} {wi : TI} {g g1 : Bk TG} {tt tt1 : Bk TT} {te te1 : Bk TE} {I : TId} {G G1 : TGd} {C C1 : TB} {Te T1 : TD} (Fin : List D → Sto → KD → Prop) (hf : FinOk Fin) (hc : X.calm = true) (hN : X.N.Nodup) (hi : JI X W tg iter wi I) (ok : BlkOk X.N X.env.scope scope own) (hv : ∀ i ∈ vs1, i ∈ own.map (·.2))
    (hg : ∀ (s : Shared) (H : Hp) (C : Addr) (cl : List (Str × Addr)) (fp : List Addr), JG (X.blk s H scope (compEnvC scope cl C X.env) fp) tg (g s H C cl fp) G) (hk : GK (own.map (·.2)) (g {} (fun _ => none) 0 [] [])) (ht : ∀ (s : Shared) (H : Hp) (C' : Addr) (cl : List (Str × Addr)) (fp : List Addr), JTs (X.blk s H scope (compEnvC scope cl C' X.env) fp) ifs (tt s H C' cl fp) C)
    (h1 : ∀ (s : Shared) (H : Hp) (C : Addr) (cl : List (Str × Addr)) (fp : List Addr), JE (X.blk s H scope (compEnvC scope cl C X.env) fp) (fun _ _ _ _ => False) iter1 (te1 s H C cl fp) T1)
    (hg1 : ∀ (s : Shared) (H : Hp) (C : Addr) (cl : List (Str × Addr)) (fp : List Addr), JG (X.blk s H scope (compEnvC scope cl C X.env) fp) tg1 (g1 s H C cl fp) G1) (hk1 : GK vs1 (g1 {} (fun _ => none) 0 [] [])) (ht1 : ∀ (s : Shared) (H : Hp) (C' : Addr) (cl : List (Str × Addr)) (fp : List Addr), JTs (X.blk s H scope (compEnvC scope cl C' X.env) fp) ifs1 (tt1 s H C' cl fp) C1)
    (he : ∀ (s : Shared) (H : Hp) (C : Addr) (cl : List (Str × Addr)) (fp : List Addr), JE (X.blk s H scope (compEnvC scope cl C X.env) fp) (fun _ _ _ _ => False) elt (te s H C cl fp) Te) (hy : X.N[i]? = some y := by rfl) (hyl : X.env.scope.names.lookup y = some .local := by rfl)
    (hsw : swapsWith (.ListComp elt [⟨tg, iter, ifs, 0⟩, ⟨tg1, iter1, ifs1, 0⟩] scope pos) (some (.Name y py)) spos.line X.env = pure true := by exact sw_true rfl rfl rfl (by decide +kernel)) (hs : ∀ x, foldedSetIterable iter X.env x = pure x := by intro _; rfl) (hs1 : ∀ env x, foldedSetIterable iter1 env x = pure x := by intro _ _; rfl)
    (eg : ∀ s H C cl fp, g s H C cl fp = g {} (fun _ => none) 0 [] [] := by intros; rfl) (et : ∀ s H C cl fp, tt s H C cl fp = tt {} (fun _ => none) 0 [] [] := by intros; rfl) (ee : ∀ s H C cl fp, te s H C cl fp = te {} (fun _ => none) 0 [] [] := by intros; rfl)
    (eg1 : ∀ s H C cl fp, g1 s H C cl fp = g1 {} (fun _ => none) 0 [] [] := by intros; rfl) (et1 : ∀ s H C cl fp, tt1 s H C cl fp = tt1 {} (fun _ => none) 0 [] [] := by intros; rfl) (ee1 : ∀ s H C cl fp, te1 s H C cl fp = te1 {} (fun _ => none) 0 [] [] := by intros; rfl) :
    JS X W (.Assign [.Name y py] (.ListComp elt [⟨tg, iter, ifs, 0⟩, ⟨tg1, iter1, ifs1, 0⟩] scope pos) spos) (tAsg (tLc2 wi (g {} (fun _ => none) 0 [] []) (tt {} (fun _ => none) 0 [] []) (iList X.K (te1 {} (fun _ => none) 0 [] [])) (g1 {} (fun _ => none) 0 [] []) (tt1 {} (fun _ => none) 0 [] []) (te {} (fun _ => none) 0 [] []) (own.map (·.2)) vs1) (gName i)) (sAsg (dLc2 I G C T1 G1 C1 Te (own.map (·.2)) vs1 Fin) (nmG i)) :=
  ⟨ps_setLc2 hc hN hy hyl hsw hi.pi ok hv (fun s H C cl fp => eg s H C cl fp ▸ (hg s H C cl fp).pg) (fun s H C cl fp => et s H C cl fp ▸ (ht s H C cl fp).pts) (fun s H C cl fp => ee1 s H C cl fp ▸ pi_list (h1 s H C cl fp).pe) (fun s H C cl fp => eg1 s H C cl fp ▸ (hg1 s H C cl fp).pg) (fun s H C cl fp => et1 s H C cl fp ▸ (ht1 s H C cl fp).pts) (fun s H C cl fp => ee s H C cl fp ▸ (he s H C cl fp).pe) hs hs1,
    sem_asg (sem_lc2 hi.sem (hg {} (fun _ => none) 0 [] []).sem hk (ht {} (fun _ => none) 0 [] []).sem (h1 {} (fun _ => none) 0 [] []).sem (hg1 {} (fun _ => none) 0 [] []).sem hk1 (ht1 {} (fun _ => none) 0 [] []).sem (he {} (fun _ => none) 0 [] []).sem hf) (sem_nmG i)⟩
end
/-- a part of a tuple, not the whole -/
def dSlT (d : D) (lo hi : Option Int) (S : Sto) (Φ : KD) : Prop := ∃ ds, d = .tup ds ∧ ¬ (HT.sIx ds.length 0 lo = 0 ∧ HT.sIx ds.length ds.length hi = ds.length) ∧ Φ S (.tup (cutD ds lo hi))
section
variable {Γ : Gam} {S : Sto} {Φ : KD} {Ψ : KX}
theorem dSlT_t {ds : List D} {lo hi : Option Int} : dSlT (.tup ds) lo hi S Φ = (¬ (HT.sIx ds.length 0 lo = 0 ∧ HT.sIx ds.length ds.length hi = ds.length) ∧ Φ S (.tup (cutD ds lo hi))) := propext ⟨fun ⟨_, e, h⟩ => by cases e; exact h, fun h => ⟨_, rfl, h⟩⟩
theorem dLc2_e {I : TId} {G G1 : TGd} {C C1 : TB} {T1 Te : TD} {vs vs1 : List Nat} {Fin : List D → Sto → KD → Prop} : dLc2 I G C T1 G1 C1 Te vs vs1 Fin Γ S Φ Ψ = I Γ S (fun S1 src => ∃ (P : Nat → List D → Sto → Prop) (n : Nat), P 0 [] S1 ∧
  (∀ i acc S', i ≤ n → P i acc S' → ∃ ds, src S' = some ds ∧ ds.length = n) ∧
  (∀ i acc S' ds d, P i acc S' → src S' = some ds → ds[i]? = some d → G d (gwipe Γ vs) S' fun Γ2 S2 => C Γ2 S2 (fun S3 k => if k = true then
      T1 Γ2 S3 (fun S4 d4 => (∃ ds, asQ S4 d4 = some ds) ∧ ∃ (P1 : Nat → List D → Sto → Prop) (n1 : Nat), P1 0 acc S4 ∧
        (∀ j acc1 S5, j ≤ n1 → P1 j acc1 S5 → ∃ ds1, asQ S5 d4 = some ds1 ∧ ds1.length = n1) ∧
        (∀ j acc1 S5 ds1 d1, P1 j acc1 S5 → asQ S5 d4 = some ds1 → ds1[j]? = some d1 → G1 d1 (gwipe Γ2 vs1) S5 fun Γ3 S6 => C1 Γ3 S6 (fun S7 k1 => if k1 = true then Te Γ3 S7 (fun S8 y => acc1.length < sizeLine ∧ P1 (j + 1) (acc1 ++ [y]) S8) (fun _ _ => False) else P1 (j + 1) acc1 S7) (fun _ _ => False)) ∧
        (∀ acc1 S5, P1 n1 acc1 S5 → P (i + 1) acc1 S5)) (fun _ _ => False) else P (i + 1) acc S3) (fun _ _ => False)) ∧
  (∀ acc S', P n acc S' → Fin acc S' Φ)) Ψ := rfl
end
end DL
namespace DL
open PySem PySem.Spec PyProof.Rows L2
/-- the dict of the modules is known as such -/
def ModK (K : PySem.W.Frag) : Prop := ∃ o, K.lookup sysModules = some o ∧ o.cls = .type "dict"
def keyP : Key → PyData
  | .inl i => .int i
  | .inr x => .str x
mutual
inductive DpX (K : PySem.W.Frag) (H : Hp) : V → PyData → Prop
  | non : DpX K H .non .none
  | bl (b : Bool) : DpX K H (.bl b) (.bool b)
  | int (i : Int) : DpX K H (.int i) (.int i)
  | str (x : Str) : DpX K H (.str x) (.str x)
  | lst {a : Addr} {xs : List V} {ds : List PyData} : SqL K H a xs → DpXA K H xs ds → DpX K H (.ref a) (.list ds)
  | tup {a : Addr} {xs : List V} {ds : List PyData} : SqT K H a xs → DpXA K H xs ds → DpX K H (.ref a) (.tuple ds)
  | dic {a : Addr} {vs : List (Key × V)} {ps : List (PyData × PyData)} : H a = some (.dK vs) → DpXK K H vs ps → DpX K H (.ref a) (.dict ps)
inductive DpXA (K : PySem.W.Frag) (H : Hp) : List V → List PyData → Prop
  | nil : DpXA K H [] []
  | cons {v : V} {vs : List V} {d : PyData} {ds : List PyData} : DpX K H v d → DpXA K H vs ds → DpXA K H (v :: vs) (d :: ds)
inductive DpXK (K : PySem.W.Frag) (H : Hp) : List (Key × V) → List (PyData × PyData) → Prop
  | nil : DpXK K H [] []
  | cons {k : Key} {v : V} {vs : List (Key × V)} {d : PyData} {ds : List (PyData × PyData)} : DpX K H v d → DpXK K H vs ds → DpXK K H ((k, v) :: vs) ((keyP k, d) :: ds)
end
section
variable {X : Cx} {pins : List (Addr × Obj)} {σ : L2.St} {H : Hp} {s : Shared}
theorem mod_free (I : L2.Inv X pins σ H s) (hM : ModK X.K) : H sysModules = none := by
  obtain ⟨o, e, _⟩ := hM
  have b := I.ok.mod.kin _ _ e
  obtain ⟨h1, h2⟩ := I.ok.bs _ _ b
  exact I.base.free _ _ h1 h2 (I.ok.noex _ _ b)
theorem not_mod (I : L2.Inv X pins σ H s) (hM : ModK X.K) {a : Addr} {xs : List V} (h : SqL X.K H a xs) : a ≠ sysModules := by
  rintro rfl
  rcases h with (h | ⟨o, h⟩) | ⟨o, _, _, h, hc, _⟩
  · rw [mod_free I hM] at h; cases h
  · rw [mod_free I hM] at h; cases h
  · obtain ⟨o2, e, c⟩ := hM
    rw [e] at h
    cases h
    rw [hc] at c
    injection c with c
    exact absurd c (by decide)
theorem key_reads {h : Heap} {k : Key} {u : Value} (e : keyIs k u = true) : Reads h u (keyP k) [] := by
  cases k with
  | inl i =>
    cases u <;> first | (exact absurd e Bool.false_ne_true) | (have e : (_ == _) = true := e; rw [beq_iff_eq] at e; subst e; exact .int _ _)
  | inr x =>
    cases u <;> first | (exact absurd e Bool.false_ne_true) | (have e : (_ == _) = true := e; rw [beq_iff_eq] at e; subst e; exact .str _ _)
mutual
theorem DpX.reads (I : L2.Inv X pins σ H s) (hM : ModK X.K) : ∀ (d : PyData) (v : V) (u : Value), DpX X.K H v d → RelV v u → ∃ as, Reads s.heap u d as ∧ sysModules ∉ as
  | .none, _, u, h, r => by
    cases h
    have r : u = .none := r
    subst r
    exact ⟨[], .none, fun z => nomatch z⟩
  | .bool b, _, u, h, r => by
    cases h
    have r : u = .bool b := r
    subst r
    exact ⟨[], .bool b, fun z => nomatch z⟩
  | .int i, _, u, h, r => by
    cases h
    obtain ⟨t, r⟩ : ∃ t, u = .int i t := r
    subst r
    exact ⟨[], .int i t, fun z => nomatch z⟩
  | .str x, _, u, h, r => by
    cases h
    obtain ⟨t, r⟩ : ∃ t, u = .str x t := r
    subst r
    exact ⟨[], .str x t, fun z => nomatch z⟩
  | .list ds, _, u, h, r => by
    cases h with
    | @lst a xs _ hs ha =>
      have r : u = .ref a := r
      subst r
      obtain ⟨its, rv, pl, _⟩ := I.list hs
      obtain ⟨as, h1, h2⟩ := DpXA.reads I hM ds xs its ha rv
      obtain ⟨o, n, ho, hc, _, hd⟩ := pl
      exact ⟨a :: as, .list ho hc hd (by rw [List.toList_toArray]; exact h1), fun z => (List.mem_cons.mp z).elim (fun e => not_mod I hM hs e.symm) h2⟩
  | .tuple ds, _, u, h, r => by
    cases h with
    | @tup a xs _ hs ha =>
      have r : u = .ref a := r
      subst r
      obtain ⟨its, rv, pl, _⟩ := I.tuple hs
      obtain ⟨as, h1, h2⟩ := DpXA.reads I hM ds xs its ha rv
      obtain ⟨o, ho, hc, n, hd⟩ := pl
      exact ⟨as, .tuple ho hc hd (by rw [List.toList_toArray]; exact h1), h2⟩
  | .dict ps, _, u, h, r => by
    cases h with
    | @dic a vs _ hs ha =>
      have r : u = .ref a := r
      subst r
      obtain ⟨_, ne, ws, kv, o, es, ep, ho, ⟨c1, _, _⟩, hd, _, pr, _⟩ := I.hok a _ hs
      obtain ⟨as, h1, h2, h3⟩ := DpXK.reads I hM ps vs ws es.toList ha kv pr
      exact ⟨a :: [] ++ as, .dict ho c1 hd h1 h2, fun z => (List.mem_cons.mp z).elim (fun e => by rw [e] at ne; simp at ne) h3⟩
theorem DpXA.reads (I : L2.Inv X pins σ H s) (hM : ModK X.K) : ∀ (ds : List PyData) (vs : List V) (us : List Value), DpXA X.K H vs ds → Vals vs us → ∃ as, ReadsAll s.heap us ds as ∧ sysModules ∉ as
  | [], _, us, h, r => by
    cases h
    cases r
    exact ⟨[], .nil, fun z => nomatch z⟩
  | d :: ds, _, us, h, r => by
    cases h with
    | cons h1 h2 =>
      cases r with
      | cons r1 r2 =>
        obtain ⟨as, a1, a2⟩ := DpX.reads I hM d _ _ h1 r1
        obtain ⟨bs, b1, b2⟩ := DpXA.reads I hM ds _ _ h2 r2
        exact ⟨as ++ bs, .cons a1 b1, fun z => (List.mem_append.mp z).elim a2 b2⟩
theorem DpXK.reads (I : L2.Inv X pins σ H s) (hM : ModK X.K) : ∀ (ps : List (PyData × PyData)) (vs : List (Key × V)) (ws : List (Key × Value)) (es : List DictEntry), DpXK X.K H vs ps → KV vs ws → Pairs (mixKind X.prog X.w) es ws →
    ∃ as, ReadsAll s.heap (es.map (·.key)) (ps.map (·.1)) [] ∧ ReadsAll s.heap (es.map (·.val)) (ps.map (·.2)) as ∧ sysModules ∉ as
  | [], _, ws, es, h, r, q => by
    cases h
    cases r
    cases q
    exact ⟨[], .nil, .nil, fun z => nomatch z⟩
  | p :: ps, _, ws, es, h, r, q => by
    cases h with
    | cons h1 h2 =>
      cases r with
      | cons r1 r2 =>
        cases q with
        | cons q1 q2 q3 =>
          obtain ⟨e1, e2⟩ := r1
          obtain ⟨as, a1, a2⟩ := DpX.reads I hM _ _ _ h1 e2
          obtain ⟨bs, b1, b2, b3⟩ := DpXK.reads I hM ps _ _ _ h2 r2 q3
          refine ⟨as ++ bs, ?_, ?_, fun z => (List.mem_append.mp z).elim a2 b3⟩
          · have k1 := key_reads (h := s.heap) (show keyIs _ _ = true from q1)
            rw [← e1] at k1
            exact .cons (as := []) k1 b1
          · rw [List.map_cons, List.map_cons, q2]
            exact .cons a1 b2
end
end
def dDic1 (T : TD) (k : Str) : TD := fun Γ S Φ Ψ => T Γ S (fun S1 d => Φ S1 (.dic [(.inr k, d)])) Ψ
def dDic0 : TD := fun Γ S Φ Ψ => Φ S (.dic [])
section
variable {X : Cx} {W : WX} {e : Expr} {te : TE} {Te : TD} {pos p : Pos} {j : Nat} {k : Str}
/-- an object in the making, tracked from here on -/
theorem Good.made {K : PySem.W.Frag} {w : Hs} {S : Sto} (g : Good K w S) {p : Addr} (o : HO) (hF : w.F p = none) (hA : p ∉ w.al) : Good K ⟨upd w.F p o, w.al, upd w.H p o⟩ S := by
  refine ⟨fun a x q => ?_, g.nd, g.len, fun n a c q1 q2 => ?_, fun a q => ?_⟩
  · have q2 : upd w.F p o a = some x := q
    show upd w.H p o a = some x
    by_cases z : a = p
    · subst z; rw [upd_same] at q2 ⊢; exact q2
    · rw [upd_ne z] at q2 ⊢; exact g.sub a x q2
  · have hne : a ≠ p := fun z => hA (z ▸ List.mem_of_getElem? q1)
    have eF : ∀ b x, w.F b = some x → upd w.F p o b = some x := updF hF
    cases c with
    | gone => exact True.intro
    | lst ds =>
      obtain ⟨h1, ys, h2, h3⟩ := g.cell n a _ q1 q2
      exact ⟨by show upd w.F p o a = none; rw [upd_ne hne]; exact h1, ys, by show upd w.H p o a = _; rw [upd_ne hne]; exact h2, RpA.mono eF (fun _ _ z => z) ds ys h3⟩
    | ins C fs =>
      obtain ⟨h1, dx, ys, h2, h3⟩ := g.cell n a _ q1 q2
      exact ⟨by show upd w.F p o a = none; rw [upd_ne hne]; exact h1, dx, ys, by show upd w.H p o a = _; rw [upd_ne hne]; exact h2, RpF.mono eF (fun _ _ z => z) fs ys h3⟩
    | dct ks =>
      obtain ⟨h1, us, h2, h3⟩ := g.cell n a _ q1 q2
      exact ⟨by show upd w.F p o a = none; rw [upd_ne hne]; exact h1, us, by show upd w.H p o a = _; rw [upd_ne hne]; exact h2, h3.mono eF (fun _ _ z => z)⟩
    | dck ks =>
      obtain ⟨h1, us, h2, h3⟩ := g.cell n a _ q1 q2
      exact ⟨by show upd w.F p o a = none; rw [upd_ne hne]; exact h1, us, by show upd w.H p o a = _; rw [upd_ne hne]; exact h2, RpK.mono eF (fun _ _ z => z) ks us h3⟩
    | lck o' us ks =>
      obtain ⟨h1, h2, h3⟩ := g.cell n a _ q1 q2
      exact ⟨by show upd w.F p o a = none; rw [upd_ne hne]; exact h1, by show upd w.H p o a = _; rw [upd_ne hne]; exact h2, RpK.mono eF (fun _ _ z => z) ks us h3⟩
    | lct o' us ks =>
      obtain ⟨h1, h2, h3⟩ := g.cell n a _ q1 q2
      exact ⟨by show upd w.F p o a = none; rw [upd_ne hne]; exact h1, by show upd w.H p o a = _; rw [upd_ne hne]; exact h2, h3.mono eF (fun _ _ z => z)⟩
    | tpl ks =>
      obtain ⟨h1, h2⟩ := g.cell n a _ q1 q2
      exact ⟨by show upd w.F p o a = none; rw [upd_ne hne]; exact h1, by show upd w.H p o a = _; rw [upd_ne hne]; exact h2⟩
  · show upd w.H p o a ≠ none
    by_cases z : a = p
    · rw [z, upd_same]; exact fun z => nomatch z
    · rw [upd_ne z]; exact g.dom a q
theorem Ext.made {w0 w : Hs} (e : Ext w0 w) {p : Addr} (o : HO) (h0 : w0.H p = none) (hF : w.F p = none) : Ext w0 ⟨upd w.F p o, w.al, upd w.H p o⟩ := by
  refine ⟨fun a x z => updF hF a x (e.f a x z), e.al, fun a x z => ?_, fun a x q n => ?_, fun a q => ?_⟩
  · by_cases y : a = p
    · subst y; exact .inr (.inl h0)
    · have z : upd w.F p o a = some x := z
      rw [upd_ne y] at z
      exact e.new a x z
  · show upd w.H p o a = some x
    rw [upd_ne (ne_of_none q h0)]; exact e.kp a x q n
  · show upd w.H p o a ≠ none
    by_cases z : a = p
    · rw [z, upd_same]; exact fun z => nomatch z
    · rw [upd_ne z]; exact e.dm a q
end
section
variable {Γ : Gam} {S : Sto} {Φ : KD} {Ψ : KX}
theorem dDic0_e : dDic0 Γ S Φ Ψ = Φ S (.dic []) := rfl
theorem dDic1_e {T : TD} {k : Str} : dDic1 T k Γ S Φ Ψ = T Γ S (fun S1 d => Φ S1 (.dic [(.inr k, d)])) Ψ := rfl
end
end DL
namespace DL
open PySem PySem.Spec PyProof.Rows L2
/-- as Room, whatever is handled -/
structure RoomH (k : Nat) (A : Around) : Prop where
  dp : A.depth + 3 * k + 5 < recursionLimit
  un : A.units + 16 * k + 200 < cLine
theorem RoomH.mono {k n : Nat} {A : Around} (r : RoomH k A) (h : n ≤ k) : RoomH n A := ⟨by have := r.dp; omega, by have := r.un; omega⟩
theorem RoomH.deeper {k : Nat} {A : Around} (r : RoomH (k + 1) A) (env : Env) : RoomH k (A.deeper env) :=
  ⟨by have := r.dp; show A.depth + 1 + 3 * k + 5 < _; omega, by have := r.un; show A.units + 3 + 16 * k + 200 < _; omega⟩
theorem RoomH.depth {k : Nat} {A : Around} (r : RoomH k A) : A.depth < recursionLimit := by have := r.dp; omega
theorem RoomH.units {k : Nat} {A : Around} (r : RoomH k A) : A.units + 64 < cLine := by have := r.un; omega
end DL
namespace DL
open PySem PySem.Spec PyProof.Rows L2
section
variable (K : PySem.W.Frag) (W : WX)
structure RlF (σ : L2.St) (Γ : Gam) (w : Hs) (D' : EdD) (D : Ends) : Prop where
  nx : ∀ w' S', Ext w w' → Good K w' S' → D'.nx Γ S' → D.nx σ w'.H
  rt : OkD K w D'.rt D.rt
  er : OkX K W w D'.er σ
end
section
variable {K : PySem.W.Frag} {W : WX} {w w' : Hs}
theorem RlF.ext {σ : L2.St} {Γ : Gam} {D' : EdD} {D : Ends} (h : RlF K W σ Γ w D' D) (e : Ext w w') : RlF K W σ Γ w' D' D := ⟨fun w2 S2 e2 => h.nx w2 S2 (e.trans e2), h.rt.ext e, h.er.ext e⟩
end
/-- try: T / except of Cs as the name at i: U -/
def sTryH (Cs : List Addr) (i : Nat) (T U : TSd) : TSd := fun E Γ S => T { nx := E.nx, rt := E.rt, er := fun S1 x => x.cls ∈ Cs ∧ i < Γ.length ∧ U { nx := fun Γ' S' => E.nx (Γ'.set i none) S', rt := E.rt, er := fun _ _ => False } (Γ.set i (some (.exc x.cls x.fs))) S1 } Γ S
end DL
namespace DL
open PySem PySem.Spec PyProof.Rows L2
/-- the different ones among ns -/
def uniqI (ns : List Int) : List Int := PyProof.Rows.firstMet (fun i => ns.getD i 0) ns.length
section
variable {X : Cx} {W : WX} {e : Expr} {te : TE} {Te : TD}
def dLenSetG (T : TD) : TD := fun Γ S Φ Ψ => T Γ S (fun S1 d => ∃ ns : List Int, asQ S1 d = some (ns.map D.int) ∧ ns.length ≤ 4000 ∧ Φ S1 (.int (uniqI ns).length)) Ψ
variable {Γ : Gam} {S : Sto} {Φ : KD} {Ψ : KX}
theorem dLenSetG_e {T : TD} : dLenSetG T Γ S Φ Ψ = T Γ S (fun S1 d => ∃ ns : List Int, asQ S1 d = some (ns.map D.int) ∧ ns.length ≤ 4000 ∧ Φ S1 (.int (uniqI ns).length)) Ψ := rfl
end
end DL
namespace DL
open PySem PySem.Spec PyProof.Rows L2
def dIsB (x y : D) (S : Sto) (Φ : KD) : Prop := match x, y with
  | .bl a, .bl b => Φ S (.bl (decide (a = b)))
  | _, _ => False
theorem dIsB_b {a b : Bool} {S : Sto} {Φ : KD} : dIsB (.bl a) (.bl b) S Φ = Φ S (.bl (decide (a = b))) := rfl
/-- showable, of depth n at most, its text m long at most -/
structure FitX (n m : Nat) (p : PyData) : Prop where
  show_ : p.showable = true
  deep : p.depth ≤ n
  len : p.shown.length ≤ m
theorem FitX.mono {n m n' m' : Nat} {p : PyData} (h : FitX n m p) (a : n ≤ n') (b : m ≤ m') : FitX n' m' p := ⟨h.show_, Nat.le_trans h.deep a, Nat.le_trans h.len b⟩
end DL
namespace DL
open PySem PySem.Spec PyProof.Rows L2
theorem sTryH_e {E : EdD} {Cs : List Addr} {i : Nat} {T U : TSd} {Γ : Gam} {S : Sto} : sTryH Cs i T U E Γ S = T { nx := E.nx, rt := E.rt, er := fun S1 x => x.cls ∈ Cs ∧ i < Γ.length ∧ U { nx := fun Γ' S' => E.nx (Γ'.set i none) S', rt := E.rt, er := fun _ _ => False } (Γ.set i (some (.exc x.cls x.fs))) S1 } Γ S := rfl
end DL
namespace DL
open PySem PySem.Spec PyProof.Rows L2
/-- a tuple behind a tuple, both of something -/
def dAddT (x y : D) (S : Sto) (Φ : KD) : Prop := ∃ ds es, x = .tup ds ∧ y = .tup es ∧ ds ≠ [] ∧ es ≠ [] ∧ ds.length + es.length ≤ sizeLine ∧ Φ S (.tup (ds ++ es))
section
variable {S : Sto} {Φ : KD}
theorem dAddT_t {ds es : List D} : dAddT (.tup ds) (.tup es) S Φ = (ds ≠ [] ∧ es ≠ [] ∧ ds.length + es.length ≤ sizeLine ∧ Φ S (.tup (ds ++ es))) := propext ⟨fun ⟨_, _, e1, e2, h⟩ => by cases e1; cases e2; exact h, fun h => ⟨_, _, rfl, rfl, h⟩⟩
end
end DL
namespace DL
open PySem PySem.Spec PyProof.Rows L2
section
variable {X : Cx} {W : WX} {a b e : Expr} {ta : TA} {te : TE} {p p2 pos pos2 tpos : Pos} {elts : List Expr} {kk : Nat}
/-- zip(range(a, b), e) -/
def iZrD (T : TL) (U : TD) : TId := fun Γ S Φ Ψ => T Γ S (fun S1 ds => ∃ i j : Int, ds = [.int i, .int j] ∧ (-(2 ^ 62) ≤ i ∧ i < 2 ^ 62 ∧ -(2 ^ 62) ≤ j ∧ j < 2 ^ 62) ∧ U Γ S1 (fun S2 d => (∃ ys, asQ S2 d = some ys) ∧ Φ S2 (fun S' => (asQ S' d).map fun ys => zipD (rngD i (j - i).toNat) ys)) Ψ) Ψ
section
variable {Γ : Gam} {S : Sto} {Ψ : KX}
theorem iZrD_e {T : TL} {U : TD} {Φ : Sto → Src → Prop} : iZrD T U Γ S Φ Ψ = T Γ S (fun S1 ds => ∃ i j : Int, ds = [.int i, .int j] ∧ (-(2 ^ 62) ≤ i ∧ i < 2 ^ 62 ∧ -(2 ^ 62) ≤ j ∧ j < 2 ^ 62) ∧ U Γ S1 (fun S2 d => (∃ ys, asQ S2 d = some ys) ∧ Φ S2 (fun S' => (asQ S' d).map fun ys => zipD (rngD i (j - i).toNat) ys)) Ψ) Ψ := rfl
end
end
end DL
namespace DL
open PySem PySem.Spec PyProof.Rows L2
def kD : Key → D
  | .inl i => .int i
  | .inr x => .str x
theorem kD_inj : ∀ {k j : Key}, kD k = kD j → k = j
  | .inl _, .inl _, e => by cases e; rfl
  | .inr _, .inr _, e => by cases e; rfl
  | .inl _, .inr _, e => by cases e
  | .inr _, .inl _, e => by cases e
def atD (ks : List (Key × D)) (k : Key) : Option D := (ks.find? fun p => decide (p.1 = k)).map (·.2)
def pKD (ks : List (Key × D)) (k : Key) (d : D) : List (Key × D) :=
  if (ks.any fun p => decide (p.1 = k)) = true then ks.map (fun p => if p.1 = k then (p.1, d) else p) else ks ++ [(k, d)]
section
variable {K : PySem.W.Frag} {F : Hp} {al : List Addr}
theorem RpK.len : ∀ {us : List (Key × V)} {ks : List (Key × D)}, RpK K F al us ks → us.length = ks.length
  | _, _, .nil => rfl
  | _, _, .cons _ t => by rw [List.length_cons, List.length_cons, RpK.len t]
end
def dNewK : TD := fun Γ S Φ Ψ => Φ (S ++ [.dck []]) (.own S.length)
/-- {k: v} -/
def dDis1 (Tk Tv : TD) : TD := fun Γ S Φ Ψ => Tk Γ S (fun S1 y => Tv Γ S1 (fun S2 z => ∃ k, y = kD k ∧ Φ (S2 ++ [.dck [(k, z)]]) (.own S2.length)) Ψ) Ψ
section
variable {X : Cx} {W : WX} {e k v o i f value : Expr} {pos pos' apos cpos mpos p : Pos} {te tk tv to ti tx : TE} {Te Tk Tv To Ti Tx : TD}
/-- d[k] = v -/
def sDkp (Tv To Ti : TD) : TSd := fun E Γ S => Tv Γ S (fun S1 v => To Γ S1 (fun S2 o => Ti Γ S2 (fun S3 y => ∃ h ks k, o = .own h ∧ y = kD k ∧ S3[h]? = some (.dck ks) ∧ ks.length < 1000000 ∧ E.nx Γ (S3.set h (.dck (pKD ks k v)))) E.er) E.er) E.er
/-- d[k] -/
def dDGet (To Ti : TD) : TD := fun Γ S Φ Ψ => To Γ S (fun S1 o => Ti Γ S1 (fun S2 y => ∃ h ks k d, o = .own h ∧ y = kD k ∧ S2[h]? = some (.dck ks) ∧ atD ks k = some d ∧ Φ S2 d) Ψ) Ψ
/-- d.get(k, x) -/
def dDGet2 (To Ti Tx : TD) : TD := fun Γ S Φ Ψ => To Γ S (fun S1 o => ∃ h ks, o = .own h ∧ S1[h]? = some (.dck ks) ∧ Ti Γ S1 (fun S2 y => Tx Γ S2 (fun S3 z => ∃ ks k, y = kD k ∧ S3[h]? = some (.dck ks) ∧ Φ S3 ((atD ks k).getD z)) Ψ) Ψ) Ψ
def dLVals (To : TD) : TD := fun Γ S Φ Ψ => To Γ S (fun S1 o => ∃ h ks, o = .own h ∧ S1[h]? = some (.dck ks) ∧ Φ S1 (.lst (ks.map (·.2)))) Ψ
end
section
variable {Γ : Gam} {S : Sto} {Φ : KD} {Ψ : KX} {To Ti Tx Tk Tv : TD}
theorem dNewK_e : dNewK Γ S Φ Ψ = Φ (S ++ [Cell.dck []]) (.own S.length) := rfl
theorem dDis1_e : dDis1 Tk Tv Γ S Φ Ψ = Tk Γ S (fun S1 y => Tv Γ S1 (fun S2 z => ∃ k, y = kD k ∧ Φ (S2 ++ [.dck [(k, z)]]) (.own S2.length)) Ψ) Ψ := rfl
theorem sDkp_e {E : EdD} : sDkp Tv To Ti E Γ S = Tv Γ S (fun S1 v => To Γ S1 (fun S2 o => Ti Γ S2 (fun S3 y => ∃ h ks k, o = .own h ∧ y = kD k ∧ S3[h]? = some (.dck ks) ∧ ks.length < 1000000 ∧ E.nx Γ (S3.set h (.dck (pKD ks k v)))) E.er) E.er) E.er := rfl
theorem dDGet_e : dDGet To Ti Γ S Φ Ψ = To Γ S (fun S1 o => Ti Γ S1 (fun S2 y => ∃ h ks k d, o = .own h ∧ y = kD k ∧ S2[h]? = some (.dck ks) ∧ atD ks k = some d ∧ Φ S2 d) Ψ) Ψ := rfl
theorem dDGet2_e : dDGet2 To Ti Tx Γ S Φ Ψ = To Γ S (fun S1 o => ∃ h ks, o = .own h ∧ S1[h]? = some (.dck ks) ∧ Ti Γ S1 (fun S2 y => Tx Γ S2 (fun S3 z => ∃ ks k, y = kD k ∧ S3[h]? = some (.dck ks) ∧ Φ S3 ((atD ks k).getD z)) Ψ) Ψ) Ψ := rfl
theorem dLVals_e : dLVals To Γ S Φ Ψ = To Γ S (fun S1 o => ∃ h ks, o = .own h ∧ S1[h]? = some (.dck ks) ∧ Φ S1 (.lst (ks.map (·.2)))) Ψ := rfl
/-- a key that is an int -/
theorem kD_ex_i {i : Int} {P : Key → Prop} : (∃ k, D.int i = kD k ∧ P k) = P (.inl i) := by
  refine propext ⟨fun h => ?_, fun h => ⟨.inl i, rfl, h⟩⟩
  obtain ⟨k, e, h⟩ := h
  have e2 : k = .inl i := kD_inj (k := k) (j := .inl i) e.symm
  rw [← e2]
  exact h
end
end DL
namespace DL
open PySem PySem.Spec PyProof.Rows L2
def ltP (a b : Int × Int) : Prop := a.1 < b.1 ∨ (a.1 = b.1 ∧ a.2 < b.2)
def dSS (I : TId) (G : TGd) (Te : TD) (vs : List Nat) : TD := fun Γ S Φ Ψ => I Γ S (fun S1 src => ∃ (ps : List (Int × Int)) (ds : List D), src S1 = some ds ∧ ds.length = ps.length ∧ ps.length < 64 ∧ (∀ p ∈ ps, 0 ≤ p.1 ∧ 0 ≤ p.2) ∧
  (∀ (i : Nat) (d : D) (p : Int × Int), ds[i]? = some d → ps[i]? = some p → G d (gwipe Γ vs) S1 fun Γ2 S2 => S2 = S1 ∧ Te Γ2 S1 (fun S3 z => S3 = S1 ∧ z = prD p) (fun _ _ => False)) ∧
  (∀ qs : List (Int × Int), (∀ p, p ∈ qs ↔ p ∈ ps) → qs.Pairwise ltP → Φ S1 (.lst (qs.map prD)))) Ψ
section
variable {Γ : Gam} {S : Sto} {Φ : KD} {Ψ : KX}
theorem dSS_e {I : TId} {G : TGd} {Te : TD} {vs : List Nat} : dSS I G Te vs Γ S Φ Ψ = I Γ S (fun S1 src => ∃ (ps : List (Int × Int)) (ds : List D), src S1 = some ds ∧ ds.length = ps.length ∧ ps.length < 64 ∧ (∀ p ∈ ps, 0 ≤ p.1 ∧ 0 ≤ p.2) ∧
  (∀ (i : Nat) (d : D) (p : Int × Int), ds[i]? = some d → ps[i]? = some p → G d (gwipe Γ vs) S1 fun Γ2 S2 => S2 = S1 ∧ Te Γ2 S1 (fun S3 z => S3 = S1 ∧ z = prD p) (fun _ _ => False)) ∧
  (∀ qs : List (Int × Int), (∀ p, p ∈ qs ↔ p ∈ ps) → qs.Pairwise ltP → Φ S1 (.lst (qs.map prD)))) Ψ := rfl
end
end DL
namespace DL
open PySem PySem.Spec PyProof.Rows L2
def dMulI (x y : D) (S : Sto) (Φ : KD) : Prop := ∃ i j, x = .int i ∧ y = .int j ∧ CMulA i j ∧ Φ S (.int (i * j))
section
variable {S : Sto} {Φ : KD}
theorem dMulI_i {i j : Int} : dMulI (.int i) (.int j) S Φ = (CMulA i j ∧ Φ S (.int (i * j))) := propext ⟨fun ⟨_, _, e1, e2, h⟩ => by cases e1; cases e2; exact h, fun h => ⟨_, _, rfl, rfl, h⟩⟩
end
end DL
namespace DL
open PySem PySem.Spec PyProof.Rows L2
def dST (T : TD) : TD := fun Γ S Φ Ψ => T Γ S (fun S1 d => ∃ ps : List (Int × Int), asQ S1 d = some (ps.map prD) ∧ ps.length < 64 ∧ (∀ p ∈ ps, 0 ≤ p.1 ∧ 0 ≤ p.2) ∧ ∀ qs : List (Int × Int), (∀ p, p ∈ qs ↔ p ∈ ps) → qs.Pairwise ltP → Φ S1 (.lst (qs.map prD))) Ψ
section
variable {Γ : Gam} {S : Sto} {Φ : KD} {Ψ : KX}
theorem dST_e {T : TD} : dST T Γ S Φ Ψ = T Γ S (fun S1 d => ∃ ps : List (Int × Int), asQ S1 d = some (ps.map prD) ∧ ps.length < 64 ∧ (∀ p ∈ ps, 0 ≤ p.1 ∧ 0 ≤ p.2) ∧ ∀ qs : List (Int × Int), (∀ p, p ∈ qs ↔ p ∈ ps) → qs.Pairwise ltP → Φ S1 (.lst (qs.map prD))) Ψ := rfl
end
end DL
namespace DL
open PySem PySem.Spec PyProof.Rows L2
section
variable {X : Cx}
def rNotInE (K : PySem.W.Frag) : R2 := fun x y H Q => ∃ d ds, Dp K H x d ∧ Dp K H y (.list ds) ∧ SeqAt.shaped d = true ∧ SeqAt.shaped (.list ds) = true ∧ d.depth < 63 ∧ Q (.bl (!ds.any fun z => PyData.eqv z d)) H
theorem op_notInE (hu : X.A.units + 64 < cLine) : OpR X (compareOp .NotIn) (rNotInE X.K) := fun pins s σ H x y v u Q I rx ry ⟨d, ds, hd, he, sd, se, hn, q⟩ => by
  obtain ⟨as, r1⟩ := Dp.reads I d x v hd rx
  obtain ⟨bs, r2⟩ := Dp.reads I (.list ds) y u he ry
  have : min (PyData.depthAll ds) d.depth ≤ d.depth := Nat.min_le_right _ _
  exact SeqAt.notIn_list_reads r2 r1 (SeqAt.canLay_of_shaped se) (SeqAt.canLay_of_shaped sd) (by omega) ⟨.bl _, H, I, rfl, q⟩
end
def dNotInE (x y : D) (S : Sto) (Φ : KD) : Prop := ∃ p ps, PyR S x p ∧ PyR S y (.list ps) ∧ SeqAt.shaped p = true ∧ SeqAt.shaped (.list ps) = true ∧ p.depth < 63 ∧ Φ S (.bl (!ps.any fun z => PyData.eqv z p))
theorem opd_notInE {K : PySem.W.Frag} : OpD K (rNotInE K) dNotInE := fun w S x y u v Φ Q g r1 r2 ⟨p, ps, h1, h2, h3, h4, h6, h5⟩ q => ⟨p, ps, dp_of g p u x h1 r1, dp_of g (.list ps) v y h2 r2, h3, h4, h6, q _ _ w S (Ext.refl w) g (.bl _) h5⟩
end DL
namespace L2
open PySem PySem.Spec PyProof.Rows
end L2
namespace DL
open PySem PySem.Spec PyProof.Rows L2
/-- sorted(set(xs)): all members, rising -/
def dSI (T : TD) : TD := fun Γ S Φ Ψ => T Γ S (fun S1 d => ∃ ns ms : List Int, asQ S1 d = some (ns.map D.int) ∧ ns.length ≤ 4000 ∧ ms.length < 64 ∧ (∀ k ∈ ns, k ∈ ms) ∧ ∀ qs : List Int, (∀ k, k ∈ qs ↔ k ∈ ns) → qs.Pairwise (· < ·) → Φ S1 (.lst (qs.map D.int))) Ψ
section
variable {Γ : Gam} {S : Sto} {Φ : KD} {Ψ : KX}
theorem dSI_e {T : TD} : dSI T Γ S Φ Ψ = T Γ S (fun S1 d => ∃ ns ms : List Int, asQ S1 d = some (ns.map D.int) ∧ ns.length ≤ 4000 ∧ ms.length < 64 ∧ (∀ k ∈ ns, k ∈ ms) ∧ ∀ qs : List Int, (∀ k, k ∈ qs ↔ k ∈ ns) → qs.Pairwise (· < ·) → Φ S1 (.lst (qs.map D.int))) Ψ := rfl
end
end DL
namespace L2
open PySem PySem.Spec PyProof.Rows
end L2
namespace L2
open PySem PySem.Spec PyProof.Rows
end L2
namespace DL
open PySem PySem.Spec PyProof.Rows L2
section
variable {X : Cx} {es : List Expr}
def lsG (n : Nat) (T : TGs') : TGd := fun d Γ S P => ∃ ds, asQ S d = some ds ∧ ds.length = n ∧ T ds Γ S P
theorem lsG_e {n : Nat} {T : TGs'} {d : D} {Γ : Gam} {S : Sto} {P : Gam → Sto → Prop} : lsG n T d Γ S P = (∃ ds, asQ S d = some ds ∧ ds.length = n ∧ T ds Γ S P) := rfl
end
end DL
namespace DL
open PySem PySem.Spec PyProof.Rows L2
def dIsNB (x y : D) (S : Sto) (Φ : KD) : Prop := match x, y with
  | .bl a, .bl b => Φ S (.bl (!decide (a = b)))
  | _, _ => False
theorem dIsNB_b {a b : Bool} {S : Sto} {Φ : KD} : dIsNB (.bl a) (.bl b) S Φ = Φ S (.bl (!decide (a = b))) := rfl
end DL
namespace L2
open PySem PySem.Spec PyProof.Rows
end L2
namespace DL
open PySem PySem.Spec PyProof.Rows L2
/-- sorted(d), sorted(d, reverse=True): the keys, whole numbers -/
def dSD (b : Bool) (T : TD) : TD := fun Γ S Φ Ψ => T Γ S (fun S1 d => ∃ h ks, ∃ is : List Int, d = .own h ∧ S1[h]? = some (.dck ks) ∧ ks.map (·.1) = is.map Sum.inl ∧ ∀ qs : List Int, qs.Perm is → OrdB b qs → Φ S1 (.lst (qs.map D.int))) Ψ
section
variable {Γ : Gam} {S : Sto} {Φ : KD} {Ψ : KX}
theorem dSD_e {b : Bool} {T : TD} : dSD b T Γ S Φ Ψ = T Γ S (fun S1 d => ∃ h ks, ∃ is : List Int, d = .own h ∧ S1[h]? = some (.dck ks) ∧ ks.map (·.1) = is.map Sum.inl ∧ ∀ qs : List Int, qs.Perm is → OrdB b qs → Φ S1 (.lst (qs.map D.int))) Ψ := rfl
end
end DL
namespace DL
open PySem PySem.Spec PyProof.Rows L2
section
variable {X : Cx} {W : WX} {e : Expr} {te : TE} {Te : TD}
def dRevO (T : TD) : TD := fun Γ S Φ Ψ => T Γ S (fun S1 d => ∃ ds, asQ S1 d = some ds ∧ Φ (S1 ++ [.lst ds.reverse]) (.own S1.length)) Ψ
end
section
variable {Γ : Gam} {S : Sto} {Φ : KD} {Ψ : KX}
theorem dRevO_e {T : TD} : dRevO T Γ S Φ Ψ = T Γ S (fun S1 d => ∃ ds, asQ S1 d = some ds ∧ Φ (S1 ++ [.lst ds.reverse]) (.own S1.length)) Ψ := rfl
end
end DL
namespace L2
open PySem PySem.Spec PyProof.Rows
end L2
namespace DL
open PySem PySem.Spec PyProof.Rows L2
open Classical in
noncomputable def srcK (h : Nat) (o : Obj) (us : List (Key × V)) : Src := fun S => match S[h]? with
  | some (.lck o' us' ks) => if o' = o ∧ us' = us then some (ks.map fun p => kD p.1) else none
  | _ => none
/-- the keys of the locked dict of a name -/
def iKtD (i : Nat) : TId := fun Γ S Φ Ψ => ∃ h o us ks, Γ[i]? = some (some (.own h)) ∧ S[h]? = some (.lck o us ks) ∧ Φ S (srcK h o us)
section
variable {Γ : Gam} {S : Sto} {Ψ : KX}
theorem iKtD_e {i : Nat} {Φ : Sto → Src → Prop} : iKtD i Γ S Φ Ψ = ∃ h o us ks, Γ[i]? = some (some (.own h)) ∧ S[h]? = some (.lck o us ks) ∧ Φ S (srcK h o us) := rfl
end
end DL
namespace DL
open PySem PySem.Spec PyProof.Rows L2
section
variable {X : Cx} {W : WX} {o i : Expr} {to ti : TE} {To Ti : TD} {pos : Pos}
def dDGetL (To Ti : TD) : TD := fun Γ S Φ Ψ => To Γ S (fun S1 x => Ti Γ S1 (fun S2 y => ∃ h ob us ks k d, x = .own h ∧ y = kD k ∧ S2[h]? = some (.lck ob us ks) ∧ atD ks k = some d ∧ Φ S2 d) Ψ) Ψ
end
section
variable {Γ : Gam} {S : Sto} {Φ : KD} {Ψ : KX} {To Ti : TD}
theorem dDGetL_e : dDGetL To Ti Γ S Φ Ψ = To Γ S (fun S1 x => Ti Γ S1 (fun S2 y => ∃ h ob us ks k d, x = .own h ∧ y = kD k ∧ S2[h]? = some (.lck ob us ks) ∧ atD ks k = some d ∧ Φ S2 d) Ψ) Ψ := rfl
end
end DL
namespace DL
open PySem PySem.Spec PyProof.Rows L2
def atT (ks : List (List Key × D)) (ns : List Int) : Option D := (ks.find? fun kv => decide (kv.1 = ns.map Sum.inl)).map (·.2)
/-- (a, b, ..) as a cell -/
def dTupO (T : TL) : TD := fun Γ S Φ Ψ => T Γ S (fun S1 ds => ∃ ns : List Int, ds = ns.map D.int ∧ ns.length ≤ 1000 ∧ Φ (S1 ++ [.tpl ns]) (.own S1.length)) Ψ
/-- y not in d -/
def dNotInT (Ty Td : TD) : TD := fun Γ S Φ Ψ => Ty Γ S (fun S1 y => Td Γ S1 (fun S2 x => ∃ h ks j ns, x = .own h ∧ y = .own j ∧ S2[h]? = some (.dct ks) ∧ S2[j]? = some (.tpl ns) ∧ Φ S2 (.bl (!(atT ks ns).isSome))) Ψ) Ψ
def dInT (Ty Td : TD) : TD := fun Γ S Φ Ψ => Ty Γ S (fun S1 y => Td Γ S1 (fun S2 x => ∃ h ks j ns, x = .own h ∧ y = .own j ∧ S2[h]? = some (.dct ks) ∧ S2[j]? = some (.tpl ns) ∧ Φ S2 (.bl (atT ks ns).isSome)) Ψ) Ψ
/-- d[y] -/
def dGetT (To Ti : TD) : TD := fun Γ S Φ Ψ => To Γ S (fun S1 x => Ti Γ S1 (fun S2 y => ∃ h ks j ns d, x = .own h ∧ y = .own j ∧ S2[h]? = some (.dct ks) ∧ S2[j]? = some (.tpl ns) ∧ atT ks ns = some d ∧ Φ S2 d) Ψ) Ψ
/-- d[y] = v -/
def sPutT (Tv To Ti : TD) : TSd := fun E Γ S => Tv Γ S (fun S1 v => To Γ S1 (fun S2 x => Ti Γ S2 (fun S3 y => ∃ h ks j ns, x = .own h ∧ y = .own j ∧ S3[h]? = some (.dct ks) ∧ S3[j]? = some (.tpl ns) ∧ ks.length < 1000000 ∧
  E.nx Γ (S3.set h (.dct (putT ks (ns.map Sum.inl) v)))) E.er) E.er) E.er
section
variable {Γ : Gam} {S : Sto} {Φ : KD} {Ψ : KX} {E : EdD} {Ty Td To Ti Tv : TD}
theorem dTupO_e {T : TL} : dTupO T Γ S Φ Ψ = T Γ S (fun S1 ds => ∃ ns : List Int, ds = ns.map D.int ∧ ns.length ≤ 1000 ∧ Φ (S1 ++ [.tpl ns]) (.own S1.length)) Ψ := rfl
theorem dNotInT_e : dNotInT Ty Td Γ S Φ Ψ = Ty Γ S (fun S1 y => Td Γ S1 (fun S2 x => ∃ h ks j ns, x = .own h ∧ y = .own j ∧ S2[h]? = some (.dct ks) ∧ S2[j]? = some (.tpl ns) ∧ Φ S2 (.bl (!(atT ks ns).isSome))) Ψ) Ψ := rfl
theorem dInT_e : dInT Ty Td Γ S Φ Ψ = Ty Γ S (fun S1 y => Td Γ S1 (fun S2 x => ∃ h ks j ns, x = .own h ∧ y = .own j ∧ S2[h]? = some (.dct ks) ∧ S2[j]? = some (.tpl ns) ∧ Φ S2 (.bl (atT ks ns).isSome)) Ψ) Ψ := rfl
theorem dGetT_e : dGetT To Ti Γ S Φ Ψ = To Γ S (fun S1 x => Ti Γ S1 (fun S2 y => ∃ h ks j ns d, x = .own h ∧ y = .own j ∧ S2[h]? = some (.dct ks) ∧ S2[j]? = some (.tpl ns) ∧ atT ks ns = some d ∧ Φ S2 d) Ψ) Ψ := rfl
theorem sPutT_e : sPutT Tv To Ti E Γ S = Tv Γ S (fun S1 v => To Γ S1 (fun S2 x => Ti Γ S2 (fun S3 y => ∃ h ks j ns, x = .own h ∧ y = .own j ∧ S3[h]? = some (.dct ks) ∧ S3[j]? = some (.tpl ns) ∧ ks.length < 1000000 ∧
  E.nx Γ (S3.set h (.dct (putT ks (ns.map Sum.inl) v)))) E.er) E.er) E.er := rfl
end
end DL
namespace L2
open PySem PySem.Spec PyProof.Rows
end L2
namespace L2
open PySem PySem.Spec PyProof.Rows
end L2
namespace DL
open PySem PySem.Spec PyProof.Rows L2
/-- sorted(set(xs)): all members, rising -/
def dSIG (T : TD) : TD := fun Γ S Φ Ψ => T Γ S (fun S1 d => ∃ ns : List Int, asQ S1 d = some (ns.map D.int) ∧ ns.length ≤ 4000 ∧ ∀ qs : List Int, (∀ k, k ∈ qs ↔ k ∈ ns) → qs.Pairwise (· < ·) → Φ S1 (.lst (qs.map D.int))) Ψ
section
variable {Γ : Gam} {S : Sto} {Φ : KD} {Ψ : KX}
theorem dSIG_e {T : TD} : dSIG T Γ S Φ Ψ = T Γ S (fun S1 d => ∃ ns : List Int, asQ S1 d = some (ns.map D.int) ∧ ns.length ≤ 4000 ∧ ∀ qs : List Int, (∀ k, k ∈ qs ↔ k ∈ ns) → qs.Pairwise (· < ·) → Φ S1 (.lst (qs.map D.int))) Ψ := rfl
end
end DL
namespace L2
open PySem PySem.Spec PyProof.Rows
end L2
namespace DL
open PySem PySem.Spec PyProof.Rows L2
/-- no tuple of the function's own -/
def NoTpl (S : Sto) : Prop := ∀ (n : Nat) (ns : List Int), S[n]? ≠ some (Cell.tpl ns)
def wipeC : Cell → Cell
  | .tpl _ => .gone
  | c => c
/-- the function's own tuples are given up -/
def wipeT (S : Sto) : Sto := S.map wipeC
def keyD (k : List Key) : D := .tup (k.map kD)
def pairsT (ks : List (List Key × D)) : List D := ks.map fun p => D.tup [keyD p.1, p.2]
open Classical in
noncomputable def srcT (ks : List (List Key × D)) : Src := fun S => if NoTpl S then some (pairsT ks) else none
/-- the items of an own dict whose keys are tuples: it is given up, and so are the function's own tuples -/
def iItT (T : TD) : TId := fun Γ S Φ Ψ => T Γ S (fun S1 x => ∃ h ks, x = .own h ∧ S1[h]? = some (.dct ks) ∧ Φ (wipeT (S1.set h .gone)) (srcT ks)) Ψ
section
variable {X : Cx} {W : WX}
theorem iItT_e {Γ : Gam} {S : Sto} {Ψ : KX} {T : TD} {Φ : Sto → Src → Prop} : iItT T Γ S Φ Ψ = T Γ S (fun S1 x => ∃ h ks, x = .own h ∧ S1[h]? = some (.dct ks) ∧ Φ (wipeT (S1.set h .gone)) (srcT ks)) Ψ := rfl
end
end DL
namespace L2
open PySem PySem.Spec PyProof.Rows
end L2
namespace DL
open PySem PySem.Spec PyProof.Rows L2
def enumSD (c : Int) (xs : List D) : List D := (List.range xs.length).map fun (i : Nat) => D.tup [.int (c + (i : Int)), xs.getD i .non]
def iEnumSD (T : TL) : TId := fun Γ S Φ Ψ => T Γ S (fun S1 ds => ∃ d c, ds = [d, .int c] ∧ (∃ xs, asQ S1 d = some xs) ∧ -(2 ^ 62) ≤ c ∧ c < 2 ^ 62 ∧ Φ S1 (fun S' => (asQ S' d).map (enumSD c))) Ψ
section
variable {X : Cx} {W : WX} {e e2 : Expr} {tl : TA} {Tl : TL} {p pos tpos : Pos}
theorem iEnumSD_e {Γ : Gam} {S : Sto} {Ψ : KX} {T : TL} {Φ : Sto → Src → Prop} : iEnumSD T Γ S Φ Ψ = (T Γ S (fun S1 ds => ∃ d c, ds = [d, .int c] ∧ (∃ xs, asQ S1 d = some xs) ∧ -(2 ^ 62) ≤ c ∧ c < 2 ^ 62 ∧ Φ S1 (fun S' => (asQ S' d).map (enumSD c))) Ψ) := rfl
end
end DL
namespace L2
open PySem PySem.Spec PyProof.Rows
end L2
namespace DL
open PySem PySem.Spec PyProof.Rows L2
/-- o[i] op= e, o a list of the function's own -/
def sAugS (To Ti Te : TD) (f : D → D → Sto → KD → Prop) : TSd := fun E Γ S => To Γ S (fun S1 o => Ti Γ S1 (fun S2 i => ∃ h k ds x, o = .own h ∧ i = .int k ∧ S2[h]? = some (.lst ds) ∧ atI ds k = some x ∧ Te Γ S2 (fun S3 y => f x y S3 fun S4 z => dSetO o i z S4 fun S5 => E.nx Γ S5) E.er) E.er) E.er
end DL
namespace DL
open PySem PySem.Spec PyProof.Rows L2
/-- sorted({elt for tg in xs}), whole numbers -/
def dSSI (I : TId) (G : TGd) (Te : TD) (vs : List Nat) : TD := fun Γ S Φ Ψ => I Γ S (fun S1 src => ∃ (ns : List Int) (ds : List D), src S1 = some ds ∧ ds.length = ns.length ∧ ns.length ≤ 4000 ∧
  (∀ (i : Nat) (d : D) (n : Int), ds[i]? = some d → ns[i]? = some n → G d (gwipe Γ vs) S1 fun Γ2 S2 => S2 = S1 ∧ Te Γ2 S1 (fun S3 z => S3 = S1 ∧ z = .int n) (fun _ _ => False)) ∧
  (∀ qs : List Int, (∀ k, k ∈ qs ↔ k ∈ ns) → qs.Pairwise (· < ·) → Φ S1 (.lst (qs.map D.int)))) Ψ
section
variable {Γ : Gam} {S : Sto} {Φ : KD} {Ψ : KX}
theorem dSSI_e {I : TId} {G : TGd} {Te : TD} {vs : List Nat} : dSSI I G Te vs Γ S Φ Ψ = I Γ S (fun S1 src => ∃ (ns : List Int) (ds : List D), src S1 = some ds ∧ ds.length = ns.length ∧ ns.length ≤ 4000 ∧
  (∀ (i : Nat) (d : D) (n : Int), ds[i]? = some d → ns[i]? = some n → G d (gwipe Γ vs) S1 fun Γ2 S2 => S2 = S1 ∧ Te Γ2 S1 (fun S3 z => S3 = S1 ∧ z = .int n) (fun _ _ => False)) ∧
  (∀ qs : List Int, (∀ k, k ∈ qs ↔ k ∈ ns) → qs.Pairwise (· < ·) → Φ S1 (.lst (qs.map D.int)))) Ψ := rfl
theorem sAugS_e {E : EdD} {To Ti Te : TD} {f : D → D → Sto → KD → Prop} : sAugS To Ti Te f E Γ S = To Γ S (fun S1 o => Ti Γ S1 (fun S2 i => ∃ h k ds x, o = .own h ∧ i = .int k ∧ S2[h]? = some (.lst ds) ∧ atI ds k = some x ∧ Te Γ S2 (fun S3 y => f x y S3 fun S4 z => dSetO o i z S4 fun S5 => E.nx Γ S5) E.er) E.er) E.er := rfl
end
end DL
namespace DL
open PySem PySem.Spec PyProof.Rows L2 GenW
/-- what is wanted behind a statement of a generator: the number is how many are out; yd: what is wanted of the k-th -/
structure GEz where
  nx : Nat → L2.St → Hp → Prop
  yd : Nat → List V → Hp → Prop
  bk : Nat → L2.St → Hp → Prop := fun _ _ _ => False
  ct : Nat → L2.St → Hp → Prop := fun _ _ _ => False
def GEz.at (D : GEz) (k : Nat) : Ends := { nx := D.nx k, rt := fun _ _ => False, bk := D.bk k, ct := D.ct k }
end DL
namespace DL
open PySem PySem.Spec PyProof.Rows L2 NdefX
abbrev clsS : Str := "__class__"
def dSupA (C : Addr) (sp : DSpK) (T : TL2) : TD := fun Γ S Φ Ψ => ∃ d fs, Γ[0]? = some (some d) ∧ asI S d = some (C, fs) ∧ T Γ S (fun S2 ds es => sp (d :: ds) es S2 Φ Ψ) Ψ
end DL
namespace DL
open PySem PySem.Spec PyProof.Rows L2 GenW
def dFldM (Cs : List Addr) (f : Str) (T : TD) : TD := fun Γ S Φ Ψ => T Γ S (fun S1 d => ∃ C fs, C ∈ Cs ∧ asI S1 d = some (C, fs) ∧ ∃ y, fs.lookup f = some y ∧ Φ S1 y) Ψ
def dPropM (tab : List (Addr × DSpK)) (To : TD) : TD := fun Γ S Φ Ψ => To Γ S (fun S1 d => ∃ p fs, p ∈ tab ∧ asI S1 d = some (p.1, fs) ∧ p.2 [d] [] S1 Φ (fun _ _ => False)) Ψ
def dMethM (tab : List (Addr × DSpK)) (m : Str) (To : TD) (T : TL2) : TD := fun Γ S Φ Ψ => To Γ S (fun S1 d => ∃ p fs, p ∈ tab ∧ asI S1 d = some (p.1, fs) ∧ fs.lookup m = none ∧ T Γ S1 (fun S2 ds es => p.2 (d :: ds) es S2 Φ Ψ) Ψ) Ψ
abbrev Tr := Int × Bool × Int
abbrev trD (o : Tr) : List D := [.int o.1, .bl o.2.1, .int o.2.2]
structure EdZ where
  nx : Nat → Gam → Sto → Prop
  yd : Nat → List D → Sto → Prop
  bk : Nat → Gam → Sto → Prop := fun _ _ _ => False
  ct : Nat → Gam → Sto → Prop := fun _ _ _ => False
abbrev TZd := EdZ → Nat → Gam → Sto → Prop
structure RlZ (K : PySem.W.Frag) (w : Hs) (D' : EdZ) (D : GEz) : Prop where
  nx : ∀ k, OkN K w (D'.nx k) (D.nx k)
  yd : ∀ k vs ds w' S', Ext w w' → Good K w' S' → Ra K w' vs ds → D'.yd k ds S' → ∀ H', D.yd k vs H'
  bk : ∀ k, OkN K w (D'.bk k) (D.bk k)
  ct : ∀ k, OkN K w (D'.ct k) (D.ct k)
theorem RlZ.ext {K : PySem.W.Frag} {w w' : Hs} {D' : EdZ} {D : GEz} (h : RlZ K w D' D) (e : Ext w w') : RlZ K w' D' D := ⟨fun k => (h.nx k).ext e, fun k vs ds w2 S' e2 => h.yd k vs ds w2 S' (e.trans e2), fun k => (h.bk k).ext e, fun k => (h.ct k).ext e⟩
def zdPlain (T : TSd) : TZd := fun D k Γ S => T { nx := D.nx k, rt := fun _ _ => False, bk := D.bk k, ct := D.ct k, er := fun _ _ => False } Γ S
def zdNil : TZd := fun D k Γ S => D.nx k Γ S
def zdThen (T U : TZd) : TZd := fun D k Γ S => T { D with nx := U D } k Γ S
def zdYield (T : TL) : TZd := fun D k Γ S => k < sizeLine ∧ T Γ S (fun S1 ds => ds.length ≤ sizeLine ∧ D.yd k ds S1 ∧ D.nx (k + 1) Γ S1) (fun _ _ => False)
/-- what a generator def promises: all that it hands out, the store as it was -/
abbrev DSpG := List D → Sto → List Tr → Prop
/-- [elt for a, b, c in x.m(y) if ..], x and y names -/
def dLcZ (i j : Nat) (Cs : List Addr) (m : Str) (sp : DSpG) (ok : Tr → Prop) (sel : Tr → Option Int) : TD := fun Γ S Φ _ => ∃ d d1 C fs outs, Γ[i]? = some (some d) ∧ Γ[j]? = some (some d1) ∧ C ∈ Cs ∧ asI S d = some (C, fs) ∧ fs.lookup m = none ∧ sp [d, d1] S outs ∧ outs.length < sizeLine ∧
  (∀ o ∈ outs, ok o) ∧ Φ S (.lst ((outs.filterMap sel).map D.int))
end DL
namespace SrtO
open PySem PyProof.Rows Srt
abbrev Tri := Int × Bool × Int
def bI (b : Bool) : Int := if b = true then 1 else 0
def IsTri (h : Heap) (v : Value) (k : Tri) : Prop := ∃ a o t u n, v = .ref a ∧ h.get? a = some o ∧ o.cls = .type "tuple" ∧ o.data = .seq #[.int k.1 t, .bool k.2.1, .int k.2.2 u] n
theorem IsTri.keeps {h h' : Heap} {v : Value} {k : Tri} (p : IsTri h v k) (q : ∀ b o, h.get? b = some o → o.cls = .type "tuple" → h'.get? b = some o) : IsTri h' v k := by
  obtain ⟨a, o, t, u, n, e, ho, hc, hd⟩ := p
  exact ⟨a, o, t, u, n, e, q _ _ ho hc, hc, hd⟩
end SrtO
namespace L2
open PySem PySem.Spec PyProof.Rows SrtO
def leT (p q : Tri) : Prop := p.1 < q.1 ∨ (p.1 = q.1 ∧ (bI p.2.1 < bI q.2.1 ∨ (bI p.2.1 = bI q.2.1 ∧ p.2.2 ≤ q.2.2)))
end L2
namespace DL
open PySem PySem.Spec PyProof.Rows L2
def cSortT (ds : List D) (S : Sto) (Φ : KD) : Prop := match ds with
  | [d] => ∃ ts : List Tr, asQ S d = some (ts.map fun t => .tup (trD t)) ∧ ∀ us : List Tr, us.Perm ts → us.Pairwise leT → Φ S (.lst (us.map fun t => .tup (trD t)))
  | _ => False
end DL
namespace L2
open PySem PySem.Spec PyProof.Rows
end L2
namespace DL
open PySem PySem.Spec PyProof.Rows L2
def ipLD (d e : D) (S : Sto) (Φ : KD) : Prop := match d with
  | .own h => ∃ xs ys, S[h]? = some (.lst xs) ∧ asL S e = some ys ∧ xs.length + ys.length ≤ sizeLine ∧ Φ (S.set h (.lst (xs ++ ys))) (.own h)
  | _ => False
def fldG (C : Addr) (f : Str) (To : TD) : TGd := fun y Γ S P => To Γ S (fun S2 d => ∃ h fs, d = .own h ∧ S2[h]? = some (.ins C fs) ∧ fs.length < 1000 ∧ P Γ (S2.set h (.ins C (putD f y fs)))) (fun _ _ => False)
end DL
namespace DL
open PySem PySem.Spec PyProof.Rows L2
open He
/-- a def that captures __class__: where it stands, its class, the file of its code -/
structure DefC where
  at_ : PySem.W.Frag → Addr
  name : Str
  qual : Str
  params : Arguments
  body : List Stmt
  scope : Scope
  cls : Str
  file : Str
def DefC.val (d : DefC) : He5.FnW := some (d.name, d.qual, d.params, .stmts d.body, d.scope, mainGlobals, [], builtinsNs)
def ccA (K : PySem.W.Frag) (a : Addr) : Addr := match K.lookup a with
  | some ⟨_, _, .func fd, _⟩ => (match fd.closure with
    | [(_, cc)] => cc
    | _ => 0)
  | _ => 0
def cdA (K : PySem.W.Frag) (a : Addr) : Addr := match K.lookup a with
  | some ⟨_, _, .func fd, _⟩ => (match fd.code with
    | .ref c => c
    | _ => 0)
  | _ => 0
def isNo (v : Value) : Bool := match v with
  | .none => true
  | _ => false
def DefC.ok (K : PySem.W.Frag) (d : DefC) : Bool := PySem.W.keepIn K (.ref (d.at_ K)) && ((match K.lookup (d.at_ K) with
  | some ⟨_, _, .func fd, _⟩ => (match fd.closure with
    | [(x, _)] => decide (x = clsS)
    | _ => false) && ((match fd.code with
      | .ref c => PySem.W.codeIn K (.ref c) d.qual
      | _ => false) && (isNo fd.defaults && isNo fd.kwdefaults))
  | _ => false) && ((match K.lookup (ccA K (d.at_ K)) with
  | some ⟨_, _, .cell (some (.ref D)), _⟩ => decide (D = ga K d.cls)
  | _ => false) && ((match K.lookup (cdA K (d.at_ K)) with
  | some ⟨_, _, .fields vs, _⟩ => (match (vs[2]? : Option Value) with
    | some (Value.str file _) => decide (file = d.file)
    | _ => false)
  | _ => false) && (PySem.W.clsIn K (ga K d.cls)).isSome)))
end DL
namespace DL
open PySem PySem.Spec PyProof.Rows L2
def sFldM (Cs : List Addr) (f : Str) (To Te : TD) : TSd := fun D Γ S => Te Γ S (fun S1 y => To Γ S1 (fun S2 d => ∃ C h fs, C ∈ Cs ∧ d = .own h ∧ S2[h]? = some (.ins C fs) ∧ fs.length < 1000 ∧ D.nx Γ (S2.set h (.ins C (putD f y fs)))) D.er) D.er
section
variable {E : EdD} {Γ : Gam} {S : Sto} {Φ : KD} {Ψ : KX} {C : Addr} {Cs : List Addr} {f m : Str} {To Te T : TD} {tab : List (Addr × DSpK)} {U : TL2} {sp : DSpK}
theorem sFldM_e : sFldM Cs f To Te E Γ S = (Te Γ S (fun S1 y => To Γ S1 (fun S2 d => ∃ C h fs, C ∈ Cs ∧ d = .own h ∧ S2[h]? = some (.ins C fs) ∧ fs.length < 1000 ∧ E.nx Γ (S2.set h (.ins C (putD f y fs)))) E.er) E.er) := rfl
theorem dFldM_e : dFldM Cs f T Γ S Φ Ψ = (T Γ S (fun S1 d => ∃ C fs, C ∈ Cs ∧ asI S1 d = some (C, fs) ∧ ∃ y, fs.lookup f = some y ∧ Φ S1 y) Ψ) := rfl
theorem dPropM_e : dPropM tab To Γ S Φ Ψ = (To Γ S (fun S1 d => ∃ p fs, p ∈ tab ∧ asI S1 d = some (p.1, fs) ∧ p.2 [d] [] S1 Φ (fun _ _ => False)) Ψ) := rfl
theorem dMethM_e : dMethM tab m To U Γ S Φ Ψ = (To Γ S (fun S1 d => ∃ p fs, p ∈ tab ∧ asI S1 d = some (p.1, fs) ∧ fs.lookup m = none ∧ U Γ S1 (fun S2 ds es => p.2 (d :: ds) es S2 Φ Ψ) Ψ) Ψ) := rfl
theorem dSupA_e : dSupA C sp U Γ S Φ Ψ = (∃ d fs, Γ[0]? = some (some d) ∧ asI S d = some (C, fs) ∧ U Γ S (fun S2 ds es => sp (d :: ds) es S2 Φ Ψ) Ψ) := rfl
theorem fldG_e {y : D} {P : Gam → Sto → Prop} : fldG C f To y Γ S P = (To Γ S (fun S2 d => ∃ h fs, d = .own h ∧ S2[h]? = some (.ins C fs) ∧ fs.length < 1000 ∧ P Γ (S2.set h (.ins C (putD f y fs)))) (fun _ _ => False)) := rfl
theorem dLcZ_e {i j : Nat} {spg : DSpG} {ok : Tr → Prop} {sel : Tr → Option Int} : dLcZ i j Cs m spg ok sel Γ S Φ Ψ = (∃ d d1 C fs outs, Γ[i]? = some (some d) ∧ Γ[j]? = some (some d1) ∧ C ∈ Cs ∧ asI S d = some (C, fs) ∧ fs.lookup m = none ∧ spg [d, d1] S outs ∧ outs.length < sizeLine ∧
  (∀ o ∈ outs, ok o) ∧ Φ S (.lst ((outs.filterMap sel).map D.int))) := rfl
theorem ipLD_e {h : Nat} {e : D} : ipLD (.own h) e S Φ = (∃ xs ys, S[h]? = some (.lst xs) ∧ asL S e = some ys ∧ xs.length + ys.length ≤ sizeLine ∧ Φ (S.set h (.lst (xs ++ ys))) (.own h)) := rfl
theorem cSortT_e {d : D} : cSortT [d] S Φ = (∃ ts : List Tr, asQ S d = some (ts.map fun t => .tup (trD t)) ∧ ∀ us : List Tr, us.Perm ts → us.Pairwise leT → Φ S (.lst (us.map fun t => .tup (trD t)))) := rfl
variable {Z : EdZ} {k : Nat} {Ts : TSd} {A B : TZd} {L : TL} {I : TId} {G : TGd}
theorem zdPlain_e : zdPlain Ts Z k Γ S = (Ts { nx := Z.nx k, rt := fun _ _ => False, bk := Z.bk k, ct := Z.ct k, er := fun _ _ => False } Γ S) := rfl
theorem zdNil_e : zdNil Z k Γ S = Z.nx k Γ S := rfl
theorem zdThen_e : zdThen A B Z k Γ S = A { Z with nx := B Z } k Γ S := rfl
theorem zdYield_e : zdYield L Z k Γ S = (k < sizeLine ∧ L Γ S (fun S1 ds => ds.length ≤ sizeLine ∧ Z.yd k ds S1 ∧ Z.nx (k + 1) Γ S1) (fun _ _ => False)) := rfl
end
end DL
namespace DL
open PySem PySem.Spec PyProof.Rows L2
def max3 (i j k : Int) : Int := if k > (if j > i then j else i) then k else (if j > i then j else i)
def cMax3 (ds : List D) (S : Sto) (Φ : KD) : Prop := match ds with
  | [.int i, .int j, .int k] => Φ S (.int (max3 i j k))
  | _ => False
theorem cMax3_i {i j k : Int} {S : Sto} {Φ : KD} : cMax3 [.int i, .int j, .int k] S Φ = Φ S (.int (max3 i j k)) := rfl
end DL
namespace DL
open PySem PySem.Spec PyProof.Rows L2
def zip3D (xs ys us : List D) : List D := (xs.zip (ys.zip us)).map fun p => D.tup [p.1, p.2.1, p.2.2]
def iZip3D (T : TL) : TId := fun Γ S Φ Ψ => T Γ S (fun S1 ds => ∃ d e f, ds = [d, e, f] ∧ (∃ xs, asQ S1 d = some xs) ∧ (∃ ys, asQ S1 e = some ys) ∧ (∃ us, asQ S1 f = some us) ∧ Φ S1 (fun S' => (asQ S' d).bind fun xs => (asQ S' e).bind fun ys => (asQ S' f).map fun us => zip3D xs ys us)) Ψ
section
variable {Γ : Gam} {S : Sto} {Ψ : KX}
theorem iZip3D_e {T : TL} {Φ : Sto → Src → Prop} : iZip3D T Γ S Φ Ψ = (T Γ S (fun S1 ds => ∃ d e f, ds = [d, e, f] ∧ (∃ xs, asQ S1 d = some xs) ∧ (∃ ys, asQ S1 e = some ys) ∧ (∃ us, asQ S1 f = some us) ∧ Φ S1 (fun S' => (asQ S' d).bind fun xs => (asQ S' e).bind fun ys => (asQ S' f).map fun us => zip3D xs ys us)) Ψ) := rfl
end
end DL
namespace L2
open PySem PySem.Spec PyProof.Rows
end L2
namespace L2
open PySem PySem.Spec PyProof.Rows
end L2
namespace DL
open PySem PySem.Spec PyProof.Rows L2
open Classical in
noncomputable def srcKT (h : Nat) (o : Obj) (us : List (List Key × V)) : Src := fun S => match S[h]? with
  | some (.lct o' us' ks) => if o' = o ∧ us' = us ∧ NoTpl S then some (ks.map fun p => keyD p.1) else none
  | _ => none
/-- the keys of the locked dict of a name -/
def iKtT (i : Nat) : TId := fun Γ S Φ Ψ => ∃ h o us ks, Γ[i]? = some (some (.own h)) ∧ S[h]? = some (.lct o us ks) ∧ Φ S (srcKT h o us)
/-- a statement, an expression while the dict of a name is locked -/
def sLct (i : Nat) (T : TSd) : TSd := fun E Γ S => ∃ h ks, Γ[i]? = some (some (.own h)) ∧ S[h]? = some (.dct ks) ∧ ∀ o us, us.length = ks.length →
  T { nx := fun Γ' S' => S'[h]? = some (.lct o us ks) ∧ E.nx Γ' (S'.set h (.dct ks)), rt := fun S' d => S'[h]? = some (.lct o us ks) ∧ E.rt (S'.set h (.dct ks)) d, er := fun _ _ => False } Γ (S.set h (.lct o us ks))
def dLct (i : Nat) (T : TD) : TD := fun Γ S Φ Ψ => ∃ h ks, Γ[i]? = some (some (.own h)) ∧ S[h]? = some (.dct ks) ∧ ∀ o us, us.length = ks.length →
  T Γ (S.set h (.lct o us ks)) (fun S' d => S'[h]? = some (.lct o us ks) ∧ Φ (S'.set h (.dct ks)) d) (fun _ _ => False)
/-- what a dict whose keys are tuples holds, locked or not -/
def DctAt (S : Sto) (h : Nat) (ks : List (List Key × D)) : Prop := S[h]? = some (.dct ks) ∨ ∃ o us, S[h]? = some (.lct o us ks)
/-- d[k], k a tuple of whole numbers that is read -/
def dGetF (To Ti : TD) : TD := fun Γ S Φ Ψ => To Γ S (fun S1 x => Ti Γ S1 (fun S2 y => ∃ h ks d, ∃ ns : List Int, x = .own h ∧ y = .tup (ns.map D.int) ∧ DctAt S2 h ks ∧ atT ks ns = some d ∧ Φ S2 d) Ψ) Ψ
section
variable {Γ : Gam} {S : Sto} {Φ : KD} {Ψ : KX} {To Ti : TD}
theorem dGetF_e : dGetF To Ti Γ S Φ Ψ = To Γ S (fun S1 x => Ti Γ S1 (fun S2 y => ∃ h ks d, ∃ ns : List Int, x = .own h ∧ y = .tup (ns.map D.int) ∧ DctAt S2 h ks ∧ atT ks ns = some d ∧ Φ S2 d) Ψ) Ψ := rfl
theorem dLct_e {i : Nat} {T : TD} : dLct i T Γ S Φ Ψ = ∃ h ks, Γ[i]? = some (some (.own h)) ∧ S[h]? = some (.dct ks) ∧ ∀ o us, us.length = ks.length → T Γ (S.set h (.lct o us ks)) (fun S' d => S'[h]? = some (.lct o us ks) ∧ Φ (S'.set h (.dct ks)) d) (fun _ _ => False) := rfl
theorem sLct_e {i : Nat} {T : TSd} {E : EdD} : sLct i T E Γ S = ∃ h ks, Γ[i]? = some (some (.own h)) ∧ S[h]? = some (.dct ks) ∧ ∀ o us, us.length = ks.length →
  T { nx := fun Γ' S' => S'[h]? = some (.lct o us ks) ∧ E.nx Γ' (S'.set h (.dct ks)), rt := fun S' d => S'[h]? = some (.lct o us ks) ∧ E.rt (S'.set h (.dct ks)) d, er := fun _ _ => False } Γ (S.set h (.lct o us ks)) := rfl
theorem iKtT_e {i : Nat} {Φ : Sto → Src → Prop} : iKtT i Γ S Φ Ψ = ∃ h o us ks, Γ[i]? = some (some (.own h)) ∧ S[h]? = some (.lct o us ks) ∧ Φ S (srcKT h o us) := rfl
end
end DL
namespace L2
open PySem PySem.Spec PyProof.Rows
open PySem.W (AllAlike Sortable dataLe AlikeAll EachIs sorted_data max_list_data readsAll_each)
end L2
namespace DL
open PySem PySem.Spec PyProof.Rows L2
section
variable (K : PySem.W.Frag) (W : WX)
structure RlL (σ : L2.St) (Γ : Gam) (w : Hs) (D' : EdD) (D : Ends) : Prop where
  nx : ∀ σ' Γ' w' S', Ext w w' → Good K w' S' → Slots K w' σ' Γ' → D'.nx Γ' S' → D.nx σ' w'.H
  rt : OkD K w D'.rt D.rt
  er : OkX K W w D'.er σ
end
section
variable {K : PySem.W.Frag} {W : WX} {w w' : Hs}
theorem RlL.ext {σ : L2.St} {Γ : Gam} {D' : EdD} {D : Ends} (h : RlL K W σ Γ w D' D) (e : Ext w w') : RlL K W σ Γ w' D' D := ⟨fun s2 G2 w2 S2 e2 => h.nx s2 G2 w2 S2 (e.trans e2), h.rt.ext e, h.er.ext e⟩
end
end DL
namespace DL
open PySem PySem.Spec PyProof.Rows L2
def top (i : Nat) : Stmt := PySem.Challenge.pw_runtabs_k13_whole_layouts.main.body.getD i (.Pass ⟨0, 0, 0, 0⟩)
abbrev s_is_integer : Stmt := (top 11)
abbrev s_is_cell : Stmt := (top 12)
abbrev s_is_line : Stmt := (top 17)
abbrev s_is_table : Stmt := (top 18)
abbrev s_need_table : Stmt := (top 19)
abbrev s_need_line : Stmt := (top 20)
abbrev s_copy_of : Stmt := (top 21)
abbrev s_tabs_in : Stmt := (top 22)
abbrev s_tabs_of : Stmt := (top 23)
abbrev s_stacked : Stmt := (top 24)
abbrev s_part : Stmt := (top 25)
abbrev s_blocks_of_column : Stmt := (top 27)
abbrev s_blocks_by_tabs : Stmt := (top 28)
abbrev s_blocks_in : Stmt := (top 29)
abbrev s_block_with : Stmt := (top 30)
abbrev s_blocks_around : Stmt := (top 31)
abbrev s_blocks_of : Stmt := (top 32)
abbrev s_block_at : Stmt := (top 33)
abbrev s_need_block : Stmt := (top 34)
abbrev s_parent_of : Stmt := (top 35)
abbrev s_greatest_in : Stmt := (top 37)
abbrev s_room_of : Stmt := (top 38)
abbrev s_rooms_in : Stmt := (top 39)
abbrev s_stops_in : Stmt := (top 40)
abbrev s_ends_in : Stmt := (top 41)
abbrev s_width_in : Stmt := (top 42)
abbrev s_stops : Stmt := (top 43)
abbrev s_ends : Stmt := (top 44)
abbrev s_width_of : Stmt := (top 45)
abbrev s_need_tab : Stmt := (top 46)
abbrev s_lines_with : Stmt := (top 47)
abbrev s_bearers : Stmt := (top 48)
abbrev s_bears_block : Stmt := (top 49)
abbrev s_bears : Stmt := (top 50)
abbrev s_are_kinds : Stmt := (top 53)
abbrev s_Style___init__ : Stmt := (inClass (top 54) 0)
abbrev s_Style_of : Stmt := (inClass (top 54) 1)
abbrev s_Style_kinds : Stmt := (inClass (top 54) 2)
abbrev s_Style_gap : Stmt := (inClass (top 54) 3)
abbrev s_Style_least : Stmt := (inClass (top 54) 4)
abbrev s__law_feed : Stmt := (top 56)
abbrev s__law_pick : Stmt := (top 57)
abbrev s__law_width : Stmt := (top 58)
abbrev s__law_counts : Stmt := (top 59)
abbrev s__law_sheet : Stmt := (top 60)
abbrev s__law_stops_right : Stmt := (top 61)
abbrev s__law_other_styles_right : Stmt := (top 62)
abbrev s__law_parts_right : Stmt := (top 63)
abbrev s__law_wider_right : Stmt := (top 64)
abbrev s_law : Stmt := (top 65)
def dd_is_integer : He5.DefA := ⟨(fun K => He.ga K "is_integer"), "is_integer", "is_integer", defArgs s_is_integer, defBody s_is_integer, defScope s_is_integer, [], []⟩
def dd_is_cell : He5.DefA := ⟨(fun K => He.ga K "is_cell"), "is_cell", "is_cell", defArgs s_is_cell, defBody s_is_cell, defScope s_is_cell, [], []⟩
def dd_is_line : He5.DefA := ⟨(fun K => He.ga K "is_line"), "is_line", "is_line", defArgs s_is_line, defBody s_is_line, defScope s_is_line, [], []⟩
def dd_is_table : He5.DefA := ⟨(fun K => He.ga K "is_table"), "is_table", "is_table", defArgs s_is_table, defBody s_is_table, defScope s_is_table, [], []⟩
def dd_need_table : He5.DefA := ⟨(fun K => He.ga K "need_table"), "need_table", "need_table", defArgs s_need_table, defBody s_need_table, defScope s_need_table, [], []⟩
def dd_need_line : He5.DefA := ⟨(fun K => He.ga K "need_line"), "need_line", "need_line", defArgs s_need_line, defBody s_need_line, defScope s_need_line, [], []⟩
def dd_copy_of : He5.DefA := ⟨(fun K => He.ga K "copy_of"), "copy_of", "copy_of", defArgs s_copy_of, defBody s_copy_of, defScope s_copy_of, [], []⟩
def dd_tabs_in : He5.DefA := ⟨(fun K => He.ga K "tabs_in"), "tabs_in", "tabs_in", defArgs s_tabs_in, defBody s_tabs_in, defScope s_tabs_in, [], []⟩
def dd_tabs_of : He5.DefA := ⟨(fun K => He.ga K "tabs_of"), "tabs_of", "tabs_of", defArgs s_tabs_of, defBody s_tabs_of, defScope s_tabs_of, [], []⟩
def dd_stacked : He5.DefA := ⟨(fun K => He.ga K "stacked"), "stacked", "stacked", defArgs s_stacked, defBody s_stacked, defScope s_stacked, [], []⟩
def dd_part : He5.DefA := ⟨(fun K => He.ga K "part"), "part", "part", defArgs s_part, defBody s_part, defScope s_part, [], []⟩
def dd_blocks_of_column : He5.DefA := ⟨(fun K => He.ga K "blocks_of_column"), "blocks_of_column", "blocks_of_column", defArgs s_blocks_of_column, defBody s_blocks_of_column, defScope s_blocks_of_column, [], []⟩
def dd_blocks_by_tabs : He5.DefA := ⟨(fun K => He.ga K "blocks_by_tabs"), "blocks_by_tabs", "blocks_by_tabs", defArgs s_blocks_by_tabs, defBody s_blocks_by_tabs, defScope s_blocks_by_tabs, [], []⟩
def dd_blocks_in : He5.DefA := ⟨(fun K => He.ga K "blocks_in"), "blocks_in", "blocks_in", defArgs s_blocks_in, defBody s_blocks_in, defScope s_blocks_in, [], []⟩
def dd_block_with : He5.DefA := ⟨(fun K => He.ga K "block_with"), "block_with", "block_with", defArgs s_block_with, defBody s_block_with, defScope s_block_with, [], []⟩
def dd_blocks_around : He5.DefA := ⟨(fun K => He.ga K "blocks_around"), "blocks_around", "blocks_around", defArgs s_blocks_around, defBody s_blocks_around, defScope s_blocks_around, [], []⟩
def dd_blocks_of : He5.DefA := ⟨(fun K => He.ga K "blocks_of"), "blocks_of", "blocks_of", defArgs s_blocks_of, defBody s_blocks_of, defScope s_blocks_of, [], []⟩
def dd_block_at : He5.DefA := ⟨(fun K => He.ga K "block_at"), "block_at", "block_at", defArgs s_block_at, defBody s_block_at, defScope s_block_at, [], []⟩
def dd_need_block : He5.DefA := ⟨(fun K => He.ga K "need_block"), "need_block", "need_block", defArgs s_need_block, defBody s_need_block, defScope s_need_block, [], []⟩
def dd_parent_of : He5.DefA := ⟨(fun K => He.ga K "parent_of"), "parent_of", "parent_of", defArgs s_parent_of, defBody s_parent_of, defScope s_parent_of, [], []⟩
def dd_greatest_in : He5.DefA := ⟨(fun K => He.ga K "greatest_in"), "greatest_in", "greatest_in", defArgs s_greatest_in, defBody s_greatest_in, defScope s_greatest_in, [], []⟩
def dd_room_of : He5.DefA := ⟨(fun K => He.ga K "room_of"), "room_of", "room_of", defArgs s_room_of, defBody s_room_of, defScope s_room_of, [], []⟩
def dd_rooms_in : He5.DefA := ⟨(fun K => He.ga K "rooms_in"), "rooms_in", "rooms_in", defArgs s_rooms_in, defBody s_rooms_in, defScope s_rooms_in, [], []⟩
def dd_stops_in : He5.DefA := ⟨(fun K => He.ga K "stops_in"), "stops_in", "stops_in", defArgs s_stops_in, defBody s_stops_in, defScope s_stops_in, [], []⟩
def dd_ends_in : He5.DefA := ⟨(fun K => He.ga K "ends_in"), "ends_in", "ends_in", defArgs s_ends_in, defBody s_ends_in, defScope s_ends_in, [], []⟩
def dd_width_in : He5.DefA := ⟨(fun K => He.ga K "width_in"), "width_in", "width_in", defArgs s_width_in, defBody s_width_in, defScope s_width_in, [], []⟩
def dd_stops : He5.DefA := ⟨(fun K => He.ga K "stops"), "stops", "stops", defArgs s_stops, defBody s_stops, defScope s_stops, [], []⟩
def dd_ends : He5.DefA := ⟨(fun K => He.ga K "ends"), "ends", "ends", defArgs s_ends, defBody s_ends, defScope s_ends, [], []⟩
def dd_width_of : He5.DefA := ⟨(fun K => He.ga K "width_of"), "width_of", "width_of", defArgs s_width_of, defBody s_width_of, defScope s_width_of, [], []⟩
def dd_need_tab : He5.DefA := ⟨(fun K => He.ga K "need_tab"), "need_tab", "need_tab", defArgs s_need_tab, defBody s_need_tab, defScope s_need_tab, [], []⟩
def dd_lines_with : He5.DefA := ⟨(fun K => He.ga K "lines_with"), "lines_with", "lines_with", defArgs s_lines_with, defBody s_lines_with, defScope s_lines_with, [], []⟩
def dd_bearers : He5.DefA := ⟨(fun K => He.ga K "bearers"), "bearers", "bearers", defArgs s_bearers, defBody s_bearers, defScope s_bearers, [], []⟩
def dd_bears_block : He5.DefA := ⟨(fun K => He.ga K "bears_block"), "bears_block", "bears_block", defArgs s_bears_block, defBody s_bears_block, defScope s_bears_block, [], []⟩
def dd_bears : He5.DefA := ⟨(fun K => He.ga K "bears"), "bears", "bears", defArgs s_bears, defBody s_bears, defScope s_bears, [], []⟩
def dd_are_kinds : He5.DefA := ⟨(fun K => He.ga K "are_kinds"), "are_kinds", "are_kinds", defArgs s_are_kinds, defBody s_are_kinds, defScope s_are_kinds, [], []⟩
def dd_Style___init__ : He5.DefA := ⟨(fun K => He.ma K (He.ga K "Style") "__init__"), "__init__", "Style.__init__", defArgs s_Style___init__, defBody s_Style___init__, defScope s_Style___init__, [], [("gap", .int 1), ("least", .int 0)]⟩
def dd_Style_of : He5.DefA := ⟨(fun K => He5.wf K (He.ga K "Style") "classmethod" "of"), "of", "Style.of", defArgs s_Style_of, defBody s_Style_of, defScope s_Style_of, [], []⟩
def dd_Style_kinds : He5.DefA := ⟨(fun K => He5.wf K (He.ga K "Style") "property" "kinds"), "kinds", "Style.kinds", defArgs s_Style_kinds, defBody s_Style_kinds, defScope s_Style_kinds, [], []⟩
def dd_Style_gap : He5.DefA := ⟨(fun K => He5.wf K (He.ga K "Style") "property" "gap"), "gap", "Style.gap", defArgs s_Style_gap, defBody s_Style_gap, defScope s_Style_gap, [], []⟩
def dd_Style_least : He5.DefA := ⟨(fun K => He5.wf K (He.ga K "Style") "property" "least"), "least", "Style.least", defArgs s_Style_least, defBody s_Style_least, defScope s_Style_least, [], []⟩
def dd__law_feed : He5.DefA := ⟨(fun K => He.ga K "_law_feed"), "_law_feed", "_law_feed", defArgs s__law_feed, defBody s__law_feed, defScope s__law_feed, [], []⟩
def dd__law_pick : He5.DefA := ⟨(fun K => He.ga K "_law_pick"), "_law_pick", "_law_pick", defArgs s__law_pick, defBody s__law_pick, defScope s__law_pick, [], []⟩
def dd__law_width : He5.DefA := ⟨(fun K => He.ga K "_law_width"), "_law_width", "_law_width", defArgs s__law_width, defBody s__law_width, defScope s__law_width, [], []⟩
def dd__law_counts : He5.DefA := ⟨(fun K => He.ga K "_law_counts"), "_law_counts", "_law_counts", defArgs s__law_counts, defBody s__law_counts, defScope s__law_counts, [], []⟩
def dd__law_sheet : He5.DefA := ⟨(fun K => He.ga K "_law_sheet"), "_law_sheet", "_law_sheet", defArgs s__law_sheet, defBody s__law_sheet, defScope s__law_sheet, [], []⟩
def dd__law_stops_right : He5.DefA := ⟨(fun K => He.ga K "_law_stops_right"), "_law_stops_right", "_law_stops_right", defArgs s__law_stops_right, defBody s__law_stops_right, defScope s__law_stops_right, [], []⟩
def dd__law_other_styles_right : He5.DefA := ⟨(fun K => He.ga K "_law_other_styles_right"), "_law_other_styles_right", "_law_other_styles_right", defArgs s__law_other_styles_right, defBody s__law_other_styles_right, defScope s__law_other_styles_right, [], []⟩
def dd__law_parts_right : He5.DefA := ⟨(fun K => He.ga K "_law_parts_right"), "_law_parts_right", "_law_parts_right", defArgs s__law_parts_right, defBody s__law_parts_right, defScope s__law_parts_right, [], []⟩
def dd__law_wider_right : He5.DefA := ⟨(fun K => He.ga K "_law_wider_right"), "_law_wider_right", "_law_wider_right", defArgs s__law_wider_right, defBody s__law_wider_right, defScope s__law_wider_right, [], []⟩
def dd_law : He5.DefA := ⟨(fun K => He.ga K "law"), "law", "law", defArgs s_law, defBody s_law, defScope s_law, [], []⟩
def fnL : List He5.DefA := (([dd_is_integer, dd_is_cell, dd_is_line, dd_is_table, dd_need_table, dd_need_line, dd_copy_of, dd_tabs_in, dd_tabs_of, dd_stacked, dd_part, dd_blocks_of_column, dd_blocks_by_tabs, dd_blocks_in, dd_block_with, dd_blocks_around, dd_blocks_of, dd_block_at, dd_need_block, dd_parent_of] : List He5.DefA) ++ ([dd_greatest_in, dd_room_of, dd_rooms_in, dd_stops_in, dd_ends_in, dd_width_in, dd_stops, dd_ends, dd_width_of, dd_need_tab, dd_lines_with, dd_bearers, dd_bears_block, dd_bears, dd_are_kinds, dd_Style___init__, dd_Style_of, dd_Style_kinds, dd_Style_gap, dd_Style_least] : List He5.DefA) ++ ([dd__law_feed, dd__law_pick, dd__law_width, dd__law_counts, dd__law_sheet, dd__law_stops_right, dd__law_other_styles_right, dd__law_parts_right, dd__law_wider_right, dd_law] : List He5.DefA))
def faL : List FaX := (([(fun K => (He.Fa.glo "is_integer").ok K), (fun K => (He.Fa.glo "is_cell").ok K), (fun K => (He.Fa.glo "is_line").ok K), (fun K => (He.Fa.glo "is_table").ok K), (fun K => (He.Fa.glo "need_table").ok K), (fun K => (He.Fa.glo "need_line").ok K), (fun K => (He.Fa.glo "copy_of").ok K), (fun K => (He.Fa.glo "tabs_in").ok K), (fun K => (He.Fa.glo "tabs_of").ok K), (fun K => (He.Fa.glo "stacked").ok K), (fun K => (He.Fa.glo "part").ok K), (fun K => (He.Fa.glo "blocks_of_column").ok K), (fun K => (He.Fa.glo "blocks_by_tabs").ok K), (fun K => (He.Fa.glo "blocks_in").ok K), (fun K => (He.Fa.glo "block_with").ok K), (fun K => (He.Fa.glo "blocks_around").ok K), (fun K => (He.Fa.glo "blocks_of").ok K), (fun K => (He.Fa.glo "block_at").ok K), (fun K => (He.Fa.glo "need_block").ok K), (fun K => (He.Fa.glo "parent_of").ok K)] : List FaX) ++ ([(fun K => (He.Fa.glo "greatest_in").ok K), (fun K => (He.Fa.glo "room_of").ok K), (fun K => (He.Fa.glo "rooms_in").ok K), (fun K => (He.Fa.glo "stops_in").ok K), (fun K => (He.Fa.glo "ends_in").ok K), (fun K => (He.Fa.glo "width_in").ok K), (fun K => (He.Fa.glo "stops").ok K), (fun K => (He.Fa.glo "ends").ok K), (fun K => (He.Fa.glo "width_of").ok K), (fun K => (He.Fa.glo "need_tab").ok K), (fun K => (He.Fa.glo "lines_with").ok K), (fun K => (He.Fa.glo "bearers").ok K), (fun K => (He.Fa.glo "bears_block").ok K), (fun K => (He.Fa.glo "bears").ok K), (fun K => (He.Fa.glo "are_kinds").ok K), (fun K => (He.Fa.glo "_law_feed").ok K), (fun K => (He.Fa.glo "_law_pick").ok K), (fun K => (He.Fa.glo "_law_width").ok K), (fun K => (He.Fa.glo "_law_counts").ok K), (fun K => (He.Fa.glo "_law_sheet").ok K)] : List FaX) ++ ([(fun K => (He.Fa.glo "_law_stops_right").ok K), (fun K => (He.Fa.glo "_law_other_styles_right").ok K), (fun K => (He.Fa.glo "_law_parts_right").ok K), (fun K => (He.Fa.glo "_law_wider_right").ok K), (fun K => (He.Fa.glo "law").ok K), (fun K => (He.Fa.free "int").ok K), (fun K => (He.Fa.free "isinstance").ok K), (fun K => (He.Fa.free "bool").ok K), (fun K => (He.Fa.int "MOST_CELL" 1000000000000000000000000000000).ok K), (fun K => (He.Fa.free "list").ok K), (fun K => (He.Fa.free "len").ok K), (fun K => (He.Fa.int "MOST_CELLS" 12).ok K), (fun K => (He.Fa.free "all").ok K), (fun K => (He.Fa.int "MOST_LINES" 60).ok K), (fun K => (He.Fa.glo "InvalidTable").ok K), (fun K => (He.Fa.exc "InvalidTable").ok K), (fun K => (He.Fa.glo "InvalidLine").ok K), (fun K => (He.Fa.exc "InvalidLine").ok K), (fun K => (He.Fa.free "enumerate").ok K), (fun K => (He.Fa.free "range").ok K)] : List FaX) ++ ([(fun K => (He.Fa.glo "InvalidColumn").ok K), (fun K => (He.Fa.exc "InvalidColumn").ok K), (fun K => (He.Fa.free "tuple").ok K), (fun K => (He.Fa.glo "InvalidBlock").ok K), (fun K => (He.Fa.exc "InvalidBlock").ok K), (fun K => (He.Fa.free "max").ok K), (fun K => (He.Fa.cls "Style").ok K), (bProp "Style" "least"), (bProp "Style" "gap"), (fun K => (He.Fa.free "zip").ok K), (fun K => (He.Fa.int "MOST_KINDS" 12).ok K), (fun K => (He.Fa.free "str").ok K), (fun K => (He.Fa.glo "Kind").ok K), (bCVT "Kind" "NAMES" ["left", "right", "center"]), (fun K => (He.Fa.str "LEFT" "left").ok K), (fun K => (He.Fa.glo "InvalidStyle").ok K), (fun K => (He.Fa.exc "InvalidStyle").ok K), (fun K => (He.Fa.noat "Style" "held_kinds").ok K), (fun K => (He.Fa.noat "Style" "held_gap").ok K), (fun K => (He.Fa.noat "Style" "held_least").ok K)] : List FaX) ++ ([(fun K => (He.Fa.mkr "Style").ok K), (fun K => (He.Fa.free "abs").ok K), (fun K => (He.Fa.free "min").ok K), (fun K => (He.Fa.glo "Style").ok K), (bProp "Style" "kinds"), (bCRd "Style"), (bCMet "Style" "of")] : List FaX))
abbrev RR : PySem.W.OpenRow := PySem.W.OpenLaw.row PySem.Challenge.rw_runtabs_k13_whole_layouts
abbrev hkL : PySem.W.Hook := hookX 7 faL fnL
def obL (s : PySem.W.SharedT) : He.AlD := obsXG 7 faL fnL (HandSHeadRun.getT s)
theorem obL_eq (s : PySem.W.SharedT) : obL s = hkL.obs s.abs := obsXG_eq (HandSHeadRun.getT_eq s)
def othersL : List Str := ((["_wall", "PageError", "InvalidTable", "InvalidStyle", "InvalidLine", "InvalidColumn", "InvalidBlock", "MOST_CELL", "LEFT", "is_integer", "is_cell", "Kind", "MOST_LINES", "MOST_CELLS", "is_line", "is_table", "need_table", "need_line", "copy_of", "tabs_in"] : List Str) ++ (["tabs_of", "stacked", "part", "blocks_of_column", "blocks_by_tabs", "blocks_in", "block_with", "blocks_around", "blocks_of", "block_at", "need_block", "parent_of", "greatest_in", "room_of", "rooms_in", "stops_in", "ends_in", "width_in", "stops", "ends"] : List Str) ++ (["width_of", "need_tab", "lines_with", "bearers", "bears_block", "bears", "MOST_KINDS", "are_kinds", "Style", "_law_feed", "_law_pick", "_law_width", "_law_counts", "_law_sheet", "_law_stops_right", "_law_other_styles_right", "_law_parts_right", "_law_wider_right"] : List Str))
theorem runL (w : World) : HandSHeadRun.RunEq RR (PySem.W.view RR.prog [65]) hkL obL 12000 othersL w := by
  intro os
  kernel_rfl
end DL
namespace DL
open PySem PySem.Spec PyProof.Rows L2
abbrev GREAT : Int := 1000000000000000000000000000000
abbrev kindsL : List Str := ["left", "right", "center"]
def inB (v lo hi : Int) : Bool := decide (lo ≤ v) && decide (v ≤ hi)
structure LookOk (ks : List Str) (g l : Int) : Prop where
  lo : 1 ≤ ks.length
  hi : ks.length ≤ 12
  at_ : ∀ k ∈ ks, k ∈ kindsL
  g0 : 0 ≤ g
  g1 : g ≤ GREAT
  l0 : 0 ≤ l
  l1 : l ≤ GREAT
def styF (ks : List Str) (g l : Int) : List (Str × D) := [("held_kinds", .lst (ks.map D.str)), ("held_gap", .int g), ("held_least", .int l)]
def sp_is_integer : DSpec := fun ds S Φ _ => ∃ v lo hi, ds = [.int v, .int lo, .int hi] ∧ Φ S (.bl (inB v lo hi))
def sp_is_cell : DSpec := fun ds S Φ _ => ∃ v, ds = [.int v] ∧ Φ S (.bl (inB v 0 GREAT))
def sp_are_kinds : DSpec := fun ds S Φ _ => ∃ ks : List Str, ds = [.lst (ks.map D.str)] ∧ 1 ≤ ks.length ∧ ks.length ≤ 12 ∧ (∀ k ∈ ks, k ∈ kindsL) ∧ Φ S (.bl true)
def kindsOr (ks : List Str) : List Str := if ks = [] then ["left"] else ks
def sp_Style___init__ (C : Addr) : DSpec := fun ds S Φ _ => ∃ h ks g l, ds = [.own h, .int g, .int l, .tup (ks.map D.str)] ∧ S[h]? = some (.ins C []) ∧ LookOk (kindsOr ks) g l ∧ Φ (S.set h (.ins C (styF (kindsOr ks) g l))) .non
def sp_Style_of (C : Addr) : DSpec := fun ds S Φ _ => ∃ ks g l, ds = [.obj C, .lst (ks.map D.str), .int g, .int l] ∧ LookOk ks g l ∧ Φ (S ++ [.ins C (styF ks g l)]) (.own S.length)
def sp_Style_kinds (C : Addr) : DSpec := fun ds S Φ _ => ∃ d ks g l, ds = [d] ∧ asI S d = some (C, styF ks g l) ∧ Φ S (.lst (ks.map D.str))
def sp_Style_gap (C : Addr) : DSpec := fun ds S Φ _ => ∃ d ks g l, ds = [d] ∧ asI S d = some (C, styF ks g l) ∧ Φ S (.int g)
def sp_Style_least (C : Addr) : DSpec := fun ds S Φ _ => ∃ d ks g l, ds = [d] ∧ asI S d = some (C, styF ks g l) ∧ Φ S (.int l)
structure RowOk (r : List Int) : Prop where
  lo : 1 ≤ r.length
  hi : r.length ≤ 12
  at_ : ∀ x ∈ r, 0 ≤ x ∧ x ≤ GREAT
structure TabOk (t : List (List Int)) : Prop where
  lo : 1 ≤ t.length
  hi : t.length ≤ 60
  row : ∀ r ∈ t, RowOk r
def sp_is_line : DSpec := fun ds S Φ _ => ∃ d r, ds = [d] ∧ asL S d = some (r.map D.int) ∧ RowOk r ∧ Φ S (.bl true)
def sp_is_table : DSpec := fun ds S Φ _ => ∃ d t, ds = [d] ∧ TabS S d t ∧ TabOk t ∧ Φ S (.bl true)
def sp_need_table : DSpec := fun ds S Φ _ => ∃ d t, ds = [d] ∧ TabS S d t ∧ TabOk t ∧ Φ S .non
def sp_need_line : DSpec := fun ds S Φ _ => ∃ d t, ∃ i : Nat, ds = [d, .int i] ∧ TabS S d t ∧ i < t.length ∧ Φ S .non
def ownsD (n m : Nat) : List D := (List.range m).map fun j => D.own (n + j)
def cellsD (t : List (List Int)) : Sto := t.map fun r => Cell.lst (r.map D.int)
/-- a table, cell of cells, behind S -/
def newTab (t : List (List Int)) (S : Sto) (Φ : KD) : Prop := Φ (S ++ cellsD t ++ [.lst (ownsD S.length t.length)]) (.own (S.length + t.length))
def sp_copy_of : DSpec := fun ds S Φ _ => ∃ d t, ds = [d] ∧ TabS S d t ∧ t.length ≤ 100 ∧ newTab t S Φ
def setAt (t : List (List Int)) (i j : Nat) (v : Int) : List (List Int) := t.set i ((t.getD i []).set j v)
/-- the greatest cell of a leading run, at least `least` -/
def runM (least : Int) : List (Option Int) → Int
  | some v :: r => max v (runM least r)
  | _ => least
def roomAt (least : Int) (xs : List (Option Int)) (j : Nat) : Int := max (runM least (xs.drop j)) (runM least (xs.take j).reverse)
theorem runM_cut (least : Int) : ∀ (a b : List (Option Int)), runM least (a ++ none :: b) = runM least a
  | [], _ => rfl
  | none :: _, _ => rfl
  | some v :: a, b => by
    show max v (runM least (a ++ none :: b)) = max v (runM least a)
    rw [runM_cut least a b]
theorem roomAt_left (least : Int) {a : List (Option Int)} (b : List (Option Int)) {j : Nat} (h : j < a.length) : roomAt least (a ++ none :: b) j = roomAt least a j := by
  unfold roomAt
  rw [List.drop_append_of_le_length (by omega), List.take_append_of_le_length (by omega), runM_cut]
theorem roomAt_right (least : Int) (a b : List (Option Int)) (j : Nat) : roomAt least (a ++ none :: b) (a.length + 1 + j) = roomAt least b j := by
  unfold roomAt
  have e : a ++ none :: b = (a ++ [none]) ++ b := by simp
  have l : (a ++ [none]).length = a.length + 1 := by simp
  rw [e, ← l, List.drop_append, List.take_append]
  simp only [Nat.add_sub_cancel_left]
  rw [List.drop_of_length_le (by omega), List.take_of_length_le (by omega)]
  simp only [List.reverse_append, List.nil_append, List.reverse_cons, List.reverse_nil]
  rw [show ([none] : List (Option Int)) ++ a.reverse = none :: a.reverse from rfl, runM_cut]
/-- m is the greatest of least and of the cells from f to l -/
structure IsRoom (least : Int) (xs : List (Option Int)) (f l : Nat) (m : Int) : Prop where
  lo : least ≤ m
  up : ∀ i v, f ≤ i → i ≤ l → xs[i]? = some (some v) → v ≤ m
  at_ : m = least ∨ ∃ i, f ≤ i ∧ i ≤ l ∧ xs[i]? = some (some m)
theorem IsRoom.eq {least : Int} {xs : List (Option Int)} {f l : Nat} {m m' : Int} (h : IsRoom least xs f l m) (h' : IsRoom least xs f l m') : m = m' := by
  have a : m ≤ m' := by
    rcases h.at_ with e | ⟨i, h1, h2, h3⟩
    · rw [e]; exact h'.lo
    · exact h'.up i m h1 h2 h3
  have b : m' ≤ m := by
    rcases h'.at_ with e | ⟨i, h1, h2, h3⟩
    · rw [e]; exact h.lo
    · exact h.up i m' h1 h2 h3
  omega
theorem runM_is (least : Int) : ∀ (xs : List (Option Int)) (n : Nat), (∀ i, i < n → ∃ v, xs[i]? = some (some v)) → (∀ v, xs[n]? ≠ some (some v)) →
    least ≤ runM least xs ∧ (∀ i v, i < n → xs[i]? = some (some v) → v ≤ runM least xs) ∧ (runM least xs = least ∨ ∃ i, i < n ∧ xs[i]? = some (some (runM least xs)))
  | [], n, h, _ => by
    cases n with
    | zero => exact ⟨Int.le_refl _, fun i v hi => absurd hi (by omega), .inl rfl⟩
    | succ n => obtain ⟨v, e⟩ := h 0 (by omega); cases e
  | none :: xs, n, h, _ => by
    cases n with
    | zero => exact ⟨Int.le_refl _, fun i v hi => absurd hi (by omega), .inl rfl⟩
    | succ n => obtain ⟨v, e⟩ := h 0 (by omega); cases e
  | some w :: xs, n, h, h2 => by
    cases n with
    | zero => exact absurd rfl (h2 w)
    | succ n =>
      obtain ⟨a, b, c⟩ := runM_is least xs n (fun i hi => by obtain ⟨v, e⟩ := h (i + 1) (by omega); exact ⟨v, by simpa using e⟩) (fun v e => h2 v (by simpa using e))
      have e : runM least (some w :: xs) = max w (runM least xs) := rfl
      rw [e]
      refine ⟨by omega, fun i v hi hv => ?_, ?_⟩
      · cases i with
        | zero => simp at hv; omega
        | succ i => have := b i v (by omega) (by simpa using hv); omega
      · by_cases q : w ≤ runM least xs
        · rw [show max w (runM least xs) = runM least xs by omega]
          rcases c with c | ⟨i, hi, c⟩
          · exact .inl c
          · exact .inr ⟨i + 1, by omega, by simpa using c⟩
        · rw [show max w (runM least xs) = w by omega]
          exact .inr ⟨0, by omega, rfl⟩
theorem rev_get {α : Type} {xs : List α} {j i : Nat} (hj : j ≤ xs.length) (hi : i < j) : (xs.take j).reverse[i]? = xs[j - 1 - i]? := by
  have hl : (xs.take j).length = j := by rw [List.length_take]; omega
  rw [List.getElem?_reverse (by omega), hl, List.getElem?_take]
  rw [if_pos (by omega)]
theorem roomAt_is (least : Int) {xs : List (Option Int)} {f l j : Nat} (hj : f ≤ j) (hj2 : j ≤ l) (hs : ∀ i, f ≤ i → i ≤ l → ∃ v, xs[i]? = some (some v)) (h1 : ∀ v, xs[l + 1]? ≠ some (some v)) (h0 : f = 0 ∨ ∀ v, xs[f - 1]? ≠ some (some v)) : IsRoom least xs f l (roomAt least xs j) := by
  have hlen : l < xs.length := by
    obtain ⟨v, e⟩ := hs l (by omega) (by omega)
    exact (List.getElem?_eq_some_iff.mp e).1
  obtain ⟨a1, b1, c1⟩ := runM_is least (xs.drop j) (l + 1 - j) (fun i hi => by rw [List.getElem?_drop]; exact hs _ (by omega) (by omega)) (fun v => by rw [List.getElem?_drop, show j + (l + 1 - j) = l + 1 by omega]; exact h1 v)
  obtain ⟨a2, b2, c2⟩ := runM_is least (xs.take j).reverse (j - f) (fun i hi => by rw [rev_get (by omega) (by omega)]; exact hs _ (by omega) (by omega)) (fun v => by
    rcases h0 with h0 | h0
    · rw [h0, Nat.sub_zero, List.getElem?_eq_none (by rw [List.length_reverse, List.length_take]; omega)]
      exact fun z => nomatch z
    · by_cases z : j - f < j
      · rw [rev_get (by omega) (by omega), show j - 1 - (j - f) = f - 1 by omega]
        exact h0 v
      · rw [List.getElem?_eq_none (by rw [List.length_reverse, List.length_take]; omega)]
        exact fun z => nomatch z)
  unfold roomAt
  refine ⟨by omega, fun i v h2 h3 hv => ?_, ?_⟩
  · by_cases q : j ≤ i
    · have := b1 (i - j) v (by omega) (by rw [List.getElem?_drop, show j + (i - j) = i by omega]; exact hv)
      omega
    · have := b2 (j - 1 - i) v (by omega) (by rw [rev_get (by omega) (by omega), show j - 1 - (j - 1 - i) = i by omega]; exact hv)
      omega
  · have k1 : ∀ m, (m = least ∨ ∃ i, i < l + 1 - j ∧ (xs.drop j)[i]? = some (some m)) → m = least ∨ ∃ i, f ≤ i ∧ i ≤ l ∧ xs[i]? = some (some m) := fun m h => by
      rcases h with h | ⟨i, hi, h⟩
      · exact .inl h
      · rw [List.getElem?_drop] at h
        exact .inr ⟨j + i, by omega, by omega, h⟩
    have k2 : ∀ m, (m = least ∨ ∃ i, i < j - f ∧ (xs.take j).reverse[i]? = some (some m)) → m = least ∨ ∃ i, f ≤ i ∧ i ≤ l ∧ xs[i]? = some (some m) := fun m h => by
      rcases h with h | ⟨i, hi, h⟩
      · exact .inl h
      · rw [rev_get (by omega) (by omega)] at h
        exact .inr ⟨j - 1 - i, by omega, by omega, h⟩
    rcases Int.le_total (runM least (xs.drop j)) (runM least (xs.take j).reverse) with q | q
    · rw [Int.max_eq_right q]; exact k2 _ c2
    · rw [Int.max_eq_left q]; exact k1 _ c1
def colRuns (p : Nat → Bool) : Nat → List (Nat × Nat) × Option Nat
  | 0 => ([], none)
  | k + 1 => if p k then ((colRuns p k).1, some ((colRuns p k).2.getD k)) else match (colRuns p k).2 with
    | none => ((colRuns p k).1, none)
    | some f => ((colRuns p k).1 ++ [(f, k - 1)], none)
def hasL (j : Nat) (b : Nat × Nat) : Bool := decide (b.1 ≤ j) && decide (j ≤ b.2)
structure RunsOk (p : Nat → Bool) (k : Nat) (bs : List (Nat × Nat)) (o : Option Nat) : Prop where
  blk : ∀ b ∈ bs, b.1 ≤ b.2 ∧ b.2 + 1 < k ∧ (∀ j, b.1 ≤ j → j ≤ b.2 → p j = true) ∧ p (b.2 + 1) = false ∧ (b.1 = 0 ∨ p (b.1 - 1) = false)
  opn : ∀ f, o = some f → f < k ∧ (∀ j, f ≤ j → j < k → p j = true) ∧ (f = 0 ∨ p (f - 1) = false) ∧ ∀ b ∈ bs, b.2 < f
  shut : o = none → k = 0 ∨ p (k - 1) = false
  one : ∀ j, j < k → p j = true → (∃ b, bs.filter (hasL j) = [b]) ∨ ∃ f, o = some f ∧ f ≤ j
  off : ∀ j, p j = false → bs.filter (hasL j) = []
theorem runs_ok (p : Nat → Bool) : ∀ k, RunsOk p k (colRuns p k).1 (colRuns p k).2
  | 0 => ⟨(fun _ h => nomatch h), (fun _ h => nomatch h), fun _ => .inl rfl, fun _ h => absurd h (by omega), fun _ _ => rfl⟩
  | k + 1 => by
    have ih := runs_ok p k
    unfold colRuns
    generalize (colRuns p k).1 = bs at ih ⊢
    generalize (colRuns p k).2 = o at ih ⊢
    by_cases c : p k = true
    · rw [if_pos c]
      refine ⟨fun b hb => ?_, fun f hf => ?_, (fun h => nomatch h), fun j hj hp => ?_, ih.off⟩
      · obtain ⟨a1, a2, a3, a4, a5⟩ := ih.blk b hb
        exact ⟨a1, by omega, a3, a4, a5⟩
      · cases o with
        | none =>
          cases hf
          refine ⟨by show k < _; omega, fun j h1 h2 => ?_, ?_, fun b hb => ?_⟩
          · have h1 : k ≤ j := h1
            rw [show j = k by omega]; exact c
          · exact ih.shut rfl
          · have := (ih.blk b hb).2.1
            show b.2 < k
            omega
        | some f0 =>
          cases hf
          obtain ⟨a1, a2, a3, a4⟩ := ih.opn f0 rfl
          refine ⟨by show f0 < _; omega, fun j h1 h2 => ?_, a3, a4⟩
          by_cases q : j = k
          · rw [q]; exact c
          · exact a2 j h1 (by omega)
      · by_cases q : j = k
        · right
          refine ⟨_, rfl, ?_⟩
          cases o with
          | none => show k ≤ j; omega
          | some f0 => have := (ih.opn f0 rfl).1; show f0 ≤ j; omega
        · rcases ih.one j (by omega) hp with h | ⟨f, e, h⟩
          · exact .inl h
          · right
            rw [e]
            exact ⟨f, rfl, h⟩
    · rw [if_neg c]
      have c : p k = false := by simpa using c
      cases o with
      | none =>
        refine ⟨fun b hb => ?_, (fun f hf => nomatch hf), fun _ => .inr c, fun j hj hp => ?_, ih.off⟩
        · obtain ⟨a1, a2, a3, a4, a5⟩ := ih.blk b hb
          exact ⟨a1, by omega, a3, a4, a5⟩
        · have : j ≠ k := fun e => by rw [e, c] at hp; cases hp
          rcases ih.one j (by omega) hp with h | ⟨f, e, h⟩
          · exact .inl h
          · cases e
      | some f0 =>
        obtain ⟨a1, a2, a3, a4⟩ := ih.opn f0 rfl
        have hk : k - 1 + 1 = k := by omega
        refine ⟨fun b hb => ?_, (fun f hf => nomatch hf), fun _ => .inr c, fun j hj hp => ?_, fun j hp => ?_⟩
        · rcases List.mem_append.mp hb with hb | hb
          · obtain ⟨a1, a2, a3, a4, a5⟩ := ih.blk b hb
            exact ⟨a1, by omega, a3, a4, a5⟩
          · rw [List.mem_singleton.mp hb]
            refine ⟨?_, ?_, fun j h1 h2 => a2 j h1 ?_, ?_, a3⟩
            · show f0 ≤ k - 1; omega
            · show k - 1 + 1 < k + 1; omega
            · have h2 : j ≤ k - 1 := h2; omega
            · show p (k - 1 + 1) = false; rw [hk]; exact c
        · have : j ≠ k := fun e => by rw [e, c] at hp; cases hp
          left
          show ∃ b, (bs ++ [(f0, k - 1)]).filter (hasL j) = [b]
          rw [List.filter_append]
          by_cases q : f0 ≤ j
          · refine ⟨(f0, k - 1), ?_⟩
            rw [List.filter_eq_nil_iff.mpr fun b hb => ?_]
            · rw [List.filter_cons_of_pos (by unfold hasL; simp; omega)]
              rfl
            · have := a4 b hb
              unfold hasL
              simp
              omega
          · rcases ih.one j (by omega) hp with ⟨b, h⟩ | ⟨f, e, h⟩
            · refine ⟨b, ?_⟩
              rw [h, List.filter_cons_of_neg (by unfold hasL; simp; omega)]
              rfl
            · cases e; omega
        · show (bs ++ [(f0, k - 1)]).filter (hasL j) = []
          rw [List.filter_append, ih.off j hp, List.filter_cons_of_neg ?_]
          · rfl
          · unfold hasL
            simp
            intro h1
            by_cases q : j < k
            · rw [a2 j h1 q] at hp; cases hp
            · omega
theorem runs_one {p : Nat → Bool} {n j : Nat} (hn : p n = false) (hj : j < n) (hp : p j = true) : ∃ b, (colRuns p (n + 1)).1.filter (hasL j) = [b] := by
  have h := runs_ok p (n + 1)
  rcases h.one j (by omega) hp with h1 | ⟨f, e, h2⟩
  · exact h1
  · obtain ⟨a1, a2, _⟩ := h.opn f e
    have := a2 n (by omega) (by omega)
    rw [hn] at this; cases this
def colOf (t : List (List Int)) (c : Nat) : List (Option Int) := t.map fun r => if c + 1 < r.length then r[c]? else none
def roomsOf (least : Int) (t : List (List Int)) (j : Nat) : List Int := (List.range ((t.getD j []).length - 1)).map fun c => roomAt least (colOf t c) j
def stopsFrom (gap : Int) : Int → List Int → List Int
  | _, [] => []
  | s, x :: xs => (s + (x + gap)) :: stopsFrom gap (s + (x + gap)) xs
def rowStops (g l : Int) (t : List (List Int)) (j : Nat) : List Int := stopsFrom g 0 (roomsOf l t j)
def stopsF (g l : Int) (t : List (List Int)) : List (List Int) := (List.range t.length).map (rowStops g l t)
def rowEnd (g l : Int) (t : List (List Int)) (j : Nat) : Int := (rowStops g l t j).getLastD 0 + (t.getD j []).getLastD 0
def endsF (g l : Int) (t : List (List Int)) : List Int := (List.range t.length).map (rowEnd g l t)
def maxOf : List Int → Int
  | [] => 0
  | [x] => x
  | x :: y :: xs => max x (maxOf (y :: xs))
def widthF (g l : Int) (t : List (List Int)) : Int := maxOf (endsF g l t)
theorem maxOf_mem : ∀ {xs : List Int}, xs ≠ [] → maxOf xs ∈ xs
  | [], h => absurd rfl h
  | [x], _ => List.mem_singleton.mpr rfl
  | x :: y :: xs, _ => by
    have ih := maxOf_mem (xs := y :: xs) (by simp)
    unfold maxOf
    rcases Int.le_total x (maxOf (y :: xs)) with q | q
    · rw [Int.max_eq_right q]; exact List.mem_cons_of_mem _ ih
    · rw [Int.max_eq_left q]; exact List.mem_cons_self
theorem maxOf_le : ∀ {xs : List Int}, ∀ y ∈ xs, y ≤ maxOf xs
  | [], _, h => nomatch h
  | [x], y, h => by rw [List.mem_singleton.mp h]; exact Int.le_refl _
  | x :: z :: xs, y, h => by
    unfold maxOf
    rcases List.mem_cons.mp h with rfl | h
    · exact Int.le_max_left _ _
    · exact Int.le_trans (maxOf_le (xs := z :: xs) y h) (Int.le_max_right _ _)
theorem maxOf_eq {xs : List Int} {m : Int} (h : m ∈ xs) (h2 : ∀ y ∈ xs, y ≤ m) : m = maxOf xs :=
  Int.le_antisymm (maxOf_le m h) (h2 _ (maxOf_mem (List.ne_nil_of_mem h)))
theorem getD_ap1 {α : Type} {a b : List α} {d : α} {j : Nat} (h : j < a.length) : (a ++ b).getD j d = a.getD j d := by
  rw [List.getD_eq_getElem?_getD, List.getD_eq_getElem?_getD, List.getElem?_append_left h]
theorem getD_ap2 {α : Type} {a b : List α} {d : α} {j : Nat} : (a ++ b).getD (a.length + j) d = b.getD j d := by
  rw [List.getD_eq_getElem?_getD, List.getD_eq_getElem?_getD, List.getElem?_append_right (Nat.le_add_right _ _), Nat.add_sub_cancel_left]
section
variable {A B : List (List Int)} {l g : Int}
theorem colOf_cat (z : Int) (c : Nat) : colOf (A ++ [[z]] ++ B) c = colOf A c ++ none :: colOf B c := by
  unfold colOf
  rw [List.map_append, List.map_append, List.map_cons, List.map_nil, if_neg (by simp), List.append_assoc]
  rfl
theorem colOf_len (t : List (List Int)) (c : Nat) : (colOf t c).length = t.length := by unfold colOf; rw [List.length_map]
theorem rooms_left (z : Int) {j : Nat} (h : j < A.length) : roomsOf l (A ++ [[z]] ++ B) j = roomsOf l A j := by
  unfold roomsOf
  rw [List.append_assoc, getD_ap1 h, ← List.append_assoc]
  apply List.map_congr_left
  intro c _
  rw [colOf_cat, roomAt_left l _ (by rw [colOf_len]; exact h)]
theorem rooms_mid (z : Int) : roomsOf l (A ++ [[z]] ++ B) A.length = [] := by
  unfold roomsOf
  have e : (A ++ [[z]] ++ B).getD A.length [] = [z] := by
    rw [List.append_assoc]
    have := getD_ap2 (a := A) (b := [[z]] ++ B) (d := []) (j := 0)
    simpa using this
  rw [e]
  rfl
theorem rooms_right (z : Int) (j : Nat) : roomsOf l (A ++ [[z]] ++ B) (A.length + 1 + j) = roomsOf l B j := by
  unfold roomsOf
  have hl : (A ++ [[z]]).length = A.length + 1 := by simp
  rw [show (A ++ [[z]] ++ B).getD (A.length + 1 + j) [] = B.getD j [] by rw [← hl]; exact getD_ap2]
  apply List.map_congr_left
  intro c _
  rw [colOf_cat, show A.length + 1 + j = (colOf A c).length + 1 + j by rw [colOf_len], roomAt_right]
theorem range_cat (n m : Nat) : List.range (n + 1 + m) = List.range n ++ [n] ++ (List.range m).map (fun j => n + 1 + j) := by
  rw [List.range_add, List.range_succ]
theorem endsF_cat (z : Int) : endsF g l (A ++ [[z]] ++ B) = endsF g l A ++ [z] ++ endsF g l B := by
  unfold endsF
  have e : (A ++ [[z]] ++ B).length = A.length + 1 + B.length := by simp; omega
  have hl : (A ++ [[z]]).length = A.length + 1 := by simp
  rw [e, range_cat, List.map_append, List.map_append, List.map_map]
  congr 1
  · congr 1
    · apply List.map_congr_left
      intro j hj
      unfold rowEnd rowStops
      rw [rooms_left z (List.mem_range.mp hj), List.append_assoc, getD_ap1 (List.mem_range.mp hj)]
    · rw [List.map_cons, List.map_nil]
      unfold rowEnd rowStops
      rw [rooms_mid]
      have e : (A ++ [[z]] ++ B).getD A.length [] = [z] := by
        rw [List.append_assoc]
        have := getD_ap2 (a := A) (b := [[z]] ++ B) (d := []) (j := 0)
        simpa using this
      rw [e]
      show [(0 : Int) + z] = [z]
      rw [Int.zero_add]
  · apply List.map_congr_left
    intro j hj
    show rowEnd g l _ _ = rowEnd g l _ _
    unfold rowEnd rowStops
    rw [rooms_right, show (A ++ [[z]] ++ B).getD (A.length + 1 + j) [] = B.getD j [] by rw [← hl]; exact getD_ap2]
end
def CellsIn (t : List (List Int)) (G : Int) : Prop := ∀ r ∈ t, ∀ x ∈ r, 0 ≤ x ∧ x ≤ G
theorem runM_in {l G : Int} (h0 : 0 ≤ l) (h1 : l ≤ G) : ∀ {xs : List (Option Int)}, (∀ v, some v ∈ xs → 0 ≤ v ∧ v ≤ G) → 0 ≤ runM l xs ∧ runM l xs ≤ G
  | [], _ => ⟨h0, h1⟩
  | none :: _, _ => ⟨h0, h1⟩
  | some v :: xs, h => by
    have ih := runM_in h0 h1 (xs := xs) fun v hv => h v (List.mem_cons_of_mem _ hv)
    have := h v List.mem_cons_self
    show 0 ≤ max v (runM l xs) ∧ max v (runM l xs) ≤ G
    omega
theorem roomAt_in {l G : Int} (h0 : 0 ≤ l) (h1 : l ≤ G) {xs : List (Option Int)} (h : ∀ v, some v ∈ xs → 0 ≤ v ∧ v ≤ G) (j : Nat) : 0 ≤ roomAt l xs j ∧ roomAt l xs j ≤ G := by
  unfold roomAt
  have a := runM_in h0 h1 (xs := xs.drop j) fun v hv => h v (List.mem_of_mem_drop hv)
  have b := runM_in h0 h1 (xs := (xs.take j).reverse) fun v hv => h v (List.mem_of_mem_take (List.mem_reverse.mp hv))
  omega
theorem colOf_in {t : List (List Int)} {G : Int} (h : CellsIn t G) (c : Nat) : ∀ v, some v ∈ colOf t c → 0 ≤ v ∧ v ≤ G := by
  intro v hv
  unfold colOf at hv
  obtain ⟨r, hr, e⟩ := List.mem_map.mp hv
  split at e
  · exact h r hr v (List.mem_of_getElem? e)
  · cases e
theorem roomsOf_in {t : List (List Int)} {l G : Int} (h0 : 0 ≤ l) (h1 : l ≤ G) (h : CellsIn t G) (j : Nat) : ∀ x ∈ roomsOf l t j, 0 ≤ x ∧ x ≤ G := by
  intro x hx
  unfold roomsOf at hx
  obtain ⟨c, _, rfl⟩ := List.mem_map.mp hx
  exact roomAt_in h0 h1 (colOf_in h c) j
theorem stopsFrom_in {g G : Int} (h0 : 0 ≤ g) (h1 : g ≤ G) : ∀ {xs : List Int} {s : Int}, (∀ x ∈ xs, 0 ≤ x ∧ x ≤ G) → 0 ≤ s → ∀ y ∈ stopsFrom g s xs, 0 ≤ y ∧ y ≤ s + 2 * G * xs.length
  | [], _, _, _, y, hy => nomatch hy
  | x :: xs, s, h, hs, y, hy => by
    have hx := h x List.mem_cons_self
    have ih := stopsFrom_in h0 h1 (xs := xs) (s := s + (x + g)) (fun x hx => h x (List.mem_cons_of_mem _ hx)) (by omega)
    have e : (2 : Int) * G * ((x :: xs).length : Nat) = 2 * G * (xs.length : Nat) + 2 * G := by
      rw [List.length_cons, Int.natCast_add, Int.mul_add]
      simp
    rw [e]
    have p : 0 ≤ 2 * G * (xs.length : Int) := Int.mul_nonneg (by omega) (by omega)
    rcases List.mem_cons.mp hy with rfl | hy
    · omega
    · have := ih y hy
      omega
theorem stopsFrom_len {g : Int} : ∀ {xs : List Int} {s : Int}, (stopsFrom g s xs).length = xs.length
  | [], _ => rfl
  | _ :: xs, _ => by unfold stopsFrom; rw [List.length_cons, List.length_cons, stopsFrom_len]
theorem rowStops_len {g l : Int} {t : List (List Int)} {j : Nat} : (rowStops g l t j).length = (t.getD j []).length - 1 := by
  unfold rowStops roomsOf
  rw [stopsFrom_len, List.length_map, List.length_range]
theorem rowStops_in {t : List (List Int)} {g l G : Int} (g0 : 0 ≤ g) (g1 : g ≤ G) (h0 : 0 ≤ l) (h1 : l ≤ G) (h : CellsIn t G) {j : Nat} (hl : (t.getD j []).length ≤ 12) : ∀ y ∈ rowStops g l t j, 0 ≤ y ∧ y ≤ 22 * G := by
  intro y hy
  have := stopsFrom_in g0 g1 (roomsOf_in h0 h1 h j) (Int.le_refl 0) y hy
  refine ⟨this.1, Int.le_trans this.2 ?_⟩
  have e : (roomsOf l t j).length ≤ 11 := by
    unfold roomsOf
    rw [List.length_map, List.length_range]
    omega
  have : 2 * G * ((roomsOf l t j).length : Int) ≤ 2 * G * 11 := Int.mul_le_mul_of_nonneg_left (by omega) (by omega)
  omega
def tabAt (t : List (List Int)) (j : Nat) : Nat := (t.getD j []).length - 1
def hasT (ns : List Nat) (c j : Nat) : Bool := decide (c < ns.getD j 0)
abbrev Blk := Nat × Nat × Nat
def colBlks (ns : List Nat) (c : Nat) : List Blk := (colRuns (hasT ns c) (ns.length + 1)).1.map fun b => (c, b.1, b.2)
def blksF (ns : List Nat) (m : Nat) : List Blk := (List.range m).flatMap (colBlks ns)
def tabsF (t : List (List Int)) : List Nat := t.map fun r => r.length - 1
def hasB (j : Nat) (b : Blk) : Bool := hasL j b.2
def roomB (l : Int) (t : List (List Int)) (b : Blk) : Int := roomAt l (colOf t b.1) b.2.1
theorem tabsF_len (t : List (List Int)) : (tabsF t).length = t.length := by unfold tabsF; rw [List.length_map]
theorem tabsF_at (t : List (List Int)) (j : Nat) : (tabsF t).getD j 0 = tabAt t j := by
  unfold tabsF tabAt
  rw [List.getD_eq_getElem?_getD, List.getD_eq_getElem?_getD, List.getElem?_map]
  cases t[j]? <;> rfl
theorem colOf_some {t : List (List Int)} {c j : Nat} (h : hasT (tabsF t) c j = true) : ∃ v, (colOf t c)[j]? = some (some v) ∧ (t.getD j [])[c]? = some v := by
  unfold hasT at h
  rw [tabsF_at, decide_eq_true_eq] at h
  unfold tabAt at h
  unfold colOf
  rw [List.getElem?_map]
  rw [List.getD_eq_getElem?_getD] at h ⊢
  cases q : t[j]? with
  | none => rw [q] at h; exact absurd h (by simp)
  | some r =>
    rw [q] at h
    have h : c < r.length - 1 := h
    exact ⟨r[c]'(by omega), by rw [Option.map_some, if_pos (by omega), List.getElem?_eq_getElem (by omega)], List.getElem?_eq_getElem (by omega)⟩
theorem colOf_none {t : List (List Int)} {c j : Nat} (h : hasT (tabsF t) c j = false) : ∀ v, (colOf t c)[j]? ≠ some (some v) := by
  unfold hasT at h
  rw [tabsF_at, decide_eq_false_iff_not] at h
  unfold tabAt at h
  unfold colOf
  rw [List.getElem?_map]
  rw [List.getD_eq_getElem?_getD] at h
  cases q : t[j]? with
  | none => exact fun v e => nomatch e
  | some r =>
    rw [q] at h
    have h : ¬ c < r.length - 1 := h
    intro v e
    rw [Option.map_some, if_neg (by omega)] at e
    cases e
/-- what is known of a block -/
structure BlkOk (t : List (List Int)) (b : Blk) : Prop where
  le : b.2.1 ≤ b.2.2
  lt : b.2.2 < t.length
  at_ : ∀ j, b.2.1 ≤ j → j ≤ b.2.2 → hasT (tabsF t) b.1 j = true
  nx : hasT (tabsF t) b.1 (b.2.2 + 1) = false
  pv : b.2.1 = 0 ∨ hasT (tabsF t) b.1 (b.2.1 - 1) = false
theorem colBlks_ok {t : List (List Int)} {c : Nat} {b : Blk} (h : b ∈ colBlks (tabsF t) c) : BlkOk t b ∧ b.1 = c := by
  unfold colBlks at h
  obtain ⟨q, hq, rfl⟩ := List.mem_map.mp h
  obtain ⟨a1, a2, a3, a4, a5⟩ := (runs_ok _ _).blk q hq
  rw [tabsF_len] at a2
  exact ⟨⟨a1, by show q.2 < _; omega, a3, a4, a5⟩, rfl⟩
theorem blksF_ok {t : List (List Int)} {m : Nat} {b : Blk} (h : b ∈ blksF (tabsF t) m) : BlkOk t b ∧ b.1 < m := by
  unfold blksF at h
  obtain ⟨c, hc, hb⟩ := List.mem_flatMap.mp h
  obtain ⟨h1, h2⟩ := colBlks_ok hb
  exact ⟨h1, by rw [h2]; exact List.mem_range.mp hc⟩
theorem BlkOk.room {t : List (List Int)} {b : Blk} (h : BlkOk t b) (l : Int) {j : Nat} (h1 : b.2.1 ≤ j) (h2 : j ≤ b.2.2) : IsRoom l (colOf t b.1) b.2.1 b.2.2 (roomAt l (colOf t b.1) j) :=
  roomAt_is l h1 h2 (fun i a b' => let ⟨v, e, _⟩ := colOf_some (h.at_ i a b'); ⟨v, e⟩) (colOf_none h.nx) (h.pv.imp id colOf_none)
theorem BlkOk.same {t : List (List Int)} {b : Blk} (h : BlkOk t b) (l : Int) {j : Nat} (h1 : b.2.1 ≤ j) (h2 : j ≤ b.2.2) : roomAt l (colOf t b.1) j = roomB l t b :=
  (h.room l h1 h2).eq (h.room l (Nat.le_refl _) h.le)
theorem flat_if {α : Type} (k : Nat) (f : Nat → α) : ∀ n, (List.range n).flatMap (fun c => if c < k then [f c] else []) = (List.range (min k n)).map f
  | 0 => by simp
  | n + 1 => by
    rw [List.range_succ, List.flatMap_append, flat_if k f n]
    by_cases h : n < k
    · rw [show min k (n + 1) = n + 1 by omega, show min k n = n by omega, List.range_succ, List.map_append]
      simp [h]
    · rw [show min k (n + 1) = min k n by omega]
      simp [h]
theorem blks_rooms {t : List (List Int)} (l : Int) {j m : Nat} (hj : j < t.length) (hm : tabAt t j ≤ m) : ((blksF (tabsF t) m).filter (hasB j)).map (roomB l t) = roomsOf l t j := by
  unfold blksF
  rw [List.filter_flatMap, List.map_flatMap]
  have e : ∀ c, ((colBlks (tabsF t) c).filter (hasB j)).map (roomB l t) = if c < tabAt t j then [roomAt l (colOf t c) j] else [] := by
    intro c
    unfold colBlks
    rw [List.filter_map, List.map_map]
    have e2 : (hasB j ∘ fun b : Nat × Nat => (c, b.1, b.2)) = hasL j := rfl
    rw [e2]
    by_cases h : c < tabAt t j
    · rw [if_pos h]
      have hp : hasT (tabsF t) c j = true := by unfold hasT; rw [tabsF_at, decide_eq_true_eq]; exact h
      have hn : hasT (tabsF t) c (tabsF t).length = false := by
        unfold hasT
        rw [tabsF_at, decide_eq_false_iff_not]
        unfold tabAt
        rw [tabsF_len, List.getD_eq_getElem?_getD, List.getElem?_eq_none (Nat.le_refl _)]
        exact Nat.not_lt_zero _
      obtain ⟨b, hb⟩ := runs_one hn (by rw [tabsF_len]; exact hj) hp
      rw [hb]
      have hm : b ∈ (colRuns (hasT (tabsF t) c) ((tabsF t).length + 1)).1.filter (hasL j) := by rw [hb]; exact List.mem_singleton.mpr rfl
      obtain ⟨m1, m2⟩ := List.mem_filter.mp hm
      have ok := (colBlks_ok (t := t) (c := c) (b := (c, b.1, b.2)) (List.mem_map.mpr ⟨b, m1, rfl⟩)).1
      unfold hasL at m2
      simp at m2
      show [roomB l t (c, b.1, b.2)] = _
      rw [← ok.same l m2.1 m2.2]
    · rw [if_neg h]
      have hp : hasT (tabsF t) c j = false := by unfold hasT; rw [tabsF_at, decide_eq_false_iff_not]; exact h
      rw [(runs_ok _ _).off j hp]
      rfl
  rw [show (fun c => ((colBlks (tabsF t) c).filter (hasB j)).map (roomB l t)) = fun c => if c < tabAt t j then [roomAt l (colOf t c) j] else [] from funext e, flat_if, Nat.min_eq_left hm]
  rfl
theorem col_at {t : List (List Int)} {c j : Nat} (h : c < (t.getD j []).length - 1) : ∃ v, (colOf t c)[j]? = some (some v) := by
  rw [List.getD_eq_getElem?_getD] at h
  unfold colOf
  rw [List.getElem?_map]
  cases q : t[j]? with
  | none => rw [q] at h; simp at h
  | some r =>
    rw [q] at h
    have h : c < r.length - 1 := h
    exact ⟨r[c]'(by omega), by rw [Option.map_some, if_pos (by omega), List.getElem?_eq_getElem (by omega)]⟩
def endS0 (g : Int) (xs : List Int) : Int := (xs.map (· + g)).sum
theorem sum_cons (x : Int) (xs : List Int) : (x :: xs).sum = x + xs.sum := by simp
theorem stops_last (g : Int) : ∀ (xs : List Int) (s : Int), (stopsFrom g s xs).getLastD s = s + endS0 g xs
  | [], s => by unfold stopsFrom endS0; simp
  | x :: xs, s => by
    unfold stopsFrom
    rw [List.getLastD_cons, stops_last g xs]
    unfold endS0
    rw [List.map_cons, sum_cons]
    omega
theorem rowEnd_eq (g l : Int) (t : List (List Int)) (j : Nat) : rowEnd g l t j = endS0 g (roomsOf l t j) + (t.getD j []).getLastD 0 := by
  unfold rowEnd rowStops
  rw [stops_last]
  omega
theorem roomAt_next (l : Int) {xs : List (Option Int)} {j : Nat} {v w : Int} (h1 : xs[j]? = some (some v)) (h2 : xs[j + 1]? = some (some w)) : roomAt l xs (j + 1) = roomAt l xs j := by
  unfold roomAt
  obtain ⟨l1, e1⟩ := List.getElem?_eq_some_iff.mp h1
  rw [List.drop_eq_getElem_cons l1, e1, List.take_add_one, h1]
  simp only [Option.toList_some, List.reverse_append, List.reverse_cons, List.reverse_nil, List.nil_append, List.singleton_append]
  show max _ (max v _) = max (max v _) _
  omega
theorem roomAt_run (l : Int) {xs : List (Option Int)} {j : Nat} : ∀ k, (∀ i, j ≤ i → i ≤ j + k → ∃ v, xs[i]? = some (some v)) → roomAt l xs (j + k) = roomAt l xs j
  | 0, _ => rfl
  | k + 1, h => by
    obtain ⟨v, e1⟩ := h (j + k) (by omega) (by omega)
    obtain ⟨w, e2⟩ := h (j + k + 1) (by omega) (by omega)
    rw [← roomAt_run l k (fun i a b => h i a (by omega))]
    exact roomAt_next l e1 e2
theorem ends_len (g l : Int) (t : List (List Int)) : (endsF g l t).length = t.length := by unfold endsF; rw [List.length_map, List.length_range]
/-- the greatest of them, at least 0 -/
def maxP (xs : List Int) : Int := max 0 (maxOf xs)
def bF (g l : Int) (t : List (List Int)) (c k : Nat) : Int := endS0 g ((roomsOf l t k).take c)
theorem rooms_len (l : Int) (t : List (List Int)) (k : Nat) : (roomsOf l t k).length = tabAt t k := by
  unfold roomsOf tabAt
  rw [List.length_map, List.length_range]
theorem rooms_at {l : Int} {t : List (List Int)} {k c : Nat} (h : c < tabAt t k) : (roomsOf l t k)[c]? = some (roomAt l (colOf t c) k) := by
  have h : c < (t.getD k []).length - 1 := h
  unfold roomsOf
  rw [List.getElem?_map, List.getElem?_range h]
  rfl
theorem endS0_snoc (g x : Int) (xs : List Int) : endS0 g (xs ++ [x]) = endS0 g xs + (x + g) := by
  unfold endS0
  simp
theorem bF_next {g l : Int} {t : List (List Int)} {c k : Nat} (h : c < tabAt t k) : bF g l t (c + 1) k = bF g l t c k + (roomAt l (colOf t c) k + g) := by
  unfold bF
  rw [List.take_add_one, rooms_at h]
  exact endS0_snoc _ _ _
theorem bF_stay {g l : Int} {t : List (List Int)} {c k : Nat} (h : tabAt t k ≤ c) : bF g l t (c + 1) k = bF g l t c k := by
  unfold bF
  rw [List.take_of_length_le (by rw [rooms_len]; omega), List.take_of_length_le (by rw [rooms_len]; omega)]
theorem bF_zero {g l : Int} {t : List (List Int)} {k : Nat} : bF g l t 0 k = 0 := rfl
theorem has_tab {t : List (List Int)} {c j : Nat} (h : hasT (tabsF t) c j = true) : c < tabAt t j := by
  unfold hasT at h
  rw [tabsF_at, decide_eq_true_eq] at h
  exact h
theorem bF_same {g l : Int} {t : List (List Int)} {b : Blk} (bk : BlkOk t b) {k : Nat} (h1 : b.2.1 ≤ k) (h2 : k ≤ b.2.2) : bF g l t b.1 k = bF g l t b.1 b.2.1 := by
  unfold bF
  congr 1
  apply List.ext_getElem?
  intro c
  by_cases hc : c < b.1
  · have t1 := has_tab (bk.at_ k h1 h2)
    have t2 := has_tab (bk.at_ b.2.1 (Nat.le_refl _) bk.le)
    rw [List.getElem?_take, List.getElem?_take, if_pos hc, if_pos hc, rooms_at (by omega), rooms_at (by omega)]
    congr 1
    obtain ⟨d, rfl⟩ : ∃ d, k = b.2.1 + d := ⟨k - b.2.1, by omega⟩
    refine roomAt_run l d fun i hi1 hi2 => col_at ?_
    have := has_tab (bk.at_ i hi1 (by omega))
    unfold tabAt at this
    omega
  · rw [List.getElem?_take, List.getElem?_take, if_neg hc, if_neg hc]
theorem bF_block {g l : Int} {t : List (List Int)} {b : Blk} (bk : BlkOk t b) {k : Nat} (h1 : b.2.1 ≤ k) (h2 : k ≤ b.2.2) : bF g l t (b.1 + 1) k = bF g l t b.1 b.2.1 + (roomB l t b + g) := by
  rw [bF_next (has_tab (bk.at_ k h1 h2)), bF_same bk h1 h2, bk.same l h1 h2]
/-- the lines from f to l, without their first c cells -/
def subT (t : List (List Int)) (f l c : Nat) : List (List Int) := ((t.drop f).take (l + 1 - f)).map (List.drop c)
/-- the width of the lines from f to l -/
def wideF (g l : Int) (t : List (List Int)) (a b : Nat) : Int := maxP (endsF g l (subT t a b 0))
/-- stretches that are too wide, each from the end of the one before -/
def greedyF (g l : Int) (t : List (List Int)) (w : Int) : Nat → List (Nat × Nat) × Nat
  | 0 => ([], 0)
  | k + 1 => if wideF g l t (greedyF g l t w k).2 k > w then ((greedyF g l t w k).1 ++ [((greedyF g l t w k).2, k)], k) else greedyF g l t w k
def strF (g l : Int) (t : List (List Int)) (w : Int) : List (Nat × Nat) := (greedyF g l t w t.length).1
/-- each line alone is narrow enough -/
def Fits (g l : Int) (t : List (List Int)) (w : Int) : Prop := ∀ i, i < t.length → wideF g l t i i ≤ w
def natsD (ns : List Nat) : List D := ns.map fun n : Nat => D.int (n : Int)
def blkD (b : Blk) : D := .tup [.int (b.1 : Nat), .int (b.2.1 : Nat), .int (b.2.2 : Nat)]
def blksD (bs : List Blk) : D := .lst (bs.map blkD)
def sp_tabs_in : DSpec := fun ds S Φ _ => ∃ d t, ds = [d] ∧ TabS S d t ∧ TabOk t ∧ Φ S (.lst (natsD (tabsF t)))
def sp_blocks_of_column : DSpec := fun ds S Φ _ => ∃ ns, ∃ c : Nat, ds = [.lst (natsD ns), .int c] ∧ ns.length ≤ 60 ∧ Φ S (blksD (colBlks ns c))
def sp_blocks_by_tabs : DSpec := fun ds S Φ _ => ∃ ns, ds = [.lst (natsD ns)] ∧ ns.length ≤ 60 ∧ Φ S (blksD (blksF ns 11))
def sp_blocks_in : DSpec := fun ds S Φ _ => ∃ d t, ds = [d] ∧ TabS S d t ∧ TabOk t ∧ Φ S (blksD (blksF (tabsF t) 11))
def sp_greatest_in : DSpec := fun ds S Φ _ => ∃ d t b, ds = [d, blkD b] ∧ TabS S d t ∧ TabOk t ∧ BlkOk t b ∧ ∀ m, (∃ i, b.2.1 ≤ i ∧ i ≤ b.2.2 ∧ (colOf t b.1)[i]? = some (some m)) → (∀ i v, b.2.1 ≤ i → i ≤ b.2.2 → (colOf t b.1)[i]? = some (some v) → v ≤ m) → Φ S (.int m)
def sp_room_of (C : Addr) : DSpec := fun ds S Φ _ => ∃ d s t b ks g l, ds = [d, s, blkD b] ∧ TabS S d t ∧ TabOk t ∧ BlkOk t b ∧ asI S s = some (C, styF ks g l) ∧ Φ S (.int (roomB l t b))
def roomsT (l : Int) (t : List (List Int)) : List (List Int) := (List.range t.length).map (roomsOf l t)
def sp_rooms_in (C : Addr) : DSpec := fun ds S Φ _ => ∃ d s t ks g l, ds = [d, s] ∧ TabS S d t ∧ TabOk t ∧ asI S s = some (C, styF ks g l) ∧ newTab (roomsT l t) S Φ
def sp_stops_in (C : Addr) : DSpec := fun ds S Φ _ => ∃ d s t ks g l, ds = [d, s] ∧ TabS S d t ∧ TabOk t ∧ asI S s = some (C, styF ks g l) ∧ Φ S (tabD (stopsF g l t))
def sp_ends_in (C : Addr) : DSpec := fun ds S Φ _ => ∃ d s t ks g l, ds = [d, s] ∧ TabS S d t ∧ TabOk t ∧ asI S s = some (C, styF ks g l) ∧ LookOk ks g l ∧ Φ S (.lst ((endsF g l t).map D.int))
def sp_width_in (C : Addr) : DSpec := fun ds S Φ _ => ∃ d s t ks g l, ds = [d, s] ∧ TabS S d t ∧ TabOk t ∧ asI S s = some (C, styF ks g l) ∧ LookOk ks g l ∧ Φ S (.int (widthF g l t))
def sp_stops (C : Addr) : DSpec := fun ds S Φ _ => ∃ d s t ks g l, ds = [d, s] ∧ TabS S d t ∧ TabOk t ∧ asI S s = some (C, styF ks g l) ∧ Φ S (tabD (stopsF g l t))
def sp_width_of (C : Addr) : DSpec := fun ds S Φ _ => ∃ d s t ks g l, ds = [d, s] ∧ TabS S d t ∧ TabOk t ∧ asI S s = some (C, styF ks g l) ∧ LookOk ks g l ∧ Φ S (.int (widthF g l t))
structure GapOk (g l : Int) : Prop where
  g0 : 0 ≤ g
  g1 : g ≤ GREAT
  l0 : 0 ≤ l
  l1 : l ≤ GREAT
structure LinOk (t : List (List Int)) : Prop where
  lo : 1 ≤ t.length
  hi : t.length ≤ 200
  row : ∀ r ∈ t, RowOk r
/-- the cell of a line of a block -/
def cellB (t : List (List Int)) (b : Blk) (k : Nat) : Int := (t.getD k []).getD b.1 0
def linesB (b : Blk) : List Nat := (List.range (b.2.2 + 1 - b.2.1)).map fun k => b.2.1 + k
/-- the greatest cell of a block -/
def greatB (t : List (List Int)) (b : Blk) : Int := maxP ((linesB b).map (cellB t b))
def linesW (t : List (List Int)) (b : Blk) (w : Int) : List Nat := (linesB b).filter fun k => cellB t b k == w
def bearB (l : Int) (t : List (List Int)) (b : Blk) : Option Nat := if greatB t b > l then (linesW t b (greatB t b)).head? else none
def optN (o : Option Nat) : D := match o with
  | none => .non
  | some k => .int (k : Nat)
def aroundF (t : List (List Int)) (i c : Nat) : List Blk := (blksF (tabsF t) 11).filter fun b => decide (b.1 ≤ c) && hasB i b
def blockAt (t : List (List Int)) (i c : Nat) : Option Blk := (blksF (tabsF t) 11).find? fun b => decide (b.1 = c) && hasB i b
def optD (o : Option Blk) : D := match o with
  | none => .non
  | some b => blkD b
def sp_block_with : DSpec := fun ds S Φ _ => ∃ t, ∃ i : Nat, ∃ c : Int, ds = [tabD t, .int i, .int c] ∧ TabOk t ∧ -1 ≤ c ∧ Φ S (if c < 0 then .non else optD (blockAt t i c.toNat))
def sp_blocks_around : DSpec := fun ds S Φ _ => ∃ t, ∃ i c : Nat, ds = [tabD t, .int i, .int c] ∧ TabOk t ∧ Φ S (blksD (aroundF t i c))
def sp_blocks_of : DSpec := fun ds S Φ _ => ∃ t, ds = [tabD t] ∧ TabOk t ∧ Φ S (blksD (blksF (tabsF t) 11))
def sp_block_at : DSpec := fun ds S Φ _ => ∃ t, ∃ i c : Nat, ds = [tabD t, .int i, .int c] ∧ TabOk t ∧ i < t.length ∧ Φ S (optD (blockAt t i c))
def sp_need_block : DSpec := fun ds S Φ _ => ∃ t b, ds = [tabD t, blkD b] ∧ TabOk t ∧ b ∈ blksF (tabsF t) 11 ∧ Φ S .non
def sp_parent_of : DSpec := fun ds S Φ _ => ∃ t b, ds = [tabD t, blkD b] ∧ TabOk t ∧ b ∈ blksF (tabsF t) 11 ∧ Φ S (if b.1 = 0 then .non else optD (blockAt t b.2.1 (b.1 - 1)))
def sp_tabs_of : DSpec := fun ds S Φ _ => ∃ t, ds = [tabD t] ∧ TabOk t ∧ Φ S (.lst (natsD (tabsF t)))
def sp_need_tab : DSpec := fun ds S Φ _ => ∃ t, ∃ i c : Nat, ds = [tabD t, .int i, .int c] ∧ TabOk t ∧ i < t.length ∧ c < tabAt t i ∧ Φ S .non
def sp_lines_with : DSpec := fun ds S Φ _ => ∃ t b w, ds = [tabD t, blkD b, .int w] ∧ TabOk t ∧ BlkOk t b ∧ Φ S (.lst (natsD (linesW t b w)))
def sp_bearers (C : Addr) : DSpec := fun ds S Φ _ => ∃ t s ks g l, ∃ i c : Nat, ds = [tabD t, s, .int i, .int c] ∧ TabOk t ∧ asI S s = some (C, styF ks g l) ∧ i < t.length ∧ c < tabAt t i ∧ Φ S (.lst ((aroundF t i c).map fun b => optN (bearB l t b)))
def sp_bears_block (C : Addr) : DSpec := fun ds S Φ _ => ∃ t s ks g l b, ds = [tabD t, s, blkD b, optN (bearB l t b)] ∧ TabOk t ∧ asI S s = some (C, styF ks g l) ∧ BlkOk t b ∧ Φ S (.bl true)
def sp_bears (C : Addr) : DSpec := fun ds S Φ _ => ∃ t s ks g l, ∃ i c : Nat, ds = [tabD t, s, .int i, .int c, .lst ((aroundF t i c).map fun b => optN (bearB l t b))] ∧ TabOk t ∧ asI S s = some (C, styF ks g l) ∧ i < t.length ∧ c < tabAt t i ∧ Φ S (.bl true)
def sp_ends (C : Addr) : DSpec := fun ds S Φ _ => ∃ d s t ks g l, ds = [d, s] ∧ TabS S d t ∧ TabOk t ∧ asI S s = some (C, styF ks g l) ∧ LookOk ks g l ∧ Φ S (.lst ((endsF g l t).map D.int))
def sp_stacked : DSpec := fun ds S Φ _ => ∃ ts : List (List (List Int)), ds = [.tup (ts.map tabD)] ∧ (∀ t ∈ ts, TabOk t) ∧ TabOk ts.flatten ∧ Φ S (tabD ts.flatten)
def sp_part : DSpec := fun ds S Φ _ => ∃ t, ∃ a b : Nat, ds = [tabD t, .int a, .int b] ∧ TabOk t ∧ a ≤ b ∧ b < t.length ∧ newTab ((t.drop a).take (b + 1 - a)) S Φ
def sp__law_feed : DSpec := fun ds S Φ _ => ∃ ns : List Int, ∃ k : Nat, ds = [.sq (ns.map D.int), .int k] ∧ k < 2 ^ 20 ∧ ∀ c, FdC 0 c → Φ (S ++ [c]) (.own S.length)
def sp__law_pick : DSpec := fun ds S Φ _ => ∃ h n m, ds = [.own h, .int m] ∧ FdAt S h n ∧ n < 2 ^ 60 ∧ 0 < m ∧ m < 2 ^ 200 ∧ ∀ S' v, Fs h (n + 1) S S' → 0 ≤ v → v < m → Φ S' (.int v)
def sp__law_width : DSpec := fun ds S Φ _ => ∃ h n, ∃ k : Int, ds = [.own h, .int k] ∧ FdAt S h n ∧ n < 2 ^ 55 ∧ 0 ≤ k ∧ k < 4 ∧ ∀ S' v, Fs h (n + 5) S S' → 0 ≤ v → v ≤ GREAT → (k < 3 → v ≤ 31) → Φ S' (.int v)
def sp__law_counts : DSpec := fun ds S Φ _ => ∃ h n, ∃ a : Nat, ds = [.own h, .int a] ∧ FdAt S h n ∧ n < 2 ^ 55 ∧ a ≤ 60 ∧ ∀ S' (ls : List Int), Fs h (n + 1000) S S' → ls.length = a → (∀ x ∈ ls, 1 ≤ x ∧ x ≤ 12) → Φ S' (rowD ls)
def insideB (b o : Blk) : Bool := decide (b.1 ≤ o.1) && (decide (b.2.1 ≤ o.2.1) && decide (o.2.1 ≤ b.2.2))
def stepF (l : Int) (t : List (List Int)) (i c : Nat) (v : Int) (b : Blk) : Int := roomB l (setAt t i c v) b - roomB l t b
abbrev LESS : Int := 10000000000000000000000000000
/-- a table of the law: up to thirty lines, cells to 10 ** 28 -/
structure SheetOk (t : List (List Int)) : Prop where
  ok : TabOk t
  hi : t.length ≤ 30
  cell : ∀ r ∈ t, ∀ x ∈ r, x ≤ LESS
def sp__law_sheet : DSpec := fun ds S Φ _ => ∃ h n, ∃ m : Nat, ds = [.own h, .int m] ∧ FdAt S h n ∧ n < 2 ^ 50 ∧ 1 ≤ m ∧ m ≤ 30 ∧ ∀ S' (t : List (List Int)), Fs h (n + 10000) S S' → SheetOk t → t.length ≤ m → Φ S' (tabD t)
def sp__law_stops_right (C : Addr) : DSpec := fun ds S Φ _ => ∃ h n t ks g l, ds = [.own h, tabD t, .ins C (styF ks g l)] ∧ FdAt S h n ∧ n < 2 ^ 50 ∧ SheetOk t ∧ LookOk ks g l ∧ g ≤ 31 ∧ l ≤ 31 ∧ ∀ S', Fs h (n + 1000) S S' → Φ S' (.bl true)
def sp__law_other_styles_right (C : Addr) : DSpec := sp__law_stops_right C
def sp__law_parts_right (C : Addr) : DSpec := fun ds S Φ _ => ∃ h n t u ks g l, ds = [.own h, tabD t, tabD u, .ins C (styF ks g l)] ∧ FdAt S h n ∧ n < 2 ^ 50 ∧ SheetOk t ∧ SheetOk u ∧ u.length ≤ 29 ∧ LookOk ks g l ∧ g ≤ 31 ∧ l ≤ 31 ∧ ∀ S', Fs h (n + 1000) S S' → Φ S' (.bl true)
def sp__law_wider_right (C : Addr) : DSpec := sp__law_stops_right C
def sp_law : DSpec := fun ds S Φ _ => ∃ ns : List Int, ds = [.sq (ns.map D.int)] ∧ ∀ S, Φ S (.bl true)
abbrev N_is_integer : List Str := ["thing", "least", "most"]
abbrev P_is_integer : List Str := ["thing", "least", "most"]
abbrev N_is_cell : List Str := ["thing"]
abbrev P_is_cell : List Str := ["thing"]
abbrev N_is_line : List Str := ["thing", "cell"]
abbrev P_is_line : List Str := ["thing"]
abbrev N_is_table : List Str := ["thing", "line"]
abbrev P_is_table : List Str := ["thing"]
abbrev N_need_table : List Str := ["table"]
abbrev P_need_table : List Str := ["table"]
abbrev N_need_line : List Str := ["table", "line"]
abbrev P_need_line : List Str := ["table", "line"]
abbrev N_copy_of : List Str := ["table", "cells"]
abbrev P_copy_of : List Str := ["table"]
abbrev N_tabs_in : List Str := ["table", "cells"]
abbrev P_tabs_in : List Str := ["table"]
abbrev N_tabs_of : List Str := ["table"]
abbrev P_tabs_of : List Str := ["table"]
abbrev N_stacked : List Str := ["tables", "table", "found", "cells"]
abbrev P_stacked : List Str := ["tables"]
abbrev P0_stacked : List Str := []
abbrev N_part : List Str := ["table", "first", "last"]
abbrev P_part : List Str := ["table", "first", "last"]
abbrev N_blocks_of_column : List Str := ["tabs", "column", "found", "first", "line", "many"]
abbrev P_blocks_of_column : List Str := ["tabs", "column"]
abbrev N_blocks_by_tabs : List Str := ["tabs", "found", "column"]
abbrev P_blocks_by_tabs : List Str := ["tabs"]
abbrev N_blocks_in : List Str := ["table"]
abbrev P_blocks_in : List Str := ["table"]
abbrev N_block_with : List Str := ["table", "line", "column", "block"]
abbrev P_block_with : List Str := ["table", "line", "column"]
abbrev N_blocks_around : List Str := ["table", "line", "column", "block"]
abbrev P_blocks_around : List Str := ["table", "line", "column"]
abbrev N_blocks_of : List Str := ["table"]
abbrev P_blocks_of : List Str := ["table"]
abbrev N_block_at : List Str := ["table", "line", "column"]
abbrev P_block_at : List Str := ["table", "line", "column"]
abbrev N_need_block : List Str := ["table", "block", "part"]
abbrev P_need_block : List Str := ["table", "block"]
abbrev N_parent_of : List Str := ["table", "block"]
abbrev P_parent_of : List Str := ["table", "block"]
abbrev N_greatest_in : List Str := ["table", "block", "column", "first", "last", "cells"]
abbrev P_greatest_in : List Str := ["table", "block"]
abbrev N_room_of : List Str := ["table", "style", "block"]
abbrev P_room_of : List Str := ["table", "style", "block"]
abbrev N_rooms_in : List Str := ["table", "style", "found", "block", "room", "line", "cells"]
abbrev P_rooms_in : List Str := ["table", "style"]
abbrev N_stops_in : List Str := ["table", "style", "found", "rooms", "stop", "row", "room"]
abbrev P_stops_in : List Str := ["table", "style"]
abbrev N_ends_in : List Str := ["table", "style", "found", "cells", "row", "begin"]
abbrev P_ends_in : List Str := ["table", "style"]
abbrev N_width_in : List Str := ["table", "style"]
abbrev P_width_in : List Str := ["table", "style"]
abbrev N_stops : List Str := ["table", "style"]
abbrev P_stops : List Str := ["table", "style"]
abbrev N_ends : List Str := ["table", "style"]
abbrev P_ends : List Str := ["table", "style"]
abbrev N_width_of : List Str := ["table", "style"]
abbrev P_width_of : List Str := ["table", "style"]
abbrev N_need_tab : List Str := ["table", "line", "column"]
abbrev P_need_tab : List Str := ["table", "line", "column"]
abbrev N_lines_with : List Str := ["table", "block", "width", "column", "first", "last", "line"]
abbrev P_lines_with : List Str := ["table", "block", "width"]
abbrev N_bearers : List Str := ["table", "style", "line", "column", "found", "block", "greatest"]
abbrev P_bearers : List Str := ["table", "style", "line", "column"]
abbrev N_bears_block : List Str := ["table", "style", "block", "thing", "greatest"]
abbrev P_bears_block : List Str := ["table", "style", "block", "thing"]
abbrev N_bears : List Str := ["table", "style", "line", "column", "thing", "around", "block", "one"]
abbrev P_bears : List Str := ["table", "style", "line", "column", "thing"]
abbrev N_are_kinds : List Str := ["thing", "name"]
abbrev P_are_kinds : List Str := ["thing"]
abbrev N_Style___init__ : List Str := ["self", "gap", "least", "kinds", "names"]
abbrev P_Style___init__ : List Str := ["self", "gap", "least", "kinds"]
abbrev P0_Style___init__ : List Str := ["self", "gap", "least"]
abbrev N_Style_of : List Str := ["cls", "kinds", "gap", "least"]
abbrev P_Style_of : List Str := ["cls", "kinds", "gap", "least"]
abbrev N_Style_kinds : List Str := ["self"]
abbrev P_Style_kinds : List Str := ["self"]
abbrev N_Style_gap : List Str := ["self"]
abbrev P_Style_gap : List Str := ["self"]
abbrev N_Style_least : List Str := ["self"]
abbrev P_Style_least : List Str := ["self"]
abbrev N__law_feed : List Str := ["_law_script", "_law_k", "_law_start"]
abbrev P__law_feed : List Str := ["_law_script", "_law_k"]
abbrev N__law_pick : List Str := ["_law_feed_here", "_law_wide", "_law_digit", "_law_mixed"]
abbrev P__law_pick : List Str := ["_law_feed_here", "_law_wide"]
abbrev N__law_width : List Str := ["_law_feed_here", "_law_style_of", "_law_found"]
abbrev P__law_width : List Str := ["_law_feed_here", "_law_style_of"]
abbrev N__law_counts : List Str := ["_law_feed_here", "_law_many", "_law_way", "_law_found", "_law_held", "_law_at", "_law_some"]
abbrev P__law_counts : List Str := ["_law_feed_here", "_law_many"]
abbrev N__law_sheet : List Str := ["_law_feed_here", "_law_most", "_law_many", "_law_kind", "_law_size", "_law_at"]
abbrev P__law_sheet : List Str := ["_law_feed_here", "_law_most"]
abbrev N__law_stops_right : List Str := ["_law_feed_here", "_law_sheet_here", "_law_look", "_law_rows", "_law_some", "_law_one", "_law_spot", "_law_low", "_law_high", "_law_around", "_law_before", "_law_shown", "_law_room_here", "_law_ahead", "_law_turn", "_law_at", "_law_row"]
abbrev P__law_stops_right : List Str := ["_law_feed_here", "_law_sheet_here", "_law_look"]
abbrev N__law_other_styles_right : List Str := ["_law_feed_here", "_law_sheet_here", "_law_look", "_law_rows", "_law_more", "_law_wide", "_law_many", "_law_great", "_law_wide_here", "_law_row", "_law_spot", "_law_x", "_law_one"]
abbrev P__law_other_styles_right : List Str := ["_law_feed_here", "_law_sheet_here", "_law_look"]
abbrev N__law_parts_right : List Str := ["_law_feed_here", "_law_sheet_here", "_law_other", "_law_look", "_law_low", "_law_high", "_law_alone", "_law_found", "_law_apart", "_law_whole", "_law_shared", "_law_one", "_law_two"]
abbrev P__law_parts_right : List Str := ["_law_feed_here", "_law_sheet_here", "_law_other", "_law_look"]
abbrev N__law_wider_right : List Str := ["_law_feed_here", "_law_sheet_here", "_law_look", "_law_at", "_law_spot", "_law_rows", "_law_own", "_law_wider", "_law_later", "_law_moved_by", "_law_line_at", "_law_inside", "_law_row", "_law_column_at", "_law_x"]
abbrev P__law_wider_right : List Str := ["_law_feed_here", "_law_sheet_here", "_law_look"]
abbrev N_law : List Str := ["_law_script", "_law_k", "_law_feed_here", "_law_turn", "_law_sheet_here", "_law_other", "_law_low", "_law_look"]
abbrev P_law : List Str := ["_law_script"]
def conNAMES (C_Kind : Addr) : List (Addr × D) := [(C_Kind, .tup ((["left", "right", "center"] : List Str).map D.str))]
def T_is_integer : TSd :=
  (sRet (dAnd (dCB cIsi (lCons (dVar 0) (lCons (dC (.ty "int")) lNil))) (dAnd (dNot (dCB cIsi (lCons (dVar 0) (lCons (dC (.ty "bool")) lNil)))) (dChain dLe dLe (dVar 1) (dVar 0) (dVar 2)))))
def T_is_cell : TSd :=
  (sRet (dCall sp_is_integer (lCons (dVar 0) (lCons (dC (.int 0)) (lCons (dC (.int 1000000000000000000000000000000)) lNil)))))
def T_is_line : TSd :=
  (sRet (dAnd (dCB cIsi (lCons (dVar 0) (lCons (dC (.ty "list")) lNil))) (dAnd (dChain dLe dLe (dC (.int 1)) (dCB cLen (lCons (dVar 0) lNil)) (dC (.int 12))) (dCB cAll (lCons (dLc (iSeq (dVar 0)) (nmG 1) bYes (dCall sp_is_cell (lCons (dVar 1) lNil)) [1] finF) lNil)))))
def T_is_table : TSd :=
  (sRet (dAnd (dCB cIsi (lCons (dVar 0) (lCons (dC (.ty "list")) lNil))) (dAnd (dChain dLe dLe (dC (.int 1)) (dCB cLen (lCons (dVar 0) lNil)) (dC (.int 60))) (dCB cAll (lCons (dLc (iSeq (dVar 0)) (nmG 1) bYes (dCall sp_is_line (lCons (dVar 1) lNil)) [1] finF) lNil)))))
def T_need_table (C_InvalidTable : Addr) : TSd :=
  (sIf (bNot (bOf (dCall sp_is_table (lCons (dVar 0) lNil))))
  (sRaise C_InvalidTable)
  sNext)
def T_need_line (C_InvalidLine : Addr) : TSd :=
  (sIf (bNot (bOf (dCall sp_is_integer (lCons (dVar 1) (lCons (dC (.int 0)) (lCons (dOp dSub (dCB cLen (lCons (dVar 0) lNil)) (dC (.int 1))) lNil))))))
  (sRaise C_InvalidLine)
  sNext)
def T_copy_of : TSd :=
  (sRet (dLc (iSeq (dVar 0)) (nmG 1) bYes (dCB cListO (lCons (dVar 1) lNil)) [1] finO))
def T_tabs_in : TSd :=
  (sRet (dLc (iSeq (dVar 0)) (nmG 1) bYes (dOp dSub (dCB cLen (lCons (dVar 1) lNil)) (dC (.int 1))) [1] finF))
def T_tabs_of : TSd :=
  (sSeq (sDrop (dCall sp_need_table (lCons (dVar 0) lNil)))
  (sRet (dCall sp_tabs_in (lCons (dVar 0) lNil))))
def T_stacked : TSd :=
  (sSeq (sFor (iTupD (dVar 0)) (nmG 1)
  (sDrop (dCall sp_need_table (lCons (dVar 1) lNil))))
  (sSeq (sAsg (dLc2 (iTupD (dVar 0)) (nmG 1) bYes (dVar 1) (nmG 3) bYes (dCB cList (lCons (dVar 3) lNil)) [1, 3] [3] finF) (nmG 2))
  (sSeq (sDrop (dCall sp_need_table (lCons (dVar 2) lNil)))
  (sRet (dFz (dVar 2))))))
def T_part (C_InvalidLine : Addr) : TSd :=
  (sSeq (sDrop (dCall sp_need_table (lCons (dVar 0) lNil)))
  (sSeq (sDrop (dCall sp_need_line (lCons (dVar 0) (lCons (dVar 1) lNil))))
  (sSeq (sDrop (dCall sp_need_line (lCons (dVar 0) (lCons (dVar 2) lNil))))
  (sSeq (sIf (bOf (dOp dLt (dVar 2) (dVar 1)))
  (sRaise C_InvalidLine)
  sNext)
  (sRet (dCall sp_copy_of (lCons (dSl dSlL (dVar 0) (oSome (dVar 1)) (oSome (dOp dAdd (dVar 2) (dC (.int 1))))) lNil)))))))
def T_blocks_of_column : TSd :=
  (sSeq (sAsg (dLstO lNil) (nmG 2))
  (sSeq (sAsg (dC .non) (nmG 3))
  (sSeq (sFor (iEnumD (lCons (dLst (lStar (dVar 0) (lCons (dC (.int 0)) lNil))) lNil)) (tupG 2 (gsCons (nmG 4) (gsCons (nmG 5) gsNil)))
  (sSeq (sJ (sIf (bAnd (bOf (dOp dGt (dVar 5) (dVar 1))) (bOf (dOp dIsN (dVar 3) (dC .non))))
  (sAsg (dVar 4) (nmG 3))
  sNext))
  (sJ (sIf (bAnd (bOf (dOp dLe (dVar 5) (dVar 1))) (bOf (dOp dNotN (dVar 3) (dC .non))))
  (sSeq (sDrop (dBM mAppend (dVar 2) (lCons (dTup (lCons (dVar 1) (lCons (dVar 3) (lCons (dOp dSub (dVar 4) (dC (.int 1))) lNil)))) lNil)))
  (sAsg (dC .non) (nmG 3)))
  sNext))))
  (sRet (dFz (dVar 2))))))
def T_blocks_by_tabs : TSd :=
  (sSeq (sAsg (dLstO lNil) (nmG 1))
  (sSeq (sFor (iRg1 (lCons (dOp dSub (dC (.int 12)) (dC (.int 1))) lNil)) (nmG 2)
  (sDrop (dBM mExtend (dVar 1) (lCons (dCall sp_blocks_of_column (lCons (dVar 0) (lCons (dVar 2) lNil))) lNil))))
  (sRet (dFz (dVar 1)))))
def T_blocks_in : TSd :=
  (sRet (dCall sp_blocks_by_tabs (lCons (dCall sp_tabs_in (lCons (dVar 0) lNil)) lNil)))
def T_block_with : TSd :=
  (sSeq (sFor (iSeq (dCall sp_blocks_in (lCons (dVar 0) lNil))) (nmG 3)
  (sIf (bAnd (bOf (dOp dEq (dOp dIx (dVar 3) (dC (.int 0))) (dVar 2))) (bOf (dChain dLe dLe (dOp dIx (dVar 3) (dC (.int 1))) (dVar 1) (dOp dIx (dVar 3) (dC (.int 2))))))
  (sRet (dVar 3))
  sNext))
  (sRet (dC .non)))
def T_blocks_around : TSd :=
  (sRet (dLc (iSeq (dCall sp_blocks_in (lCons (dVar 0) lNil))) (nmG 3) (bAnd (bOf (dOp dLe (dOp dIx (dVar 3) (dC (.int 0))) (dVar 2))) (bOf (dChain dLe dLe (dOp dIx (dVar 3) (dC (.int 1))) (dVar 1) (dOp dIx (dVar 3) (dC (.int 2)))))) (dVar 3) [3] finF))
def T_blocks_of : TSd :=
  (sSeq (sDrop (dCall sp_need_table (lCons (dVar 0) lNil)))
  (sRet (dCall sp_blocks_in (lCons (dVar 0) lNil))))
def T_block_at (C_InvalidColumn : Addr) : TSd :=
  (sSeq (sDrop (dCall sp_need_table (lCons (dVar 0) lNil)))
  (sSeq (sDrop (dCall sp_need_line (lCons (dVar 0) (lCons (dVar 1) lNil))))
  (sSeq (sIf (bOf (dOp dLt (dVar 2) (dC (.int 0))))
  (sRaise C_InvalidColumn)
  sNext)
  (sRet (dCall sp_block_with (lCons (dVar 0) (lCons (dVar 1) (lCons (dVar 2) lNil))))))))
def T_need_block (C_InvalidBlock : Addr) : TSd :=
  (sSeq (sIf (bOr (bNot (bOf (dCB cIsi (lCons (dVar 1) (lCons (dC (.ty "tuple")) lNil))))) (bNot (bOf (dCB cAll (lCons (dLc (iTupD (dVar 1)) (nmG 2) bYes (dCall sp_is_integer (lCons (dVar 2) (lCons (dC (.int 0)) (lCons (dOp dAdd (dCB cLen (lCons (dVar 0) lNil)) (dC (.int 12))) lNil)))) [2] finF) lNil)))))
  (sRaise C_InvalidBlock)
  sNext)
  (sIf (bOf (dOp dNotInE (dVar 1) (dCall sp_blocks_in (lCons (dVar 0) lNil))))
  (sRaise C_InvalidBlock)
  sNext))
def T_parent_of : TSd :=
  (sSeq (sDrop (dCall sp_need_table (lCons (dVar 0) lNil)))
  (sSeq (sDrop (dCall sp_need_block (lCons (dVar 0) (lCons (dVar 1) lNil))))
  (sRet (dCall sp_block_with (lCons (dVar 0) (lCons (dOp dIx (dVar 1) (dC (.int 1))) (lCons (dOp dSub (dOp dIx (dVar 1) (dC (.int 0))) (dC (.int 1))) lNil)))))))
def T_greatest_in : TSd :=
  (sSeq (sAsg (dVar 1) (tupG 3 (gsCons (nmG 2) (gsCons (nmG 3) (gsCons (nmG 4) gsNil)))))
  (sRet (dCB cMax (lCons (dLc (iSeq (dSl dSlL (dVar 0) (oSome (dVar 3)) (oSome (dOp dAdd (dVar 4) (dC (.int 1)))))) (nmG 5) bYes (dOp dIx (dVar 5) (dVar 2)) [5] finF) lNil))))
def T_room_of (C_Style : Addr) : TSd :=
  (sRet (dCB cMax2 (lCons (dPropA C_Style (pkP 1 [0] [] (sp_Style_least C_Style)) (dVar 1)) (lCons (dCall sp_greatest_in (lCons (dVar 0) (lCons (dVar 2) lNil))) lNil))))
def T_rooms_in (C_Style : Addr) : TSd :=
  (sSeq (sAsg (dLc (iSeq (dVar 0)) (nmG 6) bYes (dLstO lNil) [6] finO) (nmG 2))
  (sSeq (sFor (iSeq (dCall sp_blocks_in (lCons (dVar 0) lNil))) (nmG 3)
  (sSeq (sAsg (dCall (sp_room_of C_Style) (lCons (dVar 0) (lCons (dVar 1) (lCons (dVar 3) lNil)))) (nmG 4))
  (sFor (iRg2 (lCons (dOp dIx (dVar 3) (dC (.int 1))) (lCons (dOp dAdd (dOp dIx (dVar 3) (dC (.int 2))) (dC (.int 1))) lNil))) (nmG 5)
  (sDrop (dBM mAppend (dOp dIx (dVar 2) (dVar 5)) (lCons (dVar 4) lNil))))))
  (sRet (dVar 2))))
def T_stops_in (C_Style : Addr) : TSd :=
  (sSeq (sAsg (dLstO lNil) (nmG 2))
  (sSeq (sFor (iSeq (dFz2 (dCall (sp_rooms_in C_Style) (lCons (dVar 0) (lCons (dVar 1) lNil))))) (nmG 3)
  (sSeq (sPar 4 5 (lCons (dC (.int 0)) (lCons (dLstO lNil) lNil)))
  (sSeq (sFor (iSeq (dVar 3)) (nmG 6)
  (sSeq (sAug 4 (dOp dAdd (dVar 6) (dPropA C_Style (pkP 1 [0] [] (sp_Style_gap C_Style)) (dVar 1))) dAddI)
  (sDrop (dBM mAppend (dVar 5) (lCons (dVar 4) lNil)))))
  (sDrop (dBM mAppend (dVar 2) (lCons (dFz (dVar 5)) lNil))))))
  (sRet (dFz (dVar 2)))))
def T_ends_in (C_Style : Addr) : TSd :=
  (sSeq (sAsg (dLstO lNil) (nmG 2))
  (sSeq (sFor (iZipD (lCons (dVar 0) (lCons (dCall (sp_stops_in C_Style) (lCons (dVar 0) (lCons (dVar 1) lNil))) lNil))) (tupG 2 (gsCons (nmG 3) (gsCons (nmG 4) gsNil)))
  (sSeq (sAsg (dJ (dIf (bOf (dOp dNe (dVar 4) (dLst lNil))) (dOp dIx (dVar 4) (dUn uNeg (dC (.int 1)))) (dC (.int 0)))) (nmG 5))
  (sDrop (dBM mAppend (dVar 2) (lCons (dOp dAdd (dVar 5) (dOp dIx (dVar 3) (dUn uNeg (dC (.int 1))))) lNil)))))
  (sRet (dFz (dVar 2)))))
def T_width_in (C_Style : Addr) : TSd :=
  (sRet (dCB cMax (lCons (dCall (sp_ends_in C_Style) (lCons (dVar 0) (lCons (dVar 1) lNil))) lNil)))
def T_stops (C_Style : Addr) : TSd :=
  (sSeq (sDrop (dCall sp_need_table (lCons (dVar 0) lNil)))
  (sRet (dCall (sp_stops_in C_Style) (lCons (dVar 0) (lCons (dVar 1) lNil)))))
def T_ends (C_Style : Addr) : TSd :=
  (sSeq (sDrop (dCall sp_need_table (lCons (dVar 0) lNil)))
  (sRet (dCall (sp_ends_in C_Style) (lCons (dVar 0) (lCons (dVar 1) lNil)))))
def T_width_of (C_Style : Addr) : TSd :=
  (sSeq (sDrop (dCall sp_need_table (lCons (dVar 0) lNil)))
  (sRet (dCall (sp_width_in C_Style) (lCons (dVar 0) (lCons (dVar 1) lNil)))))
def T_need_tab (C_InvalidColumn : Addr) : TSd :=
  (sSeq (sDrop (dCall sp_need_table (lCons (dVar 0) lNil)))
  (sSeq (sDrop (dCall sp_need_line (lCons (dVar 0) (lCons (dVar 1) lNil))))
  (sIf (bNot (bOf (dCall sp_is_integer (lCons (dVar 2) (lCons (dC (.int 0)) (lCons (dOp dSub (dOp dIx (dCall sp_tabs_in (lCons (dVar 0) lNil)) (dVar 1)) (dC (.int 1))) lNil))))))
  (sRaise C_InvalidColumn)
  sNext)))
def T_lines_with : TSd :=
  (sSeq (sAsg (dVar 1) (tupG 3 (gsCons (nmG 3) (gsCons (nmG 4) (gsCons (nmG 5) gsNil)))))
  (sRet (dLc (iRg2 (lCons (dVar 4) (lCons (dOp dAdd (dVar 5) (dC (.int 1))) lNil))) (nmG 6) (bOf (dOp dEq (dOp dIx (dOp dIx (dVar 0) (dVar 6)) (dVar 3)) (dVar 2))) (dVar 6) [6] finF)))
def T_bearers (C_Style : Addr) : TSd :=
  (sSeq (sDrop (dCall sp_need_tab (lCons (dVar 0) (lCons (dVar 2) (lCons (dVar 3) lNil)))))
  (sSeq (sAsg (dLstO lNil) (nmG 4))
  (sSeq (sFor (iSeq (dCall sp_blocks_around (lCons (dVar 0) (lCons (dVar 2) (lCons (dVar 3) lNil))))) (nmG 5)
  (sSeq (sAsg (dCall sp_greatest_in (lCons (dVar 0) (lCons (dVar 5) lNil))) (nmG 6))
  (sDrop (dBM mAppend (dVar 4) (lCons (dJ (dIf (bOf (dOp dGt (dVar 6) (dPropA C_Style (pkP 1 [0] [] (sp_Style_least C_Style)) (dVar 1)))) (dOp dIx (dCall sp_lines_with (lCons (dVar 0) (lCons (dVar 5) (lCons (dVar 6) lNil)))) (dC (.int 0))) (dC .non))) lNil)))))
  (sRet (dFz (dVar 4))))))
def T_bears_block (C_Style : Addr) : TSd :=
  (sSeq (sAsg (dCall sp_greatest_in (lCons (dVar 0) (lCons (dVar 2) lNil))) (nmG 4))
  (sSeq (sIf (bOf (dOp dIsN (dVar 3) (dC .non)))
  (sRet (dOp dLe (dVar 4) (dPropA C_Style (pkP 1 [0] [] (sp_Style_least C_Style)) (dVar 1))))
  sNext)
  (sSeq (sIf (bOr (bNot (bOf (dCall sp_is_integer (lCons (dVar 3) (lCons (dOp dIx (dVar 2) (dC (.int 1))) (lCons (dOp dIx (dVar 2) (dC (.int 2))) lNil)))))) (bOf (dOp dLt (dVar 4) (dPropA C_Style (pkP 1 [0] [] (sp_Style_least C_Style)) (dVar 1)))))
  (sRet (dC (.bl false)))
  sNext)
  (sRet (dOp (dIn false) (dVar 3) (dCall sp_lines_with (lCons (dVar 0) (lCons (dVar 2) (lCons (dVar 4) lNil)))))))))
def T_bears (C_Style : Addr) : TSd :=
  (sSeq (sDrop (dCall sp_need_tab (lCons (dVar 0) (lCons (dVar 2) (lCons (dVar 3) lNil)))))
  (sSeq (sAsg (dCall sp_blocks_around (lCons (dVar 0) (lCons (dVar 2) (lCons (dVar 3) lNil)))) (nmG 5))
  (sSeq (sIf (bOr (bNot (bOf (dCB cIsi (lCons (dVar 4) (lCons (dC (.ty "list")) lNil))))) (bOf (dOp dNe (dCB cLen (lCons (dVar 4) lNil)) (dCB cLen (lCons (dVar 5) lNil)))))
  (sRet (dC (.bl false)))
  sNext)
  (sRet (dCB cAll (lCons (dLc (iZipD (lCons (dVar 5) (lCons (dVar 4) lNil))) (tupG 2 (gsCons (nmG 6) (gsCons (nmG 7) gsNil))) bYes (dCall (sp_bears_block C_Style) (lCons (dVar 0) (lCons (dVar 1) (lCons (dVar 6) (lCons (dVar 7) lNil))))) [6, 7] finF) lNil))))))
def T_are_kinds (C_Kind : Addr) : TSd :=
  (sSeq (sIf (bOr (bNot (bOf (dCB cIsi (lCons (dVar 0) (lCons (dC (.ty "list")) lNil))))) (bNot (bOf (dChain dLe dLe (dC (.int 1)) (dCB cLen (lCons (dVar 0) lNil)) (dC (.int 12))))))
  (sRet (dC (.bl false)))
  sNext)
  (sRet (dCB cAll (lCons (dLc (iSeq (dVar 0)) (nmG 1) bYes (dAnd (dCB cIsi (lCons (dVar 1) (lCons (dC (.ty "str")) lNil))) (dOp (dIn false) (dVar 1) (dCVal (conNAMES C_Kind) "NAMES" (dC (.obj C_Kind))))) [1] finF) lNil))))
def T_Style___init__ (C_InvalidStyle C_Style : Addr) : TSd :=
  (sSeq (sAsg (dJ (dIf (bOf (dOp dGt (dCB cLen (lCons (dVar 3) lNil)) (dC (.int 0)))) (dCB cList (lCons (dVar 3) lNil)) (dLst (lCons (dC (.str "left")) lNil)))) (nmG 4))
  (sSeq (sIf (bOr (bNot (bOf (dCall sp_are_kinds (lCons (dVar 4) lNil)))) (bOr (bNot (bOf (dCall sp_is_cell (lCons (dVar 1) lNil)))) (bNot (bOf (dCall sp_is_cell (lCons (dVar 2) lNil))))))
  (sRaise C_InvalidStyle)
  sNext)
  (sSeq (sFldS C_Style "held_kinds" (dVar 0) (dVar 4))
  (sSeq (sFldS C_Style "held_gap" (dVar 0) (dVar 1))
  (sFldS C_Style "held_least" (dVar 0) (dVar 2))))))
def T_Style_of (C_InvalidStyle C_Style : Addr) : TSd :=
  (sSeq (sIf (bNot (bOf (dCall sp_are_kinds (lCons (dVar 1) lNil))))
  (sRaise C_InvalidStyle)
  sNext)
  (sRet (dMakeV 0 C_Style (pkS true 1 [0, 1, 2] [] (sp_Style___init__ C_Style)) (dLone (dVar 1) (lCons (dVar 2) (lCons (dVar 3) lNil)) 2))))
def T_Style_kinds (C_Style : Addr) : TSd :=
  (sRet (dCB cList (lCons (dFld C_Style "held_kinds" (dVar 0)) lNil)))
def T_Style_gap (C_Style : Addr) : TSd :=
  (sRet (dFld C_Style "held_gap" (dVar 0)))
def T_Style_least (C_Style : Addr) : TSd :=
  (sRet (dFld C_Style "held_least" (dVar 0)))
def T__law_feed : TSd :=
  (sSeq (sAsg (dC (.int 0)) (nmG 2))
  (sSeq (sJ (sIf (bOf (dOp dLt (dVar 1) (dCB cLen (lCons (dVar 0) lNil))))
  (sAsg (dOp dIx (dVar 0) (dVar 1)) (nmG 2))
  sNext))
  (sRet (dLstO (lCons (dCB cMax2 (lCons (dC (.int 0)) (lCons (dOp dSub (dCB cAbs (lCons (dVar 2) lNil)) (dOp dPow (dC (.int 10)) (dC (.int 18)))) lNil))) (lCons (dOp dMod (dOp dAdd (dOp dAdd (dOp dMul (dVar 2) (dC (.int 197))) (dOp dMul (dC (.int 6329)) (dVar 1))) (dC (.int 71))) (dC (.int 2305843009213693951))) (lCons (dC (.int 0)) lNil)))))))
def T__law_pick : TSd :=
  (sSeq (sIf (bOf (dOp dGt (dOp dIx (dVar 0) (dC (.int 0))) (dC (.int 0))))
  (sSeq (sAsg (dOp dMod (dOp dIx (dVar 0) (dC (.int 0))) (dVar 1)) (nmG 2))
  (sSeq (sAsg (dOp dDiv (dOp dIx (dVar 0) (dC (.int 0))) (dVar 1)) (subG dSetO (dVar 0) (dC (.int 0))))
  (sRet (dVar 2))))
  sNext)
  (sSeq (sAsg (dOp dAdd (dOp dIx (dVar 0) (dC (.int 2))) (dC (.int 1))) (subG dSetO (dVar 0) (dC (.int 2))))
  (sSeq (sAsg (dOp dMod (dOp dAdd (dOp dIx (dVar 0) (dC (.int 1))) (dOp dMul (dC (.int 180001)) (dOp dIx (dVar 0) (dC (.int 2))))) (dC (.int 2305843009213693951))) (nmG 3))
  (sSeq (sAsg (dOp dMod (dOp dAdd (dOp dAdd (dOp dMul (dVar 3) (dVar 3)) (dOp dMul (dOp dMul (dC (.int 73133)) (dOp dIx (dVar 0) (dC (.int 2)))) (dVar 3))) (dC (.int 53))) (dC (.int 2305843009213693951))) (nmG 3))
  (sSeq (sAsg (dOp dMod (dOp dAdd (dOp dAdd (dOp dPow (dVar 3) (dC (.int 3))) (dOp dIx (dVar 0) (dC (.int 1)))) (dOp dMul (dC (.int 7)) (dOp dIx (dVar 0) (dC (.int 2))))) (dC (.int 2305843009213693951))) (nmG 3))
  (sRet (dOp dMod (dOp dDiv (dVar 3) (dC (.int 8191))) (dVar 1))))))))
def T__law_width : TSd :=
  (sSeq (sIf (bOf (dOp dLt (dVar 1) (dC (.int 3))))
  (sRet (dCall sp__law_pick (lCons (dVar 0) (lCons (dOp dIx (dLst (lCons (dC (.int 3)) (lCons (dC (.int 8)) (lCons (dC (.int 31)) lNil)))) (dVar 1)) lNil))))
  sNext)
  (sSeq (sAsg (dOp dAdd (dOp dMul (dCall sp__law_pick (lCons (dVar 0) (lCons (dOp dPow (dC (.int 10)) (dC (.int 15))) lNil))) (dOp dPow (dC (.int 10)) (dC (.int 15)))) (dCall sp__law_pick (lCons (dVar 0) (lCons (dOp dPow (dC (.int 10)) (dC (.int 15))) lNil)))) (nmG 2))
  (sRet (dOp dIx (dLst (lCons (dVar 2) (lCons (dOp dPow (dC (.int 10)) (dC (.int 30))) (lCons (dOp dSub (dOp dPow (dC (.int 10)) (dC (.int 30))) (dVar 2)) (lCons (dCall sp__law_pick (lCons (dVar 0) (lCons (dC (.int 9)) lNil))) lNil))))) (dCall sp__law_pick (lCons (dVar 0) (lCons (dC (.int 4)) lNil)))))))
def T__law_counts : TSd :=
  (sSeq (sPar3 2 3 4 (lCons (dCall sp__law_pick (lCons (dVar 0) (lCons (dC (.int 6)) lNil))) (lCons (dLstO lNil) (lCons (dOp dAdd (dC (.int 1)) (dCall sp__law_pick (lCons (dVar 0) (lCons (dC (.int 12)) lNil)))) lNil))))
  (sSeq (sFor (iRg1 (lCons (dVar 1) lNil)) (nmG 5)
  (sSeq (sJ (sIf (bOr (bAnd (bOf (dOp dEqF (dVar 2) (dC (.int 4)))) (bOf (dOp dEqF (dCall sp__law_pick (lCons (dVar 0) (lCons (dC (.int 4)) lNil))) (dC (.int 0))))) (bOf (dOp dEqF (dVar 2) (dC (.int 5)))))
  (sAsg (dOp dAdd (dC (.int 1)) (dCall sp__law_pick (lCons (dVar 0) (lCons (dC (.int 12)) lNil)))) (nmG 4))
  sNext))
  (sSeq (sAsg (dLst (lCons (dOp dAdd (dC (.int 1)) (dCall sp__law_pick (lCons (dVar 0) (lCons (dC (.int 12)) lNil)))) (lCons (dVar 4) (lCons (dCB cMin2 (lCons (dC (.int 12)) (lCons (dOp dAdd (dC (.int 1)) (dVar 5)) lNil))) (lCons (dCB cMax2 (lCons (dC (.int 1)) (lCons (dOp dSub (dC (.int 12)) (dVar 5)) lNil))) (lCons (dVar 4) lNil)))))) (nmG 6))
  (sDrop (dBM mAppend (dVar 3) (lCons (dOp dIx (dOp dAdd (dVar 6) (dLst (lCons (dOp dIx (dLst (lCons (dVar 4) (lCons (dC (.int 1)) lNil))) (dCB cInt (lCons (dOp dEqF (dCall sp__law_pick (lCons (dVar 0) (lCons (dC (.int 5)) lNil))) (dC (.int 0))) lNil))) lNil))) (dVar 2)) lNil))))))
  (sRet (dFz (dVar 3)))))
def T__law_sheet : TSd :=
  (sSeq (sAsg (dOp dIx (dLst (lCons (dOp dAdd (dC (.int 1)) (dCall sp__law_pick (lCons (dVar 0) (lCons (dVar 1) lNil)))) (lCons (dOp dAdd (dC (.int 1)) (dCall sp__law_pick (lCons (dVar 0) (lCons (dCB cMin2 (lCons (dC (.int 6)) (lCons (dVar 1) lNil))) lNil)))) lNil))) (dCall sp__law_pick (lCons (dVar 0) (lCons (dC (.int 2)) lNil)))) (nmG 2))
  (sSeq (sAsg (dCall sp__law_pick (lCons (dVar 0) (lCons (dC (.int 4)) lNil))) (nmG 3))
  (sRet (dLc (iSeq (dCall sp__law_counts (lCons (dVar 0) (lCons (dVar 2) lNil)))) (nmG 4) bYes (dLc (iRg1 (lCons (dVar 4) lNil)) (nmG 5) bYes (dOp dDiv (dCall sp__law_width (lCons (dVar 0) (lCons (dVar 3) lNil))) (dOp dIx (dLst (lCons (dC (.int 1)) (lCons (dC (.int 1)) (lCons (dC (.int 1)) (lCons (dC (.int 100)) lNil))))) (dVar 3))) [5] finF) [4] finF))))
def T__law_stops_right (C_Style : Addr) : TSd :=
  (sSeq (sAsg (dCall (sp_stops C_Style) (lCons (dVar 1) (lCons (dVar 2) lNil))) (nmG 3))
  (sSeq (sAsg (dCall sp_blocks_of (lCons (dVar 1) lNil)) (nmG 4))
  (sSeq (sFor (iSeq (dOp dAdd (dSl dSlL (dVar 4) oNone (oSome (dC (.int 6)))) (dLc (iRg1 (lCons (dOp dMul (dC (.int 4)) (dCB cInt (lCons (dOp dNe (dVar 4) (dLst lNil)) lNil))) lNil)) (nmG 14) bYes (dOp dIx (dVar 4) (dCall sp__law_pick (lCons (dVar 0) (lCons (dCB cLen (lCons (dVar 4) lNil)) lNil)))) [14] finF))) (nmG 5)
  (sSeq (sAsg (dVar 5) (tupG 3 (gsCons (nmG 6) (gsCons (nmG 7) (gsCons (nmG 8) gsNil)))))
  (sSeq (sAsg (dCall sp_parent_of (lCons (dVar 1) (lCons (dVar 5) lNil))) (nmG 9))
  (sSeq (sAsg (dJ (dIf (bOf (dOp dIsN (dVar 9) (dC .non))) (dC (.int 0)) (dOp dIx (dOp dIx (dVar 3) (dOp dIx (dVar 9) (dC (.int 1)))) (dOp dSub (dVar 6) (dC (.int 1)))))) (nmG 10))
  (sSeq (sAsg (dCall (sp_bearers C_Style) (lCons (dVar 1) (lCons (dVar 2) (lCons (dVar 7) (lCons (dVar 6) lNil))))) (nmG 11))
  (sSeq (sAsg (dJ (dIf (bOf (dOp dIsN (dOp dIx (dVar 11) (dUn uNeg (dC (.int 1)))) (dC .non))) (dPropA C_Style (pkP 1 [0] [] (sp_Style_least C_Style)) (dVar 2)) (dOp dIx (dOp dIx (dVar 1) (dOp dIx (dVar 11) (dUn uNeg (dC (.int 1))))) (dVar 6)))) (nmG 12))
  (sSeq (sIf (bOf (dOp dNe (dLc (iRg2 (lCons (dVar 7) (lCons (dOp dAdd (dVar 8) (dC (.int 1))) lNil))) (nmG 15) (bOf (dOp dNeF (dOp dIx (dOp dIx (dVar 3) (dVar 15)) (dVar 6)) (dOp dAdd (dOp dAdd (dVar 10) (dVar 12)) (dPropA C_Style (pkP 1 [0] [] (sp_Style_gap C_Style)) (dVar 2))))) (dVar 15) [15] finF) (dLst lNil)))
  (sRet (dC (.bl false)))
  sNext)
  (sSeq (sIf (bOf (dOp dNe (dLc (iRg2 (lCons (dVar 7) (lCons (dOp dAdd (dVar 8) (dC (.int 1))) lNil))) (nmG 15) (bOr (bOf (dOp dGt (dOp dIx (dOp dIx (dVar 1) (dVar 15)) (dVar 6)) (dVar 12))) (bOf (dOp dNe (dCall sp_block_at (lCons (dVar 1) (lCons (dVar 15) (lCons (dVar 6) lNil)))) (dVar 5)))) (dVar 15) [15] finF) (dLst lNil)))
  (sRet (dC (.bl false)))
  sNext)
  (sSeq (sIf (bOr (bOf (dOp dLt (dVar 12) (dPropA C_Style (pkP 1 [0] [] (sp_Style_least C_Style)) (dVar 2)))) (bNot (bOf (dCall (sp_bears C_Style) (lCons (dVar 1) (lCons (dVar 2) (lCons (dVar 8) (lCons (dVar 6) (lCons (dVar 11) lNil)))))))))
  (sRet (dC (.bl false)))
  sNext)
  (sSeq (sAsg (dJ (dIf (bOf (dOp dIsN (dOp dIx (dVar 11) (dUn uNeg (dC (.int 1)))) (dC .non))) (dLst lNil) (dSl dSlL (dVar 1) (oSome (dVar 7)) (oSome (dOp dIx (dVar 11) (dUn uNeg (dC (.int 1)))))))) (nmG 13))
  (sIf (bOf (dOp dNe (dLc (iSeq (dVar 13)) (nmG 16) (bOf (dOp dGe (dOp dIx (dVar 16) (dVar 6)) (dVar 12))) (dVar 16) [16] finF) (dLst lNil)))
  (sRet (dC (.bl false)))
  sNext)))))))))))
  (sRet (dC (.bl true))))))
def T__law_other_styles_right (C_Style : Addr) : TSd :=
  (sSeq (sAsg (dTup (lCons (dCall (sp_stops C_Style) (lCons (dVar 1) (lCons (dVar 2) lNil))) (lCons (dOp dAdd (dC (.int 1)) (dCall sp__law_pick (lCons (dVar 0) (lCons (dC (.int 9)) lNil)))) lNil))) (tupG 2 (gsCons (nmG 3) (gsCons (nmG 4) gsNil))))
  (sSeq (sAsg (dFzI (dCMethA C_Style (pkP 4 [0, 1, 2, 3] [] (sp_Style_of C_Style)) (dC (.obj C_Style)) (d2 (lCons (dPropA C_Style (pkP 1 [0] [] (sp_Style_kinds C_Style)) (dVar 2)) (lCons (dOp dAdd (dPropA C_Style (pkP 1 [0] [] (sp_Style_gap C_Style)) (dVar 2)) (dVar 4)) (lCons (dPropA C_Style (pkP 1 [0] [] (sp_Style_least C_Style)) (dVar 2)) lNil))) lNil 0))) (nmG 5))
  (sSeq (sIf (bOf (dOp dNe (dCall (sp_stops C_Style) (lCons (dVar 1) (lCons (dVar 5) lNil))) (dLc (iSeq (dVar 3)) (nmG 9) bYes (dLc (iEnumD (lCons (dVar 9) lNil)) (tupG 2 (gsCons (nmG 10) (gsCons (nmG 11) gsNil))) bYes (dOp dAdd (dVar 11) (dOp dMul (dVar 4) (dOp dAdd (dVar 10) (dC (.int 1))))) [10, 11] finF) [9] finF)))
  (sRet (dC (.bl false)))
  sNext)
  (sSeq (sAsg (dFzI (dCMethA C_Style (pkP 4 [0, 1, 2, 3] [] (sp_Style_of C_Style)) (dC (.obj C_Style)) (d2 (lCons (dLst (lCons (dC (.str "center")) lNil)) (lCons (dOp dMul (dPropA C_Style (pkP 1 [0] [] (sp_Style_gap C_Style)) (dVar 2)) (dVar 4)) (lCons (dOp dMul (dPropA C_Style (pkP 1 [0] [] (sp_Style_least C_Style)) (dVar 2)) (dVar 4)) lNil))) lNil 0))) (nmG 6))
  (sSeq (sAsg (dLc (iSeq (dVar 1)) (nmG 9) bYes (dLc (iSeq (dVar 9)) (nmG 12) bYes (dOp dMul (dVar 12) (dVar 4)) [12] finF) [9] finF) (nmG 7))
  (sSeq (sAsg (dCall (sp_width_of C_Style) (lCons (dVar 1) (lCons (dVar 2) lNil))) (nmG 8))
  (sSeq (sIf (bOr (bOf (dOp dNe (dCall (sp_stops C_Style) (lCons (dVar 7) (lCons (dVar 6) lNil))) (dLc (iSeq (dVar 3)) (nmG 9) bYes (dLc (iSeq (dVar 9)) (nmG 11) bYes (dOp dMul (dVar 11) (dVar 4)) [11] finF) [9] finF))) (bOf (dOp dNeF (dCall (sp_width_of C_Style) (lCons (dVar 7) (lCons (dVar 6) lNil))) (dOp dMul (dVar 4) (dVar 8)))))
  (sRet (dC (.bl false)))
  sNext)
  (sRet (dAnd (dOp dEq (dCall (sp_ends C_Style) (lCons (dRev (dVar 1)) (lCons (dVar 2) lNil))) (dRev (dCall (sp_ends C_Style) (lCons (dVar 1) (lCons (dVar 2) lNil))))) (dOp dEqF (dVar 8) (dCB cMax (lCons (dCall (sp_ends C_Style) (lCons (dVar 1) (lCons (dVar 2) lNil))) lNil))))))))))))
def T__law_parts_right (C_Style : Addr) : TSd :=
  (sSeq (sAsg (dCall sp__law_pick (lCons (dVar 0) (lCons (dCB cLen (lCons (dVar 1) lNil)) lNil))) (nmG 4))
  (sSeq (sAsg (dOp dAdd (dVar 4) (dCall sp__law_pick (lCons (dVar 0) (lCons (dOp dSub (dCB cLen (lCons (dVar 1) lNil)) (dVar 4)) lNil)))) (nmG 5))
  (sSeq (sPar 6 7 (lCons (dCall (sp_ends C_Style) (lCons (dCall sp_part (lCons (dVar 1) (lCons (dVar 4) (lCons (dVar 5) lNil)))) (lCons (dVar 3) lNil))) (lCons (dCall (sp_ends C_Style) (lCons (dVar 1) (lCons (dVar 3) lNil))) lNil)))
  (sSeq (sIf (bOf (dOp dNe (dLc (iZipD (lCons (dVar 6) (lCons (dSl dSlL (dVar 7) (oSome (dVar 4)) (oSome (dOp dAdd (dVar 5) (dC (.int 1))))) lNil))) (tupG 2 (gsCons (nmG 11) (gsCons (nmG 12) gsNil))) (bOf (dOp dGt (dVar 11) (dVar 12))) (dC (.int 1)) [11, 12] finF) (dLst lNil)))
  (sRet (dC (.bl false)))
  sNext)
  (sSeq (sPar 8 9 (lCons (dCallA (pkS true 0 [] [] sp_stacked) (d2 (lCons (dVar 1) (lCons (dLst (lCons (dLst (lCons (dC (.int 0)) lNil)) lNil)) (lCons (dVar 2) lNil))) lNil 0)) (lCons (dCallA (pkS true 0 [] [] sp_stacked) (d2 (lCons (dVar 1) (lCons (dVar 2) lNil)) lNil 0)) lNil)))
  (sSeq (sIf (bOr (bOf (dOp dNe (dCall (sp_ends C_Style) (lCons (dVar 8) (lCons (dVar 3) lNil))) (dOp dAdd (dOp dAdd (dVar 7) (dLst (lCons (dC (.int 0)) lNil))) (dCall (sp_ends C_Style) (lCons (dVar 2) (lCons (dVar 3) lNil)))))) (bOf (dOp dNe (dCall sp_tabs_of (lCons (dVar 9) lNil)) (dOp dAdd (dCall sp_tabs_of (lCons (dVar 1) lNil)) (dCall sp_tabs_of (lCons (dVar 2) lNil))))))
  (sRet (dC (.bl false)))
  sNext)
  (sSeq (sIf (bOf (dOp dNe (dLc (iZipD (lCons (dOp dAdd (dVar 7) (dCall (sp_ends C_Style) (lCons (dVar 2) (lCons (dVar 3) lNil)))) (lCons (dCall (sp_ends C_Style) (lCons (dVar 9) (lCons (dVar 3) lNil))) lNil))) (tupG 2 (gsCons (nmG 11) (gsCons (nmG 12) gsNil))) (bOf (dOp dGt (dVar 11) (dVar 12))) (dC (.int 1)) [11, 12] finF) (dLst lNil)))
  (sRet (dC (.bl false)))
  sNext)
  (sSeq (sAsg (dOp dSub (dCB cMin2 (lCons (dCB cLen (lCons (dOp dIx (dVar 1) (dUn uNeg (dC (.int 1)))) lNil)) (lCons (dCB cLen (lCons (dOp dIx (dVar 2) (dC (.int 0))) lNil)) lNil))) (dC (.int 1))) (nmG 10))
  (sRet (dOp dEqF (dCB cLen (lCons (dCall sp_blocks_of (lCons (dVar 9) lNil)) lNil)) (dOp dSub (dOp dAdd (dCB cLen (lCons (dCall sp_blocks_of (lCons (dVar 1) lNil)) lNil)) (dCB cLen (lCons (dCall sp_blocks_of (lCons (dVar 2) lNil)) lNil))) (dVar 10))))))))))))
def T__law_wider_right (C_Style : Addr) : TSd :=
  (sSeq (sAsg (dCall sp__law_pick (lCons (dVar 0) (lCons (dCB cLen (lCons (dVar 1) lNil)) lNil))) (nmG 3))
  (sSeq (sAsg (dCall sp__law_pick (lCons (dVar 0) (lCons (dCB cLen (lCons (dOp dIx (dVar 1) (dVar 3)) lNil)) lNil))) (nmG 4))
  (sSeq (sPar 5 6 (lCons (dCall (sp_stops C_Style) (lCons (dVar 1) (lCons (dVar 2) lNil))) (lCons (dCall sp_block_at (lCons (dVar 1) (lCons (dVar 3) (lCons (dVar 4) lNil)))) lNil)))
  (sSeq (sAsg (dLc (iSeq (dVar 1)) (nmG 12) bYes (dCB cListO (lCons (dVar 12) lNil)) [12] finO) (nmG 7))
  (sSeq (sAsg (dOp dAdd (dOp dAdd (dOp dIx (dOp dIx (dVar 7) (dVar 3)) (dVar 4)) (dC (.int 1))) (dCall sp__law_pick (lCons (dVar 0) (lCons (dC (.int 40)) lNil)))) (subG dSetO (dOp dIx (dVar 7) (dVar 3)) (dVar 4)))
  (sSeq (sAsg (dCall (sp_stops C_Style) (lCons (dVar 7) (lCons (dVar 2) lNil))) (nmG 8))
  (sSeq (sIf (bOf (dOp dIsN (dVar 6) (dC .non)))
  (sRet (dOp dEq (dVar 8) (dVar 5)))
  sNext)
  (sSeq (sAsg (dOp dSub (dOp dIx (dOp dIx (dVar 8) (dVar 3)) (dVar 4)) (dOp dIx (dOp dIx (dVar 5) (dVar 3)) (dVar 4))) (nmG 9))
  (sSeq (sFor (iEnumD (lCons (dVar 5) lNil)) (tupG 2 (gsCons (nmG 10) (gsCons (nmG 12) gsNil)))
  (sSeq (sAsg (dChain dLe dLe (dOp dIx (dVar 6) (dC (.int 1))) (dVar 10) (dOp dIx (dVar 6) (dC (.int 2)))) (nmG 11))
  (sIf (bOf (dOp dNe (dOp dIx (dVar 8) (dVar 10)) (dLc (iEnumD (lCons (dVar 12) lNil)) (tupG 2 (gsCons (nmG 13) (gsCons (nmG 14) gsNil))) bYes (dOp dAdd (dVar 14) (dOp dMul (dVar 9) (dCB cInt (lCons (dAnd (dVar 11) (dOp dGe (dVar 13) (dVar 4))) lNil)))) [13, 14] finF)))
  (sRet (dC (.bl false)))
  sNext)))
  (sRet (dChain dLe dLe (dC (.int 0)) (dVar 9) (dOp dSub (dOp dIx (dOp dIx (dVar 7) (dVar 3)) (dVar 4)) (dOp dIx (dOp dIx (dVar 1) (dVar 3)) (dVar 4))))))))))))))
def T_law (C_Style : Addr) : TSd :=
  (sSeq (sFor (iRg1 (lCons (dCB cMax2 (lCons (dC (.int 1)) (lCons (dCB cMin2 (lCons (dC (.int 3)) (lCons (dCB cLen (lCons (dVar 0) lNil)) lNil))) lNil))) lNil)) (nmG 1)
  (sSeq (sAsg (dCall sp__law_feed (lCons (dVar 0) (lCons (dVar 1) lNil))) (nmG 2))
  (sFor (iRg1 (lCons (dC (.int 2)) lNil)) (nmG 3)
  (sSeq (sPar 4 5 (lCons (dCall sp__law_sheet (lCons (dVar 2) (lCons (dOp dIx (dLst (lCons (dC (.int 30)) (lCons (dC (.int 6)) lNil))) (dVar 3)) lNil))) (lCons (dCall sp__law_sheet (lCons (dVar 2) (lCons (dOp dIx (dLst (lCons (dC (.int 29)) (lCons (dC (.int 6)) lNil))) (dVar 3)) lNil))) lNil)))
  (sSeq (sAsg (dCall sp__law_width (lCons (dVar 2) (lCons (dCall sp__law_pick (lCons (dVar 2) (lCons (dC (.int 3)) lNil))) lNil))) (nmG 6))
  (sSeq (sAsg (dFzI (dCMethA C_Style (pkP 4 [0, 1, 2, 3] [] (sp_Style_of C_Style)) (dC (.obj C_Style)) (d2 (lCons (dLst (lCons (dC (.str "left")) (lCons (dC (.str "right")) lNil))) (lCons (dCall sp__law_width (lCons (dVar 2) (lCons (dCall sp__law_pick (lCons (dVar 2) (lCons (dC (.int 3)) lNil))) lNil))) (lCons (dVar 6) lNil))) lNil 0))) (nmG 7))
  (sSeq (sIf (bOr (bNot (bOf (dCall (sp__law_stops_right C_Style) (lCons (dVar 2) (lCons (dVar 4) (lCons (dVar 7) lNil)))))) (bNot (bOf (dCall (sp__law_other_styles_right C_Style) (lCons (dVar 2) (lCons (dVar 4) (lCons (dVar 7) lNil)))))))
  (sRet (dC (.bl false)))
  sNext)
  (sIf (bOr (bNot (bOf (dCall (sp__law_parts_right C_Style) (lCons (dVar 2) (lCons (dVar 4) (lCons (dVar 5) (lCons (dVar 7) lNil))))))) (bNot (bOf (dCall (sp__law_wider_right C_Style) (lCons (dVar 2) (lCons (dVar 4) (lCons (dVar 7) lNil)))))))
  (sRet (dC (.bl false)))
  sNext))))))))
  (sRet (dC (.bl true))))
local macro_rules | `(tactic| walk_at "dl") => `(tactic| ((try simp only [gstart, gwipe, List.set_set, List.map_cons, List.map_nil, List.length_cons, List.length_nil, rep_0, rep_s, List.cons_append, List.nil_append, List.set_cons_zero, List.set_cons_succ, Nat.reduceAdd, Nat.reduceSub, Nat.zero_add, Nat.add_zero]); (try simp only [↓dv0, ↓dv1, ↓dv2, ↓dv3, ↓dv4, ↓dv5, ↓dv6, ↓dv7, ↓dv8, ↓dv9, ↓dv10, ↓dv11, ↓dv12, ↓dv13, ↓dv14, ↓dv15, ↓dv16, ↓dv17, ↓dv18, ↓dv19, ↓dv20, ↓dv21, ↓dv22, ↓dv23, ↓dv24, ↓dv25, ↓dv26, ↓dv27, ↓dv28, ↓dv29, ↓dv30, ↓dv31, ↓dv32, ↓dv33, ↓dv34, ↓dv35, ↓dv36, ↓dv37, ↓dv38, ↓dv39, ↓nm0, ↓nm1, ↓nm2, ↓nm3, ↓nm4, ↓nm5, ↓nm6, ↓nm7, ↓nm8, ↓nm9, ↓nm10, ↓nm11, ↓nm12, ↓nm13, ↓nm14, ↓nm15, ↓nm16, ↓nm17, ↓nm18, ↓nm19, ↓nm20, ↓nm21, ↓nm22, ↓nm23, ↓nm24, ↓nm25, ↓nm26, ↓nm27, ↓nm28, ↓nm29, ↓nm30, ↓nm31, ↓nm32, ↓nm33, ↓nm34, ↓nm35, ↓nm36, ↓nm37, ↓nm38, ↓nm39, ↓sPar_n, ↓sPar3_n, ↓sAug_n, ↓reduceIte, List.set_set, ↓sNext_e, ↓sSeq_e, ↓sBrk_e, ↓sCnt_e, ↓sDrop_e, ↓sRet_e, ↓sRetN_e, ↓sIf_e, ↓sAsg_e, ↓sRaise_e, ↓nmG_e, ↓tupG_e, ↓gsNil_e, ↓gsCons_e, ↓subG_e, ↓dC_e, ↓dOp_e, ↓dUn_e, ↓dChain_e, ↓bOf_e, ↓bAnd_e, ↓bOr_e, ↓bNot_e, ↓bYes_e, ↓dAnd_e, ↓dOr_e, ↓dNot_e, ↓dIf_e, ↓lNil_e, ↓lCons_e, ↓dLst_e, ↓dLstO_e, ↓dTup_e, ↓dCB_e, ↓dCall_e, ↓dCallK_e, ↓oNone_e, ↓oSome_e, ↓dSl_e, ↓dBM_e, ↓dBM0_e, ↓dFz_e, ↓dFz2_e, ↓d2_e, ↓dLone_e, ↓lStar_e, ↓dCallA_e, ↓dMakeA_e, ↓dMakeV_e, ↓dMethA_e, ↓dCMethA_e, ↓dPropA_e, ↓dFld_e, ↓sFldS_e, ↓dFzI_e, ↓fzID_o, ↓dM1_e, ↓dM0_e, ↓dRev_e, ↓mSplit_s, ↓mUpper_s, ↓exStr, ↓exZ, ↓cStrI_i, ↓cIntS_s, ↓iStrD_e, ↓dEqF_s, ↓dNeF_s, ↓dEqF_i, ↓dNeF_i, ↓dSign_s, ↓sRaiseI_e, ↓dXFld_e, ↓mPop_e, ↓dAddO_l, ↓dAddO_o, ↓dMk0_e, ↓sKeep_e, ↓dCVal_e, ↓dConI_e, ↓cLen_s, ↓dIx_s, ↓dSlS_s, ↓dAdd_s, ↓cTup_l, ↓pkP_e, ↓pkS_e, ↓lstG_e, ↓asI_i, ↓iSeq_e, ↓iTupD_e, ↓iRg1_e, ↓iRg2_e, ↓iZipD_e, ↓iEnumD_e, ↓sFor_e, ↓dLc_e, ↓finF_e, ↓finO_e, ↓fzD_l, ↓fzD_i, ↓fzD_o, ↓fzD2_o, ↓dSetO_e, ↓mAppend_e, ↓mClear_e, ↓mReverse_e, List.map_cons, List.map_nil, List.length_cons, List.length_nil, rep_0, rep_s, List.cons_append, List.nil_append, List.getElem?_cons_zero, List.getElem?_cons_succ, List.set_cons_zero, List.set_cons_succ, Nat.reduceAdd, Nat.reduceSub, Nat.zero_add, Nat.add_zero, ↓exSS, ↓exB, ↓exI, ↓ex1, ↓ex2, ↓ex3, ↓exI1, ↓exI2, ↓exT, ↓exC, ↓exAs, ↓dAdd_i, ↓dAddI_i, ↓dSubI_i, ↓dLRg_e, ↓dIsiT_e, ↓dLenSet_e, ↓bChain3_e, ↓dLRg2_e, ↓iRg3_e, ↓dLc2_e, ↓dSlT_t, ↓dNew_e, ↓sDct_e, ↓dMulO_l, ↓dLRgO_e, ↓dAdd_l, ↓dSub_i, ↓dMul_i, ↓dMul_l, ↓dMod_i, ↓dDiv_i, ↓dPow_i, ↓dLt_i, ↓dLe_i, ↓dGt_i, ↓dGe_i, ↓uNeg_i, ↓cMax2_i, ↓cMin2_i, ↓cAbs_i, ↓cInt_i, ↓cInt_b, ↓cLen_l, ↓cLen_q, ↓cLen_t, ↓cList_l, ↓cList_q, ↓cList_t, ↓cListO_l, ↓cListO_t, ↓dIx_l, ↓dIx_q, ↓dIx_t, ↓dIx_o', ↓exS, ↓exL, at_1, at_2, at_3, at_4, ix30, ix31, ix32, ↓dSlL_l, ↓dSlL_q, ↓asQ_l, ↓asL_l, at_0, ↓isi_non_int, ↓isi_non_bool, ↓isi_non_str, ↓isi_non_list, ↓isi_non_tuple, ↓isi_non_dict, ↓isi_bl_int, ↓isi_bl_bool, ↓isi_bl_str, ↓isi_bl_list, ↓isi_bl_tuple, ↓isi_bl_dict, ↓isi_int_int, ↓isi_int_bool, ↓isi_int_str, ↓isi_int_list, ↓isi_int_tuple, ↓isi_int_dict, ↓isi_str_int, ↓isi_str_bool, ↓isi_str_str, ↓isi_str_list, ↓isi_str_tuple, ↓isi_str_dict, ↓isi_lst_int, ↓isi_lst_bool, ↓isi_lst_str, ↓isi_lst_list, ↓isi_lst_tuple, ↓isi_lst_dict, ↓isi_sq_int, ↓isi_sq_bool, ↓isi_sq_str, ↓isi_sq_list, ↓isi_sq_tuple, ↓isi_sq_dict, ↓isi_tup_int, ↓isi_tup_bool, ↓isi_tup_str, ↓isi_tup_list, ↓isi_tup_tuple, ↓isi_tup_dict, ↓isi_dic_int, ↓isi_dic_bool, ↓isi_dic_str, ↓isi_dic_list, ↓isi_dic_tuple, ↓isi_dic_dict, if_true, if_false, Bool.not_true, Bool.not_false, true_and, and_true, reduceCtorEq, Bool.true_eq_false, Bool.false_eq_true, ite_true, ite_false, ↓exAny, ↓isLst_l, Int.toNat_natCast, Int.reduceToNat, dVar_e, sPar_e, sPar3_e, sAug_e])))
local macro_rules | `(tactic| walk_at "dls") => `(tactic| ((try simp only [gstart, gwipe, List.set_set, List.map_cons, List.map_nil, List.length_cons, List.length_nil, rep_0, rep_s, List.cons_append, List.nil_append, List.set_cons_zero, List.set_cons_succ, Nat.reduceAdd, Nat.reduceSub, Nat.zero_add, Nat.add_zero]); (try simp only [*, ↓dv0, ↓dv1, ↓dv2, ↓dv3, ↓dv4, ↓dv5, ↓dv6, ↓dv7, ↓dv8, ↓dv9, ↓dv10, ↓dv11, ↓dv12, ↓dv13, ↓dv14, ↓dv15, ↓dv16, ↓dv17, ↓dv18, ↓dv19, ↓dv20, ↓dv21, ↓dv22, ↓dv23, ↓dv24, ↓dv25, ↓dv26, ↓dv27, ↓dv28, ↓dv29, ↓dv30, ↓dv31, ↓dv32, ↓dv33, ↓dv34, ↓dv35, ↓dv36, ↓dv37, ↓dv38, ↓dv39, ↓nm0, ↓nm1, ↓nm2, ↓nm3, ↓nm4, ↓nm5, ↓nm6, ↓nm7, ↓nm8, ↓nm9, ↓nm10, ↓nm11, ↓nm12, ↓nm13, ↓nm14, ↓nm15, ↓nm16, ↓nm17, ↓nm18, ↓nm19, ↓nm20, ↓nm21, ↓nm22, ↓nm23, ↓nm24, ↓nm25, ↓nm26, ↓nm27, ↓nm28, ↓nm29, ↓nm30, ↓nm31, ↓nm32, ↓nm33, ↓nm34, ↓nm35, ↓nm36, ↓nm37, ↓nm38, ↓nm39, ↓sPar_n, ↓sPar3_n, ↓sAug_n, ↓reduceIte, List.set_set, ↓sNext_e, ↓sSeq_e, ↓sBrk_e, ↓sCnt_e, ↓sDrop_e, ↓sRet_e, ↓sRetN_e, ↓sIf_e, ↓sAsg_e, ↓sRaise_e, ↓nmG_e, ↓tupG_e, ↓gsNil_e, ↓gsCons_e, ↓subG_e, ↓dC_e, ↓dOp_e, ↓dUn_e, ↓dChain_e, ↓bOf_e, ↓bAnd_e, ↓bOr_e, ↓bNot_e, ↓bYes_e, ↓dAnd_e, ↓dOr_e, ↓dNot_e, ↓dIf_e, ↓lNil_e, ↓lCons_e, ↓dLst_e, ↓dLstO_e, ↓dTup_e, ↓dCB_e, ↓dCall_e, ↓dCallK_e, ↓oNone_e, ↓oSome_e, ↓dSl_e, ↓dBM_e, ↓dBM0_e, ↓dFz_e, ↓dFz2_e, ↓d2_e, ↓dLone_e, ↓lStar_e, ↓dCallA_e, ↓dMakeA_e, ↓dMakeV_e, ↓dMethA_e, ↓dCMethA_e, ↓dPropA_e, ↓dFld_e, ↓sFldS_e, ↓dFzI_e, ↓fzID_o, ↓dM1_e, ↓dM0_e, ↓dRev_e, ↓mSplit_s, ↓mUpper_s, ↓exStr, ↓exZ, ↓cStrI_i, ↓cIntS_s, ↓iStrD_e, ↓dEqF_s, ↓dNeF_s, ↓dEqF_i, ↓dNeF_i, ↓dSign_s, ↓sRaiseI_e, ↓dXFld_e, ↓mPop_e, ↓dAddO_l, ↓dAddO_o, ↓dMk0_e, ↓sKeep_e, ↓dCVal_e, ↓dConI_e, ↓cLen_s, ↓dIx_s, ↓dSlS_s, ↓dAdd_s, ↓cTup_l, ↓pkP_e, ↓pkS_e, ↓lstG_e, ↓asI_i, ↓iSeq_e, ↓iTupD_e, ↓iRg1_e, ↓iRg2_e, ↓iZipD_e, ↓iEnumD_e, ↓sFor_e, ↓dLc_e, ↓finF_e, ↓finO_e, ↓fzD_l, ↓fzD_i, ↓fzD_o, ↓fzD2_o, ↓dSetO_e, ↓mAppend_e, ↓mClear_e, ↓mReverse_e, List.map_cons, List.map_nil, List.length_cons, List.length_nil, rep_0, rep_s, List.cons_append, List.nil_append, List.getElem?_cons_zero, List.getElem?_cons_succ, List.set_cons_zero, List.set_cons_succ, Nat.reduceAdd, Nat.reduceSub, Nat.zero_add, Nat.add_zero, ↓exSS, ↓exB, ↓exI, ↓ex1, ↓ex2, ↓ex3, ↓exI1, ↓exI2, ↓exT, ↓exC, ↓exAs, ↓dAdd_i, ↓dAddI_i, ↓dSubI_i, ↓dLRg_e, ↓dIsiT_e, ↓dLenSet_e, ↓bChain3_e, ↓dLRg2_e, ↓iRg3_e, ↓dLc2_e, ↓dSlT_t, ↓dNew_e, ↓sDct_e, ↓dMulO_l, ↓dLRgO_e, ↓dAdd_l, ↓dSub_i, ↓dMul_i, ↓dMul_l, ↓dMod_i, ↓dDiv_i, ↓dPow_i, ↓dLt_i, ↓dLe_i, ↓dGt_i, ↓dGe_i, ↓uNeg_i, ↓cMax2_i, ↓cMin2_i, ↓cAbs_i, ↓cInt_i, ↓cInt_b, ↓cLen_l, ↓cLen_q, ↓cLen_t, ↓cList_l, ↓cList_q, ↓cList_t, ↓cListO_l, ↓cListO_t, ↓dIx_l, ↓dIx_q, ↓dIx_t, ↓dIx_o', ↓exS, ↓exL, at_1, at_2, at_3, at_4, ix30, ix31, ix32, ↓dSlL_l, ↓dSlL_q, ↓asQ_l, ↓asL_l, at_0, ↓isi_non_int, ↓isi_non_bool, ↓isi_non_str, ↓isi_non_list, ↓isi_non_tuple, ↓isi_non_dict, ↓isi_bl_int, ↓isi_bl_bool, ↓isi_bl_str, ↓isi_bl_list, ↓isi_bl_tuple, ↓isi_bl_dict, ↓isi_int_int, ↓isi_int_bool, ↓isi_int_str, ↓isi_int_list, ↓isi_int_tuple, ↓isi_int_dict, ↓isi_str_int, ↓isi_str_bool, ↓isi_str_str, ↓isi_str_list, ↓isi_str_tuple, ↓isi_str_dict, ↓isi_lst_int, ↓isi_lst_bool, ↓isi_lst_str, ↓isi_lst_list, ↓isi_lst_tuple, ↓isi_lst_dict, ↓isi_sq_int, ↓isi_sq_bool, ↓isi_sq_str, ↓isi_sq_list, ↓isi_sq_tuple, ↓isi_sq_dict, ↓isi_tup_int, ↓isi_tup_bool, ↓isi_tup_str, ↓isi_tup_list, ↓isi_tup_tuple, ↓isi_tup_dict, ↓isi_dic_int, ↓isi_dic_bool, ↓isi_dic_str, ↓isi_dic_list, ↓isi_dic_tuple, ↓isi_dic_dict, if_true, if_false, Bool.not_true, Bool.not_false, true_and, and_true, reduceCtorEq, Bool.true_eq_false, Bool.false_eq_true, ite_true, ite_false, ↓exAny, ↓isLst_l, Int.toNat_natCast, Int.reduceToNat, dVar_e, sPar_e, sPar3_e, sAug_e])))
--MB
abbrev Rets (sp : DSpec) (T : TSd) (N : List Str) : Prop := ∀ ds S Φ Ψ, sp ds S Φ Ψ → T { nx := fun _ S' => RetOk S Φ S' .non, rt := RetOk S Φ, er := ErOk S Ψ } (gstart N ds) S
theorem under {n : Nat} (h : n ≤ 1000000) : n < sizeLine := Nat.lt_of_le_of_lt h (by decide)
theorem all_map {α : Type} {S : Sto} {Φ : KD} (xs : List α) (f : α → Bool) (h : Φ S (.bl (xs.all f))) : cAll [.lst (xs.map fun x => D.bl (f x))] S Φ :=
  ⟨xs.map f, by rw [List.map_map]; rfl, by rw [List.all_map]; exact h⟩
theorem p__law_feed : Rets sp__law_feed T__law_feed N__law_feed := by
  rintro _ S Φ Ψ ⟨ns, k, rfl, hk, h⟩
  unfold T__law_feed
  walk_at "dl"
  have done : ∀ a : Int, RetOk S Φ (S ++ [Cell.lst [D.int (if (if a < 0 then -a else a) - 10 ^ 18 > 0 then (if a < 0 then -a else a) - 10 ^ 18 else 0), D.int ((a * 197 + 6329 * (k : Int) + 71) % 2305843009213693951), D.int 0]]) (D.own S.length) := fun a => by
    refine ret_now (h _ ⟨_, _, 0, rfl, by split <;> omega, ?_, ?_, by decide, by decide⟩)
    · exact Int.emod_nonneg _ (by decide)
    · exact Int.lt_trans (Int.emod_lt_of_pos _ (by decide)) (by decide)
  rw [sJ_e]
  walk_at "dl"
  rw [List.length_map]
  by_cases c : k < ns.length
  · rw [if_pos (by rw [decide_eq_true_eq]; omega), at_nat]
    refine ⟨.int (ns[k]), by rw [List.getElem?_map, List.getElem?_eq_getElem c]; rfl, ?_⟩
    walk_at "dl"
    exact ⟨cpw (by decide) (by decide) (by decide), cmr (by decide) (by decide), cml (by decide) (by decide), by decide, small, done _⟩
  · rw [if_neg (by rw [decide_eq_true_eq]; omega)]
    exact ⟨cpw (by decide) (by decide) (by decide), cmr (by decide) (by decide), cml (by decide) (by decide), by decide, small, done 0⟩
theorem p__law_pick : Rets sp__law_pick T__law_pick N__law_pick := by
  rintro _ S Φ Ψ ⟨h, n, m, rfl, ⟨c, ec, a, b, k, rfl, ha, hb, hb2, hk, hk2⟩, hn, hm, hm2, q⟩
  unfold T__law_pick
  walk_at "dl"
  have es : ∀ c, (S.set h c)[h]? = some c := fun c => List.getElem?_set_self (List.getElem?_eq_some_iff.mp ec).1
  walk_at "dls"
  by_cases c : 0 < a
  · rw [if_pos (by rw [decide_eq_true_eq]; exact c)]
    refine ⟨cdw hm (by omega), ret_now (q _ _ ⟨_, ⟨_, _, _, rfl, Int.ediv_nonneg ha (by omega), hb, hb2, hk, by omega⟩, rfl⟩ (Int.emod_nonneg _ (by omega)) (Int.emod_lt_of_pos _ hm))⟩
  · rw [if_neg (by rw [decide_eq_true_eq]; exact c)]
    have fin : ∀ x : Int, RetOk S Φ (S.set h (Cell.lst [D.int a, D.int b, D.int (k + 1)])) (D.int (x % m)) := fun x => ret_now (q _ _ ⟨_, ⟨_, _, _, rfl, ha, hb, hb2, by omega, by omega⟩, rfl⟩ (Int.emod_nonneg _ (by omega)) (Int.emod_lt_of_pos _ hm))
    have e1 := Int.emod_nonneg (b + 180001 * (k + 1)) (show (2305843009213693951 : Int) ≠ 0 by decide)
    have e2 := Int.emod_lt_of_pos (b + 180001 * (k + 1)) (show (0 : Int) < 2305843009213693951 by decide)
    generalize (b + 180001 * (k + 1)) % 2305843009213693951 = x at *
    have e3 := Int.emod_nonneg (x * x + 73133 * (k + 1) * x + 53) (show (2305843009213693951 : Int) ≠ 0 by decide)
    have e4 := Int.emod_lt_of_pos (x * x + 73133 * (k + 1) * x + 53) (show (0 : Int) < 2305843009213693951 by decide)
    generalize (x * x + 73133 * (k + 1) * x + 53) % 2305843009213693951 = y at *
    exact ⟨cml (by decide) (by decide), by decide, cml (by omega) (by omega), cml (by decide) (by decide), cmr (by omega) (by omega), by decide, cpw (by decide) (by decide) (by omega), cml (by decide) (by decide), by decide, cdw (by decide) (by decide), fin _⟩
theorem pick_at {S : Sto} {Φ : KD} {Ψ : KX} {h n : Nat} {m : Int} (f : FdAt S h n) (hm : 0 < m) (q : ∀ S' v, Fs h (n + 1) S S' → FdAt S' h (n + 1) → 0 ≤ v → v < m → Φ S' (.int v)) (hn : n < 2 ^ 60 := by omega) (hm2 : m < 2 ^ 200 := by omega) : sp__law_pick [.own h, .int m] S Φ Ψ :=
  ⟨h, n, m, rfl, f, hn, hm, hm2, fun S' v f' a b => q S' v f' (f'.at f.lt) a b⟩
--MB
--DROP p_with_line
--DROP p_without_line
--DROP p_need_cell
--DROP p_changed
--DROP p_with_cell
theorem inB_of {v lo hi : Int} (h : lo ≤ v) (h2 : v ≤ hi) : inB v lo hi = true := by unfold inB; rw [decide_eq_true h, decide_eq_true h2]; rfl
theorem in_words (w : Str) : inD (.str w) (kindsL.map D.str) = decide (w ∈ kindsL) := by
  unfold inD
  rw [Bool.eq_iff_iff, List.any_eq_true, decide_eq_true_eq]
  constructor
  · rintro ⟨d, hd, e⟩
    obtain ⟨x, hx, rfl⟩ := List.mem_map.mp hd
    have : (x == w) = true := e
    rw [beq_iff_eq] at this
    exact this ▸ hx
  · intro h
    exact ⟨.str w, List.mem_map.mpr ⟨w, h, rfl⟩, show (w == w) = true from beq_self_eq_true w⟩
theorem p_is_integer : Rets sp_is_integer T_is_integer N_is_integer := by
  rintro _ S Φ Ψ ⟨v, lo, hi, rfl, h⟩
  unfold T_is_integer
  walk_at "dl"
  unfold inB at h
  by_cases c : lo ≤ v
  · rw [if_pos (by rw [decide_eq_true_eq]; exact c)]
    rw [decide_eq_true c, Bool.true_and] at h
    exact ret_now h
  · rw [if_neg (by rw [decide_eq_true_eq]; exact c)]
    rw [decide_eq_false c, Bool.false_and] at h
    exact ret_now h
theorem p_is_cell : Rets sp_is_cell T_is_cell N_is_cell := by
  rintro _ S Φ Ψ ⟨v, rfl, h⟩
  unfold T_is_cell
  walk_at "dl"
  exact ⟨_, _, _, rfl, ret_now h⟩
theorem p_are_kinds (C : Addr) : Rets sp_are_kinds (T_are_kinds C) N_are_kinds := by
  rintro _ S Φ Ψ ⟨ks, rfl, h1, h2, hk, h⟩
  unfold T_are_kinds
  walk_at "dl"
  rw [List.length_map]
  rw [if_pos (by rw [decide_eq_true_eq]; omega), if_neg (by rw [Bool.not_eq_true', decide_eq_false_iff_not]; omega)]
  refine lc_map ks D.str (fun _ => .bl true) (small (by omega)) (fun k hk' R hR => ?_) ?_
  · walk_at "dl"
    refine ⟨C, rfl, _, .head _, _, rfl, rfl, rfl, ?_⟩
    rw [if_neg Bool.false_ne_true]
    show R S (.bl (inD (.str k) (kindsL.map D.str)))
    rw [in_words, decide_eq_true (hk k hk')]
    exact hR
  · walk_at "dl"
    refine all_map ks (fun _ => true) ?_
    rw [show (ks.all fun _ => true) = true from by simp]
    exact ret_now h
theorem p_Style___init__ (I C : Addr) : Rets (sp_Style___init__ C) (T_Style___init__ I C) N_Style___init__ := by
  rintro _ S Φ Ψ ⟨h, ks, g, l, rfl, eh, ok, q⟩
  unfold T_Style___init__
  walk_at "dl"
  have es : ∀ c, (S.set h c)[h]? = some c := fun c => List.getElem?_set_self (List.getElem?_eq_some_iff.mp eh).1
  refine joinD (fun S' d => S' = S ∧ d = .lst ((kindsOr ks).map D.str)) (fun S' d ⟨e1, e2⟩ => ?_) fun N hN => ?_
  · subst e1
    subst e2
    refine ⟨_, rfl, ok.lo, ok.hi, ok.at_, true, rfl, ?_⟩
    rw [if_neg (by decide)]
    refine ⟨g, rfl, true, by rw [inB_of ok.g0 ok.g1], ?_⟩
    rw [if_neg (by decide)]
    refine ⟨l, rfl, true, by rw [inB_of ok.l0 ok.l1], ?_⟩
    rw [if_neg (by decide)]
    refine ⟨h, [], rfl, eh, by decide, h, _, rfl, es _, by show (1 : Nat) < 1000; decide, h, _, rfl, by rw [List.set_set]; exact es _, by show (2 : Nat) < 1000; decide, ?_⟩
    rw [List.set_set, List.set_set]
    exact ret_now q
  · walk_at "dl"
    rw [List.length_map]
    cases ks with
    | nil =>
      rw [if_neg (by decide)]
      exact ⟨small, hN _ _ ⟨rfl, rfl⟩⟩
    | cons k r =>
      rw [if_pos (by rw [decide_eq_true_eq, List.length_cons]; omega)]
      exact hN _ _ ⟨rfl, rfl⟩
theorem p_Style_of (I C : Addr) : Rets (sp_Style_of C) (T_Style_of I C) N_Style_of := by
  rintro _ S Φ Ψ ⟨ks, g, l, rfl, ok, q⟩
  unfold T_Style_of
  walk_at "dl"
  have e : kindsOr ks = ks := by
    unfold kindsOr
    rw [if_neg (fun e => by have := ok.lo; rw [e] at this; simp at this)]
  refine ⟨_, rfl, ok.lo, ok.hi, ok.at_, true, rfl, ?_⟩
  rw [if_neg (by decide)]
  refine ⟨_, rfl, rfl, by simp, small (by show (ks.map D.str).length ≤ _; rw [List.length_map]; have := ok.hi; omega), _, ks, _, _, rfl, get_at, by rw [e]; exact ok, rfl, ?_⟩
  rw [set_at, e]
  exact ret_now q
theorem p_Style_gap (C : Addr) : Rets (sp_Style_gap C) (T_Style_gap C) N_Style_gap := by
  rintro _ S Φ Ψ ⟨d, ks, g, l, rfl, e, h⟩
  unfold T_Style_gap
  walk_at "dl"
  exact ⟨_, e, _, rfl, ret_now h⟩
theorem p_Style_least (C : Addr) : Rets (sp_Style_least C) (T_Style_least C) N_Style_least := by
  rintro _ S Φ Ψ ⟨d, ks, g, l, rfl, e, h⟩
  unfold T_Style_least
  walk_at "dl"
  exact ⟨_, e, _, rfl, ret_now h⟩
theorem asI_app {S T : Sto} {d : D} {C : Addr} {fs : List (Str × D)} (e : asI S d = some (C, fs)) : asI (S ++ T) d = some (C, fs) := by
  cases d with
  | ins C' fs' => exact e
  | own h =>
    have e : (match S[h]? with | some (.ins C fs) => some (C, fs) | _ => none) = some (C, fs) := e
    split at e
    · cases e
      exact asI_own (get_app (by assumption))
    · cases e
  | _ => cases e
theorem owns_at {n m i : Nat} (h : i < m) : (ownsD n m)[i]? = some (.own (n + i)) := by
  unfold ownsD
  rw [List.getElem?_map, List.getElem?_range h]
  rfl
theorem tab_at {t : List (List Int)} {i : Nat} (h : i < t.length) : t.getD i [] = t[i] := by
  rw [List.getD_eq_getElem?_getD, List.getElem?_eq_getElem h]
  rfl
theorem fz_owns {Z : Sto} : ∀ (us : List (List Int)) (B : Sto) (Φ : Sto → List D → Prop), (∀ B', Φ (B ++ B') (us.map rowD)) → fzLD ((List.range us.length).map fun j => D.own (B.length + j)) (B ++ cellsD us ++ Z) Φ
  | [], B, Φ, h => by
    have := h Z
    simpa [fzLD, cellsD] using this
  | u :: us, B, Φ, h => by
    rw [List.length_cons, List.range_succ_eq_map, List.map_cons, List.map_map]
    refine ⟨u.map D.int, ?_, ?_⟩
    · rw [List.append_assoc]
      exact get_at
    · have e : (B ++ cellsD (u :: us) ++ Z).set (B.length + 0) .gone = B ++ [.gone] ++ cellsD us ++ Z := by
        rw [List.append_assoc]
        show (B ++ (_ :: (cellsD us ++ Z))).set _ _ = _
        rw [Nat.add_zero, set_at]
        simp
      rw [e]
      have ih := fz_owns (Z := Z) us (B ++ [.gone]) (fun S' ds' => Φ S' (rowD u :: ds')) fun B' => by
        have := h ([.gone] ++ B')
        rw [← List.append_assoc] at this
        exact this
      have e2 : (fun j => D.own ((B ++ [Cell.gone]).length + j)) = ((fun j => D.own (B.length + j)) ∘ Nat.succ) := by
        funext j
        show D.own _ = D.own _
        rw [List.length_append]
        show D.own (B.length + 1 + j) = D.own (B.length + (j + 1))
        congr 1
        omega
      rw [e2] at ih
      exact ih
/-- a new table, frozen at once -/
theorem fz_new {t : List (List Int)} {S : Sto} {Φ : KD} (h : ∀ Z, Φ (S ++ Z) (tabD t)) : newTab t S fun S1 d => fzD2 d S1 Φ := by
  have lc : (cellsD t).length = t.length := by simp [cellsD]
  have e : S.length + t.length = (S ++ cellsD t).length := by rw [List.length_append, lc]
  refine ⟨ownsD S.length t.length, by rw [e]; exact get_at, ?_⟩
  rw [e, set_at]
  exact fz_owns t S _ fun B' => h B'
theorem p_is_line : Rets sp_is_line T_is_line N_is_line := by
  rintro _ S Φ Ψ ⟨d, r, rfl, e, ok, h⟩
  unfold T_is_line
  walk_at "dl"
  have h1 := ok.lo
  have h2 := ok.hi
  rw [cIsi_of (tyOf_L e)]
  walk_at "dl"
  rw [cLen_L e, List.length_map]
  walk_at "dl"
  rw [if_pos (show isTyB "list" "list" = true from rfl), if_pos (by rw [decide_eq_true_eq]; omega), if_pos (by rw [decide_eq_true_eq]; omega)]
  refine ⟨⟨_, asQ_L e⟩, lc_mapS r D.int (fun _ => .bl true) (asQ_L e) (small (by omega)) (fun x hx R hR => ?_) ?_⟩
  · walk_at "dl"
    exact ⟨x, rfl, by rw [inB_of (ok.at_ x hx).1 (ok.at_ x hx).2]; exact hR⟩
  · walk_at "dl"
    exact ⟨r.map fun _ => true, by rw [List.map_map]; rfl, ret_now (by rw [all_true]; exact h)⟩
theorem p_is_table : Rets sp_is_table T_is_table N_is_table := by
  rintro _ S Φ Ψ ⟨d, t, rfl, ⟨ds, e, rs⟩, ok, h⟩
  unfold T_is_table
  walk_at "dl"
  have h1 := ok.lo
  have h2 := ok.hi
  have h3 := rs.len
  rw [cIsi_of (tyOf_L e)]
  walk_at "dl"
  rw [cLen_L e]
  walk_at "dl"
  rw [if_pos (show isTyB "list" "list" = true from rfl), if_pos (by rw [decide_eq_true_eq]; omega), if_pos (by rw [decide_eq_true_eq]; omega)]
  refine ⟨⟨_, asQ_L e⟩, lc_idS ds (fun _ => .bl true) (asQ_L e) (small (by omega)) (fun x hx R hR => ?_) ?_⟩
  · obtain ⟨r, hr, er⟩ := rs.mem hx
    walk_at "dl"
    exact ⟨x, r, rfl, er, ok.row r hr, hR⟩
  · walk_at "dl"
    exact ⟨ds.map fun _ => true, by rw [List.map_map]; rfl, ret_now (by rw [all_true]; exact h)⟩
theorem p_need_table (C) : Rets sp_need_table (T_need_table C) N_need_table := by
  rintro _ S Φ Ψ ⟨d, t, rfl, e, ok, h⟩
  unfold T_need_table
  walk_at "dl"
  exact ⟨d, t, rfl, e, ok, by walk_at "dl"; exact ret_now h⟩
theorem p_need_line (C) : Rets sp_need_line (T_need_line C) N_need_line := by
  rintro _ S Φ Ψ ⟨d, t, i, rfl, ⟨ds, e, rs⟩, h1, h⟩
  unfold T_need_line
  walk_at "dl"
  rw [cLen_L e]
  walk_at "dl"
  have h3 := rs.len
  refine ⟨i, 0, _, rfl, ?_⟩
  rw [inB_of (by omega) (by omega)]
  walk_at "dl"
  exact ret_now h
theorem p_copy_of : Rets sp_copy_of T_copy_of N_copy_of := by
  rintro _ S Φ Ψ ⟨d, t, rfl, ⟨ds, e, rs⟩, h2, h⟩
  unfold T_copy_of
  walk_at "dl"
  have h3 := rs.len
  refine ⟨⟨_, asQ_L e⟩, lc_s (ds := ds) (fun i acc S' => S' = S ++ cellsD (t.take i) ∧ acc = ownsD S.length i) (small (by omega)) ⟨by simp [cellsD], rfl⟩ (fun i acc S' hp => by rw [hp.1]; exact asQ_L (asL_app e)) (fun i acc S' hi hp => ?_) fun acc S' hp => ?_⟩
  · obtain ⟨rfl, rfl⟩ := hp
    have hi2 : i < t.length := by omega
    walk_at "dl"
    rw [cListO_L (asL_app (rs.get hi2 hi))]
    refine ⟨?_, ?_⟩
    · rw [List.take_add_one, List.getElem?_eq_getElem hi2, List.append_assoc]
      unfold cellsD
      rw [List.map_append]
      rfl
    · unfold ownsD cellsD
      rw [List.range_succ, List.map_append, List.length_append, List.length_map, List.length_take, Nat.min_eq_left (Nat.le_of_lt hi2)]
      rfl
  · obtain ⟨rfl, rfl⟩ := hp
    walk_at "dl"
    rw [h3, List.take_length]
    refine ret_now ?_
    unfold newTab at h
    rw [List.length_append]
    unfold cellsD at h ⊢
    rw [List.length_map]
    exact h
theorem dNe_nil {S : Sto} {Φ : KD} {x : D} {ps : List PyData} {n m : Nat} (r : PyR S x (.list ps)) (f : Fit n m (.list ps)) (hn : n ≤ 64) (h : Φ S (.bl (!decide (ps = [])))) : dNe x (.lst []) S Φ := by
  refine ⟨.list ps, .list [], r, .lst .nil, f.shaped hn, by decide, ?_⟩
  cases ps with
  | nil => exact h
  | cons a b => exact h
theorem tabsF_snoc (t : List (List Int)) {i : Nat} (h : i < t.length) : tabsF (t.take (i + 1)) = tabsF (t.take i) ++ [(t[i]).length - 1] := by
  unfold tabsF
  rw [List.take_add_one, List.getElem?_eq_getElem h, List.map_append]
  rfl
theorem p_tabs_in : Rets sp_tabs_in T_tabs_in N_tabs_in := by
  rintro _ S Φ Ψ ⟨d, t, rfl, ⟨ds, e, rs⟩, ok, h⟩
  unfold T_tabs_in
  walk_at "dl"
  have h3 := rs.len
  have h4 := ok.hi
  refine ⟨⟨_, asQ_L e⟩, lc_s (ds := ds) (fun i acc S' => S' = S ∧ acc = natsD (tabsF (t.take i))) (small (by omega)) ⟨rfl, rfl⟩ (fun i acc S' hp => by rw [hp.1]; exact asQ_L e) (fun i acc S' hi hp => ?_) fun acc S' hp => ?_⟩
  · obtain ⟨rfl, rfl⟩ := hp
    have hi2 : i < t.length := by omega
    walk_at "dl"
    rw [cLen_L (rs.get hi2 hi), List.length_map]
    walk_at "dl"
    have := (ok.row _ (List.getElem_mem hi2)).lo
    rw [tabsF_snoc t hi2]
    unfold natsD
    rw [List.map_append, show ((((t[i]).length : Nat) : Int) - 1) = (((t[i]).length - 1 : Nat) : Int) by omega]
    rfl
  · obtain ⟨rfl, rfl⟩ := hp
    walk_at "dl"
    rw [h3, List.take_length]
    exact ret_now h
theorem natsD_get {ns : List Nat} {i : Nat} {x : D} (h : (natsD ns ++ [D.int 0])[i]? = some x) : i ≤ ns.length ∧ x = .int ((ns.getD i 0 : Nat) : Int) := by
  unfold natsD at h
  by_cases c : i < ns.length
  · rw [List.getElem?_append_left (by rw [List.length_map]; exact c), List.getElem?_map, List.getElem?_eq_getElem c] at h
    cases h
    exact ⟨by omega, by rw [List.getD_eq_getElem?_getD, List.getElem?_eq_getElem c]; rfl⟩
  · rw [List.getElem?_append_right (by rw [List.length_map]; omega), List.length_map] at h
    have : i - ns.length = 0 := by
      by_cases q : i - ns.length = 0
      · exact q
      · rw [List.getElem?_eq_none (by simp; omega)] at h; cases h
    rw [this] at h
    cases h
    exact ⟨by omega, by rw [List.getD_eq_getElem?_getD, List.getElem?_eq_none (by omega)]; rfl⟩
theorem runs_len (p : Nat → Bool) : ∀ k, (colRuns p k).1.length ≤ k
  | 0 => Nat.le_refl _
  | k + 1 => by
    have ih := runs_len p k
    unfold colRuns
    split
    · exact Nat.le_succ_of_le ih
    · split
      · exact Nat.le_succ_of_le ih
      · show (_ ++ [_]).length ≤ _
        rw [List.length_append]
        exact Nat.succ_le_succ ih
theorem blksF_snoc (ns : List Nat) (i : Nat) : blksF ns (i + 1) = blksF ns i ++ colBlks ns i := by
  unfold blksF
  rw [List.range_succ, List.flatMap_append]
  simp
theorem blksF_len (ns : List Nat) : ∀ i, (blksF ns i).length ≤ i * (ns.length + 1)
  | 0 => Nat.zero_le _
  | i + 1 => by
    have ih := blksF_len ns i
    have l2 : (colBlks ns i).length ≤ ns.length + 1 := by unfold colBlks; rw [List.length_map]; exact runs_len _ _
    rw [blksF_snoc, List.length_append, Nat.add_mul, Nat.one_mul]
    omega
def cutOf (o : Option Nat) : D := match o with
  | none => .non
  | some f => .int (f : Int)
theorem low_blks (n : Nat) (bs : List Blk) : (blksD bs).low n = true := by
  unfold blksD
  rw [D.low]
  exact lowA_map _ _ (fun b => by unfold blkD; simp [D.low, lowA]) bs
theorem p_blocks_of_column : Rets sp_blocks_of_column T_blocks_of_column N_blocks_of_column := by
  rintro _ S Φ Ψ ⟨ns, c, rfl, hl, h⟩
  unfold T_blocks_of_column
  walk_at "dl"
  have ln : (natsD ns).length = ns.length := by unfold natsD; rw [List.length_map]
  have ll : (natsD ns ++ [D.int 0]).length = ns.length + 1 := by rw [List.length_append, ln]; rfl
  refine ⟨small, _, rfl, small (by rw [ll]; omega), ?_⟩
  refine for_l (ds := enumD (natsD ns ++ [D.int 0])) (fun i Γ S' => ∃ o1 o2, Γ = [some (.lst (natsD ns)), some (.int c), some (.own S.length), some (cutOf (colRuns (hasT ns c) i).2), o1, o2] ∧ S' = S ++ [.lst ((colRuns (hasT ns c) i).1.map fun b => blkD (c, b.1, b.2))]) ⟨_, _, rfl, rfl⟩ (fun i Γ' S' hi hp => ?_) fun Γ' S' hp => ?_
  · obtain ⟨o1, o2, rfl, rfl⟩ := hp
    obtain ⟨x, hx, ex⟩ := enumD_get (List.getElem?_eq_getElem hi)
    obtain ⟨hi2, rfl⟩ := natsD_get hx
    rw [ex]
    have hR := runs_len (hasT ns c) i
    have hS : ∀ q, colRuns q (i + 1) = if q i then ((colRuns q i).1, some ((colRuns q i).2.getD i)) else match (colRuns q i).2 with
      | none => ((colRuns q i).1, none)
      | some f => ((colRuns q i).1 ++ [(f, i - 1)], none) := fun _ => rfl
    have hO : ∀ f, (colRuns (hasT ns c) i).2 = some f → f < i := fun f e => ((runs_ok (hasT ns c) i).opn f e).1
    rw [hS]
    generalize (colRuns (hasT ns c) i).1 = bs at hR ⊢
    generalize (colRuns (hasT ns c) i).2 = o at hO ⊢
    walk_at "dl"
    rw [sJ_e]
    walk_at "dl"
    have hq : hasT ns c i = decide (c < ns.getD i 0) := rfl
    rw [hq]
    by_cases hp : c < ns.getD i 0
    · rw [if_pos (by rw [decide_eq_true_eq]; omega), if_pos (by rw [decide_eq_true_eq]; omega)]
      cases o with
      | none =>
        rw [show dIsN (cutOf none) D.non = fun S Φ => Φ S (.bl true) from rfl]
        walk_at "dl"
        rw [sJ_e]
        walk_at "dl"
        rw [if_neg (by rw [decide_eq_true_eq]; omega)]
        exact ⟨_, _, rfl⟩
      | some f =>
        rw [show dIsN (cutOf (some f)) D.non = fun S Φ => Φ S (.bl false) from rfl]
        walk_at "dl"
        rw [sJ_e]
        walk_at "dl"
        rw [if_neg (by rw [decide_eq_true_eq]; omega)]
        exact ⟨_, _, rfl⟩
    · rw [if_neg (by rw [decide_eq_true_eq]; omega), if_neg (by rw [decide_eq_true_eq]; omega)]
      walk_at "dl"
      rw [sJ_e]
      walk_at "dl"
      rw [if_pos (by rw [decide_eq_true_eq]; omega)]
      cases o with
      | none =>
        rw [show dNotN (cutOf none) D.non = fun S Φ => Φ S (.bl false) from rfl]
        walk_at "dl"
        exact ⟨_, _, rfl⟩
      | some f =>
        have := hO f rfl
        rw [show dNotN (cutOf (some f)) D.non = fun S Φ => Φ S (.bl true) from rfl]
        walk_at "dl"
        refine ⟨isLst_at get_at, small, _, get_at, under (by rw [List.length_map]; omega), _, _, rfl, ?_⟩
        rw [set_at, List.map_append]
        show _ = S ++ [Cell.lst (_ ++ [D.tup [.int c, .int f, .int ((i - 1 : Nat) : Int)]])]
        rw [show ((i - 1 : Nat) : Int) = (i : Int) - 1 by omega]
        rfl
  · obtain ⟨o1, o2, rfl, rfl⟩ := hp
    walk_at "dl"
    refine ⟨_, get_at, ?_⟩
    rw [set_at, enumD_len, ll]
    have lw := low_blks S.length (colBlks ns c)
    unfold colBlks blksD at h lw
    rw [List.map_map] at h lw
    exact ret_cut lw h
theorem p_blocks_by_tabs : Rets sp_blocks_by_tabs T_blocks_by_tabs N_blocks_by_tabs := by
  rintro _ S Φ Ψ ⟨ns, rfl, hl, h⟩
  unfold T_blocks_by_tabs
  walk_at "dl"
  refine ⟨small, by decide, by decide, ?_⟩
  refine for_r0 (fun i Γ S' => ∃ o, Γ = [some (.lst (natsD ns)), some (.own S.length), o] ∧ S' = S ++ [.lst ((blksF ns i).map blkD)]) ⟨_, rfl, rfl⟩ (fun i Γ' S' hi hp => ?_) fun Γ' S' hp => ?_
  · obtain ⟨o, rfl, rfl⟩ := hp
    walk_at "dl"
    refine ⟨isLst_at get_at, ns, i, rfl, hl, ?_⟩
    have l1 := blksF_len ns i
    have l2 : (colBlks ns i).length ≤ ns.length + 1 := by unfold colBlks; rw [List.length_map]; exact runs_len _ _
    have hi2 : i < 11 := hi
    have l3 : i * (ns.length + 1) ≤ 11 * 61 := Nat.mul_le_mul (by omega) (by omega)
    refine ⟨_, _, get_at, rfl, small (by rw [List.length_map, List.length_map]; omega), _, rfl, ?_⟩
    rw [set_at, blksF_snoc, List.map_append]
  · obtain ⟨o, rfl, rfl⟩ := hp
    walk_at "dl"
    refine ⟨_, get_at, ?_⟩
    rw [set_at]
    exact ret_cut (low_blks _ _) h
theorem p_blocks_in : Rets sp_blocks_in T_blocks_in N_blocks_in := by
  rintro _ S Φ Ψ ⟨d, t, rfl, tb, ok, h⟩
  unfold T_blocks_in
  walk_at "dl"
  exact ⟨d, t, rfl, tb, ok, _, rfl, by rw [tabsF_len]; exact ok.hi, ret_now h⟩
theorem cut_mid {α : Type} {xs : List α} {i j : Nat} (h : i ≤ j) (h2 : j ≤ xs.length) : cutD xs (some (i : Int)) (some (j : Int)) = (xs.drop i).take (j - i) := by
  unfold cutD
  rw [HT.sIx_nat, HT.sIx_nat, Nat.min_eq_left h2, Nat.min_eq_left (by omega)]
theorem p_greatest_in : Rets sp_greatest_in T_greatest_in N_greatest_in := by
  rintro _ S Φ Ψ ⟨d, t, b, rfl, ⟨ds, e, rs⟩, ok, bk, h⟩
  obtain ⟨c, f, l⟩ := b
  unfold T_greatest_in
  walk_at "dl"
  refine ⟨_, rfl, rfl, _, _, rfl, _, _, rfl, _, _, rfl, rfl, ?_⟩
  walk_at "dl"
  rw [dSlL_L e]
  walk_at "dl"
  have h3 := rs.len
  have h4 := ok.hi
  have hf : f ≤ l := bk.le
  have hl : l < t.length := bk.lt
  rw [show ((l : Int) + 1) = ((l + 1 : Nat) : Int) by omega, cut_mid (by omega) (by omega)]
  have dl : ((ds.drop f).take (l + 1 - f)).length = l + 1 - f := by rw [List.length_take, List.length_drop]; omega
  have row : ∀ k, k < l + 1 - f → ∃ h : f + k < t.length, ∃ h2 : c < (t[f + k]).length, (colOf t c)[f + k]? = some (some (t[f + k])[c]) ∧ (t.getD (f + k) []).getD c 0 = (t[f + k])[c] := fun k hk => by
    have ht : f + k < t.length := by omega
    obtain ⟨v, e1, e2⟩ := colOf_some (bk.at_ (f + k) (by show f ≤ _; omega) (by show _ ≤ l; omega))
    rw [tab_at ht] at e2 ⊢
    obtain ⟨q1, q2⟩ := List.getElem?_eq_some_iff.mp e2
    exact ⟨ht, q1, by rw [q2]; exact e1, by rw [List.getD_eq_getElem?_getD, List.getElem?_eq_getElem q1]; rfl⟩
  refine lc_s (ds := (ds.drop f).take (l + 1 - f)) (fun i acc S' => S' = S ∧ acc = ((List.range i).map fun k => (t.getD (f + k) []).getD c 0).map D.int) (small (by omega)) ⟨rfl, rfl⟩ (fun i acc S' hp => rfl) (fun i acc S' hi hp => ?_) fun acc S' hp => ?_
  · obtain ⟨rfl, rfl⟩ := hp
    rw [dl] at hi
    obtain ⟨q0, q1, q2, q3⟩ := row i hi
    have ed : asL S' ((ds.drop f).take (l + 1 - f))[i] = some ((t[f + i]).map D.int) := by
      rw [List.getElem_take, List.getElem_drop]
      exact rs.get q0 (by omega)
    walk_at "dl"
    rw [dIx_L ed]
    refine ⟨.int (t[f + i])[c], by rw [at_nat, List.getElem?_map, List.getElem?_eq_getElem q1]; rfl, rfl, ?_⟩
    rw [List.range_succ, List.map_append, List.map_append, List.map_cons, List.map_nil, q3]
    rfl
  · obtain ⟨rfl, rfl⟩ := hp
    walk_at "dl"
    rw [dl]
    refine ⟨_, rfl, by rw [List.length_map, List.length_range]; omega, fun m hm hle => ret_now (h m ?_ fun i v h5 h6 h7 => ?_)⟩
    · obtain ⟨k, hk, rfl⟩ := List.mem_map.mp hm
      obtain ⟨q0, q1, q2, q3⟩ := row k (List.mem_range.mp hk)
      have := List.mem_range.mp hk
      exact ⟨f + k, by show f ≤ _; omega, by show _ ≤ l; omega, by rw [q3]; exact q2⟩
    · have h5 : f ≤ i := h5
      have h6 : i ≤ l := h6
      obtain ⟨q0, q1, q2, q3⟩ := row (i - f) (by omega)
      have e5 : f + (i - f) = i := by omega
      simp only [e5] at q0 q1 q2 q3
      have h7 : (colOf t c)[i]? = some (some v) := h7
      rw [q2] at h7
      have : v = (t[i])[c] := (Option.some.inj (Option.some.inj h7)).symm
      rw [this, ← q3]
      refine hle _ (List.mem_map.mpr ⟨i - f, List.mem_range.mpr (by omega), by rw [e5]⟩)
theorem p_room_of (C : Addr) : Rets (sp_room_of C) (T_room_of C) N_room_of := by
  rintro _ S Φ Ψ ⟨d, s, t, b, ks, g, l, rfl, tb, ok, bk, es, h⟩
  unfold T_room_of
  walk_at "dl"
  refine ⟨_, es, s, ks, g, l, rfl, es, d, t, b, rfl, tb, ok, bk, fun m h1 h2 => ?_⟩
  show RetOk S Φ S (.int (if m > l then m else l))
  have r : IsRoom l (colOf t b.1) b.2.1 b.2.2 (if m > l then m else l) := by
    by_cases q : m > l
    · rw [if_pos q]
      exact ⟨by omega, h2, .inr h1⟩
    · rw [if_neg q]
      exact ⟨Int.le_refl _, fun i v a b' e => Int.le_trans (h2 i v a b' e) (by omega), .inl rfl⟩
  rw [r.eq (bk.room l (Nat.le_refl _) bk.le)]
  exact ret_now h
theorem range_set {α : Type} (F : Nat → α) (n j : Nat) (v : α) : ((List.range n).map F).set j v = (List.range n).map fun i => if i = j then v else F i := by
  apply List.ext_getElem
  · rw [List.length_set, List.length_map, List.length_map]
  · intro i h1 h2
    rw [List.getElem_set, List.getElem_map, List.getElem_map, List.getElem_range]
    by_cases q : j = i
    · rw [if_pos q, if_pos q.symm]
    · rw [if_neg q, if_neg (fun e => q e.symm)]
theorem cellsD_len (t : List (List Int)) : (cellsD t).length = t.length := by simp [cellsD]
theorem cellsF_get {S : Sto} {F : Nat → List Int} {n j : Nat} (X : Sto) (h : j < n) : (S ++ cellsD ((List.range n).map F) ++ X)[S.length + j]? = some (.lst ((F j).map D.int)) := by
  rw [List.append_assoc, List.getElem?_append_right (Nat.le_add_right _ _), Nat.add_sub_cancel_left]
  refine get_app ?_
  unfold cellsD
  rw [List.getElem?_map, List.getElem?_map, List.getElem?_range h]
  rfl
theorem cellsF_set {S : Sto} {F : Nat → List Int} {n j : Nat} (X : Sto) (h : j < n) (r : List Int) : (S ++ cellsD ((List.range n).map F) ++ X).set (S.length + j) (.lst (r.map D.int)) = S ++ cellsD ((List.range n).map fun i => if i = j then r else F i) ++ X := by
  rw [List.append_assoc, List.set_append_right _ _ (Nat.le_add_right _ _), Nat.add_sub_cancel_left, set_app (by rw [cellsD_len, List.length_map, List.length_range]; exact h), ← List.append_assoc]
  congr 2
  rw [← range_set]
  unfold cellsD
  rw [List.map_set]
theorem p_rooms_in (C : Addr) : Rets (sp_rooms_in C) (T_rooms_in C) N_rooms_in := by
  rintro _ S Φ Ψ ⟨d, s, t, ks, g, l, rfl, ⟨ds, e, rs⟩, ok, es, h⟩
  have tb : TabS S d t := ⟨ds, e, rs⟩
  unfold T_rooms_in
  walk_at "dl"
  have h3 := rs.len
  have h4 := ok.hi
  refine ⟨⟨_, asQ_L e⟩, lc_s (ds := ds) (fun i acc S' => S' = S ++ cellsD ((List.range i).map fun _ => []) ∧ acc = ownsD S.length i) (small (by omega)) ⟨by simp [cellsD], rfl⟩ (fun i acc S' hp => by rw [hp.1]; exact asQ_L (asL_app e)) (fun i acc S' hi hp => ?_) fun acc S' hp => ?_⟩
  · obtain ⟨rfl, rfl⟩ := hp
    walk_at "dl"
    refine ⟨small, ?_, ?_⟩
    · rw [List.append_assoc]
      unfold cellsD
      rw [List.range_succ, List.map_append, List.map_append]
      rfl
    · unfold ownsD
      rw [List.length_append, cellsD_len, List.length_map, List.length_range, List.range_succ, List.map_append]
      rfl
  obtain ⟨rfl, rfl⟩ := hp
  walk_at "dl"
  have eL : (S ++ cellsD ((List.range ds.length).map fun _ => [])).length = S.length + t.length := by rw [List.length_append, cellsD_len, List.length_map, List.length_range, h3]
  refine ⟨d, t, rfl, by rw [List.append_assoc]; exact tb.app, ok, ⟨_, rfl⟩, ?_⟩
  rw [eL, h3]
  have lb := blksF_len (tabsF t) 11
  rw [tabsF_len] at lb
  have lb2 : 11 * (t.length + 1) ≤ 11 * 61 := Nat.mul_le_mul (by omega) (by omega)
  refine for_l (ds := (blksF (tabsF t) 11).map blkD) (fun i Γ S' => ∃ o1 o2 o3, Γ = [some d, some s, some (.own (S.length + t.length)), o1, o2, o3, none] ∧ S' = S ++ cellsD ((List.range t.length).map fun j => (((blksF (tabsF t) 11).take i).filter (hasB j)).map (roomB l t)) ++ [.lst (ownsD S.length t.length)]) ⟨_, _, _, rfl, rfl⟩ (fun i Γ' S' hi hp => ?_) fun Γ' S' hp => ?_
  · obtain ⟨o1, o2, o3, rfl, rfl⟩ := hp
    rw [List.length_map] at hi
    have bk := (blksF_ok (List.getElem_mem hi)).1
    rw [List.getElem_map]
    have hb : ∀ j, (((blksF (tabsF t) 11).take (i + 1)).filter (hasB j)).map (roomB l t) = (((blksF (tabsF t) 11).take i).filter (hasB j)).map (roomB l t) ++ (if hasB j (blksF (tabsF t) 11)[i] = true then [roomB l t (blksF (tabsF t) 11)[i]] else []) := fun j => by
      rw [List.take_add_one, List.getElem?_eq_getElem hi, List.filter_append, List.map_append]
      congr 1
      show (List.filter (hasB j) [(blksF (tabsF t) 11)[i]]).map _ = _
      by_cases q : hasB j (blksF (tabsF t) 11)[i] = true
      · rw [List.filter_cons_of_pos q, if_pos q]; rfl
      · rw [List.filter_cons_of_neg q, if_neg q]; rfl
    have hl : ∀ j, ((((blksF (tabsF t) 11).take i).filter (hasB j)).map (roomB l t)).length ≤ 671 := fun j => by
      rw [List.length_map]
      refine Nat.le_trans (List.length_filter_le _ _) ?_
      rw [List.length_take]
      omega
    obtain ⟨B0, hB0⟩ : ∃ B0 : Nat → List Int, B0 = fun j => (((blksF (tabsF t) 11).take i).filter (hasB j)).map (roomB l t) := ⟨_, rfl⟩
    have hB : ∀ j, (((blksF (tabsF t) 11).take i).filter (hasB j)).map (roomB l t) = B0 j := fun j => by rw [hB0]
    simp only [hb, hB]
    simp only [hB] at hl
    clear hB0 hB hb
    generalize (blksF (tabsF t) 11)[i] = b at bk ⊢
    obtain ⟨c, f, m⟩ := b
    have hf : f ≤ m := bk.le
    have hm : m < t.length := bk.lt
    walk_at "dl"
    refine ⟨d, s, t, (c, f, m), ks, g, l, rfl, by rw [List.append_assoc]; exact tb.app, ok, bk, by rw [List.append_assoc]; exact asI_app es, ?_⟩
    generalize roomB l t (c, f, m) = r
    unfold blkD
    walk_at "dl"
    have p62 : (100 : Int) < 2 ^ 62 := by decide
    refine ⟨⟨by omega, by omega, by omega, by omega⟩, ?_⟩
    rw [show ((m : Int) + 1 - (f : Int)).toNat = m + 1 - f by omega]
    refine for_r (fun k Γ S' => ∃ o3, Γ = [some d, some s, some (.own (S.length + t.length)), some (.tup [.int c, .int f, .int m]), some (.int r), o3, none] ∧ S' = S ++ cellsD ((List.range t.length).map fun j => B0 j ++ if f ≤ j ∧ j < f + k then [r] else []) ++ [.lst (ownsD S.length t.length)]) ⟨_, rfl, ?_⟩ (fun k Γ' S' hk hp => ?_) fun Γ' S' hp => ?_
    · congr 2
      congr 1
      apply List.map_congr_left
      intro j _
      rw [if_neg (by omega), List.append_nil]
    · obtain ⟨o3, rfl, rfl⟩ := hp
      walk_at "dl"
      have hfk : f + k < t.length := by omega
      have eO : (S ++ cellsD ((List.range t.length).map fun j => B0 j ++ if f ≤ j ∧ j < f + k then [r] else []) ++ [Cell.lst (ownsD S.length t.length)])[S.length + t.length]? = some (.lst (ownsD S.length t.length)) := by
        have : S.length + t.length = (S ++ cellsD ((List.range t.length).map fun j => B0 j ++ if f ≤ j ∧ j < f + k then [r] else [])).length := by rw [List.length_append, cellsD_len, List.length_map, List.length_range]
        rw [this]
        exact get_at
      have eC := cellsF_get (S := S) (F := fun j => B0 j ++ if f ≤ j ∧ j < f + k then [r] else []) [Cell.lst (ownsD S.length t.length)] hfk
      refine ⟨_, eO, _, by rw [show ((f : Int) + (k : Int)) = ((f + k : Nat) : Int) by omega, at_nat, owns_at hfk], isLst_at eC, _, eC, under (by rw [List.length_map, List.length_append]; have := hl (f + k); split <;> simp <;> omega), _, rfl, ?_⟩
      have eS := cellsF_set (S := S) (F := fun j => B0 j ++ if f ≤ j ∧ j < f + k then [r] else []) [Cell.lst (ownsD S.length t.length)] hfk (B0 (f + k) ++ [r])
      rw [if_neg (by omega), List.append_nil, show (B0 (f + k)).map D.int ++ [D.int r] = (B0 (f + k) ++ [r]).map D.int by rw [List.map_append]; rfl, eS]
      congr 2
      congr 1
      apply List.map_congr_left
      intro j _
      by_cases q : j = f + k
      · rw [if_pos q, q, if_pos (by omega)]
      · rw [if_neg q]
        by_cases q2 : f ≤ j ∧ j < f + k
        · rw [if_pos q2, if_pos (by omega)]
        · rw [if_neg q2, if_neg (by omega)]
    · obtain ⟨o3, rfl, rfl⟩ := hp
      refine ⟨_, _, _, rfl, ?_⟩
      congr 2
      congr 1
      apply List.map_congr_left
      intro j _
      unfold hasB hasL
      by_cases q : f ≤ j ∧ j ≤ m
      · rw [if_pos (by omega), if_pos (by simp; omega)]
      · rw [if_neg (by omega), if_neg (by simp; omega)]
  · obtain ⟨o1, o2, o3, rfl, rfl⟩ := hp
    walk_at "dl"
    refine ret_now ?_
    rw [List.length_map, List.take_length]
    have er : ((List.range t.length).map fun j => ((blksF (tabsF t) 11).filter (hasB j)).map (roomB l t)) = roomsT l t := by
      unfold roomsT
      apply List.map_congr_left
      intro j hj
      have hj := List.mem_range.mp hj
      refine blks_rooms l hj ?_
      unfold tabAt
      rw [tab_at hj]
      have := (ok.row _ (List.getElem_mem hj)).hi
      omega
    have el : (roomsT l t).length = t.length := by unfold roomsT; rw [List.length_map, List.length_range]
    rw [er]
    unfold newTab at h
    rw [el] at h
    exact h
theorem rooms_get {l : Int} {t : List (List Int)} {i : Nat} (h : i < (roomsT l t).length) : (roomsT l t)[i] = roomsOf l t i := by simp [roomsT]
theorem stops_get {g l : Int} {t : List (List Int)} {i : Nat} (h : i < (stopsF g l t).length) : (stopsF g l t)[i] = rowStops g l t i := by simp [stopsF]
theorem zipD_at {xs ys : List D} {i : Nat} (h : i < xs.length) (h2 : i < ys.length) : (zipD xs ys)[i]'(by unfold zipD; rw [List.length_map, List.length_zip]; omega) = .tup [xs[i], ys[i]] := by simp [zipD]
def endS (g : Int) : Int → List Int → Int
  | s, [] => s
  | s, x :: xs => endS g (s + (x + g)) xs
theorem endS_snoc (g x : Int) : ∀ (xs : List Int) (s : Int), endS g s (xs ++ [x]) = endS g s xs + (x + g)
  | [], _ => rfl
  | y :: xs, s => endS_snoc g x xs (s + (y + g))
theorem stops_snoc (g x : Int) : ∀ (xs : List Int) (s : Int), stopsFrom g s (xs ++ [x]) = stopsFrom g s xs ++ [endS g s xs + (x + g)]
  | [], _ => rfl
  | y :: xs, s => by
    show _ :: stopsFrom g (s + (y + g)) (xs ++ [x]) = _ :: stopsFrom g (s + (y + g)) xs ++ _
    rw [stops_snoc g x xs]
    rfl
theorem p_stops_in (C : Addr) : Rets (sp_stops_in C) (T_stops_in C) N_stops_in := by
  rintro _ S Φ Ψ ⟨d, s, t, ks, g, l, rfl, tb, ok, es, h⟩
  unfold T_stops_in
  walk_at "dl"
  refine ⟨small, d, s, t, ks, g, l, rfl, tb.app, ok, asI_app es, fz_new fun Z => ?_⟩
  refine ⟨⟨_, rfl⟩, ?_⟩
  have lr : (roomsT l t).length = t.length := by unfold roomsT; rw [List.length_map, List.length_range]
  have lr' : (stopsF g l t).length = t.length := by unfold stopsF; rw [List.length_map, List.length_range]
  refine for_l (ds := (roomsT l t).map rowD) (fun i Γ S' => ∃ o1 o2 o3 o4 Y, Γ = [some d, some s, some (.own S.length), o1, o2, o3, o4] ∧ S' = S ++ (.lst (((stopsF g l t).take i).map rowD) :: Y)) ⟨_, _, _, _, Z, rfl, by rw [List.append_assoc]; rfl⟩ (fun i Γ' S' hi hp => ?_) fun Γ' S' hp => ?_
  · obtain ⟨o1, o2, o3, o4, Y, rfl, rfl⟩ := hp
    rw [List.length_map] at hi
    rw [List.getElem_map]
    walk_at "dl"
    refine ⟨small, ?_⟩
    have hi2 : i < t.length := by omega
    have er : (roomsT l t)[i] = roomsOf l t i := rooms_get _
    rw [er]
    obtain ⟨W, hW⟩ : ∃ W, W = S ++ Cell.lst (((stopsF g l t).take i).map rowD) :: Y := ⟨_, rfl⟩
    rw [← hW]
    have lro : (roomsOf l t i).length ≤ 12 := by
      unfold roomsOf
      rw [List.length_map, List.length_range, tab_at hi2]
      have := (ok.row _ (List.getElem_mem hi2)).hi
      omega
    refine for_l (ds := (roomsOf l t i).map D.int) (fun k Γ S' => ∃ o4, Γ = [some d, some s, some (.own S.length), some (.lst ((roomsOf l t i).map D.int)), some (.int (endS g 0 ((roomsOf l t i).take k))), some (.own W.length), o4] ∧ S' = W ++ [.lst ((stopsFrom g 0 ((roomsOf l t i).take k)).map D.int)]) ⟨_, rfl, rfl⟩ (fun k Γ' S' hk hp => ?_) fun Γ' S' hp => ?_
    · obtain ⟨o4, rfl, rfl⟩ := hp
      rw [List.length_map] at hk
      rw [List.getElem_map]
      walk_at "dl"
      have es2 : asI (W ++ [.lst ((stopsFrom g 0 ((roomsOf l t i).take k)).map D.int)]) s = some (C, styF ks g l) := by rw [hW]; exact asI_app (asI_app es)
      refine ⟨_, es2, s, ks, g, l, rfl, es2, ?_⟩
      walk_at "dl"
      have ek : (roomsOf l t i).take (k + 1) = (roomsOf l t i).take k ++ [(roomsOf l t i)[k]] := by rw [List.take_add_one, List.getElem?_eq_getElem hk]; rfl
      refine ⟨isLst_at get_at, _, get_at, under (by rw [List.length_map, stopsFrom_len, List.length_take]; omega), ?_⟩
      rw [set_at, ek, endS_snoc, stops_snoc, List.map_append]
      exact ⟨_, rfl, rfl⟩
    · obtain ⟨o4, rfl, rfl⟩ := hp
      walk_at "dl"
      rw [List.length_map, List.take_length]
      have eO : W[S.length]? = some (Cell.lst (((stopsF g l t).take i).map rowD)) := by rw [hW]; exact get_at
      refine ⟨isLst_at (get_app eO), _, get_at, ?_⟩
      rw [set_at]
      refine ⟨_, get_app eO, under (by rw [List.length_map, List.length_take]; have := ok.hi; omega), _, _, _, _, Y ++ [.gone], rfl, ?_⟩
      rw [hW, List.append_assoc, show ∀ c, (S ++ ((Cell.lst (((stopsF g l t).take i).map rowD) :: Y) ++ [Cell.gone])).set S.length c = S ++ c :: (Y ++ [.gone]) from fun c => by rw [List.cons_append, set_at]]
      have e2 : (stopsF g l t).take (i + 1) = (stopsF g l t).take i ++ [stopsFrom g 0 (roomsOf l t i)] := by
        rw [List.take_add_one]
        congr 1
        unfold stopsF
        rw [List.getElem?_map, List.getElem?_range hi2]
        rfl
      rw [e2, List.map_append]
      rfl
  · obtain ⟨o1, o2, o3, o4, Y, rfl, rfl⟩ := hp
    walk_at "dl"
    refine ⟨_, get_at, ?_⟩
    rw [List.length_map, lr, ← lr', List.take_length, set_at]
    exact ret_cut (by rw [D.low]; exact lowA_map _ _ (fun r => by rw [D.low]; exact lowA_ints _ _) _) h
theorem at_neg1 {α : Type} {xs : List α} (h : 1 ≤ xs.length) : atI xs (-1) = xs[xs.length - 1]? := by
  unfold atI ixN
  rw [if_neg (by decide), if_pos (by omega)]
  show xs[(-1 + (xs.length : Int)).toNat]? = _
  congr 1
  omega
theorem last_map {r : List Int} (h : 1 ≤ r.length) : (r.map D.int)[(r.map D.int).length - 1]? = some (.int (r.getLastD 0)) := by
  rw [List.length_map, List.getElem?_map, ← List.getLast?_eq_getElem?, List.getLastD_eq_getLast?]
  cases q : r.getLast? with
  | none => rw [List.getLast?_eq_none_iff] at q; subst q; simp at h
  | some x => rfl
theorem TabOk.cells {t : List (List Int)} (ok : TabOk t) : CellsIn t GREAT := fun r hr x hx => (ok.row r hr).at_ x hx
theorem p_ends_in (C : Addr) : Rets (sp_ends_in C) (T_ends_in C) N_ends_in := by
  rintro _ S Φ Ψ ⟨d, s, t, ks, g, l, rfl, ⟨ds, e, rs⟩, ok, es, lk, h⟩
  have tb : TabS S d t := ⟨ds, e, rs⟩
  have h3 := rs.len
  unfold T_ends_in
  walk_at "dl"
  refine ⟨small, d, s, t, ks, g, l, rfl, tb.app, ok, asI_app es, ⟨_, asQ_L (asL_app e)⟩, ⟨_, rfl⟩, ?_⟩
  have lr : (stopsF g l t).length = t.length := by unfold stopsF; rw [List.length_map, List.length_range]
  refine for_s (ds := zipD ds ((stopsF g l t).map rowD)) (fun i Γ S' => ∃ o1 o2 o3, Γ = [some d, some s, some (.own S.length), o1, o2, o3] ∧ S' = S ++ [.lst (((endsF g l t).take i).map D.int)]) ⟨_, _, _, rfl, rfl⟩ (fun i Γ' S' hp => ?_) (fun i Γ' S' hi hp => ?_) fun Γ' S' hp => ?_
  · obtain ⟨o1, o2, o3, rfl, rfl⟩ := hp
    rw [asQ_L (asL_app e)]
    rfl
  · obtain ⟨o1, o2, o3, rfl, rfl⟩ := hp
    have hz : (zipD ds ((stopsF g l t).map rowD)).length = t.length := by
      unfold zipD
      rw [List.length_map, List.length_zip, List.length_map]
      omega
    rw [hz] at hi
    have ez := zipD_at (xs := ds) (ys := (stopsF g l t).map rowD) (i := i) (by omega) (by rw [List.length_map]; omega)
    rw [List.getElem_map, stops_get] at ez
    rw [ez]
    have eR := rs.get hi (by omega)
    have rok := ok.row _ (List.getElem_mem hi)
    have bd := rowStops_in lk.g0 lk.g1 lk.l0 lk.l1 ok.cells (j := i) (by rw [tab_at hi]; exact rok.hi)
    walk_at "dl"
    refine joinD (fun S' d' => S' = S ++ [.lst (((endsF g l t).take i).map D.int)] ∧ d' = .int ((rowStops g l t i).getLastD 0)) (fun S' d' ⟨e1, e2⟩ => ?_) fun N hN => ?_
    · subst e1 e2
      refine ⟨isLst_at get_at, ?_⟩
      rw [dIx_L (asL_app eR)]
      refine ⟨.int ((t[i]).getLastD 0), ?_, ?_⟩
      · rw [at_neg1 (by rw [List.length_map]; exact rok.lo), last_map rok.lo]
      walk_at "dl"
      refine ⟨_, get_at, under (by rw [List.length_map, List.length_take]; have := ok.hi; omega), _, _, _, rfl, ?_⟩
      rw [set_at]
      have e2 : (endsF g l t).take (i + 1) = (endsF g l t).take i ++ [rowEnd g l t i] := by
        rw [List.take_add_one]
        congr 1
        unfold endsF
        rw [List.getElem?_map, List.getElem?_range hi]
        rfl
      rw [e2, List.map_append]
      unfold rowEnd
      rw [tab_at hi]
      rfl
    · walk_at "dl"
      have ln := rowStops_len (g := g) (l := l) (t := t) (j := i)
      rw [tab_at hi] at ln
      refine ⟨small, dNe_nil (pyr_row _) (fit_row (k := 33) (l := 12) (fun y hy => ?_) (by have := rok.hi; omega)) (by decide) ⟨_, rfl, ?_⟩⟩
      · have b := bd y hy
        have : 22 * GREAT < 10 ^ 33 := by decide
        omega
      · cases q : rowStops g l t i with
        | nil => exact hN _ _ ⟨rfl, by rw [q]; rfl⟩
        | cons a r =>
          rw [if_pos (by rfl)]
          refine ⟨_, by rw [at_neg1 (by simp), last_map (by simp)], hN _ _ ⟨rfl, by rw [q]⟩⟩
  · obtain ⟨o1, o2, o3, rfl, rfl⟩ := hp
    walk_at "dl"
    refine ⟨_, get_at, ?_⟩
    have hz : (zipD ds ((stopsF g l t).map rowD)).length = (endsF g l t).length := by
      unfold zipD endsF
      rw [List.length_map, List.length_zip, List.length_map, List.length_map, List.length_range]
      omega
    rw [hz, List.take_length, set_at]
    exact ret_cut (lowA_ints _ _) h
theorem p_width_in (C : Addr) : Rets (sp_width_in C) (T_width_in C) N_width_in := by
  rintro _ S Φ Ψ ⟨d, s, t, ks, g, l, rfl, tb, ok, es, lk, h⟩
  unfold T_width_in
  walk_at "dl"
  refine ⟨d, s, t, ks, g, l, rfl, tb, ok, es, lk, ?_⟩
  have ln : (endsF g l t).length = t.length := by unfold endsF; rw [List.length_map, List.length_range]
  exact ⟨_, rfl, by rw [ln]; exact ok.lo, fun m h1 h2 => ret_now (by rw [maxOf_eq h1 h2]; exact h)⟩
theorem p_stops (C : Addr) : Rets (sp_stops C) (T_stops C) N_stops := by
  rintro _ S Φ Ψ ⟨d, s, t, ks, g, l, rfl, tb, ok, es, h⟩
  unfold T_stops
  walk_at "dl"
  exact ⟨d, t, rfl, tb, ok, by walk_at "dl"; exact ⟨d, s, t, ks, g, l, rfl, tb, ok, es, ret_now h⟩⟩
theorem p_width_of (C : Addr) : Rets (sp_width_of C) (T_width_of C) N_width_of := by
  rintro _ S Φ Ψ ⟨d, s, t, ks, g, l, rfl, tb, ok, es, lk, h⟩
  unfold T_width_of
  walk_at "dl"
  exact ⟨d, t, rfl, tb, ok, by walk_at "dl"; exact ⟨d, s, t, ks, g, l, rfl, tb, ok, es, lk, ret_now h⟩⟩
--MB
--DROP p_edge_of
--MB
--DROP p_require_room
--DROP p_wide_stretches
--DROP p_stretches
--DROP p_partings
--DROP p_fewest_lines
--DROP p__law_look
--DROP p__law_groups
theorem greedy_le (g l : Int) (t : List (List Int)) (w : Int) : ∀ i, (greedyF g l t w i).2 ≤ i ∧ (greedyF g l t w i).1.length ≤ i
  | 0 => ⟨Nat.le_refl _, Nat.le_refl _⟩
  | i + 1 => by
    obtain ⟨a, b⟩ := greedy_le g l t w i
    unfold greedyF
    split
    · exact ⟨Nat.le_succ _, by rw [List.length_append]; exact Nat.succ_le_succ b⟩
    · exact ⟨by omega, by omega⟩
theorem lc_rg {Γ : Gam} {S : Sto} {Φ : KD} {G : TGd} {C : TB} {Te : TD} {vs : List Nat} {Fin : List D → Sto → KD → Prop} {lo : Int} {n : Nat} (P : Nat → List D → Sto → Prop) (hl : n ≤ sizeLine) (h0 : P 0 [] S) (hs : ∀ (i : Nat) acc S', i < n → P i acc S' → G (.int (lo + (i : Int))) (gwipe Γ vs) S' fun Γ2 S2 => C Γ2 S2 (fun S3 k => if k = true then Te Γ2 S3 (fun S4 y => P (i + 1) (acc ++ [y]) S4) (fun _ _ => False) else P (i + 1) acc S3) (fun _ _ => False))
    (hd : ∀ acc S', P n acc S' → Fin acc S' Φ) : lcP (fun _ => some (rngD lo n)) G C Te vs Fin Γ S Φ :=
  ⟨P, n, hl, h0, fun _ _ _ _ _ => ⟨_, rfl, rng_len _ _⟩, fun i acc S' es d hp e hd => by
    cases e
    obtain ⟨hi, rfl⟩ := rng_get hd
    exact hs i acc S' hi hp, hd⟩
theorem LinOk.cells {t : List (List Int)} (ok : LinOk t) : CellsIn t GREAT := fun r hr x hx => (ok.row r hr).at_ x hx
--MB
theorem runM_pre (l : Int) : ∀ (a b : List (Option Int)), runM l a ≤ runM l (a ++ b)
  | [], b => by
    show l ≤ runM l b
    induction b with
    | nil => exact Int.le_refl _
    | cons x b ih =>
      cases x with
      | none => exact Int.le_refl _
      | some v => show l ≤ max v (runM l b); omega
  | none :: _, _ => Int.le_refl _
  | some v :: a, b => by
    have := runM_pre l a b
    show max v (runM l a) ≤ max v (runM l (a ++ b))
    omega
theorem roomAt_mono (l : Int) (xs : List (Option Int)) {a k j : Nat} (hj : j < k) : roomAt l ((xs.drop a).take k) j ≤ roomAt l xs (a + j) := by
  unfold roomAt
  have h1 : runM l (((xs.drop a).take k).drop j) ≤ runM l (xs.drop (a + j)) := by
    rw [List.drop_take, List.drop_drop]
    have := runM_pre l ((xs.drop (a + j)).take (k - j)) ((xs.drop (a + j)).drop (k - j))
    rw [List.take_append_drop] at this
    exact this
  have h2 : runM l (((xs.drop a).take k).take j).reverse ≤ runM l (xs.take (a + j)).reverse := by
    rw [List.take_take, show min j k = j by omega, List.take_add, List.reverse_append]
    exact runM_pre l _ _
  omega
theorem sum_le : ∀ {xs ys : List Int}, xs.length = ys.length → (∀ i (h1 : i < xs.length) (h2 : i < ys.length), xs[i] ≤ ys[i]) → xs.sum ≤ ys.sum
  | [], [], _, _ => Int.le_refl _
  | [], _ :: _, h, _ => by simp at h
  | _ :: _, [], h, _ => by simp at h
  | x :: xs, y :: ys, h, q => by
    have a := q 0 (by simp) (by simp)
    have b := sum_le (xs := xs) (ys := ys) (by simpa using h) fun i h1 h2 => by
      have := q (i + 1) (by simpa using h1) (by simpa using h2)
      simpa using this
    have a : x ≤ y := a
    simp only [List.sum_cons]
    omega
theorem colOf_part (t : List (List Int)) (a k c : Nat) : colOf ((t.drop a).take k) c = ((colOf t c).drop a).take k := by
  unfold colOf
  rw [← List.map_drop, ← List.map_take]
theorem part_get {t : List (List Int)} {a k j : Nat} (hj : j < k) : ((t.drop a).take k).getD j [] = t.getD (a + j) [] := by
  rw [List.getD_eq_getElem?_getD, List.getD_eq_getElem?_getD, List.getElem?_take, if_pos hj, List.getElem?_drop]
theorem rowEnd_mono {g l : Int} {t : List (List Int)} {a k j : Nat} (hj : j < k) : rowEnd g l ((t.drop a).take k) j ≤ rowEnd g l t (a + j) := by
  rw [rowEnd_eq, rowEnd_eq, part_get hj]
  have : endS0 g (roomsOf l ((t.drop a).take k) j) ≤ endS0 g (roomsOf l t (a + j)) := by
    unfold endS0 roomsOf
    rw [part_get hj, List.map_map, List.map_map]
    refine sum_le (by simp) fun i h1 h2 => ?_
    rw [List.getElem_map, List.getElem_map, List.getElem_range]
    show roomAt l (colOf ((t.drop a).take k) i) j + g ≤ roomAt l (colOf t i) (a + j) + g
    have := roomAt_mono l (colOf t i) (a := a) hj
    rw [← colOf_part] at this
    omega
  omega
theorem maxP_le {xs : List Int} {w : Int} (h0 : 0 ≤ w) (h : ∀ y ∈ xs, y ≤ w) : maxP xs ≤ w := by
  unfold maxP
  cases xs with
  | nil => show max 0 0 ≤ w; omega
  | cons a b =>
    have := h _ (maxOf_mem (xs := a :: b) (by simp))
    omega
theorem le_maxP {xs : List Int} {y : Int} (h : y ∈ xs) : y ≤ maxP xs := by
  have := maxOf_le y h
  unfold maxP
  omega
theorem en_len {α : Type} (xs : List α) (f : α → D) : (enumD (xs.map f)).length = xs.length := by rw [enumD_len, List.length_map]
theorem en_get {α : Type} (xs : List α) (f : α → D) {i : Nat} (hi : i < xs.length) : (enumD (xs.map f))[i]'(by rw [en_len]; exact hi) = .tup [.int (i : Int), f xs[i]] := by
  unfold enumD
  simp [List.getD_eq_getElem?_getD, hi]
theorem for_e {α : Type} {G : TGd} {B : TSd} {E : EdD} {Γ : Gam} {S : Sto} (xs : List α) (f : α → D) (P : Nat → Gam → Sto → Prop) (h0 : P 0 Γ S) (hs : ∀ i Γ' S' (hi : i < xs.length), P i Γ' S' → G (.tup [.int (i : Int), f xs[i]]) Γ' S' fun Γ2 S2 => B { E with nx := P (i + 1), ct := P (i + 1), bk := E.nx } Γ2 S2) (hd : ∀ Γ' S', P xs.length Γ' S' → E.nx Γ' S') : forP (fun _ => Option.map enumD (some (xs.map f))) G B E Γ S := by
  show forP (fun _ => some (enumD (xs.map f))) G B E Γ S
  refine for_l P h0 (fun i Γ' S' hi hp => ?_) fun Γ' S' hp => hd Γ' S' (by rw [en_len] at hp; exact hp)
  rw [en_len] at hi
  rw [en_get xs f hi]
  exact hs i Γ' S' hi hp
theorem GapOk.look {g l : Int} (gk : GapOk g l) {k : Str} (h : k ∈ kindsL) : LookOk [k] g l := ⟨Nat.le_refl 1, by show 1 ≤ 12; decide, fun x hx => by rw [List.mem_singleton.mp hx]; exact h, gk.g0, gk.g1, gk.l0, gk.l1⟩
--MB
theorem greedy_ok {g l : Int} {t : List (List Int)} {w : Int} (hf : Fits g l t w) : ∀ i, i ≤ t.length → (∀ p ∈ (greedyF g l t w i).1, (p.1 < p.2 ∧ p.2 < t.length ∧ w < wideF g l t p.1 p.2) ∧ p.2 ≤ (greedyF g l t w i).2) ∧ (greedyF g l t w i).1.Pairwise fun p q => p.2 ≤ q.1
  | 0, _ => ⟨(fun p hp => nomatch hp), List.Pairwise.nil⟩
  | i + 1, hi => by
    obtain ⟨h1, h2⟩ := greedy_ok hf i (by omega)
    have gl := (greedy_le g l t w i).1
    have gs : greedyF g l t w (i + 1) = if wideF g l t (greedyF g l t w i).2 i > w then ((greedyF g l t w i).1 ++ [((greedyF g l t w i).2, i)], i) else greedyF g l t w i := rfl
    rw [gs]
    generalize greedyF g l t w i = G at h1 h2 gl ⊢
    by_cases c : wideF g l t G.2 i > w
    · rw [if_pos c]
      have lt : G.2 < i := by
        rcases Nat.lt_or_ge G.2 i with q | q
        · exact q
        · have e : G.2 = i := by omega
          rw [e] at c
          have := hf i (by omega)
          omega
      refine ⟨fun p hp => ?_, ?_⟩
      · rcases List.mem_append.mp hp with hp | hp
        · have := h1 p hp
          exact ⟨this.1, by show p.2 ≤ i; omega⟩
        · rw [List.mem_singleton.mp hp]
          exact ⟨⟨lt, by show i < _; omega, c⟩, Nat.le_refl _⟩
      · refine List.pairwise_append.mpr ⟨h2, List.pairwise_singleton _ _, fun a ha b hb => ?_⟩
        rw [List.mem_singleton.mp hb]
        exact (h1 a ha).2
    · rw [if_neg c]
      exact ⟨h1, h2⟩
theorem str_ok {g l : Int} {t : List (List Int)} {w : Int} (hf : Fits g l t w) : (strF g l t w).Pairwise (fun p q => p.2 ≤ q.1) ∧ ∀ p ∈ strF g l t w, p.1 < p.2 ∧ p.2 < t.length ∧ w < wideF g l t p.1 p.2 :=
  have h := greedy_ok hf t.length (Nat.le_refl _)
  ⟨h.2, fun p hp => (h.1 p hp).1⟩
theorem roomAt_rev (l : Int) {xs : List (Option Int)} {j : Nat} {v : Int} (h : xs[j]? = some (some v)) : roomAt l xs.reverse (xs.length - 1 - j) = roomAt l xs j := by
  obtain ⟨hj, e⟩ := List.getElem?_eq_some_iff.mp h
  unfold roomAt
  have e1 : xs.reverse.drop (xs.length - 1 - j) = some v :: (xs.take j).reverse := by
    rw [List.drop_reverse, show xs.length - (xs.length - 1 - j) = j + 1 by omega, List.take_add_one, h, List.reverse_append]
    rfl
  have e2 : (xs.reverse.take (xs.length - 1 - j)).reverse = xs.drop (j + 1) := by
    rw [List.take_reverse, List.reverse_reverse, show xs.length - (xs.length - 1 - j) = j + 1 by omega]
  have e3 : xs.drop j = some v :: xs.drop (j + 1) := by rw [List.drop_eq_getElem_cons hj, e]
  rw [e1, e2, e3]
  show max (max v (runM l _)) _ = max (max v (runM l _)) _
  omega
theorem col_rev (t : List (List Int)) (c : Nat) : colOf t.reverse c = (colOf t c).reverse := by unfold colOf; rw [List.map_reverse]
theorem row_rev {t : List (List Int)} {j : Nat} (h : j < t.length) : t.reverse.getD (t.length - 1 - j) [] = t.getD j [] := by
  rw [List.getD_eq_getElem?_getD, List.getD_eq_getElem?_getD, List.getElem?_reverse (by omega), show t.length - 1 - (t.length - 1 - j) = j by omega]
theorem rowEnd_rev {g l : Int} {t : List (List Int)} {j : Nat} (h : j < t.length) : rowEnd g l t.reverse (t.length - 1 - j) = rowEnd g l t j := by
  rw [rowEnd_eq, rowEnd_eq, row_rev h]
  congr 2
  unfold roomsOf
  rw [row_rev h]
  apply List.map_congr_left
  intro c hc
  obtain ⟨v, hv⟩ := col_at (t := t) (List.mem_range.mp hc)
  have := roomAt_rev l hv
  rw [colOf_len] at this
  rw [col_rev, this]
def OL (xs ys : List (Option Int)) : Prop := ∀ i : Nat, (xs[i]? = none ∧ ys[i]? = none) ∨ (xs[i]? = some none ∧ ys[i]? = some none) ∨ ∃ a b : Int, xs[i]? = some (some a) ∧ ys[i]? = some (some b) ∧ a ≤ b
theorem OL.len {xs ys : List (Option Int)} (h : OL xs ys) : xs.length = ys.length := by
  have a : ys.length ≤ xs.length := by
    rcases Nat.lt_or_ge xs.length ys.length with c | c
    · have e := List.getElem?_eq_getElem c
      have n : xs[xs.length]? = none := List.getElem?_eq_none (Nat.le_refl _)
      rcases h xs.length with ⟨_, q⟩ | ⟨q, _⟩ | ⟨_, _, q, _⟩
      · rw [e] at q; cases q
      · rw [n] at q; cases q
      · rw [n] at q; cases q
    · exact c
  have b : xs.length ≤ ys.length := by
    rcases Nat.lt_or_ge ys.length xs.length with c | c
    · have e := List.getElem?_eq_getElem c
      have n : ys[ys.length]? = none := List.getElem?_eq_none (Nat.le_refl _)
      rcases h ys.length with ⟨q, _⟩ | ⟨_, q⟩ | ⟨_, _, _, q, _⟩
      · rw [e] at q; cases q
      · rw [n] at q; cases q
      · rw [n] at q; cases q
    · exact c
  omega
/-- a table of the same shape with cells that are not wider -/
structure LeT (u t : List (List Int)) : Prop where
  len : u.length = t.length
  row : ∀ j, (u.getD j []).length = (t.getD j []).length
  at_ : ∀ j c, (u.getD j []).getD c 0 ≤ (t.getD j []).getD c 0
theorem LeT.sub {u t : List (List Int)} (h : LeT u t) (a k : Nat) : LeT ((u.drop a).take k) ((t.drop a).take k) := by
  have out : ∀ (x : List (List Int)) {j : Nat}, k ≤ j → ((x.drop a).take k).getD j [] = [] := fun x j hj => by
    rw [List.getD_eq_getElem?_getD, List.getElem?_eq_none (by rw [List.length_take]; omega)]; rfl
  refine ⟨by rw [List.length_take, List.length_take, List.length_drop, List.length_drop, h.len], fun j => ?_, fun j c => ?_⟩
  · rcases Nat.lt_or_ge j k with q | q
    · rw [part_get q, part_get q]; exact h.row _
    · rw [out u q, out t q]
  · rcases Nat.lt_or_ge j k with q | q
    · rw [part_get q, part_get q]; exact h.at_ _ _
    · rw [out u q, out t q]; exact Int.le_refl _
theorem col_get {t : List (List Int)} (c i : Nat) (h : i < t.length) : (colOf t c)[i]? = some (if c + 1 < (t.getD i []).length then (t.getD i [])[c]? else none) := by
  unfold colOf
  rw [List.getElem?_map, List.getElem?_eq_getElem h, tab_at h]
  rfl
theorem set_row {t : List (List Int)} {i c j : Nat} {v : Int} (h : i < t.length) : (setAt t i c v).getD j [] = if j = i then (t.getD i []).set c v else t.getD j [] := by
  unfold setAt
  rw [List.getD_eq_getElem?_getD]
  by_cases e : j = i
  · subst e
    rw [if_pos rfl, List.getElem?_set_self h]
    rfl
  · rw [if_neg e, List.getElem?_set_ne (fun z => e z.symm), List.getD_eq_getElem?_getD (l := t)]
theorem hasB_iff {k : Nat} {o : Blk} : hasB k o = true ↔ o.2.1 ≤ k ∧ k ≤ o.2.2 := by
  unfold hasB hasL
  rw [Bool.and_eq_true, decide_eq_true_eq, decide_eq_true_eq]
theorem blk_of {t : List (List Int)} {k d m : Nat} (hk : k < t.length) (h : d < tabAt t k) (hm : d < m) : ∃ o ∈ blksF (tabsF t) m, o.1 = d ∧ o.2.1 ≤ k ∧ k ≤ o.2.2 := by
  have hp : hasT (tabsF t) d k = true := by unfold hasT; rw [tabsF_at, decide_eq_true_eq]; exact h
  have hn : hasT (tabsF t) d (tabsF t).length = false := by
    unfold hasT
    rw [tabsF_at, decide_eq_false_iff_not]
    unfold tabAt
    rw [tabsF_len, List.getD_eq_getElem?_getD, List.getElem?_eq_none (Nat.le_refl _)]
    exact Nat.not_lt_zero _
  obtain ⟨b, hb⟩ := runs_one hn (by rw [tabsF_len]; exact hk) hp
  have hm2 : b ∈ (colRuns (hasT (tabsF t) d) ((tabsF t).length + 1)).1.filter (hasL k) := by rw [hb]; exact List.mem_singleton.mpr rfl
  obtain ⟨m1, m2⟩ := List.mem_filter.mp hm2
  refine ⟨(d, b.1, b.2), ?_, rfl, ?_⟩
  · unfold blksF
    exact List.mem_flatMap.mpr ⟨d, List.mem_range.mpr hm, List.mem_map.mpr ⟨b, m1, rfl⟩⟩
  · exact hasB_iff.mp (show hasB k (d, b.1, b.2) = true from m2)
theorem BlkOk.uniq {t : List (List Int)} {a b : Blk} (ha : BlkOk t a) (hb : BlkOk t b) (e : a.1 = b.1) {k : Nat} (a1 : a.2.1 ≤ k) (a2 : k ≤ a.2.2) (b1 : b.2.1 ≤ k) (b2 : k ≤ b.2.2) : a = b := by
  have no : ∀ {x : Bool}, x = true → x = false → False := fun h h' => by rw [h] at h'; cases h'
  have f : a.2.1 = b.2.1 := by
    rcases Nat.lt_trichotomy a.2.1 b.2.1 with h | h | h
    · rcases hb.pv with z | z
      · omega
      · exact (no (ha.at_ (b.2.1 - 1) (by omega) (by omega)) (by rw [e]; exact z)).elim
    · exact h
    · rcases ha.pv with z | z
      · omega
      · exact (no (hb.at_ (a.2.1 - 1) (by omega) (by omega)) (by rw [← e]; exact z)).elim
  have g : a.2.2 = b.2.2 := by
    rcases Nat.lt_trichotomy a.2.2 b.2.2 with h | h | h
    · exact (no (hb.at_ (a.2.2 + 1) (by omega) (by omega)) (by rw [← e]; exact ha.nx)).elim
    · exact h
    · exact (no (ha.at_ (b.2.2 + 1) (by omega) (by omega)) (by rw [e]; exact hb.nx)).elim
  exact Prod.ext e (Prod.ext f g)
theorem blockAt_one {t : List (List Int)} {i c : Nat} (hi : i < t.length) (hc : c < tabAt t i) (h11 : c < 11) : ∃ b, blockAt t i c = some b ∧ BlkOk t b ∧ b.1 = c ∧ b.2.1 ≤ i ∧ i ≤ b.2.2 := by
  obtain ⟨o, ho, e, h⟩ := blk_of hi hc h11
  cases q : blockAt t i c with
  | none =>
    unfold blockAt at q
    rw [List.find?_eq_none] at q
    exact absurd (by rw [Bool.and_eq_true, decide_eq_true_eq]; exact ⟨e, hasB_iff.mpr h⟩) (q o ho)
  | some b =>
    unfold blockAt at q
    have p := List.find?_some q
    have m := List.mem_of_find?_eq_some q
    rw [Bool.and_eq_true, decide_eq_true_eq] at p
    exact ⟨b, rfl, (blksF_ok m).1, p.1, hasB_iff.mp p.2⟩
theorem blockAt_tail {t : List (List Int)} {i c : Nat} (hc : tabAt t i ≤ c) : blockAt t i c = none := by
  unfold blockAt
  rw [List.find?_eq_none]
  intro o ho h
  rw [Bool.and_eq_true, decide_eq_true_eq] at h
  have k := (blksF_ok ho).1
  have h2 := hasB_iff.mp h.2
  have := has_tab (k.at_ i h2.1 h2.2)
  omega
theorem tabs_set {t : List (List Int)} {i c : Nat} {v : Int} (hi : i < t.length) : tabsF (setAt t i c v) = tabsF t := by
  unfold tabsF setAt
  rw [List.map_set, List.length_set]
  apply List.ext_getElem?
  intro j
  by_cases h : i = j
  · subst h
    rw [List.getElem?_set_self (by rw [List.length_map]; exact hi), List.getElem?_map, List.getElem?_eq_getElem hi, tab_at hi]
    rfl
  · rw [List.getElem?_set_ne h]
theorem tabAt_set {t : List (List Int)} {i c k : Nat} {v : Int} (hi : i < t.length) : tabAt (setAt t i c v) k = tabAt t k := by
  rw [← tabsF_at, ← tabsF_at, tabs_set hi]
theorem set_len (t : List (List Int)) (i c : Nat) (v : Int) : (setAt t i c v).length = t.length := by unfold setAt; rw [List.length_set]
theorem BlkOk.set {t : List (List Int)} {i c : Nat} {v : Int} (hi : i < t.length) {o : Blk} (h : BlkOk t o) : BlkOk (setAt t i c v) o :=
  ⟨h.le, by rw [set_len]; exact h.lt, by rw [tabs_set hi]; exact h.at_, by rw [tabs_set hi]; exact h.nx, by rw [tabs_set hi]; exact h.pv⟩
theorem col_set {t : List (List Int)} {i c d j : Nat} {v : Int} (hi : i < t.length) (h : d ≠ c ∨ j ≠ i) : (colOf (setAt t i c v) d)[j]? = (colOf t d)[j]? := by
  rcases Nat.lt_or_ge j t.length with q | q
  · rw [col_get d j (by rw [set_len]; exact q), col_get d j q, set_row hi]
    by_cases e : j = i
    · subst e
      have hd : d ≠ c := h.resolve_right fun z => z rfl
      rw [if_pos rfl, List.length_set, List.getElem?_set_ne (fun z => hd z.symm)]
    · rw [if_neg e]
  · rw [List.getElem?_eq_none (by rw [colOf_len, set_len]; exact q), List.getElem?_eq_none (by rw [colOf_len]; exact q)]
theorem IsRoom.same {least : Int} {xs ys : List (Option Int)} {f z : Nat} {m : Int} (h : IsRoom least xs f z m) (e : ∀ j, f ≤ j → j ≤ z → ys[j]? = xs[j]?) : IsRoom least ys f z m :=
  ⟨h.lo, fun i v a b q => h.up i v a b (by rw [← e i a b]; exact q), h.at_.imp id fun ⟨i, a, b, q⟩ => ⟨i, a, b, by rw [e i a b]; exact q⟩⟩
theorem room_keep {t : List (List Int)} {i c : Nat} {v : Int} (hi : i < t.length) {o : Blk} (h : BlkOk t o) (l : Int) (hk : o.1 ≠ c ∨ ¬ (o.2.1 ≤ i ∧ i ≤ o.2.2)) : roomB l (setAt t i c v) o = roomB l t o := by
  have a := (h.set (c := c) (v := v) hi).room l (Nat.le_refl _) h.le
  have b := (h.room l (Nat.le_refl _) h.le).same (ys := colOf (setAt t i c v) o.1) fun j h1 h2 => col_set hi (hk.imp id fun z e => z (e ▸ ⟨h1, h2⟩))
  exact a.eq b
theorem bF_set {t : List (List Int)} {i c : Nat} {v g l : Int} (hi : i < t.length) {b : Blk} (hb : BlkOk t b) (eb : b.1 = c) (b1 : b.2.1 ≤ i) (b2 : i ≤ b.2.2) {k : Nat} (hk : k < t.length) (h11 : tabAt t k ≤ 11) : ∀ d, bF g l (setAt t i c v) d k = bF g l t d k + if c < d ∧ b.2.1 ≤ k ∧ k ≤ b.2.2 then stepF l t i c v b else 0
  | 0 => by rw [if_neg (by omega)]; rfl
  | d + 1 => by
    have ih := bF_set (v := v) (g := g) (l := l) hi hb eb b1 b2 hk h11 d
    by_cases hd : d < tabAt t k
    · rw [bF_next hd, bF_next (by rw [tabAt_set hi]; exact hd), ih]
      obtain ⟨o, ho, eo, o1, o2⟩ := blk_of hk hd (show d < 11 by omega)
      have ok := (blksF_ok ho).1
      subst eo
      rw [ok.same l o1 o2, (ok.set (c := c) (v := v) hi).same l o1 o2]
      by_cases e : o.1 = c
      · by_cases q : b.2.1 ≤ k ∧ k ≤ b.2.2
        · have : o = b := ok.uniq hb (e.trans eb.symm) o1 o2 q.1 q.2
          subst this
          rw [if_neg (by omega), if_pos ⟨by omega, q⟩]
          unfold stepF
          omega
        · rw [if_neg (fun z => q z.2), if_neg (fun z => q z.2), room_keep hi ok l (.inr fun z => q (by
            have : o = b := ok.uniq hb (e.trans eb.symm) z.1 z.2 b1 b2
            subst this
            exact ⟨o1, o2⟩))]
          omega
      · rw [room_keep hi ok l (.inl e)]
        by_cases q : c < o.1 ∧ b.2.1 ≤ k ∧ k ≤ b.2.2
        · rw [if_pos q, if_pos ⟨by omega, q.2⟩]; omega
        · rw [if_neg q, if_neg fun z => q ⟨by omega, z.2⟩]; omega
    · rw [bF_stay (t := setAt t i c v) (by rw [tabAt_set hi]; omega), bF_stay (t := t) (by omega), ih]
      congr 1
      by_cases q : b.2.1 ≤ k ∧ k ≤ b.2.2
      · have := has_tab (hb.at_ k q.1 q.2)
        rw [if_pos ⟨by omega, q⟩, if_pos ⟨by omega, q⟩]
      · rw [if_neg fun z => q z.2, if_neg fun z => q z.2]
theorem rooms_tail_set {t : List (List Int)} {i c : Nat} {v l : Int} (hi : i < t.length) (hc : tabAt t i ≤ c) (k : Nat) : roomsOf l (setAt t i c v) k = roomsOf l t k := by
  have col : ∀ d, colOf (setAt t i c v) d = colOf t d := fun d => List.ext_getElem? fun j => by
    by_cases h : d ≠ c ∨ j ≠ i
    · exact col_set hi h
    · have hd : d = c := by omega
      have hj : j = i := by omega
      subst hd hj
      unfold tabAt at hc
      rw [col_get d j (by rw [set_len]; exact hi), col_get d j hi, set_row hi, if_pos rfl, List.length_set, if_neg (by omega), if_neg (by omega)]
  have e : ((setAt t i c v).getD k []).length = (t.getD k []).length := by
    rw [set_row hi]
    split
    · rename_i z; rw [List.length_set, z]
    · rfl
  unfold roomsOf
  rw [e]
  exact List.map_congr_left fun d _ => by rw [col]
theorem stopsFrom_at {g : Int} : ∀ {xs : List Int} {s : Int} {d : Nat}, d < xs.length → (stopsFrom g s xs)[d]? = some (s + endS0 g (xs.take (d + 1)))
  | [], _, _, h => absurd h (Nat.not_lt_zero _)
  | x :: xs, s, 0, _ => by
    show some (s + (x + g)) = _
    unfold endS0
    simp
  | x :: xs, s, d + 1, h => by
    show (stopsFrom g (s + (x + g)) xs)[d]? = _
    rw [stopsFrom_at (by simpa using h), List.take_succ_cons]
    unfold endS0
    rw [List.map_cons, sum_cons]
    congr 1
    omega
theorem row_get {g l : Int} {t : List (List Int)} {k d : Nat} (h : d < tabAt t k) : (rowStops g l t k)[d]? = some (bF g l t (d + 1) k) := by
  unfold rowStops
  rw [stopsFrom_at (by rw [rooms_len]; exact h), Int.zero_add]
  rfl
theorem inside_iff {b o : Blk} : insideB b o = true ↔ b.1 ≤ o.1 ∧ b.2.1 ≤ o.2.1 ∧ o.2.1 ≤ b.2.2 := by
  unfold insideB
  rw [Bool.and_eq_true, Bool.and_eq_true, decide_eq_true_eq, decide_eq_true_eq, decide_eq_true_eq]
theorem has_le {t : List (List Int)} {c d k : Nat} (h : hasT (tabsF t) d k = true) (hc : c ≤ d) : hasT (tabsF t) c k = true := by
  have := has_tab h
  unfold hasT
  rw [tabsF_at, decide_eq_true_eq]
  omega
theorem inside_line {t : List (List Int)} {b o : Blk} (hb : BlkOk t b) (ho : BlkOk t o) (hc : b.1 ≤ o.1) {k : Nat} (h1 : o.2.1 ≤ k) (h2 : k ≤ o.2.2) : insideB b o = true ↔ b.2.1 ≤ k ∧ k ≤ b.2.2 := by
  rw [inside_iff]
  have no : ∀ {x : Bool}, x = true → x = false → False := fun h h' => by rw [h] at h'; cases h'
  constructor
  · rintro ⟨_, a, c⟩
    refine ⟨by omega, ?_⟩
    rcases Nat.lt_or_ge b.2.2 k with q | q
    · exact (no (has_le (ho.at_ (b.2.2 + 1) (by omega) (by omega)) hc) hb.nx).elim
    · exact q
  · rintro ⟨a, c⟩
    refine ⟨hc, ?_, by omega⟩
    rcases Nat.lt_or_ge o.2.1 b.2.1 with q | q
    · rcases hb.pv with z | z
      · omega
      · exact (no (has_le (ho.at_ (b.2.1 - 1) (by omega) (by omega)) hc) z).elim
    · exact q
theorem blks_cols {t : List (List Int)} {j m : Nat} (hj : j < t.length) (hm : tabAt t j ≤ m) : ((blksF (tabsF t) m).filter (hasB j)).map (·.1) = List.range (tabAt t j) := by
  unfold blksF
  rw [List.filter_flatMap, List.map_flatMap]
  have e : ∀ c, ((colBlks (tabsF t) c).filter (hasB j)).map (·.1) = if c < tabAt t j then [c] else [] := by
    intro c
    unfold colBlks
    rw [List.filter_map, List.map_map]
    have e2 : (hasB j ∘ fun b : Nat × Nat => (c, b.1, b.2)) = hasL j := rfl
    rw [e2]
    by_cases h : c < tabAt t j
    · rw [if_pos h]
      have hp : hasT (tabsF t) c j = true := by unfold hasT; rw [tabsF_at, decide_eq_true_eq]; exact h
      have hn : hasT (tabsF t) c (tabsF t).length = false := by
        unfold hasT
        rw [tabsF_at, decide_eq_false_iff_not]
        unfold tabAt
        rw [tabsF_len, List.getD_eq_getElem?_getD, List.getElem?_eq_none (Nat.le_refl _)]
        exact Nat.not_lt_zero _
      obtain ⟨b, hb⟩ := runs_one hn (by rw [tabsF_len]; exact hj) hp
      rw [hb]
      rfl
    · rw [if_neg h]
      have hp : hasT (tabsF t) c j = false := by unfold hasT; rw [tabsF_at, decide_eq_false_iff_not]; exact h
      rw [(runs_ok _ _).off j hp]
      rfl
  rw [show (fun c => ((colBlks (tabsF t) c).filter (hasB j)).map (·.1)) = fun c => if c < tabAt t j then [c] else [] from funext e, flat_if, Nat.min_eq_left hm, List.map_id']
--MB
theorem lc_fm {α : Type} {G : TGd} {C : TB} {Te : TD} {vs : List Nat} {Fin : List D → Sto → KD → Prop} {Γ : Gam} {S : Sto} {Φ : KD} (xs : List α) (f g : α → D) (p : α → Bool) (hl : xs.length ≤ sizeLine) (hs : ∀ x ∈ xs, ∀ (A : KD) (N : Sto → Prop), (p x = true → A S (g x)) → (p x = false → N S) → G (f x) (gwipe Γ vs) S fun Γ2 S2 => C Γ2 S2 (fun S3 k => if k = true then Te Γ2 S3 A (fun _ _ => False) else N S3) (fun _ _ => False)) (hd : Fin ((xs.filter p).map g) S Φ) : lcP (fun _ => some (xs.map f)) G C Te vs Fin Γ S Φ := by
  refine lc_l (fun i acc S' => S' = S ∧ acc = ((xs.take i).filter p).map g) (by rw [List.length_map]; exact hl) ⟨rfl, rfl⟩ (fun i acc S' hi hp => ?_) fun acc S' hp => ?_
  · obtain ⟨rfl, rfl⟩ := hp
    rw [List.length_map] at hi
    rw [List.getElem_map]
    refine hs xs[i] (List.getElem_mem hi) (fun S4 y => S4 = S' ∧ ((xs.take i).filter p).map g ++ [y] = ((xs.take (i + 1)).filter p).map g) (fun S4 => S4 = S' ∧ ((xs.take i).filter p).map g = ((xs.take (i + 1)).filter p).map g) (fun e => ⟨rfl, ?_⟩) (fun e => ⟨rfl, ?_⟩)
    · rw [List.take_add_one, List.getElem?_eq_getElem hi, List.filter_append, List.map_append, show (some xs[i]).toList = [xs[i]] from rfl, List.filter_cons_of_pos e]
      rfl
    · rw [List.take_add_one, List.getElem?_eq_getElem hi, List.filter_append, List.map_append, show (some xs[i]).toList = [xs[i]] from rfl, List.filter_cons_of_neg (by rw [e]; exact Bool.false_ne_true)]
      simp
  · obtain ⟨rfl, rfl⟩ := hp
    rw [List.length_map, List.take_length]
    exact hd
theorem blks_low (t : List (List Int)) (n : Nat) : (blksF (tabsF t) 11).length ≤ 11 * (t.length + 1) := by
  have := blksF_len (tabsF t) 11
  rw [tabsF_len] at this
  exact this
def blockZ (t : List (List Int)) (i : Nat) (c : Int) : Option Blk := (blksF (tabsF t) 11).find? fun b => decide ((b.1 : Int) = c) && hasB i b
theorem blockZ_nat {t : List (List Int)} {i c : Nat} : blockZ t i (c : Int) = blockAt t i c := by
  unfold blockZ blockAt
  congr 1
  funext b
  have : decide ((b.1 : Int) = (c : Int)) = decide (b.1 = c) := by
    rw [Bool.eq_iff_iff, decide_eq_true_eq, decide_eq_true_eq]
    omega
  rw [this]
theorem blockZ_neg {t : List (List Int)} {i : Nat} {c : Int} (h : c < 0) : blockZ t i c = none := by
  unfold blockZ
  refine List.find?_eq_none.mpr fun b _ z => ?_
  rw [Bool.and_eq_true, decide_eq_true_eq] at z
  omega
theorem p_block_with : Rets sp_block_with T_block_with N_block_with := by
  rintro _ S Φ Ψ ⟨t, i, c, rfl, ok, hc, q⟩
  have q : Φ S (optD (blockZ t i c)) := by
    by_cases z : c < 0
    · rw [if_pos z] at q
      rw [blockZ_neg z]
      exact q
    · rw [if_neg z] at q
      rw [show c = ((c.toNat : Nat) : Int) by omega, blockZ_nat]
      exact q
  unfold T_block_with
  walk_at "dl"
  refine ⟨_, t, rfl, tabS_l t, ok, ⟨_, rfl⟩, ?_⟩
  refine for_l (ds := (blksF (tabsF t) 11).map blkD) (fun k Γ S' => S' = S ∧ (∃ o, Γ = [some (tabD t), some (.int i), some (.int c), o]) ∧ ((blksF (tabsF t) 11).take k).find? (fun b => decide ((b.1 : Int) = c) && hasB i b) = none) ⟨rfl, ⟨_, rfl⟩, rfl⟩ (fun k Γ' S' hk hp => ?_) fun Γ' S' hp => ?_
  · obtain ⟨rfl, ⟨o, rfl⟩, hn⟩ := hp
    rw [List.length_map] at hk
    rw [List.getElem_map]
    have e : (blksF (tabsF t) 11).take (k + 1) = (blksF (tabsF t) 11).take k ++ [(blksF (tabsF t) 11)[k]] := by rw [List.take_add_one, List.getElem?_eq_getElem hk]; rfl
    have found : (decide ((((blksF (tabsF t) 11)[k]).1 : Int) = c) && hasB i (blksF (tabsF t) 11)[k]) = true → blockZ t i c = some (blksF (tabsF t) 11)[k] := fun h => by
      unfold blockZ
      have s : blksF (tabsF t) 11 = (blksF (tabsF t) 11).take k ++ (blksF (tabsF t) 11)[k] :: (blksF (tabsF t) 11).drop (k + 1) := by rw [← List.drop_eq_getElem_cons hk, List.take_append_drop]
      conv => lhs; rw [s]
      rw [List.find?_append, hn, List.find?_cons, h]
      rfl
    rw [e, List.find?_append, hn, List.find?_cons]
    generalize (blksF (tabsF t) 11)[k] = b at found ⊢
    unfold blkD
    walk_at "dl"
    rw [dEq_i]
    refine ⟨_, rfl, ?_⟩
    have miss : (decide ((b.1 : Int) = c) && hasB i b) = false → (none.or (match decide ((b.1 : Int) = c) && hasB i b with
        | true => some b
        | false => List.find? (fun b => decide ((b.1 : Int) = c) && hasB i b) []) : Option Blk) = none := fun h => by rw [h]; rfl
    by_cases c1 : (b.1 : Int) = c
    · rw [if_pos (by rw [beq_iff_eq]; omega)]
      by_cases c2 : b.2.1 ≤ i
      · rw [if_pos (by rw [decide_eq_true_eq]; omega)]
        by_cases c3 : i ≤ b.2.2
        · rw [if_pos (by rw [decide_eq_true_eq]; omega)]
          rw [found (by rw [Bool.and_eq_true, decide_eq_true_eq]; exact ⟨c1, hasB_iff.mpr ⟨c2, c3⟩⟩)] at q
          exact ret_now q
        · rw [if_neg (by rw [decide_eq_true_eq]; omega)]
          exact ⟨rfl, ⟨_, rfl⟩, miss (by rw [Bool.and_eq_false_iff]; exact .inr (Bool.eq_false_iff.mpr fun z => c3 (hasB_iff.mp z).2))⟩
      · rw [if_neg (by rw [decide_eq_true_eq]; omega)]
        exact ⟨rfl, ⟨_, rfl⟩, miss (by rw [Bool.and_eq_false_iff]; exact .inr (Bool.eq_false_iff.mpr fun z => c2 (hasB_iff.mp z).1))⟩
    · rw [if_neg (by rw [beq_iff_eq]; omega)]
      exact ⟨rfl, ⟨_, rfl⟩, miss (by rw [Bool.and_eq_false_iff]; exact .inl (decide_eq_false c1))⟩
  · obtain ⟨rfl, ⟨o, rfl⟩, hn⟩ := hp
    walk_at "dl"
    rw [List.length_map, List.take_length] at hn
    unfold blockZ at q
    rw [hn] at q
    exact ret_now q
theorem p_stacked : Rets sp_stacked T_stacked N_stacked := by
  rintro _ S Φ Ψ ⟨ts, rfl, oks, ok, q⟩
  unfold T_stacked
  walk_at "dl"
  refine for_l (ds := ts.map tabD) (fun k Γ S' => S' = S ∧ ∃ o, Γ = [some (.tup (ts.map tabD)), o, none, none]) ⟨rfl, _, rfl⟩ (fun k Γ' S' hk hp => ?_) fun Γ' S' hp => ?_
  · obtain ⟨rfl, o, rfl⟩ := hp
    rw [List.length_map] at hk
    rw [List.getElem_map]
    walk_at "dl"
    exact ⟨_, _, rfl, tabS_l _, oks _ (List.getElem_mem hk), rfl, _, rfl⟩
  obtain ⟨rfl, o, rfl⟩ := hp
  walk_at "dl"
  have tot : ∀ k, (ts.take k).flatten.length ≤ ts.flatten.length := fun k => by
    conv => rhs; rw [← List.take_append_drop k ts, List.flatten_append, List.length_append]
    omega
  have h6 := ok.hi
  refine ⟨fun i acc X => X = S' ∧ acc = (ts.take i).flatten.map rowD, ts.length, ⟨rfl, rfl⟩, fun _ _ _ _ _ => List.length_map _, fun i acc X ds d hp e hd => ?_, fun acc X hp => ?_⟩
  · obtain ⟨rfl, rfl⟩ := hp
    cases e
    rw [List.getElem?_map] at hd
    cases ei : ts[i]? with
    | none => rw [ei] at hd; cases hd
    | some t =>
      rw [ei] at hd
      cases hd
      obtain ⟨hi, eti⟩ := List.getElem?_eq_some_iff.mp ei
      have en : ts.take (i + 1) = ts.take i ++ [t] := by rw [List.take_add_one, ei]; rfl
      refine ⟨tabD t, rfl, ⟨_, rfl⟩, fun j acc1 Y => Y = X ∧ acc1 = ((ts.take i).flatten ++ t.take j).map rowD, t.length, ⟨rfl, by rw [List.take_zero, List.append_nil]⟩, fun j acc1 Y _ hp => ⟨_, rfl, by rw [List.length_map]⟩, fun j acc1 Y ds1 d1 hp e hd => ?_, fun acc1 Y hp => ?_⟩
      · obtain ⟨rfl, rfl⟩ := hp
        cases e
        rw [List.getElem?_map] at hd
        cases ej : t[j]? with
        | none => rw [ej] at hd; cases hd
        | some r =>
          rw [ej] at hd
          cases hd
          obtain ⟨hj, etj⟩ := List.getElem?_eq_some_iff.mp ej
          refine ⟨rowD r, rfl, ?_⟩
          rw [cList_L (S := Y) (d := rowD r) (xs := r.map D.int) rfl]
          have l1 := tot (i + 1)
          rw [en, List.flatten_append, List.length_append] at l1
          have l2 : ([t] : List (List (List Int))).flatten.length = t.length := by simp
          refine ⟨under (by rw [List.length_map, List.length_append, List.length_take]; omega), rfl, ?_⟩
          rw [List.take_add_one, ej, ← List.append_assoc, List.map_append (l₂ := (some r).toList)]
          rfl
      · obtain ⟨rfl, rfl⟩ := hp
        refine ⟨rfl, ?_⟩
        rw [List.take_length, en, List.flatten_append]
        simp
  · obtain ⟨rfl, rfl⟩ := hp
    rw [List.take_length]
    exact ⟨_, ts.flatten, rfl, tabS_l _, ok, ret_now q⟩
theorem p_part (C : Addr) : Rets sp_part (T_part C) N_part := by
  rintro _ S Φ Ψ ⟨t, a, b, rfl, ok, hab, hb, q⟩
  unfold T_part
  walk_at "dl"
  refine ⟨_, t, rfl, tabS_l t, ok, ?_⟩
  refine ⟨_, t, a, rfl, tabS_l t, by omega, ?_⟩
  refine ⟨_, t, b, rfl, tabS_l t, hb, ?_⟩
  dsimp only
  rw [if_neg (by rw [decide_eq_true_eq]; omega), show ((b : Int) + 1) = ((b + 1 : Nat) : Int) by omega, cut_mid (by omega) (by rw [List.length_map]; omega), ← List.map_drop, ← List.map_take]
  have h6 := ok.hi
  refine ⟨_, _, rfl, tabS_l _, by rw [List.length_take, List.length_drop]; omega, ?_⟩
  unfold newTab at q ⊢
  exact ret_now q
end DL
namespace DL
open PySem PySem.Spec PyProof.Rows L2
local macro_rules | `(tactic| walk_at "dl") => `(tactic| ((try simp only [gstart, gwipe, List.set_set, List.map_cons, List.map_nil, List.length_cons, List.length_nil, rep_0, rep_s, List.cons_append, List.nil_append, List.set_cons_zero, List.set_cons_succ, Nat.reduceAdd, Nat.reduceSub, Nat.zero_add, Nat.add_zero]); (try simp only [↓dv0, ↓dv1, ↓dv2, ↓dv3, ↓dv4, ↓dv5, ↓dv6, ↓dv7, ↓dv8, ↓dv9, ↓dv10, ↓dv11, ↓dv12, ↓dv13, ↓dv14, ↓dv15, ↓dv16, ↓dv17, ↓dv18, ↓dv19, ↓dv20, ↓dv21, ↓dv22, ↓dv23, ↓dv24, ↓dv25, ↓dv26, ↓dv27, ↓dv28, ↓dv29, ↓dv30, ↓dv31, ↓dv32, ↓dv33, ↓dv34, ↓dv35, ↓dv36, ↓dv37, ↓dv38, ↓dv39, ↓nm0, ↓nm1, ↓nm2, ↓nm3, ↓nm4, ↓nm5, ↓nm6, ↓nm7, ↓nm8, ↓nm9, ↓nm10, ↓nm11, ↓nm12, ↓nm13, ↓nm14, ↓nm15, ↓nm16, ↓nm17, ↓nm18, ↓nm19, ↓nm20, ↓nm21, ↓nm22, ↓nm23, ↓nm24, ↓nm25, ↓nm26, ↓nm27, ↓nm28, ↓nm29, ↓nm30, ↓nm31, ↓nm32, ↓nm33, ↓nm34, ↓nm35, ↓nm36, ↓nm37, ↓nm38, ↓nm39, ↓sPar_n, ↓sPar3_n, ↓sAug_n, ↓reduceIte, List.set_set, ↓sNext_e, ↓dGetF_e, ↓dLct_e, ↓sLct_e, ↓iKtT_e, ↓sSeq_e, ↓sBrk_e, ↓sCnt_e, ↓sDrop_e, ↓sRet_e, ↓sRetN_e, ↓sIf_e, ↓sAsg_e, ↓sRaise_e, ↓nmG_e, ↓tupG_e, ↓gsNil_e, ↓gsCons_e, ↓subG_e, ↓dC_e, ↓dOp_e, ↓dUn_e, ↓dChain_e, ↓bOf_e, ↓bAnd_e, ↓bOr_e, ↓bNot_e, ↓bYes_e, ↓dAnd_e, ↓dOr_e, ↓dNot_e, ↓dIf_e, ↓lNil_e, ↓lCons_e, ↓dLst_e, ↓dDic0_e, ↓dDic1_e, ↓dLenSetG_e, dIsB_b, dIsNB_b, dSD_e, dRevO_e, dDGetL_e, dTupO_e, dNotInT_e, dInT_e, dGetT_e, sPutT_e, iKtD_e, ↓dLstO_e, ↓dTup_e, ↓dCB_e, ↓dCall_e, ↓dCallK_e, ↓oNone_e, ↓oSome_e, ↓dSl_e, ↓dBM_e, ↓dBM0_e, ↓dFz_e, ↓dFz2_e, ↓d2_e, ↓dLone_e, ↓lStar_e, ↓dCallA_e, ↓dMakeA_e, ↓dMakeV_e, ↓dMethA_e, ↓dCMethA_e, ↓dPropA_e, ↓dFld_e, ↓dFldM_e, ↓dPropM_e, ↓dMethM_e, ↓dSupA_e, ↓sFldM_e, ↓fldG_e, ↓dLcZ_e, ↓zdPlain_e, ↓zdNil_e, ↓zdThen_e, ↓zdYield_e, ↓cSortT_e, ↓ipLD_e, ↓cMax3_i, ↓sFldS_e, ↓dFzI_e, ↓fzID_o, ↓dM1_e, ↓dM0_e, ↓dRev_e, ↓mSplit_s, ↓mUpper_s, ↓exStr, ↓exZ, ↓cStrI_i, ↓cIntS_s, ↓iStrD_e, ↓dEqF_s, ↓dNeF_s, ↓dEqF_i, ↓dNeF_i, ↓dSign_s, ↓sRaiseI_e, ↓dXFld_e, ↓mPop_e, ↓dAddO_l, ↓dAddO_o, ↓dMk0_e, ↓sKeep_e, ↓sTryH_e, ↓dCVal_e, ↓dConI_e, ↓cLen_s, ↓dIx_s, ↓dSlS_s, ↓dAdd_s, ↓cTup_l, ↓pkP_e, ↓pkS_e, ↓lstG_e, ↓asI_i, ↓iSeq_e, ↓iTupD_e, ↓iRg1_e, ↓iRg2_e, ↓iZipD_e, ↓iZip3D_e, iZrD_e, ↓iEnumD_e, ↓sFor_e, ↓dLc_e, ↓finF_e, ↓finO_e, ↓fzD_l, ↓fzD_i, ↓fzD_o, ↓fzD2_o, ↓dSetO_e, ↓mAppend_e, ↓mClear_e, ↓mReverse_e, List.map_cons, List.map_nil, List.length_cons, List.length_nil, rep_0, rep_s, List.cons_append, List.nil_append, List.getElem?_cons_zero, List.getElem?_cons_succ, List.set_cons_zero, List.set_cons_succ, Nat.reduceAdd, Nat.reduceSub, Nat.zero_add, Nat.add_zero, ↓exSS, ↓exB, ↓exI, ↓ex1, ↓ex2, ↓ex3, ↓exI1, ↓exI2, ↓exT, ↓exC, ↓exAs, ↓dAdd_i, ↓dAddI_i, ↓dSubI_i, ↓dLRg_e, ↓dIsiT_e, ↓dLenSet_e, ↓bChain3_e, ↓dLRg2_e, ↓iRg3_e, ↓dLc2_e, ↓dSlT_t, dAddT_t, ↓dNewK_e, ↓dDis1_e, ↓sDkp_e, ↓dDGet_e, ↓dDGet2_e, ↓dLVals_e, ↓kD_ex_i, ↓dSS_e, ↓dST_e, ↓dSI_e, ↓dSIG_e, ↓dSSI_e, ↓sAugS_e, ↓iItT_e, ↓iEnumSD_e, ↓lsG_e, ↓dMulI_i, ↓dNew_e, ↓sDct_e, ↓dMulO_l, ↓dLRgO_e, ↓dAdd_l, ↓dSub_i, ↓dMul_i, ↓dMul_l, ↓dMod_i, ↓dDiv_i, ↓dPow_i, ↓dLt_i, ↓dLe_i, ↓dGt_i, ↓dGe_i, ↓uNeg_i, ↓cMax2_i, ↓cMin2_i, ↓cAbs_i, ↓cInt_i, ↓cInt_b, ↓cLen_l, ↓cLen_q, ↓cLen_t, ↓cList_l, ↓cList_q, ↓cList_t, ↓cListO_l, ↓cListO_t, ↓dIx_l, ↓dIx_q, ↓dIx_t, ↓dIx_o', ↓exS, ↓exL, at_1, at_2, at_3, at_4, ix30, ix31, ix32, ↓dSlL_l, ↓dSlL_q, ↓asQ_l, ↓asL_l, at_0, ↓isi_non_int, ↓isi_non_bool, ↓isi_non_str, ↓isi_non_list, ↓isi_non_tuple, ↓isi_non_dict, ↓isi_bl_int, ↓isi_bl_bool, ↓isi_bl_str, ↓isi_bl_list, ↓isi_bl_tuple, ↓isi_bl_dict, ↓isi_int_int, ↓isi_int_bool, ↓isi_int_str, ↓isi_int_list, ↓isi_int_tuple, ↓isi_int_dict, ↓isi_str_int, ↓isi_str_bool, ↓isi_str_str, ↓isi_str_list, ↓isi_str_tuple, ↓isi_str_dict, ↓isi_lst_int, ↓isi_lst_bool, ↓isi_lst_str, ↓isi_lst_list, ↓isi_lst_tuple, ↓isi_lst_dict, ↓isi_sq_int, ↓isi_sq_bool, ↓isi_sq_str, ↓isi_sq_list, ↓isi_sq_tuple, ↓isi_sq_dict, ↓isi_tup_int, ↓isi_tup_bool, ↓isi_tup_str, ↓isi_tup_list, ↓isi_tup_tuple, ↓isi_tup_dict, ↓isi_dic_int, ↓isi_dic_bool, ↓isi_dic_str, ↓isi_dic_list, ↓isi_dic_tuple, ↓isi_dic_dict, if_true, if_false, Bool.not_true, Bool.not_false, true_and, and_true, reduceCtorEq, Bool.true_eq_false, Bool.false_eq_true, ite_true, ite_false, ↓exAny, ↓isLst_l, Int.toNat_natCast, Int.reduceToNat, dVar_e, sPar_e, sPar3_e, sAug_e])))
local macro_rules | `(tactic| walk_at "dls") => `(tactic| ((try simp only [gstart, gwipe, List.set_set, List.map_cons, List.map_nil, List.length_cons, List.length_nil, rep_0, rep_s, List.cons_append, List.nil_append, List.set_cons_zero, List.set_cons_succ, Nat.reduceAdd, Nat.reduceSub, Nat.zero_add, Nat.add_zero]); (try simp only [*, ↓dv0, ↓dv1, ↓dv2, ↓dv3, ↓dv4, ↓dv5, ↓dv6, ↓dv7, ↓dv8, ↓dv9, ↓dv10, ↓dv11, ↓dv12, ↓dv13, ↓dv14, ↓dv15, ↓dv16, ↓dv17, ↓dv18, ↓dv19, ↓dv20, ↓dv21, ↓dv22, ↓dv23, ↓dv24, ↓dv25, ↓dv26, ↓dv27, ↓dv28, ↓dv29, ↓dv30, ↓dv31, ↓dv32, ↓dv33, ↓dv34, ↓dv35, ↓dv36, ↓dv37, ↓dv38, ↓dv39, ↓nm0, ↓nm1, ↓nm2, ↓nm3, ↓nm4, ↓nm5, ↓nm6, ↓nm7, ↓nm8, ↓nm9, ↓nm10, ↓nm11, ↓nm12, ↓nm13, ↓nm14, ↓nm15, ↓nm16, ↓nm17, ↓nm18, ↓nm19, ↓nm20, ↓nm21, ↓nm22, ↓nm23, ↓nm24, ↓nm25, ↓nm26, ↓nm27, ↓nm28, ↓nm29, ↓nm30, ↓nm31, ↓nm32, ↓nm33, ↓nm34, ↓nm35, ↓nm36, ↓nm37, ↓nm38, ↓nm39, ↓sPar_n, ↓sPar3_n, ↓sAug_n, ↓reduceIte, List.set_set, ↓sNext_e, ↓dGetF_e, ↓dLct_e, ↓sLct_e, ↓iKtT_e, ↓sSeq_e, ↓sBrk_e, ↓sCnt_e, ↓sDrop_e, ↓sRet_e, ↓sRetN_e, ↓sIf_e, ↓sAsg_e, ↓sRaise_e, ↓nmG_e, ↓tupG_e, ↓gsNil_e, ↓gsCons_e, ↓subG_e, ↓dC_e, ↓dOp_e, ↓dUn_e, ↓dChain_e, ↓bOf_e, ↓bAnd_e, ↓bOr_e, ↓bNot_e, ↓bYes_e, ↓dAnd_e, ↓dOr_e, ↓dNot_e, ↓dIf_e, ↓lNil_e, ↓lCons_e, ↓dLst_e, ↓dDic0_e, ↓dDic1_e, ↓dLenSetG_e, dIsB_b, dIsNB_b, dSD_e, dRevO_e, dDGetL_e, dTupO_e, dNotInT_e, dInT_e, dGetT_e, sPutT_e, iKtD_e, ↓dLstO_e, ↓dTup_e, ↓dCB_e, ↓dCall_e, ↓dCallK_e, ↓oNone_e, ↓oSome_e, ↓dSl_e, ↓dBM_e, ↓dBM0_e, ↓dFz_e, ↓dFz2_e, ↓d2_e, ↓dLone_e, ↓lStar_e, ↓dCallA_e, ↓dMakeA_e, ↓dMakeV_e, ↓dMethA_e, ↓dCMethA_e, ↓dPropA_e, ↓dFld_e, ↓dFldM_e, ↓dPropM_e, ↓dMethM_e, ↓dSupA_e, ↓sFldM_e, ↓fldG_e, ↓dLcZ_e, ↓zdPlain_e, ↓zdNil_e, ↓zdThen_e, ↓zdYield_e, ↓cSortT_e, ↓ipLD_e, ↓cMax3_i, ↓sFldS_e, ↓dFzI_e, ↓fzID_o, ↓dM1_e, ↓dM0_e, ↓dRev_e, ↓mSplit_s, ↓mUpper_s, ↓exStr, ↓exZ, ↓cStrI_i, ↓cIntS_s, ↓iStrD_e, ↓dEqF_s, ↓dNeF_s, ↓dEqF_i, ↓dNeF_i, ↓dSign_s, ↓sRaiseI_e, ↓dXFld_e, ↓mPop_e, ↓dAddO_l, ↓dAddO_o, ↓dMk0_e, ↓sKeep_e, ↓sTryH_e, ↓dCVal_e, ↓dConI_e, ↓cLen_s, ↓dIx_s, ↓dSlS_s, ↓dAdd_s, ↓cTup_l, ↓pkP_e, ↓pkS_e, ↓lstG_e, ↓asI_i, ↓iSeq_e, ↓iTupD_e, ↓iRg1_e, ↓iRg2_e, ↓iZipD_e, ↓iZip3D_e, iZrD_e, ↓iEnumD_e, ↓sFor_e, ↓dLc_e, ↓finF_e, ↓finO_e, ↓fzD_l, ↓fzD_i, ↓fzD_o, ↓fzD2_o, ↓dSetO_e, ↓mAppend_e, ↓mClear_e, ↓mReverse_e, List.map_cons, List.map_nil, List.length_cons, List.length_nil, rep_0, rep_s, List.cons_append, List.nil_append, List.getElem?_cons_zero, List.getElem?_cons_succ, List.set_cons_zero, List.set_cons_succ, Nat.reduceAdd, Nat.reduceSub, Nat.zero_add, Nat.add_zero, ↓exSS, ↓exB, ↓exI, ↓ex1, ↓ex2, ↓ex3, ↓exI1, ↓exI2, ↓exT, ↓exC, ↓exAs, ↓dAdd_i, ↓dAddI_i, ↓dSubI_i, ↓dLRg_e, ↓dIsiT_e, ↓dLenSet_e, ↓bChain3_e, ↓dLRg2_e, ↓iRg3_e, ↓dLc2_e, ↓dSlT_t, dAddT_t, ↓dNewK_e, ↓dDis1_e, ↓sDkp_e, ↓dDGet_e, ↓dDGet2_e, ↓dLVals_e, ↓kD_ex_i, ↓dSS_e, ↓dST_e, ↓dSI_e, ↓dSIG_e, ↓dSSI_e, ↓sAugS_e, ↓iItT_e, ↓iEnumSD_e, ↓lsG_e, ↓dMulI_i, ↓dNew_e, ↓sDct_e, ↓dMulO_l, ↓dLRgO_e, ↓dAdd_l, ↓dSub_i, ↓dMul_i, ↓dMul_l, ↓dMod_i, ↓dDiv_i, ↓dPow_i, ↓dLt_i, ↓dLe_i, ↓dGt_i, ↓dGe_i, ↓uNeg_i, ↓cMax2_i, ↓cMin2_i, ↓cAbs_i, ↓cInt_i, ↓cInt_b, ↓cLen_l, ↓cLen_q, ↓cLen_t, ↓cList_l, ↓cList_q, ↓cList_t, ↓cListO_l, ↓cListO_t, ↓dIx_l, ↓dIx_q, ↓dIx_t, ↓dIx_o', ↓exS, ↓exL, at_1, at_2, at_3, at_4, ix30, ix31, ix32, ↓dSlL_l, ↓dSlL_q, ↓asQ_l, ↓asL_l, at_0, ↓isi_non_int, ↓isi_non_bool, ↓isi_non_str, ↓isi_non_list, ↓isi_non_tuple, ↓isi_non_dict, ↓isi_bl_int, ↓isi_bl_bool, ↓isi_bl_str, ↓isi_bl_list, ↓isi_bl_tuple, ↓isi_bl_dict, ↓isi_int_int, ↓isi_int_bool, ↓isi_int_str, ↓isi_int_list, ↓isi_int_tuple, ↓isi_int_dict, ↓isi_str_int, ↓isi_str_bool, ↓isi_str_str, ↓isi_str_list, ↓isi_str_tuple, ↓isi_str_dict, ↓isi_lst_int, ↓isi_lst_bool, ↓isi_lst_str, ↓isi_lst_list, ↓isi_lst_tuple, ↓isi_lst_dict, ↓isi_sq_int, ↓isi_sq_bool, ↓isi_sq_str, ↓isi_sq_list, ↓isi_sq_tuple, ↓isi_sq_dict, ↓isi_tup_int, ↓isi_tup_bool, ↓isi_tup_str, ↓isi_tup_list, ↓isi_tup_tuple, ↓isi_tup_dict, ↓isi_dic_int, ↓isi_dic_bool, ↓isi_dic_str, ↓isi_dic_list, ↓isi_dic_tuple, ↓isi_dic_dict, if_true, if_false, Bool.not_true, Bool.not_false, true_and, and_true, reduceCtorEq, Bool.true_eq_false, Bool.false_eq_true, ite_true, ite_false, ↓exAny, ↓isLst_l, Int.toNat_natCast, Int.reduceToNat, dVar_e, sPar_e, sPar3_e, sAug_e])))
--MR
theorem p_blocks_of : Rets sp_blocks_of T_blocks_of N_blocks_of := by
  rintro _ S Φ Ψ ⟨t, rfl, ok, q⟩
  unfold T_blocks_of
  walk_at "dl"
  exact ⟨_, t, rfl, tabS_l t, ok, _, t, rfl, tabS_l t, ok, ret_now q⟩
theorem p_tabs_of : Rets sp_tabs_of T_tabs_of N_tabs_of := by
  rintro _ S Φ Ψ ⟨t, rfl, ok, q⟩
  unfold T_tabs_of
  walk_at "dl"
  exact ⟨_, t, rfl, tabS_l t, ok, _, t, rfl, tabS_l t, ok, ret_now q⟩
theorem p_block_at (C : Addr) : Rets sp_block_at (T_block_at C) N_block_at := by
  rintro _ S Φ Ψ ⟨t, i, c, rfl, ok, hi, q⟩
  unfold T_block_at
  walk_at "dl"
  refine ⟨_, t, rfl, tabS_l t, ok, _, t, i, rfl, tabS_l t, hi, ?_⟩
  dsimp only
  rw [if_neg (by rw [decide_eq_true_eq]; omega)]
  refine ⟨t, i, c, rfl, ok, by omega, ?_⟩
  rw [if_neg (by omega), Int.toNat_natCast]
  exact ret_now q
theorem p_parent_of : Rets sp_parent_of T_parent_of N_parent_of := by
  rintro _ S Φ Ψ ⟨t, b, rfl, ok, hb, q⟩
  unfold T_parent_of
  walk_at "dl"
  refine ⟨_, t, rfl, tabS_l t, ok, t, b, rfl, ok, hb, ?_⟩
  unfold blkD
  walk_at "dl"
  refine ⟨t, b.2.1, (b.1 : Int) - 1, rfl, ok, by omega, ?_⟩
  by_cases z : b.1 = 0
  · rw [if_pos z] at q
    rw [if_pos (by omega)]
    exact ret_now q
  · rw [if_neg z] at q
    rw [if_neg (by omega), show ((b.1 : Int) - 1).toNat = b.1 - 1 by omega]
    exact ret_now q
theorem p_need_tab (C : Addr) : Rets sp_need_tab (T_need_tab C) N_need_tab := by
  rintro _ S Φ Ψ ⟨t, i, c, rfl, ok, hi, hc, q⟩
  unfold T_need_tab
  walk_at "dl"
  refine ⟨_, t, rfl, tabS_l t, ok, _, t, i, rfl, tabS_l t, hi, _, t, rfl, tabS_l t, ok, ?_⟩
  dsimp only
  rw [dIx_l, at_nat]
  unfold natsD
  refine ⟨.int ((tabsF t)[i]'(by rw [tabsF_len]; exact hi) : Nat), by rw [List.getElem?_map, List.getElem?_eq_getElem (by rw [tabsF_len]; exact hi)]; rfl, ?_⟩
  have e : (tabsF t)[i]'(by rw [tabsF_len]; exact hi) = tabAt t i := by
    rw [← tabsF_at, List.getD_eq_getElem?_getD, List.getElem?_eq_getElem (by rw [tabsF_len]; exact hi)]
    rfl
  rw [e]
  walk_at "dl"
  refine ⟨_, _, _, rfl, _, rfl, ?_⟩
  rw [if_neg (by unfold inB; simp; omega)]
  exact ret_now q
theorem p_blocks_around : Rets sp_blocks_around T_blocks_around N_blocks_around := by
  rintro _ S Φ Ψ ⟨t, i, c, rfl, ok, q⟩
  unfold T_blocks_around
  walk_at "dl"
  refine ⟨_, t, rfl, tabS_l t, ok, ⟨_, rfl⟩, ?_⟩
  have hl := blks_low t 0
  have h6 := ok.hi
  refine lc_fm (blksF (tabsF t) 11) blkD blkD (fun b => decide (b.1 ≤ c) && hasB i b) (small (by omega)) (fun o ho A N hA hN => ?_) (ret_now q)
  have hO : blkD o = .tup [.int (o.1 : Nat), .int (o.2.1 : Nat), .int (o.2.2 : Nat)] := rfl
  rw [hO] at hA ⊢
  walk_at "dl"
  by_cases c1 : o.1 ≤ c
  · rw [if_pos (by rw [decide_eq_true_eq]; omega)]
    by_cases c2 : o.2.1 ≤ i
    · rw [if_pos (by rw [decide_eq_true_eq]; omega)]
      by_cases c3 : i ≤ o.2.2
      · rw [if_pos (by rw [decide_eq_true_eq]; omega)]
        exact hA (by rw [Bool.and_eq_true, decide_eq_true_eq]; exact ⟨c1, hasB_iff.mpr ⟨c2, c3⟩⟩)
      · rw [if_neg (by rw [decide_eq_true_eq]; omega)]
        exact hN (Bool.eq_false_iff.mpr fun z => by rw [Bool.and_eq_true] at z; exact c3 (hasB_iff.mp z.2).2)
    · rw [if_neg (by rw [decide_eq_true_eq]; omega)]
      exact hN (Bool.eq_false_iff.mpr fun z => by rw [Bool.and_eq_true] at z; exact c2 (hasB_iff.mp z.2).1)
  · rw [if_neg (by rw [decide_eq_true_eq]; omega)]
    exact hN (Bool.eq_false_iff.mpr fun z => by rw [Bool.and_eq_true, decide_eq_true_eq] at z; exact c1 z.1)
--MR
theorem filter_range_add (p : Nat → Bool) (a n : Nat) : ((List.range n).map fun k => a + k).filter p = ((List.range n).filter fun k => p (a + k)).map fun k => a + k := by
  rw [List.filter_map]
  rfl
theorem p_lines_with : Rets sp_lines_with T_lines_with N_lines_with := by
  rintro _ S Φ Ψ ⟨t, b, w, rfl, ok, bk, q⟩
  unfold T_lines_with blkD
  walk_at "dl"
  have h1 := bk.le
  have h2 := bk.lt
  have h6 := ok.hi
  refine ⟨⟨by omega, by omega, by omega, by omega⟩, ?_⟩
  rw [show ((b.2.2 : Int) + 1 - (b.2.1 : Int)).toNat = b.2.2 + 1 - b.2.1 by omega]
  refine lc_rg (fun k acc X => X = S ∧ acc = natsD (((List.range k).filter fun k => cellB t b (b.2.1 + k) == w).map fun k => b.2.1 + k)) (small (by omega)) ⟨rfl, rfl⟩ (fun k acc X hk hp => ?_) fun acc X hp => ?_
  · obtain ⟨rfl, rfl⟩ := hp
    have hl : b.2.1 + k < t.length := by omega
    obtain ⟨v, e1, e2⟩ := colOf_some (bk.at_ (b.2.1 + k) (by omega) (by omega))
    have hcv : cellB t b (b.2.1 + k) = v := by
      unfold cellB
      rw [List.getD_eq_getElem?_getD, e2]
      rfl
    walk_at "dl"
    rw [show ((b.2.1 : Int) + (k : Int)) = ((b.2.1 + k : Nat) : Int) by omega, at_nat]
    refine ⟨rowD t[b.2.1 + k], by rw [List.getElem?_map, List.getElem?_eq_getElem hl]; rfl, ?_⟩
    walk_at "dl"
    rw [at_nat]
    rw [tab_at hl] at e2
    refine ⟨.int v, by rw [List.getElem?_map, e2]; rfl, ?_⟩
    rw [dEq_i]
    refine ⟨_, rfl, ?_⟩
    rw [List.range_succ, List.filter_append, List.map_append]
    unfold natsD
    rw [List.map_append]
    cases y : v == w with
    | true =>
      rw [if_pos rfl, List.filter_cons_of_pos (by rw [hcv]; exact y)]
      exact ⟨rfl, rfl⟩
    | false =>
      rw [if_neg Bool.false_ne_true, List.filter_cons_of_neg (by rw [hcv, y]; exact Bool.false_ne_true)]
      exact ⟨rfl, by simp⟩
  · obtain ⟨rfl, rfl⟩ := hp
    unfold linesW linesB at q
    rw [filter_range_add] at q
    exact ret_now q
--MR
theorem mem_linesB {b : Blk} {k : Nat} : k ∈ linesB b ↔ b.2.1 ≤ k ∧ k < b.2.1 + (b.2.2 + 1 - b.2.1) := by
  unfold linesB
  rw [List.mem_map]
  constructor
  · rintro ⟨j, hj, rfl⟩
    have := List.mem_range.mp hj
    omega
  · rintro ⟨h1, h2⟩
    exact ⟨k - b.2.1, List.mem_range.mpr (by omega), by omega⟩
theorem cell_col {t : List (List Int)} {b : Blk} (bk : BlkOk t b) {k : Nat} (h1 : b.2.1 ≤ k) (h2 : k ≤ b.2.2) : (colOf t b.1)[k]? = some (some (cellB t b k)) := by
  obtain ⟨v, e1, e2⟩ := colOf_some (bk.at_ k h1 h2)
  rw [e1]
  unfold cellB
  rw [List.getD_eq_getElem?_getD, e2]
  rfl
/-- what greatest_in answers -/
theorem great_eq {t : List (List Int)} {b : Blk} {m : Int} (ok : TabOk t) (bk : BlkOk t b) (h1 : ∃ i, b.2.1 ≤ i ∧ i ≤ b.2.2 ∧ (colOf t b.1)[i]? = some (some m)) (h2 : ∀ i v, b.2.1 ≤ i → i ≤ b.2.2 → (colOf t b.1)[i]? = some (some v) → v ≤ m) : m = greatB t b := by
  obtain ⟨i, a1, a2, a3⟩ := h1
  have lt := bk.lt
  have e := cell_col bk a1 a2
  rw [a3] at e
  have e : m = cellB t b i := Option.some.inj (Option.some.inj e)
  have h0 : 0 ≤ m := by
    have hi : i < t.length := by omega
    obtain ⟨v, e1, e2⟩ := colOf_some (bk.at_ i a1 a2)
    rw [a3] at e1
    have ev : m = v := Option.some.inj (Option.some.inj e1)
    rw [tab_at hi] at e2
    rw [ev]
    exact ((ok.row _ (List.getElem_mem hi)).at_ v (List.mem_of_getElem? e2)).1
  apply Int.le_antisymm
  · rw [e]
    exact le_maxP (List.mem_map.mpr ⟨i, mem_linesB.mpr ⟨a1, by omega⟩, rfl⟩)
  · refine maxP_le h0 fun y hy => ?_
    obtain ⟨k, hk, rfl⟩ := List.mem_map.mp hy
    obtain ⟨k1, k2⟩ := mem_linesB.mp hk
    have le := bk.le
    exact h2 k _ k1 (by omega) (cell_col bk k1 (by omega))
theorem around_ok {t : List (List Int)} {i c : Nat} {b : Blk} (h : b ∈ aroundF t i c) : BlkOk t b ∧ b.1 ≤ c ∧ b.2.1 ≤ i ∧ i ≤ b.2.2 := by
  obtain ⟨m1, m2⟩ := List.mem_filter.mp h
  rw [Bool.and_eq_true, decide_eq_true_eq] at m2
  exact ⟨(blksF_ok m1).1, m2.1, (hasB_iff.mp m2.2).1, (hasB_iff.mp m2.2).2⟩
--MR
theorem p_bearers (C : Addr) : Rets (sp_bearers C) (T_bearers C) N_bearers := by
  rintro _ S Φ Ψ ⟨t, s, ks, g, l, i, c, rfl, ok, es, hi, hc, q⟩
  unfold T_bearers
  walk_at "dl"
  refine ⟨t, i, c, rfl, ok, hi, hc, small (by decide), t, i, c, rfl, ok, ⟨_, rfl⟩, ?_⟩
  have hl := blks_low t 0
  have h6 := ok.hi
  have ha : (aroundF t i c).length ≤ (blksF (tabsF t) 11).length := List.length_filter_le _ _
  refine for_l (ds := (aroundF t i c).map blkD) (fun k Γ S' => ∃ o5 o6, Γ = [some (tabD t), some s, some (.int i), some (.int c), some (.own S.length), o5, o6] ∧ S' = S ++ [.lst (((aroundF t i c).take k).map fun b => optN (bearB l t b))]) ⟨_, _, rfl, rfl⟩ (fun k Γ' S' hk hp => ?_) fun Γ' S' hp => ?_
  · obtain ⟨o5, o6, rfl, rfl⟩ := hp
    rw [List.length_map] at hk
    rw [List.getElem_map]
    have e : (aroundF t i c).take (k + 1) = (aroundF t i c).take k ++ [(aroundF t i c)[k]] := by rw [List.take_add_one, List.getElem?_eq_getElem hk]; rfl
    have hb := around_ok (List.getElem_mem hk)
    rw [e]
    generalize (aroundF t i c)[k] = b at hb ⊢
    walk_at "dl"
    refine ⟨_, t, b, rfl, tabS_l t, ok, hb.1, fun m m1 m2 => ?_⟩
    have em := great_eq ok hb.1 m1 m2
    subst em
    walk_at "dl"
    have fin : ∀ d, d = optN (bearB l t b) → ∃ xs, (S ++ [Cell.lst (((aroundF t i c).take k).map fun b => optN (bearB l t b))])[S.length]? = some (Cell.lst xs) ∧ xs.length < sizeLine ∧ ∃ o5 o6, [some (tabD t), some s, some (D.int (i : Int)), some (D.int (c : Int)), some (D.own S.length), some (blkD b), some (D.int (greatB t b))] = [some (tabD t), some s, some (D.int (i : Int)), some (D.int (c : Int)), some (D.own S.length), o5, o6] ∧
        List.set (S ++ [Cell.lst (((aroundF t i c).take k).map fun b => optN (bearB l t b))]) S.length (Cell.lst (xs ++ [d])) = S ++ [Cell.lst (((aroundF t i c).take k ++ [b]).map fun b => optN (bearB l t b))] := fun d hd => by
      refine ⟨_, get_at, under (by rw [List.length_map, List.length_take]; omega), _, _, rfl, ?_⟩
      rw [set_at, List.map_append, hd]
      rfl
    refine ⟨⟨_, asL_at' get_at⟩, ?_⟩
    rw [dJ_e]
    walk_at "dl"
    refine ⟨_, asI_app es, s, ks, g, l, rfl, asI_app es, ?_⟩
    walk_at "dl"
    by_cases z : greatB t b > l
    · rw [if_pos (by rw [decide_eq_true_eq]; omega)]
      refine ⟨t, b, _, rfl, ok, hb.1, ?_⟩
      obtain ⟨j, j1, j2, j3⟩ := m1
      have ej := cell_col hb.1 j1 j2
      rw [j3] at ej
      have ej : greatB t b = cellB t b j := Option.some.inj (Option.some.inj ej)
      have hj : j ∈ linesW t b (greatB t b) := List.mem_filter.mpr ⟨mem_linesB.mpr ⟨j1, by omega⟩, by rw [beq_iff_eq]; exact ej.symm⟩
      cases el : linesW t b (greatB t b) with
      | nil => rw [el] at hj; cases hj
      | cons k0 r =>
        show dIx (.lst _) _ _ _
        rw [dIx_l]
        refine ⟨.int (k0 : Nat), by rw [show (0 : Int) = ((0 : Nat) : Int) from rfl, at_nat]; rfl, fin _ ?_⟩
        unfold bearB
        rw [if_pos z, el]
        rfl
    · rw [if_neg (by rw [decide_eq_true_eq]; omega)]
      refine fin _ ?_
      unfold bearB
      rw [if_neg z]
      rfl
  · obtain ⟨o5, o6, rfl, rfl⟩ := hp
    walk_at "dl"
    rw [List.length_map, List.take_length]
    refine ⟨_, get_at, ?_⟩
    rw [set_at]
    exact ret_cut (by rw [D.low]; exact lowA_map _ _ (fun o => by cases bearB l t o <;> rfl) _) q
--MR
theorem p_bears_block (C : Addr) : Rets (sp_bears_block C) (T_bears_block C) N_bears_block := by
  rintro _ S Φ Ψ ⟨t, s, ks, g, l, b, rfl, ok, es, bk, q⟩
  unfold T_bears_block
  walk_at "dl"
  refine ⟨_, t, b, rfl, tabS_l t, ok, bk, fun m m1 m2 => ?_⟩
  have em := great_eq ok bk m1 m2
  subst em
  unfold bearB
  by_cases z : greatB t b > l
  · rw [if_pos z]
    obtain ⟨j, j1, j2, j3⟩ := m1
    have ej := cell_col bk j1 j2
    rw [j3] at ej
    have ej : greatB t b = cellB t b j := Option.some.inj (Option.some.inj ej)
    have hj : j ∈ linesW t b (greatB t b) := List.mem_filter.mpr ⟨mem_linesB.mpr ⟨j1, by omega⟩, by rw [beq_iff_eq]; exact ej.symm⟩
    cases el : linesW t b (greatB t b) with
    | nil => rw [el] at hj; cases hj
    | cons k0 r =>
      have hk0 : k0 ∈ linesW t b (greatB t b) := by rw [el]; exact List.mem_cons_self
      obtain ⟨k1, k2⟩ := mem_linesB.mp (List.mem_filter.mp hk0).1
      have le := bk.le
      show dIsN (.int (k0 : Nat)) .non _ _
      rw [show dIsN (.int (k0 : Nat)) D.non = fun S Φ => Φ S (.bl false) from rfl]
      refine ⟨_, rfl, ?_⟩
      rw [if_neg (by decide)]
      unfold blkD
      walk_at "dl"
      show sp_is_integer [.int (k0 : Nat), _, _] _ _ _
      refine ⟨(k0 : Int), _, _, rfl, _, rfl, ?_⟩
      rw [show inB (k0 : Int) (b.2.1 : Int) (b.2.2 : Int) = true by unfold inB; simp; omega, if_neg (by decide)]
      refine ⟨_, es, s, ks, g, l, rfl, es, ?_⟩
      walk_at "dl"
      rw [if_neg (by rw [decide_eq_true_eq]; omega)]
      refine ⟨t, b, _, rfl, ok, bk, ?_⟩
      rw [el]
      show dIn false (.int (k0 : Nat)) (.lst (natsD (k0 :: r))) S _
      have yes : inD (.int (k0 : Int)) (natsD (k0 :: r)) = true := by
        unfold inD natsD
        rw [List.any_eq_true]
        exact ⟨.int (k0 : Int), List.mem_cons_self, by show ((k0 : Int) == (k0 : Int)) = true; exact beq_self_eq_true _⟩
      refine ⟨_, rfl, rfl, List.all_eq_true.mpr fun x hx => ?_, ?_⟩
      · obtain ⟨n, _, rfl⟩ := List.mem_map.mp hx
        rfl
      rw [yes]
      exact ret_now q
  · rw [if_neg z]
    show dIsN .non .non _ _
    rw [show dIsN D.non D.non = fun S Φ => Φ S (.bl true) from rfl]
    refine ⟨_, rfl, ?_⟩
    rw [if_pos rfl]
    walk_at "dl"
    refine ⟨_, es, s, ks, g, l, rfl, es, ?_⟩
    walk_at "dl"
    rw [show decide (greatB t b ≤ l) = true by rw [decide_eq_true_eq]; omega]
    exact ret_now q
theorem p_ends (C : Addr) : Rets (sp_ends C) (T_ends C) N_ends := by
  rintro _ S Φ Ψ ⟨d, s, t, ks, g, l, rfl, tb, ok, es, lk, h⟩
  unfold T_ends
  walk_at "dl"
  exact ⟨d, t, rfl, tb, ok, by walk_at "dl"; exact ⟨d, s, t, ks, g, l, rfl, tb, ok, es, lk, ret_now h⟩⟩
--MR
theorem zip_both {α : Type} (f g : α → D) (xs : List α) : zipD (xs.map f) (xs.map g) = xs.map fun b => D.tup [f b, g b] := by
  unfold zipD
  induction xs with
  | nil => rfl
  | cons x xs ih =>
    rw [List.map_cons, List.map_cons, List.map_cons, List.zip_cons_cons, List.map_cons, ih]
theorem p_bears (C : Addr) : Rets (sp_bears C) (T_bears C) N_bears := by
  rintro _ S Φ Ψ ⟨t, s, ks, g, l, i, c, rfl, ok, es, hi, hc, q⟩
  unfold T_bears
  walk_at "dl"
  refine ⟨t, i, c, rfl, ok, hi, hc, t, i, c, rfl, ok, ?_⟩
  have hl := blks_low t 0
  have h6 := ok.hi
  have ha : (aroundF t i c).length ≤ (blksF (tabsF t) 11).length := List.length_filter_le _ _
  unfold blksD
  walk_at "dl"
  rw [List.length_map, List.length_map, dNe_i]
  refine ⟨_, rfl, ?_⟩
  rw [if_neg (by simp)]
  show lcP (fun _ => some (zipD ((aroundF t i c).map blkD) ((aroundF t i c).map fun b => optN (bearB l t b)))) _ _ _ _ _ _ _ _
  rw [zip_both]
  refine lc_map (aroundF t i c) (fun b => D.tup [blkD b, optN (bearB l t b)]) (fun _ => D.bl true) (small (by omega)) (fun b hb R hR => ?_) ?_
  · have ob := around_ok hb
    walk_at "dl"
    exact ⟨t, s, ks, g, l, b, rfl, ok, es, ob.1, hR⟩
  · refine all_map (aroundF t i c) (fun _ => true) ?_
    rw [show (aroundF t i c).all (fun _ => true) = true from List.all_eq_true.mpr fun _ _ => rfl]
    exact ret_now q
theorem p_Style_kinds (C : Addr) : Rets (sp_Style_kinds C) (T_Style_kinds C) N_Style_kinds := by
  rintro _ S Φ Ψ ⟨d, ks, g, l, rfl, ed, q⟩
  unfold T_Style_kinds
  walk_at "dl"
  refine ⟨_, ed, _, rfl, ?_⟩
  walk_at "dl"
  exact ret_now q
--MR
theorem fz_ret {S S2 : Sto} {h n : Nat} {ds : List D} {Φ : KD} (fs : Fs h n (S ++ [.lst ds]) S2) (hl : h < S.length) (low : ∀ n, lowA n ds = true) (q : ∀ S1, Fs h n S S1 → Φ S1 (.lst ds)) : ∃ ds', S2[S.length]? = some (.lst ds') ∧ RetOk S Φ (S2.set S.length .gone) (.lst ds') := by
  obtain ⟨el, fl⟩ := fs.last hl
  obtain ⟨S1', fs1, e1⟩ := (fl .gone).app hl
  refine ⟨_, el, ?_⟩
  rw [e1]
  exact ret_feed fs1 (by rw [D.low]; exact low _) (q _ fs1)
theorem at_p {ds : List D} {i : Int} {p : D → Prop} {Q : D → Prop} (h0 : 0 ≤ i) (h1 : i < ds.length) (hp : ∀ d ∈ ds, p d) (k : ∀ d, p d → Q d) : ∃ d, atI ds i = some d ∧ Q d := by
  obtain ⟨x, e, m⟩ := ix_all h0 h1
  exact ⟨x, e, k x (hp x m)⟩
theorem p__law_width : Rets sp__law_width T__law_width N__law_width := by
  rintro _ S Φ Ψ ⟨h, n, k, rfl, f, hn, hk0, hk1, q⟩
  unfold T__law_width
  walk_at "dl"
  have g30 : (10 : Int) ^ 30 = GREAT := by decide
  have g31 : (31 : Int) ≤ GREAT := by decide
  have g9 : (9 : Int) ≤ GREAT := by decide
  by_cases c : k < 3
  · rw [if_pos (by rw [decide_eq_true_eq]; exact c)]
    refine ⟨small, at_p (p := fun d => ∃ m : Int, d = .int m ∧ 0 < m ∧ m ≤ 31) hk0 (by exact c) (fun d hd => ?_) fun d ⟨m, ed, hm0, hm1⟩ => ?_⟩
    · simp only [List.mem_cons, List.not_mem_nil, or_false] at hd
      rcases hd with rfl | rfl | rfl
      · exact ⟨3, rfl, by decide, by decide⟩
      · exact ⟨8, rfl, by decide, by decide⟩
      · exact ⟨31, rfl, by decide, by decide⟩
    subst ed
    refine pick_at f hm0 fun S1 v f1 g1 hv0 hv1 => ?_
    exact ret_now (q _ v (f1.mono (by omega)) hv0 (by omega) fun _ => by omega)
  · rw [if_neg (by rw [decide_eq_true_eq]; exact c)]
    refine ⟨cpw (by decide) (by decide) (by decide), pick_at f (by decide) fun S1 v f1 g1 hv0 hv1 => ?_⟩
    refine ⟨cpw (by decide) (by decide) (by decide), ?_⟩
    walk_at "dl"
    refine ⟨cmr (by decide) (by decide), cpw (by decide) (by decide) (by decide), pick_at g1 (by decide) fun S2 u f2 g2 hu0 hu1 => ?_⟩
    have lo : 0 ≤ v * 10 ^ 15 + u := Int.add_nonneg (Int.mul_nonneg hv0 (by decide)) hu0
    have hi : v * 10 ^ 15 + u ≤ GREAT := by
      have : v * 10 ^ 15 ≤ (10 ^ 15 - 1) * 10 ^ 15 := Int.mul_le_mul_of_nonneg_right (by omega) (by decide)
      have e : ((10 : Int) ^ 15 - 1) * 10 ^ 15 + 10 ^ 15 ≤ GREAT := by decide
      omega
    walk_at "dl"
    refine ⟨cpw (by decide) (by decide) (by decide), cpw (by decide) (by decide) (by decide), pick_at g2 (by decide) fun S3 y f3 g3 hy0 hy1 => ?_⟩
    refine ⟨small, pick_at g3 (by decide) fun S4 z f4 g4 hz0 hz1 => ?_⟩
    refine dIx_p (p := fun d => ∃ w : Int, d = .int w ∧ 0 ≤ w ∧ w ≤ GREAT) hz0 (by exact hz1) (fun d hd => ?_) fun d ⟨w, ed, hw0, hw1⟩ => ?_
    · simp only [List.mem_cons, List.not_mem_nil, or_false] at hd
      rcases hd with rfl | rfl | rfl | rfl
      · exact ⟨_, rfl, lo, hi⟩
      · exact ⟨_, rfl, by decide, by decide⟩
      · exact ⟨_, rfl, by omega, by omega⟩
      · exact ⟨_, rfl, hy0, by omega⟩
    subst ed
    exact ret_now (q _ w ((((f1.trans f2).trans f3).trans f4).mono (by omega)) hw0 hw1 fun z => absurd z c)
theorem p__law_counts : Rets sp__law_counts T__law_counts N__law_counts := by
  rintro _ S Φ Ψ ⟨h, n, a, rfl, f, hn, ha, q⟩
  unfold T__law_counts
  walk_at "dl"
  refine pick_at f (by decide) fun S1 w f1 g1 hw0 hw1 => ?_
  refine ⟨small, pick_at g1.app (by decide) fun S2 x f2 g2 hx0 hx1 => ?_⟩
  walk_at "dl"
  refine ⟨by omega, by omega, ?_⟩
  have eL : S1.length = S.length := f1.len
  obtain ⟨S2', f2', e2⟩ := f2.app (T := [Cell.lst []]) (by rw [eL]; exact f.lt)
  have f0 := ((f1.trans f2').cell (.lst []) f.lt)
  rw [e2, eL]
  refine for_r0 (fun i Γ S' => ∃ (ls : List Int) (x : Int) (o1 o2 : Option D), Γ = [some (.own h), some (.int a), some (.int w), some (.own S.length), some (.int x), o1, o2] ∧ Fs h (n + 2 + 5 * i) (S ++ [.lst (ls.map D.int)]) S' ∧ ls.length = i ∧ (∀ y ∈ ls, 1 ≤ y ∧ y ≤ 12) ∧ 1 ≤ x ∧ x ≤ 12) ⟨[], 1 + x, _, _, rfl, f0, rfl, (fun y hy => nomatch hy), by omega, by omega⟩ (fun i Γ' S' hi hp => ?_) fun Γ' S' hp => ?_
  · obtain ⟨ls, x, o1, o2, rfl, fs, hl, hls, hx0, hx1⟩ := hp
    have lt : h < (S ++ [Cell.lst (ls.map D.int)]).length := by have := f.lt; rw [List.length_append]; omega
    walk_at "dl"
    have g3 := fs.at lt
    refine joinS (fun Γ Sx => ∃ x' : Int, Γ = [some (.own h), some (.int a), some (.int w), some (.own S.length), some (.int x'), some (.int i), o2] ∧ Fs h (n + 2 + 5 * i + 2) (S ++ [.lst (ls.map D.int)]) Sx ∧ 1 ≤ x' ∧ x' ≤ 12) (fun Γ' Sx hj => ?_) fun N hN => ?_
    · obtain ⟨x', rfl, fx, hx0', hx1'⟩ := hj
      walk_at "dl"
      refine pick_at (fx.at lt) (by decide) fun S5 u f5 g5 hu0 hu1 => ?_
      walk_at "dl"
      have hl5 : S5[S.length]? = some (.lst (ls.map D.int)) := f5.get (fx.get get_at (by have := f.lt; omega)) (by have := f.lt; omega)
      refine ⟨small, isLst_at hl5, small, ?_⟩
      refine pick_at g5 (by decide) fun S6 y f6 g6 hy0 hy1 => ?_
      walk_at "dl"
      have tail : ∀ z : Int, 1 ≤ z → z ≤ 12 → 1 ≤ sizeLine ∧ 6 ≤ sizeLine ∧ ∃ d, atI [D.int (1 + u), D.int x', D.int (if 1 + (i : Int) < 12 then 1 + (i : Int) else 12), D.int (if 12 - (i : Int) > 1 then 12 - (i : Int) else 1), D.int x', D.int z] w = some d ∧ ∃ xs, S6[S.length]? = some (Cell.lst xs) ∧ xs.length < sizeLine ∧ ∃ (ls : List Int) (x : Int) (o1 o2 : Option D), [some (D.own h), some (D.int (a : Int)), some (D.int w), some (D.own S.length), some (D.int x'), some (D.int (i : Int)), some (D.lst [D.int (1 + u), D.int x', D.int (if 1 + (i : Int) < 12 then 1 + (i : Int) else 12), D.int (if 12 - (i : Int) > 1 then 12 - (i : Int) else 1), D.int x'])] = [some (D.own h), some (D.int (a : Int)), some (D.int w), some (D.own S.length), some (D.int x), o1, o2] ∧ Fs h (n + 2 + 5 * (i + 1)) (S ++ [Cell.lst (List.map D.int ls)]) (List.set S6 S.length (Cell.lst (xs ++ [d]))) ∧ ls.length = i + 1 ∧ (∀ (y : Int), y ∈ ls → 1 ≤ y ∧ y ≤ 12) ∧ 1 ≤ x ∧ x ≤ 12 := fun z hz0 hz1 => by
        refine ⟨small, small, at_p (p := fun d => ∃ v : Int, d = .int v ∧ 1 ≤ v ∧ v ≤ 12) hw0 (by exact hw1) (fun d hd => ?_) fun d ⟨v, ed, hv0, hv1⟩ => ?_⟩
        · simp only [List.mem_cons, List.not_mem_nil, or_false] at hd
          rcases hd with rfl | rfl | rfl | rfl | rfl | rfl
          · exact ⟨_, rfl, by omega, by omega⟩
          · exact ⟨_, rfl, by omega, by omega⟩
          · exact ⟨_, rfl, by split <;> omega, by split <;> omega⟩
          · exact ⟨_, rfl, by split <;> omega, by split <;> omega⟩
          · exact ⟨_, rfl, by omega, by omega⟩
          · exact ⟨_, rfl, hz0, hz1⟩
        subst ed
        have ff : Fs h (n + 2 + 5 * (i + 1)) (S ++ [Cell.lst (List.map D.int ls)]) S6 := ((fx.trans f5).trans f6).mono (by omega)
        obtain ⟨el, fl⟩ := ff.last f.lt
        refine ⟨_, el, by rw [List.length_map, hl]; exact under (by omega), ls ++ [v], x', _, _, rfl, ?_, by rw [List.length_append, hl] <;> rfl, fun q hq => ?_, hx0', hx1'⟩
        · have := fl (.lst (ls.map D.int ++ [D.int v]))
          rw [List.map_append]
          exact this
        · rcases List.mem_append.mp hq with hq | hq
          · exact hls q hq
          · rw [List.mem_singleton.mp hq]; exact ⟨hv0, hv1⟩
      by_cases cy : (y == 0) = true
      · rw [if_pos cy]; exact ⟨_, rfl, tail 1 (by omega) (by omega)⟩
      · rw [if_neg cy]; exact ⟨_, rfl, tail x' hx0' hx1'⟩
    · walk_at "dl"
      have draw : ∀ k Sx, k ≤ n + 2 + 5 * i + 1 → Fs h k (S ++ [.lst (ls.map D.int)]) Sx → sp__law_pick [D.own h, D.int 12] Sx (fun S2 y => dAdd (D.int 1) y S2 fun S1 d => N [some (D.own h), some (D.int (a : Int)), some (D.int w), some (D.own S.length), some d, some (D.int (i : Int)), o2] S1) (ErOk S Ψ) := fun k Sx hk fx => by
        refine pick_at (fx.at lt) (by decide) fun S7 z f7 g7 hz0 hz1 => ?_
        walk_at "dl"
        exact hN _ _ ⟨_, rfl, (fx.trans f7).mono (by omega), by omega, by omega⟩
      have same : ∀ k Sx, k ≤ n + 2 + 5 * i + 1 → Fs h k (S ++ [.lst (ls.map D.int)]) Sx → N [some (D.own h), some (D.int (a : Int)), some (D.int w), some (D.own S.length), some (D.int x), some (D.int (i : Int)), o2] Sx := fun k Sx hk fx => hN _ _ ⟨x, rfl, fx.mono (by omega), hx0, hx1⟩
      by_cases c4 : (w == 4) = true
      · rw [if_pos c4]
        refine pick_at g3 (by decide) fun S7 z f7 g7 hz0 hz1 => ?_
        walk_at "dl"
        by_cases cz : (z == 0) = true
        · rw [if_pos cz]; exact draw _ _ (by omega) (fs.trans f7)
        · rw [if_neg cz]
          by_cases c5 : (w == 5) = true
          · rw [if_pos c5]; exact draw _ _ (by omega) (fs.trans f7)
          · rw [if_neg c5]; exact same _ _ (by omega) (fs.trans f7)
      · rw [if_neg c4]
        by_cases c5 : (w == 5) = true
        · rw [if_pos c5]; exact draw _ _ (by omega) fs
        · rw [if_neg c5]; exact same _ _ (by omega) fs
  · obtain ⟨ls, x, o1, o2, rfl, fs, hl, hls, hx0, hx1⟩ := hp
    walk_at "dl"
    obtain ⟨hl5, _⟩ := fs.last f.lt
    refine fz_ret fs f.lt (fun k => lowA_ints k ls) fun S3 f3 => q S3 ls (f3.mono (by omega)) hl hls
theorem width_at13 {S : Sto} {Φ : KD} {Ψ : KX} {h n : Nat} {k : Int} (f : FdAt S h n) (hk0 : 0 ≤ k) (hk1 : k < 4) (q : ∀ S' v, Fs h (n + 5) S S' → FdAt S' h (n + 5) → 0 ≤ v → v ≤ GREAT → (k < 3 → v ≤ 31) → Φ S' (.int v)) (hn : n < 2 ^ 55 := by omega) : sp__law_width [.own h, .int k] S Φ Ψ :=
  ⟨h, n, k, rfl, f, hn, hk0, hk1, fun S' v f' a b c => q S' v f' (f'.at f.lt) a b c⟩
theorem p__law_sheet : Rets sp__law_sheet T__law_sheet N__law_sheet := by
  rintro _ S Φ Ψ ⟨h, n, m, rfl, f, hn, hm1, hm2, q⟩
  unfold T__law_sheet
  walk_at "dl"
  refine pick_at f (by omega) fun S1 v f1 g1 hv0 hv1 => ?_
  walk_at "dl"
  refine pick_at g1 (by split <;> omega) (fun S2 v2 f2 g2 hv20 hv21 => ?_) (hm2 := by split <;> omega)
  have hv22 : v2 < 6 ∧ v2 < (m : Int) := by split at hv21 <;> omega
  walk_at "dl"
  refine ⟨small, pick_at g2 (by decide) fun S3 j f3 g3 hj0 hj1 => ?_⟩
  refine dIx_p (p := fun d => ∃ a : Nat, d = .int a ∧ 1 ≤ a ∧ a ≤ m) hj0 (by exact hj1) (fun d hd => ?_) fun d ⟨a, ed, ha0, ha1⟩ => ?_
  · simp only [List.mem_cons, List.not_mem_nil, or_false] at hd
    rcases hd with rfl | rfl
    · exact ⟨(1 + v).toNat, by rw [Int.toNat_of_nonneg (by omega)], by omega, by omega⟩
    · exact ⟨(1 + v2).toNat, by rw [Int.toNat_of_nonneg (by omega)], by omega, by omega⟩
  subst ed
  refine pick_at g3 (by decide) fun S4 k f4 g4 hk0 hk1 => ?_
  refine ⟨h, _, a, rfl, g4, by omega, by omega, fun S5 ls f5 hl hls => ?_⟩
  have hlt := f.lt
  have F5 : Fs h (n + 1010) S S5 := ((((f1.trans f2).trans f3).trans f4).trans f5).mono (by omega)
  refine ⟨⟨_, rfl⟩, lc_l (ds := ls.map D.int) (fun i acc S' => ∃ t : List (List Int), acc = t.map rowD ∧ Fs h (n + 1010 + 100 * i) S S' ∧ t.length = i ∧ ∀ r ∈ t, RowOk r ∧ ∀ x ∈ r, x ≤ LESS) (by rw [List.length_map]; exact small (by omega)) ⟨[], rfl, F5, rfl, fun x hx => (nomatch hx)⟩ (fun i acc S' hi hp => ?_) fun acc S' hp => ?_⟩
  · obtain ⟨t, rfl, F6, ht, hrow⟩ := hp
    rw [List.length_map] at hi
    rw [List.getElem_map]
    have hx := hls _ (List.getElem_mem hi)
    generalize ls[i] = x at hx ⊢
    obtain ⟨c, rfl⟩ : ∃ c : Nat, x = (c : Int) := ⟨x.toNat, by omega⟩
    walk_at "dl"
    refine ⟨by omega, by omega, ?_⟩
    refine lc_r0 (fun j acc S'' => ∃ r : List Int, acc = r.map D.int ∧ Fs h (n + 1010 + 100 * i + 5 * j) S S'' ∧ r.length = j ∧ ∀ x ∈ r, 0 ≤ x ∧ x ≤ LESS) (small (by omega)) ⟨[], rfl, F6, rfl, fun x hx => (nomatch hx)⟩ (fun j acc S'' hj hp => ?_) fun acc S'' hp => ?_
    · obtain ⟨r, rfl, f7, hr, hrx⟩ := hp
      walk_at "dl"
      refine width_at13 (f7.at hlt) hk0 hk1 fun S8 v f8 g8 hv0 hv1 hv2 => ?_
      have e28 : GREAT = LESS * 100 := by decide
      have e31 : (31 : Int) ≤ LESS := by decide
      have fin : ∀ x : Int, 0 < x → x ≤ 100 → 0 ≤ v / x → v / x ≤ LESS → dDiv (.int v) (.int x) S8 fun S4 y => ∃ r_1 : List Int, List.map D.int r ++ [y] = List.map D.int r_1 ∧ Fs h (n + 1010 + 100 * i + 5 * (j + 1)) S S4 ∧ r_1.length = j + 1 ∧ ∀ (x : Int), x ∈ r_1 → 0 ≤ x ∧ x ≤ LESS := fun x h0 h100 h1 h2 => by
        refine ⟨cdw h0 (by omega), r ++ [v / x], by rw [List.map_append]; rfl, (f7.trans f8).mono (by omega), by rw [List.length_append, hr] <;> rfl, fun y hy => ?_⟩
        rcases List.mem_append.mp hy with hy | hy
        · exact hrx y hy
        · rw [List.mem_singleton.mp hy]; exact ⟨h1, h2⟩
      by_cases k3 : k < 3
      · have := hv2 k3
        refine ⟨small, at_p (p := fun d => d = .int 1 ∨ d = .int 100) hk0 (by exact hk1) (fun d hd => by simp only [List.mem_cons, List.not_mem_nil, or_false] at hd; rcases hd with rfl | rfl | rfl | rfl <;> simp) fun d hd => ?_⟩
        rcases hd with rfl | rfl
        · exact fin 1 (by decide) (by decide) (by omega) (by omega)
        · exact fin 100 (by decide) (by decide) (by omega) (by omega)
      · have k3 : k = 3 := by omega
        subst k3
        exact ⟨small, _, rfl, fin 100 (by decide) (by decide) (by omega) (by omega)⟩
    · obtain ⟨r, rfl, f7, hr, hrx⟩ := hp
      walk_at "dl"
      refine ⟨t ++ [r], by rw [List.map_append]; rfl, f7.mono (by omega), by rw [List.length_append, ht] <;> rfl, fun x hx => ?_⟩
      rcases List.mem_append.mp hx with hx | hx
      · exact hrow x hx
      · rw [List.mem_singleton.mp hx]
        have e : LESS ≤ GREAT := by decide
        exact ⟨⟨by omega, by omega, fun y hy => ⟨(hrx y hy).1, by have := (hrx y hy).2; omega⟩⟩, fun y hy => (hrx y hy).2⟩
  · obtain ⟨t, rfl, F6, ht, hrow⟩ := hp
    rw [List.length_map] at ht F6
    walk_at "dl"
    exact ret_now (q _ t (F6.mono (by omega)) ⟨⟨by omega, by omega, fun r hr => (hrow r hr).1⟩, by omega, fun r hr => (hrow r hr).2⟩ (by omega))
--MR
theorem strOk_join : ∀ {ts : List Str}, (∀ t ∈ ts, PyData.strOk t = true) → PyData.strOk (Str.join ", " ts) = true
  | [], _ => strOk_lit (s := "")
  | [x], h => h x List.mem_cons_self
  | x :: y :: r, h => strOk_app (strOk_app (h x List.mem_cons_self) strOk_lit) (strOk_join fun t ht => h t (List.mem_cons_of_mem _ ht))
theorem piled_le {m : Nat} : ∀ {ts : List Str}, (∀ t ∈ ts, t.length ≤ m) → piled ts ≤ ts.length * (m + 2)
  | [], _ => Nat.zero_le _
  | x :: r, h => by
    have ih := piled_le (m := m) (ts := r) fun t ht => h t (List.mem_cons_of_mem _ ht)
    have h1 := h x List.mem_cons_self
    rw [List.length_cons, Nat.add_mul]
    rw [piled_cons]
    omega
theorem fit_tup {n m l : Nat} {ps : List PyData} (h : ∀ p ∈ ps, Fit n m p) (hl : ps.length ≤ l) : Fit (n + 1) (4 + l * (m + 2)) (.tuple ps) := by
  obtain ⟨a, b, c, d⟩ := fits_all h
  have e : (PyData.tuple ps).shown = tupleText (PyData.shownAll ps) := by
    rw [PyData.shown]
  refine ⟨by rw [PyData.canLay0]; exact a, by rw [PyData.showable]; exact b, by rw [PyData.hasDict]; exact c, by rw [PyData.depth]; omega, ?_, ?_⟩
  · rw [e]
    unfold tupleText
    refine strOk_app (strOk_app strOk_lit (strOk_join fun t ht => ?_)) strOk_lit
    obtain ⟨p, hp, rfl⟩ := shownAll_mem ht
    exact (h p hp).text
  · rw [e]
    have := piled_le (m := m) (ts := PyData.shownAll ps) fun t ht => by
      obtain ⟨p, hp, rfl⟩ := shownAll_mem ht
      exact (h p hp).len
    rw [shownAll_len] at this
    have h2 : ps.length * (m + 2) ≤ l * (m + 2) := Nat.mul_le_mul_right _ hl
    unfold tupleText
    rw [len_app, len_app, PySem.ofString_length, PySem.ofString_length]
    have h3 : (if (PyData.shownAll ps).length == 1 then ",)" else ")" : String).length ≤ 2 := by split <;> decide
    have h4 : (Str.join ", " (PyData.shownAll ps)).length ≤ piled (PyData.shownAll ps) := by
      by_cases c : PyData.shownAll ps = []
      · rw [c]; decide
      · have := join_length_add _ c
        omega
    have h5 : "(".length = 1 := rfl
    omega
theorem all0 {α : Type} {P : α → Prop} : ∀ y ∈ ([] : List α), P y := fun _ h => nomatch h
theorem allc {α : Type} {P : α → Prop} {a : α} {l : List α} (h : P a) (h2 : ∀ y ∈ l, P y) : ∀ y ∈ a :: l, P y := fun y hy => by
  rcases List.mem_cons.mp hy with e | e
  · rw [e]; exact h
  · exact h2 y e
def blkP (b : Blk) : PyData := .tuple [.int (b.1 : Int), .int (b.2.1 : Int), .int (b.2.2 : Int)]
theorem py_blk {S : Sto} (b : Blk) : PyR S (blkD b) (blkP b) := .tup (.cons (.int _) (.cons (.int _) (.cons (.int _) .nil)))
theorem py_blks {S : Sto} (X : List Blk) : PyR S (blksD X) (.list (X.map blkP)) := .lst (pyra_map (g := blkP) (fun x => py_blk x) X)
def smallB (b : Blk) : Prop := b.1 < 100 ∧ b.2.1 < 100 ∧ b.2.2 < 100
theorem fit_blkP {x : Blk} (h : smallB x) : Fit 1 (4 + 3 * (3 + 2)) (blkP x) := fit_tup (n := 0) (m := 3) (l := 3) (ps := [.int (x.1 : Int), .int (x.2.1 : Int), .int (x.2.2 : Int)]) (by
  have h1 := h.1
  have h2 := h.2.1
  have h3 := h.2.2
  exact allc (fit_int (k := 2) (by omega)) (allc (fit_int (k := 2) (by omega)) (allc (fit_int (k := 2) (by omega)) all0))) (Nat.le_refl 3)
theorem fit_blks {X : List Blk} (hX : ∀ x ∈ X, smallB x) (hl : X.length ≤ 1000) : Fit 2 (2 + 1000 * ((4 + 3 * (3 + 2)) + 2)) (.list (X.map blkP)) := fit_list (fun p hp => by
  obtain ⟨x, hx, rfl⟩ := List.mem_map.mp hp
  exact fit_blkP (hX x hx)) (by rw [List.length_map]; exact hl)
theorem eqv_blkP (x y : Blk) : PyData.eqv (blkP x) (blkP y) = decide (x = y) := by
  have e : PyData.eqv (blkP x) (blkP y) = (decide ((x.1 : Int) = (y.1 : Int)) && (decide ((x.2.1 : Int) = (y.2.1 : Int)) && decide ((x.2.2 : Int) = (y.2.2 : Int)))) := by
    simp [blkP, PyData.eqv, PyData.eqvAll]
    rfl
  rw [e, Bool.eq_iff_iff, Bool.and_eq_true, Bool.and_eq_true, decide_eq_true_eq, decide_eq_true_eq, decide_eq_true_eq, decide_eq_true_eq]
  constructor
  · rintro ⟨h1, h2, h3⟩
    exact Prod.ext (by omega) (Prod.ext (by omega) (by omega))
  · rintro rfl
    exact ⟨rfl, rfl, rfl⟩
theorem any_blkP {X : List Blk} {y : Blk} : (X.map blkP).any (fun z => PyData.eqv z (blkP y)) = decide (y ∈ X) := by
  rw [List.any_map, Bool.eq_iff_iff, List.any_eq_true, decide_eq_true_eq]
  constructor
  · rintro ⟨x, hx, h⟩
    have h : PyData.eqv (blkP x) (blkP y) = true := h
    rw [eqv_blkP, decide_eq_true_eq] at h
    exact h ▸ hx
  · intro h
    refine ⟨y, h, ?_⟩
    show PyData.eqv (blkP y) (blkP y) = true
    rw [eqv_blkP, decide_eq_true rfl]
theorem depth_blkP (x : Blk) : (blkP x).depth < 63 := by
  simp [blkP, PyData.depth, PyData.depthAll]
theorem notin_blks {S : Sto} {Φ : KD} {X : List Blk} {b : Blk} (hb : smallB b) (hX : ∀ x ∈ X, smallB x) (hl : X.length ≤ 1000) (h : Φ S (.bl (!decide (b ∈ X)))) : dNotInE (blkD b) (blksD X) S Φ :=
  ⟨blkP b, X.map blkP, py_blk b, py_blks X, (fit_blkP hb).shaped, (fit_blks hX hl).shaped, depth_blkP _, by rw [any_blkP]; exact h⟩
theorem ne_blk {S : Sto} {Φ : KD} {b : Blk} (hb : smallB b) (h : Φ S (.bl false)) : dNe (blkD b) (blkD b) S Φ :=
  ⟨blkP b, blkP b, py_blk b, py_blk b, (fit_blkP hb).shaped, (fit_blkP hb).shaped, by rw [eqv_blkP, decide_eq_true rfl]; exact h⟩
theorem small_blk {t : List (List Int)} (ok : TabOk t) {b : Blk} (h : b ∈ blksF (tabsF t) 11) : smallB b := by
  obtain ⟨bk, h1⟩ := blksF_ok h
  have := bk.le
  have := bk.lt
  have := ok.hi
  exact ⟨by omega, by omega, by omega⟩
theorem p_need_block (I : Addr) : Rets sp_need_block (T_need_block I) N_need_block := by
  rintro _ S Φ Ψ ⟨t, b, rfl, ok, hb, q⟩
  unfold T_need_block
  have hs := small_blk ok hb
  have hl := blks_low t 0
  have h6 := ok.hi
  unfold blkD
  walk_at "dl"
  have h1 := small_blk ok hb
  have h2 := (blksF_ok hb).1.lt
  have h3 := (blksF_ok hb).1.le
  have h4 := (blksF_ok hb).2
  rw [show [D.int (b.1 : Int), D.int (b.2.1 : Int), D.int (b.2.2 : Int)] = ([b.1, b.2.1, b.2.2] : List Nat).map (fun k : Nat => D.int (k : Int)) from rfl]
  refine lc_map [b.1, b.2.1, b.2.2] (fun k : Nat => D.int (k : Int)) (fun _ => D.bl true) (small (by show 3 ≤ 1000000; decide)) (fun k hk R hR => ?_) ?_
  · have hk : k ≤ t.length + 12 := by
      simp only [List.mem_cons, List.not_mem_nil, or_false] at hk
      rcases hk with rfl | rfl | rfl <;> omega
    walk_at "dl"
    refine ⟨(k : Int), _, _, rfl, ?_⟩
    rw [List.length_map, show inB (k : Int) 0 ((t.length : Int) + 12) = true by unfold inB; simp; omega]
    exact hR
  · rw [finF_e]
    refine all_map [b.1, b.2.1, b.2.2] (fun _ => true) ?_
    refine ⟨_, rfl, ?_⟩
    rw [if_neg (by simp)]
    refine ⟨tabD t, t, rfl, tabS_l t, ok, ?_⟩
    refine notin_blks hs (fun x hx => small_blk ok hx) (by omega) ?_
    rw [decide_eq_true hb]
    exact ⟨_, rfl, by rw [if_neg (by decide)]; exact ret_now q⟩
--MR
theorem great_is {t : List (List Int)} {b : Blk} (bk : BlkOk t b) {l : Int} (l0 : 0 ≤ l) : roomB l t b = max l (greatB t b) := by
  refine (bk.room l (Nat.le_refl _) bk.le).eq ⟨by omega, fun i v h1 h2 h3 => ?_, ?_⟩
  · rw [cell_col bk h1 h2] at h3
    have e : cellB t b i = v := Option.some.inj (Option.some.inj h3)
    have : cellB t b i ≤ greatB t b := le_maxP (List.mem_map.mpr ⟨i, mem_linesB.mpr ⟨h1, by have := bk.le; omega⟩, rfl⟩)
    omega
  · by_cases z : greatB t b ≤ l
    · left; omega
    · right
      have hn : maxOf ((linesB b).map (cellB t b)) = greatB t b := by
        show _ = max 0 _
        have : ¬ max 0 (maxOf ((linesB b).map (cellB t b))) ≤ l := z
        omega
      have hne : (linesB b).map (cellB t b) ≠ [] := by
        intro h
        rw [h] at hn
        have : (0 : Int) = greatB t b := hn
        omega
      obtain ⟨k, hk, e⟩ := List.mem_map.mp (maxOf_mem hne)
      obtain ⟨k1, k2⟩ := mem_linesB.mp hk
      have le := bk.le
      refine ⟨k, k1, by omega, ?_⟩
      rw [cell_col bk k1 (by omega), e, hn, Int.max_eq_right (by omega)]
theorem bear_some {t : List (List Int)} {b : Blk} {l : Int} {k : Nat} (bk : BlkOk t b) (h : bearB l t b = some k) : greatB t b > l ∧ b.2.1 ≤ k ∧ k ≤ b.2.2 ∧ cellB t b k = greatB t b ∧ ∀ j, b.2.1 ≤ j → j < k → cellB t b j < greatB t b := by
  unfold bearB at h
  by_cases z : greatB t b > l
  · rw [if_pos z] at h
    unfold linesW at h
    rw [List.head?_filter] at h
    obtain ⟨p, as, bs, e, hno⟩ := List.find?_eq_some_iff_append.mp h
    have hk : k ∈ linesB b := by rw [e]; simp
    obtain ⟨k1, k2⟩ := mem_linesB.mp hk
    have le := bk.le
    have asc : (linesB b).Pairwise (· < ·) := by
      unfold linesB
      rw [List.pairwise_map]
      exact List.pairwise_lt_range.imp fun h => by omega
    refine ⟨z, k1, by omega, by rw [beq_iff_eq] at p; exact p, fun j j1 j2 => ?_⟩
    have hj : j ∈ linesB b := mem_linesB.mpr ⟨j1, by omega⟩
    have hle : cellB t b j ≤ greatB t b := le_maxP (List.mem_map.mpr ⟨j, hj, rfl⟩)
    rw [e] at hj asc
    rw [List.pairwise_append] at asc
    rcases List.mem_append.mp hj with hj | hj
    · have := hno j hj
      have : ¬ cellB t b j = greatB t b := by simpa using this
      omega
    · rcases List.mem_cons.mp hj with hj | hj
      · omega
      · have := (List.pairwise_cons.mp asc.2.1).1 j hj
        omega
  · rw [if_neg z] at h
    cases h
theorem bear_none {t : List (List Int)} {b : Blk} {l : Int} (l0 : 0 ≤ l) (bk : BlkOk t b) (h : bearB l t b = none) : greatB t b ≤ l := by
  unfold bearB at h
  by_cases z : greatB t b > l
  · rw [if_pos z] at h
    exfalso
    rw [List.head?_eq_none_iff] at h
    have e := great_is bk l0
    obtain ⟨a1, a2, a3⟩ := bk.room l (Nat.le_refl _) bk.le
    have er : roomAt l (colOf t b.1) b.2.1 = greatB t b := by
      show roomB l t b = _
      rw [e, Int.max_eq_right (by omega)]
    rw [er] at a3
    rcases a3 with a3 | ⟨i, i1, i2, i3⟩
    · omega
    · rw [cell_col bk i1 i2] at i3
      have e3 : cellB t b i = greatB t b := Option.some.inj (Option.some.inj i3)
      have : i ∈ linesW t b (greatB t b) := List.mem_filter.mpr ⟨mem_linesB.mpr ⟨i1, by omega⟩, by rw [beq_iff_eq]; exact e3⟩
      rw [h] at this
      cases this
  · omega
theorem around_line {t : List (List Int)} {b : Blk} (bk : BlkOk t b) {k : Nat} (h1 : b.2.1 ≤ k) (h2 : k ≤ b.2.2) : aroundF t k b.1 = aroundF t b.2.1 b.1 := by
  unfold aroundF
  refine List.filter_congr fun o ho => ?_
  by_cases c : o.1 ≤ b.1
  · have ok := (blksF_ok ho).1
    have a1 := inside_line ok bk c h1 h2
    have a2 := inside_line ok bk c (Nat.le_refl _) bk.le
    congr 1
    rw [Bool.eq_iff_iff, hasB_iff, hasB_iff, ← a1, ← a2]
  · rw [decide_eq_false c]
    rfl
theorem filter_range_le (c : Nat) : ∀ n, c < n → (List.range n).filter (fun d => decide (d ≤ c)) = List.range (c + 1)
  | 0, h => absurd h (Nat.not_lt_zero _)
  | n + 1, h => by
    rw [List.range_succ, List.filter_append]
    by_cases e : c = n
    · subst e
      rw [List.filter_eq_self.mpr fun d hd => by have := List.mem_range.mp hd; simp; omega]
      rw [List.filter_cons_of_pos (by simp), List.filter_nil, ← List.range_succ]
    · rw [filter_range_le c n (by omega), List.filter_cons_of_neg (by simp; omega), List.filter_nil, List.append_nil]
theorem around_cols {t : List (List Int)} {i c : Nat} (hi : i < t.length) (hc : c < tabAt t i) (h11 : tabAt t i ≤ 11) : (aroundF t i c).map (·.1) = List.range (c + 1) := by
  have e : aroundF t i c = ((blksF (tabsF t) 11).filter (hasB i)).filter fun b => decide (b.1 ≤ c) := by
    unfold aroundF
    rw [List.filter_filter]
  rw [e, ← filter_range_le c _ hc, ← blks_cols hi h11, List.filter_map]
  rfl
theorem around_last {t : List (List Int)} {b : Blk} (ok : TabOk t) (bk : BlkOk t b) : (aroundF t b.2.1 b.1).length = b.1 + 1 ∧ (aroundF t b.2.1 b.1)[b.1]? = some b := by
  have le := bk.le
  have lt := bk.lt
  have hi : b.2.1 < t.length := by omega
  have h11 : tabAt t b.2.1 ≤ 11 := by
    have := (ok.row _ (List.getElem_mem hi)).hi
    unfold tabAt
    rw [tab_at hi]
    omega
  have e := around_cols hi (has_tab (bk.at_ _ (Nat.le_refl _) le)) h11
  have el : (aroundF t b.2.1 b.1).length = b.1 + 1 := by
    have := congrArg List.length e
    rwa [List.length_map, List.length_range] at this
  refine ⟨el, ?_⟩
  rw [List.getElem?_eq_getElem (by omega)]
  congr 1
  have hm := List.getElem_mem (l := aroundF t b.2.1 b.1) (n := b.1) (by omega)
  have ec : ((aroundF t b.2.1 b.1)[b.1]'(by omega)).1 = b.1 := by
    have := congrArg (fun l => l[b.1]?) e
    simp only [List.getElem?_map] at this
    rw [List.getElem?_eq_getElem (by omega), List.getElem?_range (by omega)] at this
    exact Option.some.inj this
  generalize (aroundF t b.2.1 b.1)[b.1]'(by omega) = o at hm ec
  obtain ⟨m1, m2⟩ := List.mem_filter.mp hm
  rw [Bool.and_eq_true, decide_eq_true_eq] at m2
  obtain ⟨p1, p2⟩ := hasB_iff.mp m2.2
  exact (blksF_ok m1).1.uniq bk ec p1 p2 (Nat.le_refl _) le
theorem blockAt_is {t : List (List Int)} {b : Blk} {k c : Nat} (bk : BlkOk t b) (h1 : b.2.1 ≤ k) (h2 : k ≤ b.2.2) (hc : c = b.1) (h11 : c < 11) : blockAt t k c = some b := by
  subst hc
  have lt := bk.lt
  obtain ⟨o, e, ok, ec, o1, o2⟩ := blockAt_one (show k < t.length by omega) (has_tab (bk.at_ k h1 h2)) h11
  rw [e, ok.uniq bk ec o1 o2 h1 h2]
/-- the block around a block, and where it begins -/
theorem parent_is {t : List (List Int)} {b : Blk} (bk : BlkOk t b) (hb : 0 < b.1) (h11 : b.1 < 11) : ∃ p, blockAt t b.2.1 (b.1 - 1) = some p ∧ BlkOk t p ∧ p.2.1 < t.length ∧ p.1 = b.1 - 1 ∧ ∀ g l, bF g l t b.1 p.2.1 = bF g l t b.1 b.2.1 := by
  have le := bk.le
  have lt := bk.lt
  have ht := has_tab (bk.at_ _ (Nat.le_refl _) le)
  obtain ⟨p, e, pk, ec, p1, p2⟩ := blockAt_one (t := t) (i := b.2.1) (c := b.1 - 1) (by omega) (by omega) (by omega)
  have l2 := pk.le
  refine ⟨p, e, pk, by omega, ec, fun g l => ?_⟩
  have a := bF_block (g := g) (l := l) pk (Nat.le_refl _) l2
  have a2 := bF_block (g := g) (l := l) pk p1 p2
  rw [show p.1 + 1 = b.1 by omega] at a a2
  rw [a, a2]
theorem mem_cut {α : Type} {xs : List α} {lo hi : Option Int} {x : α} (h : x ∈ cutD xs lo hi) : x ∈ xs := List.mem_of_mem_drop (List.mem_of_mem_take h)
theorem cut_len {α : Type} {xs : List α} {lo hi : Option Int} : (cutD xs lo hi).length ≤ xs.length := by
  unfold cutD
  rw [List.length_take, List.length_drop]
  omega
theorem stops_ix {g l : Int} {t : List (List Int)} {k : Nat} (hk : k < t.length) : atI ((stopsF g l t).map rowD) (k : Int) = some (rowD (rowStops g l t k)) := by
  rw [at_nat, List.getElem?_map]
  unfold stopsF
  rw [List.getElem?_map, List.getElem?_range hk]
  rfl
theorem row_ix {g l : Int} {t : List (List Int)} {k c : Nat} (hc : c < tabAt t k) : ((rowStops g l t k).map D.int)[c]? = some (.int (bF g l t (c + 1) k)) := by
  rw [List.getElem?_map, row_get hc]
  rfl
theorem tab_ix {t : List (List Int)} {k : Nat} (hk : k < t.length) : atI (t.map rowD) (k : Int) = some (rowD (t.getD k [])) := by
  rw [at_nat, List.getElem?_map, List.getElem?_eq_getElem hk, tab_at hk]
  rfl
theorem cell_ix {t : List (List Int)} {b : Blk} (bk : BlkOk t b) {k : Nat} (h1 : b.2.1 ≤ k) (h2 : k ≤ b.2.2) : ((t.getD k []).map D.int)[b.1]? = some (.int (cellB t b k)) := by
  obtain ⟨v, e1, e2⟩ := colOf_some (bk.at_ k h1 h2)
  rw [List.getElem?_map, e2]
  unfold cellB
  rw [List.getD_eq_getElem?_getD, e2]
  rfl
theorem ne_nil0 {S : Sto} {Φ : KD} (h : Φ S (.bl false)) : dNe (.lst []) (.lst []) S Φ := ⟨_, _, .lst .nil, .lst .nil, by decide, by decide, h⟩
theorem p__law_stops_right (C : Addr) : Rets (sp__law_stops_right C) (T__law_stops_right C) N__law_stops_right := by
  rintro _ S Φ Ψ ⟨h, n, t, ks, g, l, rfl, f, hn, ok, lk, hg, hl, q⟩
  unfold T__law_stops_right
  walk_at "dl"
  refine ⟨tabD t, _, t, ks, g, l, rfl, tabS_l t, ok.ok, rfl, ?_⟩
  walk_at "dl"
  refine ⟨t, rfl, ok.ok, ?_⟩
  have hl := blks_low t 0
  have h6 := ok.hi
  unfold blksD
  walk_at "dl"
  refine ⟨Nat.zero_le _, dNe_nil (py_blks _) (fit_blks (fun x hx => small_blk ok.ok hx) (by omega)) (by decide) ?_⟩
  walk_at "dl"
  have hlt := f.lt
  have hc0 : (blksF (tabsF t) 11).length = 0 → (if (!decide (List.map blkP (blksF (tabsF t) 11) = [])) = true then (1 : Int) else 0) = 0 := fun z => by
    rw [List.length_eq_zero_iff.mp z]
    rfl
  have hc1 : 0 ≤ (if (!decide (List.map blkP (blksF (tabsF t) 11) = [])) = true then (1 : Int) else 0) ∧ (if (!decide (List.map blkP (blksF (tabsF t) 11) = [])) = true then (1 : Int) else 0) ≤ 1 := by split <;> decide
  generalize (if (!decide (List.map blkP (blksF (tabsF t) 11) = [])) = true then (1 : Int) else 0) = c at hc0 hc1 ⊢
  refine ⟨cml (by decide) (by omega), by omega, by omega, ?_⟩
  refine lc_rg (fun i acc S' => ∃ bs : List Blk, acc = bs.map blkD ∧ (∀ b ∈ bs, b ∈ blksF (tabsF t) 11) ∧ bs.length = i ∧ Fs h (n + i) S S') (small (by omega)) ⟨[], rfl, fun x hx => (nomatch hx), rfl, Fs.refl f⟩ (fun i acc S' hi hp => ?_) fun acc S' hp => ?_
  · obtain ⟨bs, rfl, hbs, hlen, fs⟩ := hp
    have h0 : 0 < (blksF (tabsF t) 11).length := by
      rcases Nat.eq_zero_or_pos (blksF (tabsF t) 11).length with z | z
      · have := hc0 z
        omega
      · exact z
    have hi4 : i < 4 := by omega
    walk_at "dl"
    rw [List.length_map]
    refine pick_at (fs.at hlt) (by omega) fun S2 v f2 g2 v0 v1 => ?_
    rw [dIx_l]
    obtain ⟨k, rfl⟩ : ∃ k : Nat, v = (k : Int) := ⟨v.toNat, by omega⟩
    rw [at_nat]
    have hk : k < (blksF (tabsF t) 11).length := by omega
    refine ⟨blkD (blksF (tabsF t) 11)[k], by rw [List.getElem?_map, List.getElem?_eq_getElem hk]; rfl, bs ++ [(blksF (tabsF t) 11)[k]], by rw [List.map_append]; rfl, fun b hb => ?_, by rw [List.length_append, hlen] <;> rfl, (fs.trans f2).mono (by omega)⟩
    rcases List.mem_append.mp hb with hb | hb
    · exact hbs b hb
    · rw [List.mem_singleton.mp hb]; exact List.getElem_mem hk
  · obtain ⟨bs, rfl, hbs, hlen, fs⟩ := hp
    have hb4 : bs.length ≤ 4 := by omega
    have fs : Fs h (n + 4) S S' := fs.mono (by omega)
    walk_at "dl"
    have hc := cut_len (xs := List.map blkD (blksF (tabsF t) 11)) (lo := none) (hi := some 6)
    rw [List.length_map] at hc
    refine ⟨small (by rw [List.length_map]; omega), ?_⟩
    have all : ∀ d ∈ cutD (List.map blkD (blksF (tabsF t) 11)) none (some 6) ++ List.map blkD bs, ∃ b ∈ blksF (tabsF t) 11, d = blkD b := fun d hd => by
      rcases List.mem_append.mp hd with hd | hd
      · obtain ⟨b, hb, e⟩ := List.mem_map.mp (mem_cut hd)
        exact ⟨b, hb, e.symm⟩
      · obtain ⟨b, hb, e⟩ := List.mem_map.mp hd
        exact ⟨b, hbs b hb, e.symm⟩
    generalize cutD (List.map blkD (blksF (tabsF t) 11)) none (some 6) ++ List.map blkD bs = ds at all
    generalize D.lst (List.map blkD (blksF (tabsF t) 11)) = bd
    refine for_l (ds := ds) (fun k Γ X => X = S' ∧ ∃ o5 o6 o7 o8 o9 o10 o11 o12 o13, Γ = [some (.own h), some (tabD t), some (.ins C (styF ks g l)), some (tabD (stopsF g l t)), some bd, o5, o6, o7, o8, o9, o10, o11, o12, o13, none, none, none]) ⟨rfl, _, _, _, _, _, _, _, _, _, rfl⟩ (fun k Γ' X hk hp => ?_) fun Γ' X hp => ?_
    · obtain ⟨rfl, o5, o6, o7, o8, o9, o10, o11, o12, o13, rfl⟩ := hp
      obtain ⟨b, hb, e⟩ := all _ (List.getElem_mem hk)
      rw [e]
      obtain ⟨bk, h11⟩ := blksF_ok hb
      have le := bk.le
      have lt := bk.lt
      have ht := has_tab (bk.at_ _ (Nat.le_refl _) le)
      unfold blkD
      walk_at "dl"
      refine ⟨t, b, rfl, ok.ok, hb, ?_⟩
      have al := around_last ok.ok bk
      have eL : atI (List.map (fun b => optN (bearB l t b)) (aroundF t b.2.1 b.1)) (-1) = some (optN (bearB l t b)) := by
        rw [at_neg1 (by rw [List.length_map]; omega), List.length_map, al.1, Nat.add_sub_cancel, List.getElem?_map, al.2]
        rfl
      have er := great_is bk lk.l0
      refine joinD (fun Y d => Y = X ∧ d = .int (bF g l t b.1 b.2.1)) (fun Y d hJ => ?_) (fun Φ' hΦ => ?_)
      rotate_left
      · walk_at "dl"
        by_cases z : b.1 = 0
        · rw [if_pos z, show dIsN D.non D.non = fun S Φ => Φ S (.bl true) from rfl]
          refine ⟨_, rfl, ?_⟩
          rw [if_pos rfl]
          exact hΦ _ _ ⟨rfl, by rw [z, bF_zero]⟩
        · obtain ⟨p, e, pk, pl, ep, hbF⟩ := parent_is bk (by omega) h11
          rw [if_neg z, e]
          have pt := has_tab (pk.at_ _ (Nat.le_refl _) pk.le)
          show dIsN (blkD p) .non X _
          rw [show dIsN (blkD p) D.non = fun S Φ => Φ S (.bl false) from rfl]
          refine ⟨_, rfl, ?_⟩
          rw [if_neg (by decide)]
          show dIx (blkD p) _ _ _
          unfold blkD
          walk_at "dl"
          refine ⟨_, stops_ix pl, ?_⟩
          unfold rowD
          walk_at "dl"
          rw [show ((b.1 : Int) - 1) = ((b.1 - 1 : Nat) : Int) by omega, at_nat]
          refine ⟨_, row_ix (by omega), ?_⟩
          rw [show b.1 - 1 + 1 = b.1 by omega, hbF]
          exact hΦ _ _ ⟨rfl, rfl⟩
      obtain ⟨eY, rfl⟩ := hJ
      rw [eY]
      clear eY Y
      refine ⟨t, _, ks, g, l, b.2.1, b.1, rfl, ok.ok, rfl, by omega, ht, ?_⟩
      refine joinD (fun Y d => Y = X ∧ d = .int (roomB l t b)) (fun Y d hJ => ?_) (fun Φ' hΦ => ?_)
      rotate_left
      · walk_at "dl"
        refine ⟨_, eL, ?_⟩
        cases eb : bearB l t b with
        | none =>
          have := bear_none lk.l0 bk eb
          show dIsN .non .non _ _
          rw [show dIsN D.non D.non = fun S Φ => Φ S (.bl true) from rfl]
          refine ⟨_, rfl, ?_⟩
          rw [if_pos rfl]
          refine ⟨_, rfl, _, ks, g, l, rfl, rfl, hΦ _ _ ⟨rfl, ?_⟩⟩
          rw [er, Int.max_eq_left this]
        | some k0 =>
          obtain ⟨b1, b2, b3, b4, b5⟩ := bear_some bk eb
          show dIsN (.int (k0 : Nat)) .non _ _
          rw [show dIsN (.int (k0 : Nat)) D.non = fun S Φ => Φ S (.bl false) from rfl]
          refine ⟨_, rfl, ?_⟩
          rw [if_neg (by decide)]
          refine ⟨_, eL, ?_⟩
          rw [eb]
          show dIx (tabD t) (.int (k0 : Nat)) _ _
          unfold tabD
          walk_at "dl"
          refine ⟨_, tab_ix (by omega), ?_⟩
          unfold rowD
          walk_at "dl"
          rw [at_nat]
          refine ⟨_, cell_ix bk b2 b3, hΦ _ _ ⟨rfl, ?_⟩⟩
          rw [er, b4, Int.max_eq_right (by omega)]
      obtain ⟨eY, rfl⟩ := hJ
      rw [eY]
      clear eY Y
      refine ⟨⟨by omega, by omega, by omega, by omega⟩, ?_⟩
      refine lc_rg (fun i acc Y => Y = X ∧ acc = []) (small (by omega)) ⟨rfl, rfl⟩ (fun i acc Y hi hp => ?_) fun acc Y hp => ?_
      · obtain ⟨eY, rfl⟩ := hp
        rw [eY]
        clear eY Y
        walk_at "dl"
        rw [show ((b.2.1 : Int) + (i : Int)) = ((b.2.1 + i : Nat) : Int) by omega]
        refine ⟨_, stops_ix (by omega), ?_⟩
        unfold rowD
        walk_at "dl"
        rw [at_nat]
        refine ⟨_, row_ix (has_tab (bk.at_ _ (by omega) (by omega))), _, rfl, _, ks, g, l, rfl, rfl, ?_⟩
        walk_at "dl"
        rw [bF_block bk (by omega) (by omega), if_neg (by simp; omega)]
        trivial
      · obtain ⟨eY, rfl⟩ := hp
        rw [eY]
        clear eY Y
        rw [finF_e]
        refine ⟨Nat.zero_le _, ne_nil0 ⟨_, rfl, ?_⟩⟩
        rw [if_neg (by decide)]
        refine ⟨⟨by omega, by omega, by omega, by omega⟩, ?_⟩
        have cle : ∀ k, b.2.1 ≤ k → k ≤ b.2.2 → cellB t b k ≤ greatB t b := fun k k1 k2 => le_maxP (List.mem_map.mpr ⟨k, mem_linesB.mpr ⟨k1, by omega⟩, rfl⟩)
        refine lc_rg (fun i acc Y => Y = X ∧ acc = []) (small (by omega)) ⟨rfl, rfl⟩ (fun i acc Y hi hp => ?_) fun acc Y hp => ?_
        · obtain ⟨eY, rfl⟩ := hp
          rw [eY]
          clear eY Y
          walk_at "dl"
          rw [show ((b.2.1 : Int) + (i : Int)) = ((b.2.1 + i : Nat) : Int) by omega]
          refine ⟨_, tab_ix (by omega), ?_⟩
          unfold rowD
          walk_at "dl"
          rw [at_nat]
          refine ⟨_, cell_ix bk (by omega) (by omega), ?_⟩
          have := cle (b.2.1 + i) (by omega) (by omega)
          walk_at "dl"
          rw [if_neg (by rw [decide_eq_true_eq]; omega)]
          refine ⟨t, b.2.1 + i, b.1, rfl, ok.ok, by omega, ?_⟩
          rw [blockAt_is bk (by omega) (by omega) rfl h11]
          refine ne_blk (small_blk ok.ok hb) ⟨_, rfl, ?_⟩
          rw [if_neg (by decide)]
        · obtain ⟨eY, rfl⟩ := hp
          rw [eY]
          clear eY Y
          rw [finF_e]
          refine ⟨Nat.zero_le _, ne_nil0 ⟨_, rfl, ?_⟩⟩
          rw [if_neg (by decide)]
          refine ⟨_, rfl, _, ks, g, l, rfl, rfl, ?_⟩
          walk_at "dl"
          rw [if_neg (by rw [decide_eq_true_eq]; omega)]
          refine ⟨t, _, ks, g, l, b.2.2, b.1, by rw [around_line bk le (Nat.le_refl _)], ok.ok, rfl, by omega, has_tab (bk.at_ _ le (Nat.le_refl _)), ?_⟩
          refine ⟨_, rfl, ?_⟩
          rw [if_neg (by decide)]
          refine joinD (fun Y d => Y = X ∧ ∃ rows : List (List Int), d = .lst (rows.map rowD) ∧ rows.length ≤ 60 ∧ ∀ r ∈ rows, ∃ v, r[b.1]? = some v ∧ v < roomB l t b) (fun Y d hJ => ?_) (fun Φ' hΦ => ?_)
          rotate_left
          · walk_at "dl"
            refine ⟨_, eL, ?_⟩
            cases eb : bearB l t b with
            | none =>
              show dIsN .non .non _ _
              rw [show dIsN D.non D.non = fun S Φ => Φ S (.bl true) from rfl]
              refine ⟨_, rfl, ?_⟩
              rw [if_pos rfl]
              exact ⟨Nat.zero_le _, hΦ _ _ ⟨rfl, [], rfl, Nat.zero_le _, fun r hr => nomatch hr⟩⟩
            | some k0 =>
              obtain ⟨b1, b2, b3, b4, b5⟩ := bear_some bk eb
              show dIsN (.int (k0 : Nat)) .non _ _
              rw [show dIsN (.int (k0 : Nat)) D.non = fun S Φ => Φ S (.bl false) from rfl]
              refine ⟨_, rfl, ?_⟩
              rw [if_neg (by decide)]
              refine ⟨_, eL, ?_⟩
              rw [eb]
              unfold optN
              walk_at "dl"
              rw [cut_mid b2 (by rw [List.length_map]; omega), ← List.map_drop, ← List.map_take]
              refine hΦ _ _ ⟨rfl, _, rfl, by rw [List.length_take, List.length_drop]; omega, fun r hr => ?_⟩
              obtain ⟨j, hj, ej⟩ := List.getElem_of_mem hr
              rw [List.length_take, List.length_drop] at hj
              rw [List.getElem_take, List.getElem_drop] at ej
              have e1 := cell_col bk (k := b.2.1 + j) (by omega) (by omega)
              obtain ⟨v, c1, c2⟩ := colOf_some (bk.at_ (b.2.1 + j) (by omega) (by omega))
              rw [c1] at e1
              have ev : v = cellB t b (b.2.1 + j) := Option.some.inj (Option.some.inj e1)
              rw [tab_at (by omega), ej] at c2
              have := b5 (b.2.1 + j) (by omega) (by omega)
              exact ⟨v, c2, by omega⟩
          · obtain ⟨eY, rows, rfl, hr60, hrv⟩ := hJ
            rw [eY]
            clear eY Y
            refine ⟨⟨_, rfl⟩, ?_⟩
            refine lc_l (ds := rows.map rowD) (fun i acc Y => Y = X ∧ acc = []) (by rw [List.length_map]; exact small (by omega)) ⟨rfl, rfl⟩ (fun i acc Y hi hp => ?_) fun acc Y hp => ?_
            · obtain ⟨eY, rfl⟩ := hp
              rw [eY]
              clear eY Y
              rw [List.length_map] at hi
              rw [List.getElem_map]
              obtain ⟨v, e1, e2⟩ := hrv _ (List.getElem_mem hi)
              generalize rows[i] = r at e1
              unfold rowD
              walk_at "dl"
              rw [at_nat]
              refine ⟨.int v, by rw [List.getElem?_map, e1]; rfl, ?_⟩
              walk_at "dl"
              rw [if_neg (by rw [decide_eq_true_eq]; omega)]
              trivial
            · obtain ⟨eY, rfl⟩ := hp
              rw [eY]
              clear eY Y
              rw [finF_e]
              refine ⟨Nat.zero_le _, ne_nil0 ⟨_, rfl, ?_⟩⟩
              rw [if_neg (by decide)]
              exact ⟨rfl, _, _, _, _, _, _, _, _, _, rfl⟩
    · obtain ⟨rfl, o5, o6, o7, o8, o9, o10, o11, o12, o13, rfl⟩ := hp
      walk_at "dl"
      rw [← List.append_nil X]
      exact ret_feed fs rfl (q _ (fs.mono (by omega)))
--MR
theorem runM_scale {f : Int} (f1 : 1 ≤ f) (l : Int) : ∀ xs : List (Option Int), runM (l * f) (xs.map (Option.map (· * f))) = runM l xs * f
  | [] => rfl
  | none :: _ => rfl
  | some v :: xs => by
    have ih := runM_scale f1 l xs
    show max (v * f) (runM (l * f) (xs.map (Option.map (· * f)))) = max v (runM l xs) * f
    rw [ih]
    rcases Int.le_total v (runM l xs) with c | c
    · have := Int.mul_le_mul_of_nonneg_right c (show 0 ≤ f by omega)
      rw [Int.max_eq_right this, Int.max_eq_right c]
    · have := Int.mul_le_mul_of_nonneg_right c (show 0 ≤ f by omega)
      rw [Int.max_eq_left this, Int.max_eq_left c]
theorem roomAt_scale {f : Int} (f1 : 1 ≤ f) (l : Int) (xs : List (Option Int)) (i : Nat) : roomAt (l * f) (xs.map (Option.map (· * f))) i = roomAt l xs i * f := by
  unfold roomAt
  rw [← List.map_drop, ← List.map_take, ← List.map_reverse, runM_scale f1, runM_scale f1]
  rcases Int.le_total (runM l (xs.drop i)) (runM l (xs.take i).reverse) with c | c
  · have := Int.mul_le_mul_of_nonneg_right c (show 0 ≤ f by omega)
    rw [Int.max_eq_right this, Int.max_eq_right c]
  · have := Int.mul_le_mul_of_nonneg_right c (show 0 ≤ f by omega)
    rw [Int.max_eq_left this, Int.max_eq_left c]
theorem endS0_gap (g m : Int) : ∀ xs : List Int, endS0 (g + m) xs = endS0 g xs + m * (xs.length : Int)
  | [] => by unfold endS0; simp
  | x :: xs => by
    have ih := endS0_gap g m xs
    unfold endS0 at ih ⊢
    rw [List.map_cons, List.sum_cons, ih, List.map_cons, List.sum_cons, List.length_cons, Int.natCast_add, Int.mul_add]
    omega
theorem rowStops_at {g l : Int} {t : List (List Int)} {k d : Nat} : (rowStops g l t k)[d]? = if d < tabAt t k then some (bF g l t (d + 1) k) else none := by
  by_cases h : d < tabAt t k
  · rw [if_pos h, row_get h]
  · rw [if_neg h, List.getElem?_eq_none (by rw [rowStops_len]; unfold tabAt at h; omega)]
theorem bF_gap {g m l : Int} {t : List (List Int)} {k d : Nat} (h : d ≤ tabAt t k) : bF (g + m) l t d k = bF g l t d k + m * (d : Int) := by
  unfold bF
  rw [endS0_gap, List.length_take, rooms_len, Nat.min_eq_left h]
theorem gap_row (g m l : Int) (t : List (List Int)) (k : Nat) : rowStops (g + m) l t k = (rowStops g l t k).mapIdx fun d x => x + m * ((d : Int) + 1) := by
  apply List.ext_getElem?
  intro d
  rw [List.getElem?_mapIdx, rowStops_at, rowStops_at]
  by_cases h : d < tabAt t k
  · rw [if_pos h, if_pos h, bF_gap (by omega), Option.map_some]
    rfl
  · rw [if_neg h, if_neg h]
    rfl
theorem gap_stops (g m l : Int) (t : List (List Int)) : stopsF (g + m) l t = (stopsF g l t).map fun r => r.mapIdx fun d x => x + m * ((d : Int) + 1) := by
  unfold stopsF
  rw [List.map_map]
  exact List.map_congr_left fun k _ => gap_row g m l t k
def manyF (f : Int) (t : List (List Int)) : List (List Int) := t.map fun r => r.map (· * f)
theorem many_len (f : Int) (t : List (List Int)) : (manyF f t).length = t.length := by unfold manyF; rw [List.length_map]
theorem many_row (f : Int) (t : List (List Int)) (i : Nat) : (manyF f t).getD i [] = (t.getD i []).map (· * f) := by
  unfold manyF
  rw [List.getD_eq_getElem?_getD, List.getElem?_map, List.getD_eq_getElem?_getD]
  cases t[i]? <;> rfl
theorem many_col (f : Int) (t : List (List Int)) (c : Nat) : colOf (manyF f t) c = (colOf t c).map (Option.map (· * f)) := by
  unfold colOf manyF
  rw [List.map_map, List.map_map]
  refine List.map_congr_left fun r _ => ?_
  show (if c + 1 < (r.map (· * f)).length then (r.map (· * f))[c]? else none) = Option.map (· * f) (if c + 1 < r.length then r[c]? else none)
  rw [List.length_map]
  by_cases h : c + 1 < r.length
  · rw [if_pos h, if_pos h, List.getElem?_map]
  · rw [if_neg h, if_neg h]
    rfl
theorem many_rooms {f : Int} (f1 : 1 ≤ f) (l : Int) (t : List (List Int)) (k : Nat) : roomsOf (l * f) (manyF f t) k = (roomsOf l t k).map (· * f) := by
  unfold roomsOf
  rw [many_row, List.length_map, List.map_map]
  refine List.map_congr_left fun c _ => ?_
  rw [many_col, roomAt_scale f1]
  rfl
theorem stops_mul (g f : Int) : ∀ (xs : List Int) (s : Int), stopsFrom (g * f) (s * f) (xs.map (· * f)) = (stopsFrom g s xs).map (· * f)
  | [], _ => rfl
  | x :: xs, s => by
    show (s * f + (x * f + g * f)) :: stopsFrom (g * f) (s * f + (x * f + g * f)) (xs.map (· * f)) = (s + (x + g)) * f :: (stopsFrom g (s + (x + g)) xs).map (· * f)
    rw [← stops_mul g f xs, Int.add_mul, Int.add_mul]
theorem many_stops {f : Int} (f1 : 1 ≤ f) (g l : Int) (t : List (List Int)) : stopsF (g * f) (l * f) (manyF f t) = manyF f (stopsF g l t) := by
  unfold stopsF manyF
  rw [List.map_map, List.length_map]
  refine List.map_congr_left fun k _ => ?_
  show rowStops (g * f) (l * f) (manyF f t) k = (rowStops g l t k).map (· * f)
  unfold rowStops
  rw [many_rooms f1, ← stops_mul, Int.zero_mul]
theorem getLastD_mul (f : Int) : ∀ (r : List Int), (r.map (· * f)).getLastD 0 = r.getLastD 0 * f
  | [] => by show (0 : Int) = 0 * f; omega
  | [x] => rfl
  | x :: y :: r => by
    rw [List.map_cons, List.getLastD_cons, List.getLastD_cons]
    have := getLastD_mul f (y :: r)
    rw [List.map_cons, List.getLastD_cons, List.getLastD_cons] at this
    rw [List.map_cons, List.getLastD_cons, List.getLastD_cons, this]
theorem many_ends {f : Int} (f1 : 1 ≤ f) (g l : Int) (t : List (List Int)) : endsF (g * f) (l * f) (manyF f t) = (endsF g l t).map (· * f) := by
  unfold endsF
  rw [List.map_map, many_len]
  refine List.map_congr_left fun k _ => ?_
  show rowEnd _ _ _ _ = rowEnd g l t k * f
  unfold rowEnd rowStops
  have e : stopsFrom (g * f) 0 ((roomsOf l t k).map (· * f)) = (stopsFrom g 0 (roomsOf l t k)).map (· * f) := by rw [← stops_mul, Int.zero_mul]
  rw [many_rooms f1, many_row, getLastD_mul, e, getLastD_mul, Int.add_mul]
theorem maxOf_mul {f : Int} (f1 : 1 ≤ f) {xs : List Int} (hn : xs ≠ []) : maxOf (xs.map (· * f)) = maxOf xs * f := by
  symm
  refine maxOf_eq (List.mem_map.mpr ⟨_, maxOf_mem hn, rfl⟩) fun y hy => ?_
  obtain ⟨x, hx, rfl⟩ := List.mem_map.mp hy
  exact Int.mul_le_mul_of_nonneg_right (maxOf_le x hx) (by omega)
theorem many_width {f : Int} (f1 : 1 ≤ f) {g l : Int} {t : List (List Int)} (hn : 1 ≤ t.length) : widthF (g * f) (l * f) (manyF f t) = widthF g l t * f := by
  unfold widthF
  rw [many_ends f1, maxOf_mul f1]
  intro e
  have := ends_len g l t
  rw [e] at this
  simp at this
  omega
theorem ends_turned (g l : Int) (t : List (List Int)) : endsF g l t.reverse = (endsF g l t).reverse := by
  apply List.ext_getElem?
  intro j
  by_cases h : j < t.length
  · rw [List.getElem?_reverse (by rw [ends_len]; exact h), ends_len]
    unfold endsF
    rw [List.getElem?_map, List.getElem?_map, List.length_reverse, List.getElem?_range h, List.getElem?_range (by omega), Option.map_some, Option.map_some]
    have := rowEnd_rev (g := g) (l := l) (t := t) (j := t.length - 1 - j) (by omega)
    rw [show t.length - 1 - (t.length - 1 - j) = j by omega] at this
    rw [this]
  · rw [List.getElem?_eq_none (by rw [ends_len, List.length_reverse]; omega), List.getElem?_eq_none (by rw [List.length_reverse, ends_len]; omega)]
theorem ends_at {g l : Int} {t : List (List Int)} {j : Nat} (h : j < t.length) : (endsF g l t)[j]? = some (rowEnd g l t j) := by
  unfold endsF
  rw [List.getElem?_map, List.getElem?_range h]
  rfl
theorem part_ends {g l : Int} {t : List (List Int)} {a k j : Nat} {x y : Int} (h1 : (endsF g l ((t.drop a).take k))[j]? = some x) (h2 : ((endsF g l t).drop a)[j]? = some y) : x ≤ y := by
  have hj : j < ((t.drop a).take k).length := by
    have := (List.getElem?_eq_some_iff.mp h1).1
    rwa [ends_len] at this
  rw [List.length_take, List.length_drop] at hj
  rw [ends_at (by rw [List.length_take, List.length_drop]; omega)] at h1
  rw [List.getElem?_drop, ends_at (by omega)] at h2
  cases h1
  cases h2
  exact rowEnd_mono (by omega)
theorem stack_ends {g l : Int} (t u : List (List Int)) {j : Nat} {x y : Int} (h1 : (endsF g l t ++ endsF g l u)[j]? = some x) (h2 : (endsF g l (t ++ u))[j]? = some y) : x ≤ y := by
  by_cases h : j < t.length
  · rw [List.getElem?_append_left (by rw [ends_len]; exact h)] at h1
    have e : ((t ++ u).drop 0).take t.length = t := by simp
    exact part_ends (t := t ++ u) (a := 0) (k := t.length) (by rw [e]; exact h1) (by rw [List.drop_zero]; exact h2)
  · rw [List.getElem?_append_right (by rw [ends_len]; omega), ends_len] at h1
    have e : ((t ++ u).drop t.length).take u.length = u := by simp
    exact part_ends (t := t ++ u) (a := t.length) (k := u.length) (by rw [e]; exact h1) (by rw [List.getElem?_drop, show t.length + (j - t.length) = j by omega]; exact h2)
def risesF (p : Nat → Bool) : Nat → Nat
  | 0 => 0
  | k + 1 => risesF p k + if p k && !(decide (0 < k) && p (k - 1)) then 1 else 0
theorem runs_count (p : Nat → Bool) : ∀ k, (colRuns p k).1.length + (if 0 < k ∧ p (k - 1) = true then 1 else 0) = risesF p k ∧ ((colRuns p k).2.isSome = (decide (0 < k) && p (k - 1)))
  | 0 => ⟨rfl, rfl⟩
  | k + 1 => by
    obtain ⟨a, b⟩ := runs_count p k
    unfold colRuns risesF
    rw [Nat.add_sub_cancel]
    by_cases c : p k = true
    · rw [if_pos c, if_pos ⟨by omega, c⟩]
      refine ⟨?_, by rw [c]; simp⟩
      show (colRuns p k).1.length + 1 = _
      rw [c, ← a, Bool.true_and]
      by_cases z : 0 < k ∧ p (k - 1) = true
      · rw [if_pos z, z.2, decide_eq_true z.1]
        rfl
      · rw [if_neg z]
        have : (decide (0 < k) && p (k - 1)) = false := by
          rw [Bool.eq_false_iff]
          intro h
          rw [Bool.and_eq_true, decide_eq_true_eq] at h
          exact z h
        rw [this]
        rfl
    · rw [if_neg c]
      have c' : p k = false := by simpa using c
      rw [if_neg (fun h => c h.2), c', Bool.false_and]
      show _ ∧ _
      cases o : (colRuns p k).2 with
      | none =>
        rw [o] at b
        have : ¬ (0 < k ∧ p (k - 1) = true) := fun h => by
          rw [h.2, decide_eq_true h.1] at b
          cases b
        rw [if_neg this] at a
        exact ⟨by show (colRuns p k).1.length + 0 = _; simpa using a, by simp⟩
      | some f =>
        rw [o] at b
        have : 0 < k ∧ p (k - 1) = true := by
          have b : true = _ := b
          rw [eq_comm, Bool.and_eq_true, decide_eq_true_eq] at b
          exact b
        rw [if_pos this] at a
        refine ⟨?_, by simp⟩
        show ((colRuns p k).1 ++ [(f, k - 1)]).length + 0 = _
        rw [List.length_append]
        simpa using a
/-- lines at which a run of tabs begins, in a list that begins behind a line with so many tabs -/
def risU (c : Nat) : Nat → List Nat → Nat
  | _, [] => 0
  | q, x :: xs => (if c < x ∧ q ≤ c then 1 else 0) + risU c x xs
theorem rises_snoc (c : Nat) : ∀ (xs : List Nat) (q y : Nat), risU c q (xs ++ [y]) = risU c q xs + if c < y ∧ (xs.getLastD q) ≤ c then 1 else 0
  | [], q, y => by
    show (if c < y ∧ q ≤ c then 1 else 0) + 0 = 0 + if c < y ∧ q ≤ c then 1 else 0
    omega
  | x :: xs, q, y => by
    show _ + risU c x (xs ++ [y]) = _ + risU c x xs + _
    rw [rises_snoc c xs x y, List.getLastD_cons]
    omega
theorem rises_take (ns : List Nat) (c : Nat) : ∀ k, k ≤ ns.length → risesF (hasT ns c) k = risU c 0 (ns.take k)
  | 0, _ => rfl
  | k + 1, h => by
    unfold risesF
    rw [rises_take ns c k (by omega), List.take_add_one, List.getElem?_eq_getElem (by omega), Option.toList_some, rises_snoc]
    congr 1
    have e1 : hasT ns c k = decide (c < ns[k]) := by
      unfold hasT
      rw [List.getD_eq_getElem?_getD, List.getElem?_eq_getElem (by omega)]
      rfl
    have e2 : (decide (0 < k) && hasT ns c (k - 1)) = decide (c < (ns.take k).getLastD 0) := by
      by_cases z : 0 < k
      · have hk : k - 1 < ns.length := by omega
        rw [decide_eq_true z, Bool.true_and]
        unfold hasT
        have hl : (ns.take k).length = k := by rw [List.length_take]; omega
        have e3 : (ns.take k).getLastD 0 = ns.getD (k - 1) 0 := by
          rw [List.getLastD_eq_getLast?, List.getLast?_eq_getElem?, hl, List.getElem?_take, if_pos (by omega), List.getD_eq_getElem?_getD]
        rw [e3]
      · have : k = 0 := by omega
        subst this
        rfl
    rw [e1, e2]
    generalize (ns.take k).getLastD 0 = q
    generalize ns[k] = x
    by_cases z1 : c < x <;> by_cases z2 : c < q
    · rw [decide_eq_true z1, decide_eq_true z2]; symm; exact if_neg fun h => by have := h.2; omega
    · rw [decide_eq_true z1, decide_eq_false z2]; symm; exact if_pos ⟨z1, by omega⟩
    · rw [decide_eq_false z1]; symm; exact if_neg fun h => z1 h.1
    · rw [decide_eq_false z1]; symm; exact if_neg fun h => z1 h.1
theorem col_count (ns : List Nat) (c : Nat) : (colBlks ns c).length = risU c 0 ns := by
  unfold colBlks
  rw [List.length_map]
  have a := (runs_count (hasT ns c) (ns.length + 1)).1
  have hf : hasT ns c ns.length = false := by
    unfold hasT
    rw [List.getD_eq_getElem?_getD, List.getElem?_eq_none (Nat.le_refl _)]
    simp
  rw [Nat.add_sub_cancel, if_neg (by rw [hf]; simp)] at a
  have e : risesF (hasT ns c) (ns.length + 1) = risesF (hasT ns c) ns.length := by
    conv => lhs; unfold risesF
    rw [hf]
    rfl
  rw [e, rises_take ns c _ (Nat.le_refl _), List.take_length] at a
  exact a
theorem risU_app (c : Nat) : ∀ (xs ys : List Nat) (q : Nat), risU c q (xs ++ ys) = risU c q xs + risU c (xs.getLastD q) ys
  | [], ys, q => by show risU c q ys = 0 + risU c q ys; omega
  | x :: xs, ys, q => by
    show _ + risU c x (xs ++ ys) = _ + risU c x xs + _
    rw [risU_app c xs ys x, List.getLastD_cons]
    omega
theorem risU_head (c q y : Nat) (ys : List Nat) : risU c q (y :: ys) + (if c < min q y then 1 else 0) = risU c 0 (y :: ys) := by
  show (if c < y ∧ q ≤ c then 1 else 0) + risU c y ys + _ = (if c < y ∧ 0 ≤ c then 1 else 0) + risU c y ys
  by_cases z1 : c < y <;> by_cases z2 : q ≤ c
  · rw [if_pos ⟨z1, z2⟩, if_neg (by omega), if_pos ⟨z1, Nat.zero_le _⟩]; omega
  · rw [if_neg (fun h => z2 h.2), if_pos (by omega), if_pos ⟨z1, Nat.zero_le _⟩]; omega
  · rw [if_neg (fun h => z1 h.1), if_neg (by omega), if_neg (fun h => z1 h.1)]; omega
  · rw [if_neg (fun h => z1 h.1), if_neg (by omega), if_neg (fun h => z1 h.1)]; omega
theorem sum_lt_range (m : Nat) : ∀ n, ((List.range n).map fun c => if c < m then 1 else 0).sum = min m n
  | 0 => by simp
  | n + 1 => by
    rw [List.range_succ, List.map_append, List.sum_append, sum_lt_range m n, List.map_cons, List.map_nil, List.sum_cons, List.sum_nil]
    by_cases h : n < m
    · rw [if_pos h]; omega
    · rw [if_neg h]; omega
theorem sum_plus (f g : Nat → Nat) : ∀ xs : List Nat, (xs.map fun c => f c + g c).sum = (xs.map f).sum + (xs.map g).sum
  | [] => rfl
  | x :: xs => by
    rw [List.map_cons, List.sum_cons, sum_plus f g xs, List.map_cons, List.map_cons, List.sum_cons, List.sum_cons]
    omega
theorem blks_count (xs : List Nat) {y : Nat} (ys : List Nat) (m : Nat) : (blksF (xs ++ y :: ys) m).length + min (min (xs.getLastD 0) y) m = (blksF xs m).length + (blksF (y :: ys) m).length := by
  have e : ∀ ns, (blksF ns m).length = ((List.range m).map fun c => risU c 0 ns).sum := fun ns => by
    unfold blksF
    rw [List.length_flatMap]
    congr 1
    exact List.map_congr_left fun c _ => col_count ns c
  rw [e, e, e, ← sum_lt_range, ← sum_plus, ← sum_plus]
  congr 1
  refine List.map_congr_left fun c _ => ?_
  rw [risU_app, ← risU_head c (xs.getLastD 0) y ys]
  omega
theorem shaped_ints (xs : List Int) : SeqAt.shaped (.list (xs.map PyData.int)) = true := by
  have h1 : ∀ xs : List Int, PyData.canLayAll0 (xs.map PyData.int) = true := fun xs => by
    induction xs with
    | nil => rw [List.map_nil, PyData.canLayAll0]
    | cons x xs ih => rw [List.map_cons, PyData.canLayAll0, PyData.canLay0, ih]; rfl
  have h2 : ∀ xs : List Int, PyData.depthAll (xs.map PyData.int) = 0 := fun xs => by
    induction xs with
    | nil => rw [List.map_nil, PyData.depthAll]
    | cons x xs ih => rw [List.map_cons, PyData.depthAll, PyData.depth, ih]; rfl
  unfold SeqAt.shaped
  rw [PyData.canLay0, h1, PyData.depth, h2]
  simp
theorem ints_same {xs : List Int} : (SeqAt.shaped (.list (xs.map PyData.int)) = true) ∧ PyData.eqv (.list (xs.map PyData.int)) (.list (xs.map PyData.int)) = true := by
  have h1 : ∀ xs : List Int, PyData.canLayAll0 (xs.map PyData.int) = true := fun xs => by
    induction xs with
    | nil => rw [List.map_nil, PyData.canLayAll0]
    | cons x xs ih => rw [List.map_cons, PyData.canLayAll0, PyData.canLay0, ih]; rfl
  exact ⟨shaped_ints xs, SeqAt.eqv_refl _ (by rw [PyData.canLay0, h1])⟩
theorem ne_ints_same {S : Sto} {Φ : KD} {x y : D} {xs : List Int} (e1 : asL S x = some (xs.map D.int)) (e2 : asL S y = some (xs.map D.int)) (h : Φ S (.bl false)) : dNe x y S Φ := by
  have pr : ∀ x : D, asL S x = some (xs.map D.int) → PyR S x (.list (xs.map PyData.int)) := fun x e => by
    rcases asL_cases e with rfl | ⟨n, rfl, e'⟩
    · exact .lst (pyra_map PyR.int xs)
    · exact .own e' (pyra_map PyR.int xs)
  exact ⟨_, _, pr x e1, pr y e2, ints_same.1, ints_same.1, by rw [ints_same.2]; exact h⟩
theorem eq_ints_same {S : Sto} {Φ : KD} {x y : D} {xs : List Int} (e1 : asL S x = some (xs.map D.int)) (e2 : asL S y = some (xs.map D.int)) (h : Φ S (.bl true)) : dEq x y S Φ := by
  have pr : ∀ x : D, asL S x = some (xs.map D.int) → PyR S x (.list (xs.map PyData.int)) := fun x e => by
    rcases asL_cases e with rfl | ⟨n, rfl, e'⟩
    · exact .lst (pyra_map PyR.int xs)
    · exact .own e' (pyra_map PyR.int xs)
  exact ⟨_, _, pr x e1, pr y e2, ints_same.1, ints_same.1, by rw [ints_same.2]; exact h⟩
theorem shaped_tab (t : List (List Int)) : SeqAt.shaped (tabP t) = true ∧ PyData.eqv (tabP t) (tabP t) = true := by
  have i1 : ∀ xs : List Int, PyData.canLayAll0 (xs.map PyData.int) = true := fun xs => by
    induction xs with
    | nil => rw [List.map_nil, PyData.canLayAll0]
    | cons x xs ih => rw [List.map_cons, PyData.canLayAll0, PyData.canLay0, ih]; rfl
  have i2 : ∀ xs : List Int, PyData.depthAll (xs.map PyData.int) = 0 := fun xs => by
    induction xs with
    | nil => rw [List.map_nil, PyData.depthAll]
    | cons x xs ih => rw [List.map_cons, PyData.depthAll, PyData.depth, ih]; rfl
  have h1 : ∀ t : List (List Int), PyData.canLayAll0 (t.map rowP) = true := fun t => by
    induction t with
    | nil => rw [List.map_nil, PyData.canLayAll0]
    | cons x xs ih => rw [List.map_cons, PyData.canLayAll0, show rowP x = .list (x.map PyData.int) from rfl, PyData.canLay0, i1, ih]; rfl
  have h2 : ∀ t : List (List Int), PyData.depthAll (t.map rowP) ≤ 1 := fun t => by
    induction t with
    | nil => rw [List.map_nil, PyData.depthAll]; omega
    | cons x xs ih => rw [List.map_cons, PyData.depthAll, show rowP x = .list (x.map PyData.int) from rfl, PyData.depth, i2]; omega
  have c : (tabP t).canLay0 = true := by rw [show tabP t = .list (t.map rowP) from rfl, PyData.canLay0, h1]
  refine ⟨?_, SeqAt.eqv_refl _ c⟩
  unfold SeqAt.shaped
  rw [c, show tabP t = .list (t.map rowP) from rfl, PyData.depth]
  have := h2 t
  rw [Bool.and_eq_true, decide_eq_true_eq]
  exact ⟨rfl, by omega⟩
theorem ne_tabs {S : Sto} {Φ : KD} {x y : D} {t : List (List Int)} (e1 : TabS S x t) (e2 : TabS S y t) (h : Φ S (.bl false)) : dNe x y S Φ :=
  ⟨_, _, e1.pyr, e2.pyr, (shaped_tab t).1, (shaped_tab t).1, by rw [(shaped_tab t).2]; exact h⟩
theorem eq_tabs {S : Sto} {Φ : KD} {x y : D} {t : List (List Int)} (e1 : TabS S x t) (e2 : TabS S y t) (h : Φ S (.bl true)) : dEq x y S Φ :=
  ⟨_, _, e1.pyr, e2.pyr, (shaped_tab t).1, (shaped_tab t).1, by rw [(shaped_tab t).2]; exact h⟩
theorem lc_enum {G : TGd} {Te : TD} {vs : List Nat} {Fin : List D → Sto → KD → Prop} {Γ : Gam} {S : Sto} {Φ : KD} (r : List Int) (F : Nat → Int → Int) (hl : r.length ≤ sizeLine) (hs : ∀ i (hi : i < r.length) (R : KD), R S (.int (F i r[i])) → G (.tup [.int (i : Int), .int r[i]]) (gwipe Γ vs) S fun Γ2 S2 => Te Γ2 S2 R (fun _ _ => False)) (hd : Fin ((r.mapIdx F).map D.int) S Φ) : lcP (fun _ => Option.map enumD (some (r.map D.int))) G bYes Te vs Fin Γ S Φ := by
  show lcP (fun _ => some (enumD (r.map D.int))) G bYes Te vs Fin Γ S Φ
  refine lc_l (fun i acc S' => S' = S ∧ acc = ((r.mapIdx F).map D.int).take i) (by rw [en_len]; exact hl) ⟨rfl, by simp⟩ (fun i acc S' hi hp => ?_) fun acc S' hp => ?_
  · obtain ⟨rfl, rfl⟩ := hp
    rw [en_len] at hi
    rw [en_get r D.int hi]
    refine hs i hi _ ⟨rfl, ?_⟩
    have hi3 : i < ((r.mapIdx F).map D.int).length := by rw [List.length_map, List.length_mapIdx]; exact hi
    rw [List.take_add_one, List.getElem?_eq_getElem hi3, List.getElem_map, List.getElem_mapIdx]
    rfl
  · obtain ⟨rfl, rfl⟩ := hp
    rw [en_len, List.take_of_length_le (by rw [List.length_map, List.length_mapIdx]; exact Nat.le_refl _)]
    exact hd
theorem p__law_other_styles_right (C : Addr) : Rets (sp__law_other_styles_right C) (T__law_other_styles_right C) N__law_other_styles_right := by
  rintro _ S Φ Ψ ⟨h, n, t, ks, g, l, rfl, f, hn, ok, lk, hg, hl, q⟩
  unfold T__law_other_styles_right
  walk_at "dl"
  refine ⟨tabD t, _, t, ks, g, l, rfl, tabS_l t, ok.ok, rfl, ?_⟩
  walk_at "dl"
  have hlt := f.lt
  refine pick_at f (by decide) fun S1 m f1' g1 m0 m1 => ?_
  walk_at "dl"
  have hgm : LookOk ks (g + (1 + m)) l := ⟨lk.lo, lk.hi, lk.at_, by have := lk.g0; omega, by show g + (1 + m) ≤ 1000000000000000000000000000000; omega, lk.l0, lk.l1⟩
  refine ⟨small (by decide), _, rfl, _, ks, g, l, rfl, rfl, ?_⟩
  refine ⟨_, rfl, _, ks, g, l, rfl, rfl, ?_⟩
  walk_at "dl"
  refine ⟨_, rfl, _, ks, g, l, rfl, rfl, ?_⟩
  refine ⟨ks, g + (1 + m), l, rfl, hgm, ?_⟩
  walk_at "dl"
  refine ⟨C, _, get_at, ?_⟩
  rw [set_at]
  refine ⟨tabD t, _, t, ks, g + (1 + m), l, rfl, tabS_l t, ok.ok, rfl, ?_⟩
  have rowlen : ∀ r ∈ stopsF g l t, r.length ≤ 12 := fun r hr => by
    unfold stopsF at hr
    obtain ⟨k, hk, rfl⟩ := List.mem_map.mp hr
    have hk := List.mem_range.mp hk
    rw [rowStops_len, tab_at hk]
    have := (ok.ok.row _ (List.getElem_mem hk)).hi
    omega
  have tl : (stopsF g l t).length = t.length := by unfold stopsF; rw [List.length_map, List.length_range]
  have h6 := ok.hi
  refine lc_map (stopsF g l t) rowD (fun r => rowD (r.mapIdx fun d x => x + (1 + m) * ((d : Int) + 1))) (small (by omega)) (fun r hr R hR => ?_) ?_
  · have hl12 := rowlen r hr
    unfold rowD
    walk_at "dl"
    refine lc_enum r (fun d x => x + (1 + m) * ((d : Int) + 1)) (small (by omega)) (fun i hi R2 hR2 => ?_) ?_
    · walk_at "dl"
      exact ⟨cml (by omega) (by omega), hR2⟩
    · rw [finF_e]
      exact hR
  · rw [finF_e]
    have e : tabD (stopsF (g + (1 + m)) l t) = .lst (List.map (fun r => rowD (List.mapIdx (fun d x => x + (1 + m) * ((d : Int) + 1)) r)) (stopsF g l t)) := by
      rw [gap_stops]
      unfold tabD
      rw [List.map_map]
      rfl
    rw [← e]
    refine ne_tabs (tabS_l _) (tabS_l _) ⟨_, rfl, ?_⟩
    rw [if_neg (by decide)]
    walk_at "dl"
    have f1 : 1 ≤ 1 + m := by omega
    have hk : LookOk [Str.ofString "center"] (g * (1 + m)) (l * (1 + m)) := by
      have e1 : g * (1 + m) ≤ 31 * 9 := Int.mul_le_mul (by omega) (by omega) (by omega) (by omega)
      have e2 : l * (1 + m) ≤ 31 * 9 := Int.mul_le_mul (by omega) (by omega) (by omega) (by omega)
      have e3 : (31 * 9 : Int) ≤ GREAT := by decide
      exact ⟨Nat.le_refl 1, by show 1 ≤ 12; decide, fun x hx => by rw [List.mem_singleton.mp hx]; decide, Int.mul_nonneg lk.g0 (by omega), by omega, Int.mul_nonneg lk.l0 (by omega), by omega⟩
    have okm : TabOk (manyF (1 + m) t) := by
      have e28 : GREAT = LESS * 100 := by decide
      have el : (0 : Int) ≤ LESS := by decide
      refine ⟨by rw [many_len]; exact ok.ok.lo, by rw [many_len]; exact ok.ok.hi, fun r hr => ?_⟩
      unfold manyF at hr
      obtain ⟨r0, h0, rfl⟩ := List.mem_map.mp hr
      have k := ok.ok.row r0 h0
      refine ⟨by rw [List.length_map]; exact k.lo, by rw [List.length_map]; exact k.hi, fun x hx => ?_⟩
      obtain ⟨y, hy, rfl⟩ := List.mem_map.mp hx
      have y1 := (k.at_ y hy).1
      have y2 := ok.cell r0 h0 y hy
      have : y * (1 + m) ≤ LESS * 9 := Int.mul_le_mul y2 (by omega) (by omega) (by omega)
      exact ⟨Int.mul_nonneg y1 (by omega), by omega⟩
    have rowl : ∀ r ∈ t, r.length ≤ 12 := fun r hr => (ok.ok.row r hr).hi
    refine ⟨small (by decide), _, rfl, _, ks, g, l, rfl, rfl, ?_⟩
    walk_at "dl"
    refine ⟨cmr (by omega) (by omega), _, rfl, _, ks, g, l, rfl, rfl, ?_⟩
    walk_at "dl"
    refine ⟨cmr (by omega) (by omega), [Str.ofString "center"], _, _, rfl, hk, ?_⟩
    walk_at "dl"
    refine ⟨C, _, get_at, ?_⟩
    rw [set_at]
    refine lc_map t rowD (fun r => rowD (r.map (· * (1 + m)))) (small (by omega)) (fun r hr R hR => ?_) ?_
    · have hl12 := rowl r hr
      unfold rowD
      walk_at "dl"
      refine lc_map r D.int (fun x => D.int (x * (1 + m))) (small (by omega)) (fun x hx R2 hR2 => ?_) ?_
      · walk_at "dl"
        exact ⟨cmr (by omega) (by omega), hR2⟩
      · rw [finF_e]
        rw [show List.map (fun x => D.int (x * (1 + m))) r = (r.map (· * (1 + m))).map D.int by rw [List.map_map]; rfl]
        exact hR
    rw [finF_e, show D.lst (List.map (fun r => rowD (r.map (· * (1 + m)))) t) = tabD (manyF (1 + m) t) by unfold tabD manyF; rw [List.map_map]; rfl]
    refine ⟨tabD t, _, t, ks, g, l, rfl, tabS_l t, ok.ok, rfl, lk, ?_⟩
    refine ⟨_, _, manyF (1 + m) t, _, _, _, rfl, tabS_l _, okm, rfl, ?_⟩
    refine lc_map (stopsF g l t) rowD (fun r => rowD (r.map (· * (1 + m)))) (small (by omega)) (fun r hr R hR => ?_) ?_
    · have hl12 := rowlen r hr
      unfold rowD
      walk_at "dl"
      refine lc_map r D.int (fun x => D.int (x * (1 + m))) (small (by omega)) (fun x hx R2 hR2 => ?_) ?_
      · walk_at "dl"
        exact ⟨cmr (by omega) (by omega), hR2⟩
      · rw [finF_e]
        rw [show List.map (fun x => D.int (x * (1 + m))) r = (r.map (· * (1 + m))).map D.int by rw [List.map_map]; rfl]
        exact hR
    rw [finF_e, show D.lst (List.map (fun r => rowD (r.map (· * (1 + m)))) (stopsF g l t)) = tabD (manyF (1 + m) (stopsF g l t)) by unfold tabD manyF; rw [List.map_map]; rfl, many_stops f1]
    refine ne_tabs (tabS_l _) (tabS_l _) ⟨_, rfl, ?_⟩
    rw [if_neg (by decide)]
    refine ⟨_, _, manyF (1 + m) t, _, _, _, rfl, tabS_l _, okm, rfl, hk, ?_⟩
    walk_at "dl"
    refine ⟨cml (by omega) (by omega), ?_⟩
    rw [many_width f1 ok.ok.lo, Int.mul_comm, if_neg (by simp), ← List.map_reverse]
    have okr : TabOk t.reverse := ⟨by rw [List.length_reverse]; exact ok.ok.lo, by rw [List.length_reverse]; exact ok.ok.hi, fun r hr => ok.ok.row r (List.mem_reverse.mp hr)⟩
    refine ⟨_, _, t.reverse, ks, g, l, rfl, tabS_l _, okr, rfl, lk, ?_⟩
    refine ⟨_, _, t, ks, g, l, rfl, tabS_l _, ok.ok, rfl, lk, ?_⟩
    refine ⟨_, rfl, ?_⟩
    rw [ends_turned, List.map_reverse]
    refine eq_ints_same (xs := (endsF g l t).reverse) (by rw [List.map_reverse]; rfl) (by rw [List.map_reverse]; rfl) ⟨_, rfl, ?_⟩
    rw [if_pos rfl]
    refine ⟨_, _, t, ks, g, l, rfl, tabS_l _, ok.ok, rfl, lk, ?_⟩
    refine ⟨_, rfl, by rw [ends_len]; exact ok.ok.lo, fun mm h1 h2 => ?_⟩
    rw [maxOf_eq h1 h2]
    walk_at "dl"
    rw [show (widthF g l t == maxOf (endsF g l t)) = true from beq_self_eq_true _, List.append_assoc]
    exact ret_feed f1' rfl (q _ (f1'.mono (by omega)))
--MR
/-- a table in cells: the outer list at b, the rows at hs -/
structure TabH (S : Sto) (b : Nat) (hs : List Nat) (t : List (List Int)) : Prop where
  out : S[b]? = some (.lst (hs.map D.own))
  len : hs.length = t.length
  row : ∀ i (h1 : i < hs.length) (h2 : i < t.length), S[hs[i]]? = some (.lst ((t[i]).map D.int))
  nd : hs.Nodup
  nb : b ∉ hs
theorem rows_h {S : Sto} : ∀ {hs : List Nat} {t : List (List Int)}, hs.length = t.length → (∀ i (h1 : i < hs.length) (h2 : i < t.length), S[hs[i]]? = some (.lst ((t[i]).map D.int))) → RowsS S (hs.map D.own) t
  | [], [], _, _ => .nil
  | [], _ :: _, h, _ => by simp at h
  | _ :: _, [], h, _ => by simp at h
  | a :: hs, r :: t, h, hr => .cons (asL_at' (hr 0 (by simp) (by simp))) (rows_h (by simpa using h) fun i h1 h2 => by
      have := hr (i + 1) (by simpa using h1) (by simpa using h2)
      simpa using this)
theorem TabH.tabS {S : Sto} {b : Nat} {hs : List Nat} {t : List (List Int)} (h : TabH S b hs t) : TabS S (.own b) t := ⟨_, asL_at' h.out, rows_h h.len h.row⟩
/-- all cells but h are as they were -/
def Kp (h : Nat) (S S' : Sto) : Prop := ∀ i c, i ≠ h → S[i]? = some c → S'[i]? = some c
theorem Kp.refl {h : Nat} {S : Sto} : Kp h S S := fun _ _ _ e => e
theorem Kp.trans {h : Nat} {S S1 S2 : Sto} (a : Kp h S S1) (b : Kp h S1 S2) : Kp h S S2 := fun i c n e => b i c n (a i c n e)
theorem Kp.app {h : Nat} {S S1 : Sto} (a : Kp h S S1) (T : Sto) : Kp h S (S1 ++ T) := fun i c n e => get_app (a i c n e)
theorem Fs.kp {h n : Nat} {S S' : Sto} (f : Fs h n S S') : Kp h S S' := fun i c ne e => f.get e (Ne.symm ne)
theorem Kp.len {h : Nat} {S S' : Sto} (a : Kp h S S') (hl : S'.length ≥ S.length) : S.length ≤ S'.length := hl
theorem TabH.kp {h : Nat} {S S' : Sto} {b : Nat} {hs : List Nat} {t : List (List Int)} (k : TabH S b hs t) (a : Kp h S S') (hb : b ≠ h) (hn : h ∉ hs) : TabH S' b hs t :=
  ⟨a _ _ hb k.out, k.len, fun i h1 h2 => a _ _ (fun e => hn (e ▸ List.getElem_mem h1)) (k.row i h1 h2), k.nd, k.nb⟩
theorem TabH.app {S T : Sto} {b : Nat} {hs : List Nat} {t : List (List Int)} (k : TabH S b hs t) : TabH (S ++ T) b hs t := ⟨get_app k.out, k.len, fun i h1 h2 => get_app (k.row i h1 h2), k.nd, k.nb⟩
theorem TabH.set {S : Sto} {b i : Nat} {hs : List Nat} {t : List (List Int)} {c : Cell} (k : TabH S b hs t) (hb : i ≠ b) (hn : i ∉ hs) : TabH (S.set i c) b hs t :=
  ⟨by rw [List.getElem?_set_ne hb]; exact k.out, k.len, fun j h1 h2 => by have hm := List.getElem_mem h1; rw [List.getElem?_set_ne (fun e => hn (by rw [e]; exact hm))]; exact k.row j h1 h2, k.nd, k.nb⟩
theorem TabH.lt {S : Sto} {b : Nat} {hs : List Nat} {t : List (List Int)} (k : TabH S b hs t) : b < S.length ∧ ∀ a ∈ hs, a < S.length := by
  refine ⟨(List.getElem?_eq_some_iff.mp k.out).1, fun a ha => ?_⟩
  obtain ⟨i, hi, rfl⟩ := List.getElem_of_mem ha
  exact (List.getElem?_eq_some_iff.mp (k.row i hi (by rw [← k.len]; exact hi))).1
theorem tabH_new (S : Sto) (t : List (List Int)) : TabH (S ++ cellsD t ++ [.lst (ownsD S.length t.length)]) (S.length + t.length) ((List.range t.length).map (S.length + ·)) t := by
  refine ⟨?_, by simp, fun i h1 h2 => ?_, ?_, ?_⟩
  · rw [show S.length + t.length = (S ++ cellsD t).length by rw [List.length_append]; simp [cellsD]]
    rw [get_at]
    unfold ownsD
    rw [List.map_map]
    rfl
  · rw [List.getElem_map, List.getElem_range, List.append_assoc, List.getElem?_append_right (Nat.le_add_right _ _), Nat.add_sub_cancel_left]
    refine get_app ?_
    unfold cellsD
    rw [List.getElem?_map, List.getElem?_eq_getElem h2]
    rfl
  · exact List.Pairwise.map _ (fun a b (h : a ≠ b) => by show S.length + a ≠ S.length + b; omega) List.nodup_range
  · intro h
    obtain ⟨a, ha, e⟩ := List.mem_map.mp h
    have := List.mem_range.mp ha
    omega
theorem TabH.keep {S S' : Sto} {b : Nat} {hs : List Nat} {t : List (List Int)} (k : TabH S b hs t) (a : ∀ x, (x = b ∨ x ∈ hs) → ∀ c, S[x]? = some c → S'[x]? = some c) : TabH S' b hs t :=
  ⟨a _ (.inl rfl) _ k.out, k.len, fun i h1 h2 => a _ (.inr (List.getElem_mem h1)) _ (k.row i h1 h2), k.nd, k.nb⟩
theorem TabH.setRow {S : Sto} {b : Nat} {hs : List Nat} {t : List (List Int)} (k : TabH S b hs t) {i : Nat} (h1 : i < hs.length) (r : List Int) : TabH (S.set hs[i] (.lst (r.map D.int))) b hs (t.set i r) := by
  have hl := k.len
  refine ⟨?_, by rw [List.length_set]; exact hl, fun j j1 j2 => ?_, k.nd, k.nb⟩
  · have ne : hs[i] ≠ b := fun e => k.nb (by rw [← e]; exact List.getElem_mem h1)
    rw [List.getElem?_set_ne ne]
    exact k.out
  · by_cases c : i = j
    · subst c
      rw [List.getElem_set_self, List.getElem?_set_self (k.lt.2 _ (List.getElem_mem h1))]
    · have ne : hs[i] ≠ hs[j] := by
        rcases Nat.lt_or_gt_of_ne c with c | c
        · exact List.pairwise_iff_getElem.mp k.nd i j h1 j1 c
        · exact Ne.symm (List.pairwise_iff_getElem.mp k.nd j i j1 h1 c)
      rw [List.getElem_set_ne c, List.getElem?_set_ne ne]
      exact k.row j j1 (by rw [List.length_set] at j2; exact j2)
theorem lc_zip0 {G : TGd} {C : TB} {Te : TD} {vs : List Nat} {Fin : List D → Sto → KD → Prop} {Γ : Gam} {S : Sto} {Φ : KD} (xs ys : List Int) (hl : xs.length ≤ sizeLine) (hle : ∀ (i : Nat) (x y : Int), xs[i]? = some x → ys[i]? = some y → x ≤ y) (hs : ∀ x y : Int, x ≤ y → ∀ (A : KD) (N : Sto → Prop), N S → G (.tup [.int x, .int y]) (gwipe Γ vs) S fun Γ2 S2 => C Γ2 S2 (fun S3 k => if k = true then Te Γ2 S3 A (fun _ _ => False) else N S3) (fun _ _ => False)) (hd : Fin [] S Φ) : lcP (fun _ => some (zipD (xs.map D.int) (ys.map D.int))) G C Te vs Fin Γ S Φ := by
  refine lc_l (fun i acc S' => S' = S ∧ acc = []) (by rw [zipD_len, List.length_map, List.length_map]; exact Nat.le_trans (Nat.min_le_left _ _) hl) ⟨rfl, rfl⟩ (fun i acc S' hi hp => ?_) fun acc S' hp => ?_
  · obtain ⟨rfl, rfl⟩ := hp
    rw [zipD_len, List.length_map, List.length_map] at hi
    have h1 : i < xs.length := by omega
    have h2 : i < ys.length := by omega
    rw [zipD_at (by rw [List.length_map]; exact h1) (by rw [List.length_map]; exact h2), List.getElem_map, List.getElem_map]
    exact hs _ _ (hle i _ _ (List.getElem?_eq_getElem h1) (List.getElem?_eq_getElem h2)) _ _ ⟨rfl, rfl⟩
  · obtain ⟨rfl, rfl⟩ := hp
    exact hd
theorem TabOk.app {t u : List (List Int)} (a : TabOk t) (b : TabOk u) (h : t.length + u.length ≤ 60) : TabOk (t ++ u) := ⟨by rw [List.length_append]; have := a.lo; omega, by rw [List.length_append]; exact h, fun r hr => by
  rcases List.mem_append.mp hr with hr | hr
  · exact a.row r hr
  · exact b.row r hr⟩
theorem p__law_parts_right (C : Addr) : Rets (sp__law_parts_right C) (T__law_parts_right C) N__law_parts_right := by
  rintro _ S Φ Ψ ⟨h, n, t, u, ks, g, l, rfl, f, hn, ok, ou, hu, lk, hg, hl, q⟩
  unfold T__law_parts_right
  walk_at "dl"
  rw [List.length_map]
  have hlt := f.lt
  have t1 := ok.ok.lo
  have t6 := ok.hi
  have u1 := ou.ok.lo
  refine pick_at f (by omega) fun S1 a f1 g1 a0 a1 => ?_
  obtain ⟨a, rfl⟩ : ∃ k : Nat, a = (k : Int) := ⟨a.toNat, by omega⟩
  walk_at "dl"
  refine pick_at g1 (by omega) fun S2 z f2 g2 z0 z1 => ?_
  obtain ⟨z, rfl⟩ : ∃ k : Nat, z = (k : Int) := ⟨z.toNat, by omega⟩
  have f2' : Fs h (n + 2) S S2 := (f1.trans f2).mono (by omega)
  walk_at "dl"
  rw [show ((a : Int) + (z : Int)) = ((a + z : Nat) : Int) by omega]
  refine ⟨t, a, a + z, rfl, ok.ok, by omega, by omega, ?_⟩
  unfold newTab
  have pl : ((t.drop a).take (a + z + 1 - a)).length = z + 1 := by rw [List.length_take, List.length_drop]; omega
  have okp : TabOk ((t.drop a).take (a + z + 1 - a)) := ⟨by omega, by omega, fun r hr => ok.ok.row r (List.mem_of_mem_drop (List.mem_of_mem_take hr))⟩
  have tn := (tabH_new S2 ((t.drop a).take (a + z + 1 - a))).tabS
  rw [List.append_assoc] at tn ⊢
  generalize cellsD ((t.drop a).take (a + z + 1 - a)) ++ [.lst (ownsD S2.length ((t.drop a).take (a + z + 1 - a)).length)] = Z at tn ⊢
  refine ⟨_, _, _, ks, g, l, rfl, tn, okp, rfl, lk, ?_⟩
  refine ⟨_, _, t, ks, g, l, rfl, tabS_l _, ok.ok, rfl, lk, ?_⟩
  walk_at "dl"
  rw [show (((a + z : Nat) : Int) + 1) = ((a + z + 1 : Nat) : Int) by omega, cut_mid (by omega) (by rw [List.length_map, ends_len]; omega), ← List.map_drop, ← List.map_take]
  have l1 := ends_len g l t
  have l2 := ends_len g l u
  refine lc_zip0 (endsF g l ((t.drop a).take (a + z + 1 - a))) (((endsF g l t).drop a).take (a + z + 1 - a)) (small (by rw [ends_len]; omega)) (fun i x y h1 h2 => ?_) (fun x y hxy A N hN => ?_) ?_
  · rw [List.getElem?_take] at h2
    split at h2
    · exact part_ends h1 h2
    · cases h2
  · walk_at "dl"
    rw [if_neg (by rw [decide_eq_true_eq]; omega)]
    exact hN
  rw [finF_e]
  refine ⟨Nat.zero_le _, ne_nil0 ⟨_, rfl, ?_⟩⟩
  rw [if_neg (by decide)]
  have e3 : [t, [[0]], u].flatten = t ++ [[0]] ++ u := by simp
  have e2 : [t, u].flatten = t ++ u := by simp
  have ok0 : TabOk [[0]] := ⟨by decide, by decide, fun r hr => by rw [List.mem_singleton.mp hr]; exact ⟨by decide, by decide, fun x hx => by rw [List.mem_singleton.mp hx]; decide⟩⟩
  have oka : TabOk (t ++ [[0]] ++ u) := (ok.ok.app ok0 (by show t.length + 1 ≤ 60; omega)).app ou.ok (by rw [List.length_append]; show t.length + 1 + u.length ≤ 60; omega)
  have okw : TabOk (t ++ u) := ok.ok.app ou.ok (by omega)
  refine ⟨small (by decide), small (by decide), rfl, fun z => z.elim, small (Nat.le_of_ble_eq_true rfl), ?_⟩
  refine ⟨[t, [[0]], u], rfl, fun x hx => ?_, by rw [e3]; exact oka, ?_⟩
  · simp only [List.mem_cons, List.not_mem_nil, or_false] at hx
    rcases hx with rfl | rfl | rfl
    · exact ok.ok
    · exact ok0
    · exact ou.ok
  rw [e3]
  refine ⟨rfl, fun z => z.elim, small (Nat.le_of_ble_eq_true rfl), ?_⟩
  refine ⟨[t, u], rfl, fun x hx => ?_, by rw [e2]; exact okw, ?_⟩
  · simp only [List.mem_cons, List.not_mem_nil, or_false] at hx
    rcases hx with rfl | rfl
    · exact ok.ok
    · exact ou.ok
  rw [e2]
  refine ⟨_, _, _, ks, g, l, rfl, tabS_l _, oka, rfl, lk, ?_⟩
  refine ⟨small (by decide), small (by rw [List.length_map]; omega), ?_⟩
  refine ⟨_, _, u, ks, g, l, rfl, tabS_l _, ou.ok, rfl, lk, ?_⟩
  walk_at "dl"
  refine ⟨small (by rw [List.length_append, List.length_map, List.length_map, l1, l2]; show t.length + 1 + u.length ≤ 1000000; omega), ?_⟩
  rw [endsF_cat]
  refine ne_ints_same (xs := endsF g l t ++ [0] ++ endsF g l u) rfl (by rw [List.map_append, List.map_append]; rfl) ⟨_, rfl, ?_⟩
  rw [if_neg (by decide)]
  refine ⟨t ++ u, rfl, okw, ?_⟩
  refine ⟨t, rfl, ok.ok, ?_⟩
  refine ⟨u, rfl, ou.ok, ?_⟩
  unfold natsD
  walk_at "dl"
  have lt1 := tabsF_len t
  have lt2 := tabsF_len u
  refine ⟨small (by rw [List.length_map, List.length_map]; omega), ?_⟩
  have mm : ∀ ns : List Nat, (ns.map fun k : Nat => D.int (k : Int)) = (ns.map fun k : Nat => (k : Int)).map D.int := fun ns => by rw [List.map_map]; rfl
  have ea : tabsF (t ++ u) = tabsF t ++ tabsF u := by unfold tabsF; rw [List.map_append]
  rw [ea, mm, mm, mm]
  refine ne_ints_same (xs := (tabsF t ++ tabsF u).map fun k : Nat => (k : Int)) rfl (by rw [List.map_append, List.map_append]; rfl) ⟨_, rfl, ?_⟩
  rw [if_neg (by decide)]
  refine ⟨_, _, u, ks, g, l, rfl, tabS_l _, ou.ok, rfl, lk, ?_⟩
  walk_at "dl"
  refine ⟨small (by rw [List.length_map, List.length_map]; omega), ?_⟩
  refine ⟨_, _, t ++ u, ks, g, l, rfl, tabS_l _, okw, rfl, lk, ?_⟩
  rw [← List.map_append]
  refine ⟨⟨_, rfl⟩, ?_⟩
  refine lc_zip0 (endsF g l t ++ endsF g l u) (endsF g l (t ++ u)) (small (by rw [List.length_append]; omega)) (fun i x y h1 h2 => stack_ends t u h1 h2) (fun x y hxy A N hN => ?_) ?_
  · walk_at "dl"
    rw [if_neg (by rw [decide_eq_true_eq]; omega)]
    exact hN
  rw [finF_e]
  refine ⟨Nat.zero_le _, ne_nil0 ⟨_, rfl, ?_⟩⟩
  rw [if_neg (by decide)]
  walk_at "dl"
  rw [at_neg1 (by rw [List.length_map]; omega), List.length_map]
  have ht1 : t.length - 1 < t.length := by omega
  refine ⟨rowD t[t.length - 1], by rw [List.getElem?_map, List.getElem?_eq_getElem ht1]; rfl, ?_⟩
  have hu1 : 0 < u.length := by omega
  unfold rowD
  walk_at "dl"
  refine ⟨.lst ((u[0]).map D.int), by rw [show (0 : Int) = ((0 : Nat) : Int) from rfl, at_nat, List.getElem?_map, List.getElem?_eq_getElem hu1]; rfl, ?_⟩
  walk_at "dl"
  refine ⟨t ++ u, rfl, okw, ?_⟩
  unfold blksD
  walk_at "dl"
  refine ⟨t, rfl, ok.ok, ?_⟩
  unfold blksD
  walk_at "dl"
  refine ⟨u, rfl, ou.ok, ?_⟩
  unfold blksD
  walk_at "dl"
  rw [List.length_map, List.length_map, List.length_map, List.length_map, List.length_map]
  have lastT : (tabsF t).getLastD 0 = (t[t.length - 1]).length - 1 := by
    rw [List.getLastD_eq_getLast?, List.getLast?_eq_getElem?, lt1]
    unfold tabsF
    rw [List.getElem?_map, List.getElem?_eq_getElem ht1]
    rfl
  have k1 := (ok.ok.row _ (List.getElem_mem ht1))
  have k2 := (ou.ok.row _ (List.getElem_mem hu1))
  obtain ⟨ys, eu⟩ : ∃ ys, tabsF u = ((u[0]).length - 1) :: ys := by
    cases u with
    | nil => simp at hu1
    | cons r u => exact ⟨tabsF u, rfl⟩
  have cnt := blks_count (tabsF t) (y := (u[0]).length - 1) ys 11
  rw [← eu, ← ea, lastT] at cnt
  have c1 := k1.lo
  have c2 := k1.hi
  have c3 := k2.lo
  have c4 := k2.hi
  rw [← List.append_nil (S2 ++ Z), List.append_assoc]
  have fin : ∀ b : Bool, b = true → RetOk S Φ (S2 ++ (Z ++ [])) (.bl b) := fun b e => by rw [e]; exact ret_feed f2' rfl (q _ (f2'.mono (by omega)))
  refine fin _ ?_
  rw [beq_iff_eq]
  split <;> omega
--MR
theorem step_in {t : List (List Int)} {i c : Nat} {v l : Int} (hi : i < t.length) {b : Blk} (bk : BlkOk t b) (eb : b.1 = c) (b1 : b.2.1 ≤ i) (b2 : i ≤ b.2.2) (hv : (t.getD i []).getD c 0 ≤ v) : 0 ≤ stepF l t i c v b ∧ stepF l t i c v b ≤ v - (t.getD i []).getD c 0 := by
  subst eb
  have k2 := bk.set (c := b.1) (v := v) hi
  have r1 := bk.room l (Nat.le_refl _) bk.le
  have r2 := k2.room l (Nat.le_refl _) k2.le
  have e1 : roomAt l (colOf t b.1) b.2.1 = roomB l t b := rfl
  have e2 : roomAt l (colOf (setAt t i b.1 v) b.1) b.2.1 = roomB l (setAt t i b.1 v) b := rfl
  rw [e1] at r1
  rw [e2] at r2
  have old : cellB t b i = (t.getD i []).getD b.1 0 := rfl
  have hc := has_tab (bk.at_ i b1 b2)
  have new : (colOf (setAt t i b.1 v) b.1)[i]? = some (some v) := by
    rw [col_get _ _ (by rw [set_len]; exact hi), set_row hi, if_pos rfl, List.length_set]
    unfold tabAt at hc
    rw [if_pos (by omega), List.getElem?_set_self (by omega)]
  unfold stepF
  rw [← old] at hv ⊢
  have o1 := r1.up i _ b1 b2 (cell_col bk b1 b2)
  have n1 := r2.up i _ b1 b2 new
  have same : ∀ j, j ≠ i → (colOf (setAt t i b.1 v) b.1)[j]? = (colOf t b.1)[j]? := fun j h => col_set hi (.inr h)
  constructor
  · rcases r1.at_ with a | ⟨j, j1, j2, j3⟩
    · have := r2.lo
      omega
    · by_cases h : j = i
      · subst h
        rw [cell_col bk j1 j2] at j3
        have : cellB t b j = roomB l t b := Option.some.inj (Option.some.inj j3)
        omega
      · have := r2.up j _ j1 j2 (by rw [same j h]; exact j3)
        omega
  · rcases r2.at_ with a | ⟨j, j1, j2, j3⟩
    · have := r1.lo
      omega
    · by_cases h : j = i
      · subst h
        rw [new] at j3
        have : v = roomB l (setAt t j b.1 v) b := Option.some.inj (Option.some.inj j3)
        omega
      · have := r1.up j _ j1 j2 (by rw [← same j h]; exact j3)
        omega
theorem wider_row {t : List (List Int)} {i c : Nat} {v g l : Int} (hi : i < t.length) {b : Blk} (bk : BlkOk t b) (eb : b.1 = c) (b1 : b.2.1 ≤ i) (b2 : i ≤ b.2.2) {k : Nat} (hk : k < t.length) (h11 : tabAt t k ≤ 11) : rowStops g l (setAt t i c v) k = (rowStops g l t k).mapIdx fun d x => x + stepF l t i c v b * (if (b.2.1 ≤ k ∧ k ≤ b.2.2) ∧ c ≤ d then 1 else 0) := by
  apply List.ext_getElem?
  intro d
  rw [List.getElem?_mapIdx, rowStops_at, rowStops_at, tabAt_set hi]
  by_cases h : d < tabAt t k
  · rw [if_pos h, if_pos h, bF_set hi bk eb b1 b2 hk h11, Option.map_some]
    congr 2
    by_cases z : c < d + 1 ∧ b.2.1 ≤ k ∧ k ≤ b.2.2
    · rw [if_pos z, if_pos ⟨z.2, by omega⟩, Int.mul_one]
    · rw [if_neg z, if_neg (fun y => z ⟨by omega, y.1⟩), Int.mul_zero]
  · rw [if_neg h, if_neg h]
    rfl
theorem wider_none {t : List (List Int)} {i c : Nat} {v g l : Int} (hi : i < t.length) (hc : tabAt t i ≤ c) : stopsF g l (setAt t i c v) = stopsF g l t := by
  unfold stopsF
  rw [set_len]
  refine List.map_congr_left fun k _ => ?_
  unfold rowStops
  rw [rooms_tail_set hi hc]
theorem p__law_wider_right (C : Addr) : Rets (sp__law_wider_right C) (T__law_wider_right C) N__law_wider_right := by
  rintro _ S Φ Ψ ⟨h, n, t, ks, g, l, rfl, f, hn, ok, lk, hg, hl, q⟩
  unfold T__law_wider_right
  walk_at "dl"
  rw [List.length_map]
  have hlt := f.lt
  have t1 := ok.ok.lo
  have t6 := ok.hi
  refine pick_at f (by omega) fun S1 i f1 g1 i0 i1 => ?_
  obtain ⟨i, rfl⟩ : ∃ k : Nat, i = (k : Int) := ⟨i.toNat, by omega⟩
  have hi : i < t.length := by omega
  have ro := ok.ok.row _ (List.getElem_mem hi)
  show dIx (.lst (t.map rowD)) (.int (i : Nat)) _ _
  rw [dIx_l]
  refine ⟨_, tab_ix hi, ?_⟩
  rw [tab_at hi]
  show cLen [.lst ((t[i]).map D.int)] _ _
  walk_at "dl"
  rw [List.length_map]
  have r1 := ro.lo
  have r2 := ro.hi
  refine pick_at g1 (by omega) fun S2 c f2 g2 c0 c1 => ?_
  obtain ⟨c, rfl⟩ : ∃ k : Nat, c = (k : Int) := ⟨c.toNat, by omega⟩
  have hc : c < (t[i]).length := by omega
  have f2' : Fs h (n + 2) S S2 := (f1.trans f2).mono (by omega)
  have l2 := f2'.len
  refine ⟨tabD t, _, t, ks, g, l, rfl, tabS_l t, ok.ok, rfl, ?_⟩
  refine ⟨t, i, c, rfl, ok.ok, hi, ?_⟩
  walk_at "dl"
  refine lc_l (ds := t.map rowD) (fun k acc X => X = S2 ++ cellsD (t.take k) ∧ acc = ownsD S2.length k) (by rw [List.length_map]; exact small (by omega)) ⟨by simp [cellsD], rfl⟩ (fun k acc X hk hp => ?_) fun acc X hp => ?_
  · obtain ⟨rfl, rfl⟩ := hp
    rw [List.length_map] at hk
    rw [List.getElem_map]
    walk_at "dl"
    refine ⟨?_, ?_⟩
    · rw [List.take_add_one, List.getElem?_eq_getElem hk, List.append_assoc]
      unfold cellsD
      rw [List.map_append]
      rfl
    · unfold ownsD cellsD
      rw [List.range_succ, List.map_append, List.length_append, List.length_map, List.length_take, Nat.min_eq_left (Nat.le_of_lt hk)]
      rfl
  obtain ⟨rfl, rfl⟩ := hp
  walk_at "dl"
  rw [List.length_map, List.take_length]
  have th := tabH_new S2 t
  have el : (S2 ++ cellsD t).length = S2.length + t.length := by rw [List.length_append]; unfold cellsD; rw [List.length_map]
  rw [el]
  have hge : ∀ a ∈ (List.range t.length).map (S2.length + ·), S2.length ≤ a := fun a ha => by
    obtain ⟨j, _, rfl⟩ := List.mem_map.mp ha
    exact Nat.le_add_right _ _
  have hbge : S2.length ≤ S2.length + t.length := Nat.le_add_right _ _
  rw [List.append_assoc] at th ⊢
  generalize cellsD t ++ [.lst (ownsD S2.length t.length)] = Z at th ⊢
  generalize (List.range t.length).map (S2.length + ·) = hs at th hge
  generalize S2.length + t.length = bt at th hbge ⊢
  have hj2 : i < hs.length := by rw [th.len]; exact hi
  have er := th.row i hj2 hi
  refine ⟨_, th.out, .own hs[i], by rw [at_nat, List.getElem?_map, List.getElem?_eq_getElem hj2]; rfl, ?_⟩
  rw [dIx_L (asL_at' er), at_nat]
  refine ⟨.int (t[i])[c], by rw [List.getElem?_map, List.getElem?_eq_getElem hc]; rfl, ?_⟩
  walk_at "dl"
  have hlt2 : h < S2.length := by omega
  refine pick_at (g2.app) (by decide) fun S3 v f3 g3 v0 v1 => ?_
  obtain ⟨S3', f3', e3⟩ := f3.app (T := Z) hlt2
  have hbh : bt ≠ h := by omega
  have hhs : h ∉ hs := fun m => by have := hge h m; omega
  have th3 := th.kp f3.kp hbh hhs
  have er3 := th3.row i hj2 hi
  walk_at "dl"
  refine ⟨_, th3.out, .own hs[i], by rw [at_nat, List.getElem?_map, List.getElem?_eq_getElem hj2]; rfl, ?_⟩
  walk_at "dl"
  refine ⟨_, er3, c, ix_nat (by rw [List.length_map]; omega), ?_⟩
  rw [← show ((t[i]).set c ((t[i])[c] + 1 + v)).map D.int = ((t[i]).map D.int).set c (.int ((t[i])[c] + 1 + v)) from List.map_set ..]
  have th4 := th3.setRow hj2 ((t[i]).set c ((t[i])[c] + 1 + v))
  have e4 : S3.set hs[i] (.lst (((t[i]).set c ((t[i])[c] + 1 + v)).map D.int)) = S3' ++ Z.set (hs[i] - S3'.length) (.lst (((t[i]).set c ((t[i])[c] + 1 + v)).map D.int)) := by
    have := hge _ (List.getElem_mem hj2)
    have := f3'.len
    rw [e3, List.set_append_right _ _ (by omega)]
  have f4 : Fs h (n + 10) S S3' := (f2'.trans f3').mono (by omega)
  rw [e4] at th4 ⊢
  generalize Z.set (hs[i] - S3'.length) (.lst (((t[i]).set c ((t[i])[c] + 1 + v)).map D.int)) = Z4 at th4 ⊢
  have fin : RetOk S Φ (S3' ++ Z4) (.bl true) := ret_feed f4 rfl (q _ (f4.mono (by omega)))
  have ex : t.set i ((t[i]).set c ((t[i])[c] + 1 + v)) = setAt t i c ((t[i])[c] + 1 + v) := by unfold setAt; rw [tab_at hi]
  rw [ex] at th4
  have cell := ok.cell _ (List.getElem_mem hi) _ (List.getElem_mem hc)
  have cell0 := (ro.at_ _ (List.getElem_mem hc)).1
  have old : (t.getD i []).getD c 0 = (t[i])[c] := by rw [tab_at hi, List.getD_eq_getElem?_getD, List.getElem?_eq_getElem hc]; rfl
  have ok4 : TabOk (setAt t i c ((t[i])[c] + 1 + v)) := by
    have e28 : GREAT = LESS * 100 := by decide
    have el : (1000 : Int) ≤ LESS := by decide
    refine ⟨by rw [set_len]; exact ok.ok.lo, by rw [set_len]; exact ok.ok.hi, fun r hr => ?_⟩
    unfold setAt at hr
    rcases List.mem_or_eq_of_mem_set hr with hr | rfl
    · exact ok.ok.row r hr
    · rw [tab_at hi]
      refine ⟨by rw [List.length_set]; exact ro.lo, by rw [List.length_set]; exact ro.hi, fun x hx => ?_⟩
      rcases List.mem_or_eq_of_mem_set hx with hx | rfl
      · exact ro.at_ x hx
      · exact ⟨by omega, by omega⟩
  refine ⟨_, _, _, ks, g, l, rfl, th4.tabS, ok4, rfl, ?_⟩
  by_cases tab : c < tabAt t i
  · have tb : tabAt t i + 1 = (t[i]).length := by unfold tabAt; rw [tab_at hi]; omega
    obtain ⟨b, eb, bk, ec, b1, b2⟩ := blockAt_one hi tab (by omega)
    rw [eb]
    show dIsN (blkD b) .non _ _
    rw [show dIsN (blkD b) D.non = fun S Φ => Φ S (.bl false) from rfl]
    refine ⟨_, rfl, ?_⟩
    rw [if_neg (by decide)]
    have hsi : i < (setAt t i c ((t[i])[c] + 1 + v)).length := by rw [set_len]; exact hi
    show dIx (.lst ((stopsF g l (setAt t i c ((t[i])[c] + 1 + v))).map rowD)) (.int (i : Nat)) _ _
    rw [dIx_l]
    refine ⟨_, stops_ix hsi, ?_⟩
    show dIx (.lst ((rowStops g l (setAt t i c ((t[i])[c] + 1 + v)) i).map D.int)) (.int (c : Nat)) _ _
    rw [dIx_l, at_nat]
    refine ⟨_, row_ix (by rw [tabAt_set hi]; exact tab), ?_⟩
    refine ⟨_, stops_ix hi, ?_⟩
    show dIx (.lst ((rowStops g l t i).map D.int)) (.int (c : Nat)) _ _
    rw [dIx_l, at_nat]
    refine ⟨_, row_ix tab, ?_⟩
    walk_at "dl"
    have h11 : ∀ k, k < t.length → tabAt t k ≤ 11 := fun k hk => by
      have := (ok.ok.row _ (List.getElem_mem hk)).hi
      unfold tabAt
      rw [tab_at hk]
      omega
    have est : bF g l (setAt t i c ((t[i])[c] + 1 + v)) (c + 1) i - bF g l t (c + 1) i = stepF l t i c ((t[i])[c] + 1 + v) b := by
      rw [bF_set hi bk ec b1 b2 hi (h11 i hi), if_pos ⟨by omega, b1, b2⟩]
      omega
    rw [est]
    have sin := step_in (l := l) (v := (t[i])[c] + 1 + v) hi bk ec b1 b2 (by rw [old]; omega)
    rw [old] at sin
    have tl : (stopsF g l t).length = t.length := by unfold stopsF; rw [List.length_map, List.length_range]
    refine for_e (stopsF g l t) rowD (fun k Γ X => X = S3' ++ Z4 ∧ ∃ o10 o11 o12, Γ = [some (.own h), some (tabD t), some (.ins C (styF ks g l)), some (.int i), some (.int c), some (tabD (stopsF g l t)), some (blkD b), some (.own bt), some (tabD (stopsF g l (setAt t i c ((t[i])[c] + 1 + v)))), some (.int (stepF l t i c ((t[i])[c] + 1 + v) b)), o10, o11, o12, none, none]) ⟨rfl, _, _, _, rfl⟩ (fun k Γ' X hk hp => ?_) fun Γ' X hp => ?_
    · obtain ⟨eX, o10, o11, o12, rfl⟩ := hp
      rw [eX]
      clear eX X
      rw [tl] at hk
      have ek : (stopsF g l t)[k]'(by rw [tl]; exact hk) = rowStops g l t k := by unfold stopsF; rw [List.getElem_map, List.getElem_range]
      rw [ek]
      unfold blkD rowD
      walk_at "dl"
      have body : ∀ (β : Bool) (K : KD), (β = true ↔ b.2.1 ≤ k ∧ k ≤ b.2.2) → K (S3' ++ Z4) (.lst ((rowStops g l (setAt t i c ((t[i])[c] + 1 + v)) k).map D.int)) → lcP (fun S' => Option.map enumD (some ((rowStops g l t k).map D.int))) (tupG 2 (gsCons (nmG 13) (gsCons (nmG 14) gsNil))) bYes (dOp dAdd (dVar 14) (dOp dMul (dVar 9) (dCB cInt (lCons (dAnd (dVar 11) (dOp dGe (dVar 13) (dVar 4))) lNil)))) [13, 14] finF [some (.own h), some (tabD t), some (.ins C (styF ks g l)), some (.int i), some (.int c), some (tabD (stopsF g l t)), some (D.tup [D.int b.1, D.int b.2.1, D.int b.2.2]), some (.own bt), some (tabD (stopsF g l (setAt t i c ((t[i])[c] + 1 + v)))), some (.int (stepF l t i c ((t[i])[c] + 1 + v) b)), some (.int k), some (.bl β), some (.lst ((rowStops g l t k).map D.int)), none, none] (S3' ++ Z4) K := fun β K hβ hK => by
        have rl : (rowStops g l t k).length ≤ 12 := by
          rw [rowStops_len, tab_at hk]
          have := (ok.ok.row _ (List.getElem_mem hk)).hi
          omega
        refine lc_enum (rowStops g l t k) (fun d x => x + stepF l t i c ((t[i])[c] + 1 + v) b * (if (b.2.1 ≤ k ∧ k ≤ b.2.2) ∧ c ≤ d then 1 else 0)) (small (by omega)) (fun d hd R hR => ?_) ?_
        · walk_at "dl"
          by_cases zb : β = true
          · rw [if_pos zb]
            by_cases zc : c ≤ d
            · rw [if_pos ⟨hβ.mp zb, zc⟩] at hR
              rw [if_pos (by rw [decide_eq_true_eq]; omega)]
              exact ⟨cmr (by decide) (by decide), hR⟩
            · rw [if_neg (fun y => zc y.2)] at hR
              rw [if_neg (by rw [decide_eq_true_eq]; omega)]
              exact ⟨cmr (by decide) (by decide), hR⟩
          · rw [if_neg zb]
            rw [if_neg (fun y => zb (hβ.mpr y.1))] at hR
            walk_at "dl"
            exact ⟨cmr (by decide) (by decide), hR⟩
        · rw [finF_e, ← wider_row hi bk ec b1 b2 hk (h11 k hk)]
          exact hK
      have last : ∀ β : Bool, dNe (rowD (rowStops g l (setAt t i c ((t[i])[c] + 1 + v)) k)) (.lst ((rowStops g l (setAt t i c ((t[i])[c] + 1 + v)) k).map D.int)) (S3' ++ Z4) (fun S1 d => ∃ k_1, d = D.bl k_1 ∧ if k_1 = true then RetOk S Φ S1 (D.bl false) else S1 = S3' ++ Z4 ∧ ∃ o10 o11 o12, [some (.own h), some (tabD t), some (.ins C (styF ks g l)), some (.int i), some (.int c), some (tabD (stopsF g l t)), some (D.tup [D.int b.1, D.int b.2.1, D.int b.2.2]), some (.own bt), some (tabD (stopsF g l (setAt t i c ((t[i])[c] + 1 + v)))), some (.int (stepF l t i c ((t[i])[c] + 1 + v) b)), some (.int k), some (.bl β), some (.lst ((rowStops g l t k).map D.int)), none, none] = [some (.own h), some (tabD t), some (.ins C (styF ks g l)), some (.int i), some (.int c), some (tabD (stopsF g l t)), some (D.tup [D.int b.1, D.int b.2.1, D.int b.2.2]), some (.own bt), some (tabD (stopsF g l (setAt t i c ((t[i])[c] + 1 + v)))), some (.int (stepF l t i c ((t[i])[c] + 1 + v) b)), o10, o11, o12, none, none]) := fun β => by
        refine ne_ints_same rfl rfl ⟨_, rfl, ?_⟩
        rw [if_neg (by decide)]
        exact ⟨rfl, _, _, _, rfl⟩
      by_cases z1 : b.2.1 ≤ k
      · rw [if_pos (by rw [decide_eq_true_eq]; omega)]
        refine ⟨_, stops_ix (by rw [set_len]; exact hk), body (decide ((k : Int) ≤ (b.2.2 : Int))) _ (by rw [decide_eq_true_eq]; omega) (last _)⟩
      · rw [if_neg (by rw [decide_eq_true_eq]; omega)]
        refine ⟨_, stops_ix (by rw [set_len]; exact hk), body false _ (by simp; omega) (last _)⟩
    · obtain ⟨eX, o10, o11, o12, rfl⟩ := hp
      rw [eX]
      clear eX X
      walk_at "dl"
      rw [if_pos (by rw [decide_eq_true_eq]; omega)]
      refine ⟨_, th4.out, .own hs[i], by rw [at_nat, List.getElem?_map, List.getElem?_eq_getElem hj2]; rfl, ?_⟩
      have er4 := th4.row i hj2 hsi
      rw [dIx_L (asL_at' er4), at_nat]
      have eN : (setAt t i c ((t[i])[c] + 1 + v))[i] = (t[i]).set c ((t[i])[c] + 1 + v) := by
        rw [← tab_at hsi, set_row hi, if_pos rfl, tab_at hi]
      refine ⟨.int ((t[i])[c] + 1 + v), by rw [List.getElem?_map, eN, List.getElem?_set_self hc]; rfl, ?_⟩
      refine ⟨_, tab_ix hi, ?_⟩
      rw [tab_at hi]
      show dIx (.lst ((t[i]).map D.int)) (.int (c : Nat)) _ _
      rw [dIx_l, at_nat]
      refine ⟨.int (t[i])[c], by rw [List.getElem?_map, List.getElem?_eq_getElem hc]; rfl, ?_⟩
      walk_at "dl"
      rw [show decide (stepF l t i c ((t[i])[c] + 1 + v) b ≤ (t[i])[c] + 1 + v - (t[i])[c]) = true by rw [decide_eq_true_eq]; omega]
      exact fin
  · rw [blockAt_tail (by omega)]
    show dIsN .non .non _ _
    rw [show dIsN D.non D.non = fun S Φ => Φ S (.bl true) from rfl]
    refine ⟨_, rfl, ?_⟩
    rw [if_pos rfl, wider_none hi (by omega)]
    exact eq_tabs (tabS_l _) (tabS_l _) fin
--MR
theorem p_law (C : Addr) : Rets sp_law (T_law C) N_law := by
  rintro _ S Φ Ψ ⟨ns, rfl, q⟩
  unfold T_law
  walk_at "dl"
  rw [List.length_map]
  obtain ⟨N, eN, hN⟩ : ∃ N : Nat, (if (if (ns.length : Int) < 3 then (ns.length : Int) else 3) > 1 then (if (ns.length : Int) < 3 then (ns.length : Int) else 3) else 1) = (N : Int) ∧ N ≤ 3 := by
    refine ⟨(if (if (ns.length : Int) < 3 then (ns.length : Int) else 3) > 1 then (if (ns.length : Int) < 3 then (ns.length : Int) else 3) else 1).toNat, ?_, ?_⟩
    · split <;> split <;> omega
    · split <;> split <;> omega
  rw [eN, Int.toNat_natCast]
  refine ⟨by omega, by omega, ?_⟩
  refine for_r0 (fun i Γ S' => ∃ o1 o2 o3 o4 o5 o6 o7, Γ = [some (.sq (ns.map D.int)), o1, o2, o3, o4, o5, o6, o7]) ⟨_, _, _, _, _, _, _, rfl⟩ (fun i Γ' S' hi hp => ?_) fun Γ' S' hp => ?_
  · obtain ⟨o1, o2, o3, o4, o5, o6, o7, rfl⟩ := hp
    walk_at "dl"
    refine ⟨ns, i, rfl, by omega, fun c0 f0 => ?_⟩
    refine ⟨by decide, by decide, ?_⟩
    refine for_r0 (fun k Γ S'' => ∃ o3 o4 o5 o6 o7, Γ = [some (.sq (ns.map D.int)), some (.int i), some (.own S'.length), o3, o4, o5, o6, o7] ∧ FdAt S'' S'.length (30000 * k)) ⟨_, _, _, _, _, rfl, ⟨c0, get_at, f0⟩⟩ (fun k Γ2 S'' hk hp => ?_) fun Γ2 S'' hp => ?_
    · obtain ⟨o3, o4, o5, o6, o7, rfl, fd⟩ := hp
      generalize S'.length = h at *
      walk_at "dl"
      have pk : ∀ (a b : Nat), 1 ≤ a → 1 ≤ b → b ≤ a → ∃ m : Nat, atI [D.int (a : Int), D.int (b : Int)] (k : Int) = some (.int (m : Int)) ∧ 1 ≤ m ∧ m ≤ a := fun a b a1 b1 h => by
        rcases Nat.lt_or_ge k 1 with z | z
        · rw [show k = 0 by omega]; exact ⟨a, rfl, a1, Nat.le_refl _⟩
        · rw [show k = 1 by omega]; exact ⟨b, rfl, b1, h⟩
      obtain ⟨m, em, m1, m2⟩ := pk 30 6 (by decide) (by decide) (by decide)
      obtain ⟨m', em', m1', m2'⟩ := pk 29 6 (by decide) (by decide) (by decide)
      have hlt := fd.lt
      refine ⟨small (by decide), _, em, ?_⟩
      refine ⟨h, _, m, rfl, fd, by omega, m1, m2, fun S1 t f1 ok tm => ?_⟩
      refine ⟨small (by decide), _, em', ?_⟩
      have g1 := f1.at hlt
      refine ⟨h, _, m', rfl, g1, by omega, m1', by omega, fun S2 u f2 ou um => ?_⟩
      have g2 := f2.at g1.lt
      refine pick_at g2 (by decide) fun S3 k1 f3 g3 k10 k11 => ?_
      refine width_at13 g3 k10 (by omega) fun S4 l f4 g4 l0 _ l31 => ?_
      have l31 := l31 k11
      refine ⟨small (by decide), ?_⟩
      refine pick_at g4 (by decide) fun S5 k2 f5 g5 k20 k21 => ?_
      refine width_at13 g5 k20 (by omega) fun S6 g f6 g6 x0 _ x31 => ?_
      have x31 := x31 k21
      have lk : LookOk [Str.ofString "left", Str.ofString "right"] g l := by
        have e31 : (31 : Int) ≤ GREAT := by decide
        refine ⟨by decide, by decide, fun x hx => ?_, x0, by omega, l0, by omega⟩
        simp only [List.mem_cons, List.not_mem_nil, or_false] at hx
        rcases hx with rfl | rfl <;> decide
      refine ⟨[Str.ofString "left", Str.ofString "right"], g, l, rfl, lk, ?_⟩
      walk_at "dl"
      refine ⟨C, _, get_at, ?_⟩
      rw [set_at]
      have g7 := g6.app (T := [Cell.gone])
      refine ⟨h, _, t, _, g, l, rfl, g7, by omega, ok, lk, x31, l31, fun S8 f8 => ?_⟩
      have g8 := f8.at g7.lt
      refine ⟨_, rfl, ?_⟩
      rw [if_neg (by decide)]
      refine ⟨h, _, t, _, g, l, rfl, g8, by omega, ok, lk, x31, l31, fun S9 f9 => ?_⟩
      have g9 := f9.at g8.lt
      refine ⟨_, rfl, ?_⟩
      rw [if_neg (by decide)]
      refine ⟨h, _, t, u, _, g, l, rfl, g9, by omega, ok, ou, by omega, lk, x31, l31, fun S10 f10 => ?_⟩
      have g10 := f10.at g9.lt
      refine ⟨_, rfl, ?_⟩
      rw [if_neg (by decide)]
      refine ⟨h, _, t, _, g, l, rfl, g10, by omega, ok, lk, x31, l31, fun S11 f11 => ?_⟩
      have g11 := f11.at g10.lt
      refine ⟨_, rfl, ?_⟩
      rw [if_neg (by decide)]
      exact ⟨_, _, _, _, _, rfl, g11.mono (by omega)⟩
    · obtain ⟨o3, o4, o5, o6, o7, rfl, fd⟩ := hp
      exact ⟨_, _, _, _, _, _, _, rfl⟩
  · obtain ⟨o1, o2, o3, o4, o5, o6, o7, rfl⟩ := hp
    walk_at "dl"
    exact ret_now (q _)
end DL
namespace DL
open PySem PySem.Spec PyProof.Rows L2
theorem sc_is_integer : FnScope N_is_integer P_is_integer (defScope s_is_integer) := ⟨rfl, rfl, rfl, by decide +kernel, rfl, by decide +kernel, by decide +kernel⟩
theorem d_is_integer {P : Program} {wd : World} {K : PySem.W.Frag} {mg : Str → Option Value} {base : Heap} {f : Addr} {cdv : Value} {A : Around} {outer : List Env} {s : Shared} {H : Hp} {E : XK} (hG : (A.deeper (envOfC "is_integer" (defScope s_is_integer) s.heap.objs.size f cdv)).guards = some []) (hr : Room 0 (A.deeper (envOfC "is_integer" (defScope s_is_integer) s.heap.objs.size f cdv))) (m_int : mg "int" = none) (m_isinstance : mg "isinstance" = none) (m_bool : mg "bool" = none) :
    ∃ t, JB (cxOf (L2.CX P wd) P wd K mg base N_is_integer "is_integer" (defScope s_is_integer) f cdv A outer s H E) (WD E) (defBody s_is_integer) t T_is_integer := by
  have hu : (A.deeper (envOfC "is_integer" (defScope s_is_integer) s.heap.objs.size f cdv)).units + 64 < cLine := hr.units
  exact ⟨_, (jb_one (js_ret (je_and (je_callB call_isi cd_isi rfl m_isinstance (by decide +kernel) (ja_cons (je_var 0) (ja_cons (je_ty rfl m_int (by decide +kernel)) ja_nil))) (je_and (je_not (je_callB call_isi cd_isi rfl m_isinstance (by decide +kernel) (ja_cons (je_var 0) (ja_cons (je_ty rfl m_bool (by decide +kernel)) ja_nil)))) (je_one (je_chain op_le op_le opd_le opd_le (je_var 1) (je_var 0) (je_var 2)))))))⟩
theorem sc_is_cell : FnScope N_is_cell P_is_cell (defScope s_is_cell) := ⟨rfl, rfl, rfl, by decide +kernel, rfl, by decide +kernel, by decide +kernel⟩
theorem d_is_cell {P : Program} {wd : World} {K : PySem.W.Frag} {mg : Str → Option Value} {base : Heap} {f : Addr} {cdv : Value} {A : Around} {outer : List Env} {s : Shared} {H : Hp} {E : XK} (hG : (A.deeper (envOfC "is_cell" (defScope s_is_cell) s.heap.objs.size f cdv)).guards = some []) (hr : Room 1 (A.deeper (envOfC "is_cell" (defScope s_is_cell) s.heap.objs.size f cdv))) (c_is_integer : CalG P wd K mg base "is_integer" s_is_integer 1 P_is_integer sp_is_integer) (g_MOST_CELL : ∃ t, mg "MOST_CELL" = some (.int 1000000000000000000000000000000 t)) :
    ∃ t, JB (cxOf (L2.CX P wd) P wd K mg base N_is_cell "is_cell" (defScope s_is_cell) f cdv A outer s H E) (WD E) (defBody s_is_cell) t T_is_cell := by
  have hu : (A.deeper (envOfC "is_cell" (defScope s_is_cell) s.heap.objs.size f cdv)).units + 64 < cLine := hr.units
  exact ⟨_, (jb_one (js_ret (je_callCG c_is_integer hG (hr.mono (by decide)) rfl (takes_of rfl rfl rfl rfl) (ja_cons (je_var 0) (ja_cons je_int (ja_cons (je_gint rfl g_MOST_CELL) ja_nil))))))⟩
theorem sc_is_line : FnScope N_is_line P_is_line (defScope s_is_line) := ⟨rfl, rfl, rfl, by decide +kernel, rfl, by decide +kernel, by decide +kernel⟩
theorem d_is_line {P : Program} {wd : World} {K : PySem.W.Frag} {mg : Str → Option Value} {base : Heap} {f : Addr} {cdv : Value} {A : Around} {outer : List Env} {s : Shared} {H : Hp} {E : XK} (hG : (A.deeper (envOfC "is_line" (defScope s_is_line) s.heap.objs.size f cdv)).guards = some []) (hr : Room 2 (A.deeper (envOfC "is_line" (defScope s_is_line) s.heap.objs.size f cdv))) (m_list : mg "list" = none) (m_isinstance : mg "isinstance" = none) (m_len : mg "len" = none) (g_MOST_CELLS : ∃ t, mg "MOST_CELLS" = some (.int 12 t)) (c_is_cell : CalG P wd K mg base "is_cell" s_is_cell 2 P_is_cell sp_is_cell) (m_all : mg "all" = none) :
    ∃ t, JB (cxOf (L2.CX P wd) P wd K mg base N_is_line "is_line" (defScope s_is_line) f cdv A outer s H E) (WD E) (defBody s_is_line) t T_is_line := by
  have hu : (A.deeper (envOfC "is_line" (defScope s_is_line) s.heap.objs.size f cdv)).units + 64 < cLine := hr.units
  exact ⟨_, (jb_one (js_ret (je_and (je_callB call_isi cd_isi rfl m_isinstance (by decide +kernel) (ja_cons (je_var 0) (ja_cons (je_ty rfl m_list (by decide +kernel)) ja_nil))) (je_and (je_chain op_le op_le opd_le opd_le je_int (je_callB call_lenA cd_len rfl m_len (by decide +kernel) (ja_cons (je_var 0) ja_nil)) (je_gint rfl g_MOST_CELLS)) (je_one (je_callB (cr_all rfl) cd_all rfl m_all (by decide +kernel) (ja_cons (je_lc (own := ([("cell", 1)] : List (Str × Nat))) finF finF_ok rfl sc_is_line.nd (ji_list (je_var 0)) (blkOk_by (N := N_is_line) (sc := defScope s_is_line) (by decide +kernel)) (fun _ _ _ _ _ => (jg_name 1 sc_is_line.nd)) (by exact (gk_name (vs := [1]) (i := 1))) (fun _ _ _ _ _ => jts_nil) (fun _ _ _ _ _ => (je_callCG c_is_cell hG (hr.mono (by decide)) rfl takes0 (ja_cons (je_var 1) ja_nil)))) ja_nil)))))))⟩
theorem sc_is_table : FnScope N_is_table P_is_table (defScope s_is_table) := ⟨rfl, rfl, rfl, by decide +kernel, rfl, by decide +kernel, by decide +kernel⟩
theorem d_is_table {P : Program} {wd : World} {K : PySem.W.Frag} {mg : Str → Option Value} {base : Heap} {f : Addr} {cdv : Value} {A : Around} {outer : List Env} {s : Shared} {H : Hp} {E : XK} (hG : (A.deeper (envOfC "is_table" (defScope s_is_table) s.heap.objs.size f cdv)).guards = some []) (hr : Room 3 (A.deeper (envOfC "is_table" (defScope s_is_table) s.heap.objs.size f cdv))) (m_list : mg "list" = none) (m_isinstance : mg "isinstance" = none) (m_len : mg "len" = none) (g_MOST_LINES : ∃ t, mg "MOST_LINES" = some (.int 60 t)) (c_is_line : CalG P wd K mg base "is_line" s_is_line 3 P_is_line sp_is_line) (m_all : mg "all" = none) :
    ∃ t, JB (cxOf (L2.CX P wd) P wd K mg base N_is_table "is_table" (defScope s_is_table) f cdv A outer s H E) (WD E) (defBody s_is_table) t T_is_table := by
  have hu : (A.deeper (envOfC "is_table" (defScope s_is_table) s.heap.objs.size f cdv)).units + 64 < cLine := hr.units
  exact ⟨_, (jb_one (js_ret (je_and (je_callB call_isi cd_isi rfl m_isinstance (by decide +kernel) (ja_cons (je_var 0) (ja_cons (je_ty rfl m_list (by decide +kernel)) ja_nil))) (je_and (je_chain op_le op_le opd_le opd_le je_int (je_callB call_lenA cd_len rfl m_len (by decide +kernel) (ja_cons (je_var 0) ja_nil)) (je_gint rfl g_MOST_LINES)) (je_one (je_callB (cr_all rfl) cd_all rfl m_all (by decide +kernel) (ja_cons (je_lc (own := ([("line", 1)] : List (Str × Nat))) finF finF_ok rfl sc_is_table.nd (ji_list (je_var 0)) (blkOk_by (N := N_is_table) (sc := defScope s_is_table) (by decide +kernel)) (fun _ _ _ _ _ => (jg_name 1 sc_is_table.nd)) (by exact (gk_name (vs := [1]) (i := 1))) (fun _ _ _ _ _ => jts_nil) (fun _ _ _ _ _ => (je_callCG c_is_line hG (hr.mono (by decide)) rfl takes0 (ja_cons (je_var 1) ja_nil)))) ja_nil)))))))⟩
theorem sc_need_table : FnScope N_need_table P_need_table (defScope s_need_table) := ⟨rfl, rfl, rfl, by decide +kernel, rfl, by decide +kernel, by decide +kernel⟩
theorem d_need_table {C_InvalidTable : Addr} {P : Program} {wd : World} {K : PySem.W.Frag} {mg : Str → Option Value} {base : Heap} {f : Addr} {cdv : Value} {A : Around} {outer : List Env} {s : Shared} {H : Hp} {E : XK} (hG : (A.deeper (envOfC "need_table" (defScope s_need_table) s.heap.objs.size f cdv)).guards = some []) (hr : Room 4 (A.deeper (envOfC "need_table" (defScope s_need_table) s.heap.objs.size f cdv))) (c_is_table : CalG P wd K mg base "is_table" s_is_table 4 P_is_table sp_is_table) (e_InvalidTable : ExcF K mg "InvalidTable" C_InvalidTable) :
    ∃ t, JB (cxOf (L2.CX P wd) P wd K mg base N_need_table "need_table" (defScope s_need_table) f cdv A outer s H E) (WD E) (defBody s_need_table) t (T_need_table C_InvalidTable) := by
  have hu : (A.deeper (envOfC "need_table" (defScope s_need_table) s.heap.objs.size f cdv)).units + 64 < cLine := hr.units
  exact ⟨_, (jb_one (js_if (jt_not (jt_val (je_callCG c_is_table hG (hr.mono (by decide)) rfl (takes_of rfl rfl rfl rfl) (ja_cons (je_var 0) ja_nil))))
  (jb_one (js_raiseC e_InvalidTable rfl (takes_of rfl rfl rfl rfl) rfl))
  jb_nil))⟩
theorem sc_need_line : FnScope N_need_line P_need_line (defScope s_need_line) := ⟨rfl, rfl, rfl, by decide +kernel, rfl, by decide +kernel, by decide +kernel⟩
theorem d_need_line {C_InvalidLine : Addr} {P : Program} {wd : World} {K : PySem.W.Frag} {mg : Str → Option Value} {base : Heap} {f : Addr} {cdv : Value} {A : Around} {outer : List Env} {s : Shared} {H : Hp} {E : XK} (hG : (A.deeper (envOfC "need_line" (defScope s_need_line) s.heap.objs.size f cdv)).guards = some []) (hr : Room 1 (A.deeper (envOfC "need_line" (defScope s_need_line) s.heap.objs.size f cdv))) (c_is_integer : CalG P wd K mg base "is_integer" s_is_integer 1 P_is_integer sp_is_integer) (m_len : mg "len" = none) (e_InvalidLine : ExcF K mg "InvalidLine" C_InvalidLine) :
    ∃ t, JB (cxOf (L2.CX P wd) P wd K mg base N_need_line "need_line" (defScope s_need_line) f cdv A outer s H E) (WD E) (defBody s_need_line) t (T_need_line C_InvalidLine) := by
  have hu : (A.deeper (envOfC "need_line" (defScope s_need_line) s.heap.objs.size f cdv)).units + 64 < cLine := hr.units
  exact ⟨_, (jb_one (js_if (jt_not (jt_val (je_callCG c_is_integer hG (hr.mono (by decide)) rfl (takes_of rfl rfl rfl rfl) (ja_cons (je_var 1) (ja_cons je_int (ja_cons (je_op op_sub opd_sub (je_callB call_lenA cd_len rfl m_len (by decide +kernel) (ja_cons (je_var 0) ja_nil)) je_int) ja_nil))))))
  (jb_one (js_raiseC e_InvalidLine rfl (takes_of rfl rfl rfl rfl) rfl))
  jb_nil))⟩
theorem sc_copy_of : FnScope N_copy_of P_copy_of (defScope s_copy_of) := ⟨rfl, rfl, rfl, by decide +kernel, rfl, by decide +kernel, by decide +kernel⟩
theorem d_copy_of {P : Program} {wd : World} {K : PySem.W.Frag} {mg : Str → Option Value} {base : Heap} {f : Addr} {cdv : Value} {A : Around} {outer : List Env} {s : Shared} {H : Hp} {E : XK} (hG : (A.deeper (envOfC "copy_of" (defScope s_copy_of) s.heap.objs.size f cdv)).guards = some []) (hr : Room 0 (A.deeper (envOfC "copy_of" (defScope s_copy_of) s.heap.objs.size f cdv))) (m_list : mg "list" = none) :
    ∃ t, JB (cxOf (L2.CX P wd) P wd K mg base N_copy_of "copy_of" (defScope s_copy_of) f cdv A outer s H E) (WD E) (defBody s_copy_of) t T_copy_of := by
  have hu : (A.deeper (envOfC "copy_of" (defScope s_copy_of) s.heap.objs.size f cdv)).units + 64 < cLine := hr.units
  exact ⟨_, (jb_one (js_ret (je_lc (own := ([("cells", 1)] : List (Str × Nat))) finO finO_ok rfl sc_copy_of.nd (ji_list (je_var 0)) (blkOk_by (N := N_copy_of) (sc := defScope s_copy_of) (by decide +kernel)) (fun _ _ _ _ _ => (jg_name 1 sc_copy_of.nd)) (by exact (gk_name (vs := [1]) (i := 1))) (fun _ _ _ _ _ => jts_nil) (fun _ _ _ _ _ => (je_callTy call_list_of cd_listO rfl m_list (by decide +kernel) (ja_cons (je_var 1) ja_nil))))))⟩
theorem sc_tabs_in : FnScope N_tabs_in P_tabs_in (defScope s_tabs_in) := ⟨rfl, rfl, rfl, by decide +kernel, rfl, by decide +kernel, by decide +kernel⟩
theorem d_tabs_in {P : Program} {wd : World} {K : PySem.W.Frag} {mg : Str → Option Value} {base : Heap} {f : Addr} {cdv : Value} {A : Around} {outer : List Env} {s : Shared} {H : Hp} {E : XK} (hG : (A.deeper (envOfC "tabs_in" (defScope s_tabs_in) s.heap.objs.size f cdv)).guards = some []) (hr : Room 0 (A.deeper (envOfC "tabs_in" (defScope s_tabs_in) s.heap.objs.size f cdv))) (m_len : mg "len" = none) :
    ∃ t, JB (cxOf (L2.CX P wd) P wd K mg base N_tabs_in "tabs_in" (defScope s_tabs_in) f cdv A outer s H E) (WD E) (defBody s_tabs_in) t T_tabs_in := by
  have hu : (A.deeper (envOfC "tabs_in" (defScope s_tabs_in) s.heap.objs.size f cdv)).units + 64 < cLine := hr.units
  exact ⟨_, (jb_one (js_ret (je_lc (own := ([("cells", 1)] : List (Str × Nat))) finF finF_ok rfl sc_tabs_in.nd (ji_list (je_var 0)) (blkOk_by (N := N_tabs_in) (sc := defScope s_tabs_in) (by decide +kernel)) (fun _ _ _ _ _ => (jg_name 1 sc_tabs_in.nd)) (by exact (gk_name (vs := [1]) (i := 1))) (fun _ _ _ _ _ => jts_nil) (fun _ _ _ _ _ => (je_op op_sub opd_sub (je_callB call_lenA cd_len rfl m_len (by decide +kernel) (ja_cons (je_var 1) ja_nil)) je_int)))))⟩
theorem sc_tabs_of : FnScope N_tabs_of P_tabs_of (defScope s_tabs_of) := ⟨rfl, rfl, rfl, by decide +kernel, rfl, by decide +kernel, by decide +kernel⟩
theorem d_tabs_of {P : Program} {wd : World} {K : PySem.W.Frag} {mg : Str → Option Value} {base : Heap} {f : Addr} {cdv : Value} {A : Around} {outer : List Env} {s : Shared} {H : Hp} {E : XK} (hG : (A.deeper (envOfC "tabs_of" (defScope s_tabs_of) s.heap.objs.size f cdv)).guards = some []) (hr : Room 5 (A.deeper (envOfC "tabs_of" (defScope s_tabs_of) s.heap.objs.size f cdv))) (c_need_table : CalG P wd K mg base "need_table" s_need_table 5 P_need_table sp_need_table) (c_tabs_in : CalG P wd K mg base "tabs_in" s_tabs_in 1 P_tabs_in sp_tabs_in) :
    ∃ t, JB (cxOf (L2.CX P wd) P wd K mg base N_tabs_of "tabs_of" (defScope s_tabs_of) f cdv A outer s H E) (WD E) (defBody s_tabs_of) t T_tabs_of := by
  have hu : (A.deeper (envOfC "tabs_of" (defScope s_tabs_of) s.heap.objs.size f cdv)).units + 64 < cLine := hr.units
  exact ⟨_, (jb_cons (js_expr (je_callCG c_need_table hG (hr.mono (by decide)) rfl (takes_of rfl rfl rfl rfl) (ja_cons (je_var 0) ja_nil)))
  (jb_one (js_ret (je_callCG c_tabs_in hG (hr.mono (by decide)) rfl (takes_of rfl rfl rfl rfl) (ja_cons (je_var 0) ja_nil)))))⟩
theorem sc_stacked : FnScope N_stacked P_stacked (defScope s_stacked) := ⟨rfl, rfl, rfl, by decide +kernel, rfl, by decide +kernel, by decide +kernel⟩
theorem d_stacked {P : Program} {wd : World} {K : PySem.W.Frag} {mg : Str → Option Value} {base : Heap} {f : Addr} {cdv : Value} {A : Around} {outer : List Env} {s : Shared} {H : Hp} {E : XK} (hG : (A.deeper (envOfC "stacked" (defScope s_stacked) s.heap.objs.size f cdv)).guards = some []) (hr : Room 5 (A.deeper (envOfC "stacked" (defScope s_stacked) s.heap.objs.size f cdv))) (c_need_table : CalG P wd K mg base "need_table" s_need_table 5 P_need_table sp_need_table) (m_list : mg "list" = none) :
    ∃ t, JB (cxOf (L2.CX P wd) P wd K mg base N_stacked "stacked" (defScope s_stacked) f cdv A outer s H E) (WD E) (defBody s_stacked) t T_stacked := by
  have hu : (A.deeper (envOfC "stacked" (defScope s_stacked) s.heap.objs.size f cdv)).units + 64 < cLine := hr.units
  exact ⟨_, (jb_cons (js_for (passes_of rfl) rfl (ji_tup (je_var 0)) (jg_name 1 sc_stacked.nd)
  (jb_one (js_expr (je_callCG c_need_table hG (hr.mono (by decide)) rfl (takes_of rfl rfl rfl rfl) (ja_cons (je_var 1) ja_nil)))))
  (jb_cons (js_setLc2 2 (own := ([("table", 1), ("cells", 3)] : List (Str × Nat))) (vs1 := [3]) finF finF_ok rfl sc_stacked.nd (ji_tup (je_var 0)) (blkOk_by (N := N_stacked) (sc := defScope s_stacked) (by decide +kernel)) (by decide) (fun _ _ _ _ _ => (jg_name 1 sc_stacked.nd)) (by exact (gk_name (vs := [1, 3]) (i := 1))) (fun _ _ _ _ _ => jts_nil) (fun _ _ _ _ _ => (je_var 1)) (fun _ _ _ _ _ => (jg_name 3 sc_stacked.nd)) (by exact (gk_name (vs := [3]) (i := 3))) (fun _ _ _ _ _ => jts_nil) (fun _ _ _ _ _ => (je_callTy call_list_of cd_list rfl m_list (by decide +kernel) (ja_cons (je_var 3) ja_nil))))
  (jb_cons (js_expr (je_callCG c_need_table hG (hr.mono (by decide)) rfl (takes_of rfl rfl rfl rfl) (ja_cons (je_var 2) ja_nil)))
  (jb_one (js_ret (je_fz (je_var 2)))))))⟩
theorem sc_part : FnScope N_part P_part (defScope s_part) := ⟨rfl, rfl, rfl, by decide +kernel, rfl, by decide +kernel, by decide +kernel⟩
theorem d_part {C_InvalidLine : Addr} {P : Program} {wd : World} {K : PySem.W.Frag} {mg : Str → Option Value} {base : Heap} {f : Addr} {cdv : Value} {A : Around} {outer : List Env} {s : Shared} {H : Hp} {E : XK} (hG : (A.deeper (envOfC "part" (defScope s_part) s.heap.objs.size f cdv)).guards = some []) (hr : Room 5 (A.deeper (envOfC "part" (defScope s_part) s.heap.objs.size f cdv))) (c_need_table : CalG P wd K mg base "need_table" s_need_table 5 P_need_table sp_need_table) (c_need_line : CalG P wd K mg base "need_line" s_need_line 2 P_need_line sp_need_line) (e_InvalidLine : ExcF K mg "InvalidLine" C_InvalidLine) (c_copy_of : CalG P wd K mg base "copy_of" s_copy_of 1 P_copy_of sp_copy_of) :
    ∃ t, JB (cxOf (L2.CX P wd) P wd K mg base N_part "part" (defScope s_part) f cdv A outer s H E) (WD E) (defBody s_part) t (T_part C_InvalidLine) := by
  have hu : (A.deeper (envOfC "part" (defScope s_part) s.heap.objs.size f cdv)).units + 64 < cLine := hr.units
  exact ⟨_, (jb_cons (js_expr (je_callCG c_need_table hG (hr.mono (by decide)) rfl (takes_of rfl rfl rfl rfl) (ja_cons (je_var 0) ja_nil)))
  (jb_cons (js_expr (je_callCG c_need_line hG (hr.mono (by decide)) rfl (takes_of rfl rfl rfl rfl) (ja_cons (je_var 0) (ja_cons (je_var 1) ja_nil))))
  (jb_cons (js_expr (je_callCG c_need_line hG (hr.mono (by decide)) rfl (takes_of rfl rfl rfl rfl) (ja_cons (je_var 0) (ja_cons (je_var 2) ja_nil))))
  (jb_cons (js_if (jt_cmp op_lt opd_lt (je_var 2) (je_var 1) (nomark _))
  (jb_one (js_raiseC e_InvalidLine rfl (takes_of rfl rfl rfl rfl) rfl))
  jb_nil)
  (jb_one (js_ret (je_callCG c_copy_of hG (hr.mono (by decide)) rfl (takes_of rfl rfl rfl rfl) (ja_cons (je_slice sl_list sld_l (je_var 0) (jo_some (je_var 1)) (jo_some (je_op op_addA opd_add (je_var 2) je_int))) ja_nil))))))))⟩
theorem sc_blocks_of_column : FnScope N_blocks_of_column P_blocks_of_column (defScope s_blocks_of_column) := ⟨rfl, rfl, rfl, by decide +kernel, rfl, by decide +kernel, by decide +kernel⟩
theorem d_blocks_of_column {P : Program} {wd : World} {K : PySem.W.Frag} {mg : Str → Option Value} {base : Heap} {f : Addr} {cdv : Value} {A : Around} {outer : List Env} {s : Shared} {H : Hp} {E : XK} (hG : (A.deeper (envOfC "blocks_of_column" (defScope s_blocks_of_column) s.heap.objs.size f cdv)).guards = some []) (hr : Room 0 (A.deeper (envOfC "blocks_of_column" (defScope s_blocks_of_column) s.heap.objs.size f cdv))) (m_enumerate : mg "enumerate" = none) :
    ∃ t, JB (cxOf (L2.CX P wd) P wd K mg base N_blocks_of_column "blocks_of_column" (defScope s_blocks_of_column) f cdv A outer s H E) (WD E) (defBody s_blocks_of_column) t T_blocks_of_column := by
  have hu : (A.deeper (envOfC "blocks_of_column" (defScope s_blocks_of_column) s.heap.objs.size f cdv)).units + 64 < cLine := hr.units
  exact ⟨_, (jb_cons (js_set 2 sc_blocks_of_column.nd (je_lstO ja_nil))
  (jb_cons (js_set 3 sc_blocks_of_column.nd je_non)
  (jb_cons (js_for (passes_of rfl) rfl (ji_enum rfl m_enumerate (ja_cons (je_lst (ja_star (je_var 0) (ja_cons je_int ja_nil))) ja_nil)) (jg_tup rfl (jgs_cons (jg_name 4 sc_blocks_of_column.nd) (jgs_cons (jg_name 5 sc_blocks_of_column.nd) jgs_nil)))
  (jb_cons (js_if (JW.jt (jw_and (jt_cmp op_gt opd_gt (je_var 5) (je_var 1) (nomark _)) (jw_and1 (jt_cmp op_isN opd_isN (je_var 3) je_non (nomark _)))))
  (jb_one (js_set 3 sc_blocks_of_column.nd (je_var 4)))
  jb_nil)
  (jb_one (js_if (JW.jt (jw_and (jt_cmp op_le opd_le (je_var 5) (je_var 1) (nomark _)) (jw_and1 (jt_cmp op_notN opd_notN (je_var 3) je_non (nomark _)))))
  (jb_cons (js_expr (je_bm PySem.F.slot_list_append PySem.F.type_list_append mt_append mtd_append (je_var 2) (ja_cons (je_tup (ja_cons (je_var 1) (ja_cons (je_var 3) (ja_cons (je_op op_sub opd_sub (je_var 4) je_int) ja_nil)))) ja_nil)))
  (jb_one (js_set 3 sc_blocks_of_column.nd je_non)))
  jb_nil))))
  (jb_one (js_ret (je_fz (je_var 2)))))))⟩
theorem sc_blocks_by_tabs : FnScope N_blocks_by_tabs P_blocks_by_tabs (defScope s_blocks_by_tabs) := ⟨rfl, rfl, rfl, by decide +kernel, rfl, by decide +kernel, by decide +kernel⟩
theorem d_blocks_by_tabs {P : Program} {wd : World} {K : PySem.W.Frag} {mg : Str → Option Value} {base : Heap} {f : Addr} {cdv : Value} {A : Around} {outer : List Env} {s : Shared} {H : Hp} {E : XK} (hG : (A.deeper (envOfC "blocks_by_tabs" (defScope s_blocks_by_tabs) s.heap.objs.size f cdv)).guards = some []) (hr : Room 1 (A.deeper (envOfC "blocks_by_tabs" (defScope s_blocks_by_tabs) s.heap.objs.size f cdv))) (g_MOST_CELLS : ∃ t, mg "MOST_CELLS" = some (.int 12 t)) (m_range : mg "range" = none) (c_blocks_of_column : CalG P wd K mg base "blocks_of_column" s_blocks_of_column 1 P_blocks_of_column sp_blocks_of_column) :
    ∃ t, JB (cxOf (L2.CX P wd) P wd K mg base N_blocks_by_tabs "blocks_by_tabs" (defScope s_blocks_by_tabs) f cdv A outer s H E) (WD E) (defBody s_blocks_by_tabs) t T_blocks_by_tabs := by
  have hu : (A.deeper (envOfC "blocks_by_tabs" (defScope s_blocks_by_tabs) s.heap.objs.size f cdv)).units + 64 < cLine := hr.units
  exact ⟨_, (jb_cons (js_set 1 sc_blocks_by_tabs.nd (je_lstO ja_nil))
  (jb_cons (js_for (passes_of rfl) rfl (ji_range1 rfl m_range (ja_cons (je_op op_sub opd_sub (je_gint rfl g_MOST_CELLS) je_int) ja_nil)) (jg_name 2 sc_blocks_by_tabs.nd)
  (jb_one (js_expr (je_bm PySem.F.slot_list_extend PySem.F.type_list_extend mt_extend mtd_extend (je_var 1) (ja_cons (je_callCG c_blocks_of_column hG (hr.mono (by decide)) rfl (takes_of rfl rfl rfl rfl) (ja_cons (je_var 0) (ja_cons (je_var 2) ja_nil))) ja_nil)))))
  (jb_one (js_ret (je_fz (je_var 1))))))⟩
theorem sc_blocks_in : FnScope N_blocks_in P_blocks_in (defScope s_blocks_in) := ⟨rfl, rfl, rfl, by decide +kernel, rfl, by decide +kernel, by decide +kernel⟩
theorem d_blocks_in {P : Program} {wd : World} {K : PySem.W.Frag} {mg : Str → Option Value} {base : Heap} {f : Addr} {cdv : Value} {A : Around} {outer : List Env} {s : Shared} {H : Hp} {E : XK} (hG : (A.deeper (envOfC "blocks_in" (defScope s_blocks_in) s.heap.objs.size f cdv)).guards = some []) (hr : Room 2 (A.deeper (envOfC "blocks_in" (defScope s_blocks_in) s.heap.objs.size f cdv))) (c_blocks_by_tabs : CalG P wd K mg base "blocks_by_tabs" s_blocks_by_tabs 2 P_blocks_by_tabs sp_blocks_by_tabs) (c_tabs_in : CalG P wd K mg base "tabs_in" s_tabs_in 1 P_tabs_in sp_tabs_in) :
    ∃ t, JB (cxOf (L2.CX P wd) P wd K mg base N_blocks_in "blocks_in" (defScope s_blocks_in) f cdv A outer s H E) (WD E) (defBody s_blocks_in) t T_blocks_in := by
  have hu : (A.deeper (envOfC "blocks_in" (defScope s_blocks_in) s.heap.objs.size f cdv)).units + 64 < cLine := hr.units
  exact ⟨_, (jb_one (js_ret (je_callCG c_blocks_by_tabs hG (hr.mono (by decide)) rfl (takes_of rfl rfl rfl rfl) (ja_cons (je_callCG c_tabs_in hG (hr.mono (by decide)) rfl (takes_of rfl rfl rfl rfl) (ja_cons (je_var 0) ja_nil)) ja_nil))))⟩
theorem sc_block_with : FnScope N_block_with P_block_with (defScope s_block_with) := ⟨rfl, rfl, rfl, by decide +kernel, rfl, by decide +kernel, by decide +kernel⟩
theorem d_block_with {P : Program} {wd : World} {K : PySem.W.Frag} {mg : Str → Option Value} {base : Heap} {f : Addr} {cdv : Value} {A : Around} {outer : List Env} {s : Shared} {H : Hp} {E : XK} (hG : (A.deeper (envOfC "block_with" (defScope s_block_with) s.heap.objs.size f cdv)).guards = some []) (hr : Room 3 (A.deeper (envOfC "block_with" (defScope s_block_with) s.heap.objs.size f cdv))) (c_blocks_in : CalG P wd K mg base "blocks_in" s_blocks_in 3 P_blocks_in sp_blocks_in) :
    ∃ t, JB (cxOf (L2.CX P wd) P wd K mg base N_block_with "block_with" (defScope s_block_with) f cdv A outer s H E) (WD E) (defBody s_block_with) t T_block_with := by
  have hu : (A.deeper (envOfC "block_with" (defScope s_block_with) s.heap.objs.size f cdv)).units + 64 < cLine := hr.units
  exact ⟨_, (jb_cons (js_for (passes_of rfl) rfl (ji_list (je_callCG c_blocks_in hG (hr.mono (by decide)) rfl (takes_of rfl rfl rfl rfl) (ja_cons (je_var 0) ja_nil))) (jg_name 3 sc_block_with.nd)
  (jb_one (js_if (JW.jt (jw_and (jt_cmp (op_eqD hu) opd_eq (je_ix ix_seq opd_ix (je_var 3) je_int) (je_var 2) (nomark _)) (jw_and1 (jt_chain op_le op_le opd_le opd_le (je_ix ix_seq opd_ix (je_var 3) je_int) (je_var 1) (je_ix ix_seq opd_ix (je_var 3) je_int)))))
  (jb_one (js_ret (je_var 3)))
  jb_nil)))
  (jb_one (js_ret je_non)))⟩
theorem sc_blocks_around : FnScope N_blocks_around P_blocks_around (defScope s_blocks_around) := ⟨rfl, rfl, rfl, by decide +kernel, rfl, by decide +kernel, by decide +kernel⟩
theorem d_blocks_around {P : Program} {wd : World} {K : PySem.W.Frag} {mg : Str → Option Value} {base : Heap} {f : Addr} {cdv : Value} {A : Around} {outer : List Env} {s : Shared} {H : Hp} {E : XK} (hG : (A.deeper (envOfC "blocks_around" (defScope s_blocks_around) s.heap.objs.size f cdv)).guards = some []) (hr : Room 3 (A.deeper (envOfC "blocks_around" (defScope s_blocks_around) s.heap.objs.size f cdv))) (c_blocks_in : CalG P wd K mg base "blocks_in" s_blocks_in 3 P_blocks_in sp_blocks_in) :
    ∃ t, JB (cxOf (L2.CX P wd) P wd K mg base N_blocks_around "blocks_around" (defScope s_blocks_around) f cdv A outer s H E) (WD E) (defBody s_blocks_around) t T_blocks_around := by
  have hu : (A.deeper (envOfC "blocks_around" (defScope s_blocks_around) s.heap.objs.size f cdv)).units + 64 < cLine := hr.units
  exact ⟨_, (jb_one (js_ret (je_lc (own := ([("block", 3)] : List (Str × Nat))) finF finF_ok rfl sc_blocks_around.nd (ji_list (je_callCG c_blocks_in hG (hr.mono (by decide)) rfl (takes_of rfl rfl rfl rfl) (ja_cons (je_var 0) ja_nil))) (blkOk_by (N := N_blocks_around) (sc := defScope s_blocks_around) (by decide +kernel)) (fun _ _ _ _ _ => (jg_name 3 sc_blocks_around.nd)) (by exact (gk_name (vs := [3]) (i := 3))) (fun _ _ _ _ _ => (jts_one (JW.jt (jw_and (jt_cmp op_le opd_le (je_ix ix_seq opd_ix (je_var 3) je_int) (je_var 2) (nomark _)) (jw_and1 (jt_chain op_le op_le opd_le opd_le (je_ix ix_seq opd_ix (je_var 3) je_int) (je_var 1) (je_ix ix_seq opd_ix (je_var 3) je_int))))))) (fun _ _ _ _ _ => (je_var 3)))))⟩
theorem sc_blocks_of : FnScope N_blocks_of P_blocks_of (defScope s_blocks_of) := ⟨rfl, rfl, rfl, by decide +kernel, rfl, by decide +kernel, by decide +kernel⟩
theorem d_blocks_of {P : Program} {wd : World} {K : PySem.W.Frag} {mg : Str → Option Value} {base : Heap} {f : Addr} {cdv : Value} {A : Around} {outer : List Env} {s : Shared} {H : Hp} {E : XK} (hG : (A.deeper (envOfC "blocks_of" (defScope s_blocks_of) s.heap.objs.size f cdv)).guards = some []) (hr : Room 5 (A.deeper (envOfC "blocks_of" (defScope s_blocks_of) s.heap.objs.size f cdv))) (c_need_table : CalG P wd K mg base "need_table" s_need_table 5 P_need_table sp_need_table) (c_blocks_in : CalG P wd K mg base "blocks_in" s_blocks_in 3 P_blocks_in sp_blocks_in) :
    ∃ t, JB (cxOf (L2.CX P wd) P wd K mg base N_blocks_of "blocks_of" (defScope s_blocks_of) f cdv A outer s H E) (WD E) (defBody s_blocks_of) t T_blocks_of := by
  have hu : (A.deeper (envOfC "blocks_of" (defScope s_blocks_of) s.heap.objs.size f cdv)).units + 64 < cLine := hr.units
  exact ⟨_, (jb_cons (js_expr (je_callCG c_need_table hG (hr.mono (by decide)) rfl (takes_of rfl rfl rfl rfl) (ja_cons (je_var 0) ja_nil)))
  (jb_one (js_ret (je_callCG c_blocks_in hG (hr.mono (by decide)) rfl (takes_of rfl rfl rfl rfl) (ja_cons (je_var 0) ja_nil)))))⟩
theorem sc_block_at : FnScope N_block_at P_block_at (defScope s_block_at) := ⟨rfl, rfl, rfl, by decide +kernel, rfl, by decide +kernel, by decide +kernel⟩
theorem d_block_at {C_InvalidColumn : Addr} {P : Program} {wd : World} {K : PySem.W.Frag} {mg : Str → Option Value} {base : Heap} {f : Addr} {cdv : Value} {A : Around} {outer : List Env} {s : Shared} {H : Hp} {E : XK} (hG : (A.deeper (envOfC "block_at" (defScope s_block_at) s.heap.objs.size f cdv)).guards = some []) (hr : Room 5 (A.deeper (envOfC "block_at" (defScope s_block_at) s.heap.objs.size f cdv))) (c_need_table : CalG P wd K mg base "need_table" s_need_table 5 P_need_table sp_need_table) (c_need_line : CalG P wd K mg base "need_line" s_need_line 2 P_need_line sp_need_line) (e_InvalidColumn : ExcF K mg "InvalidColumn" C_InvalidColumn) (c_block_with : CalG P wd K mg base "block_with" s_block_with 4 P_block_with sp_block_with) :
    ∃ t, JB (cxOf (L2.CX P wd) P wd K mg base N_block_at "block_at" (defScope s_block_at) f cdv A outer s H E) (WD E) (defBody s_block_at) t (T_block_at C_InvalidColumn) := by
  have hu : (A.deeper (envOfC "block_at" (defScope s_block_at) s.heap.objs.size f cdv)).units + 64 < cLine := hr.units
  exact ⟨_, (jb_cons (js_expr (je_callCG c_need_table hG (hr.mono (by decide)) rfl (takes_of rfl rfl rfl rfl) (ja_cons (je_var 0) ja_nil)))
  (jb_cons (js_expr (je_callCG c_need_line hG (hr.mono (by decide)) rfl (takes_of rfl rfl rfl rfl) (ja_cons (je_var 0) (ja_cons (je_var 1) ja_nil))))
  (jb_cons (js_if (jt_cmp op_lt opd_lt (je_var 2) je_int (nomark _))
  (jb_one (js_raiseC e_InvalidColumn rfl (takes_of rfl rfl rfl rfl) rfl))
  jb_nil)
  (jb_one (js_ret (je_callCG c_block_with hG (hr.mono (by decide)) rfl (takes_of rfl rfl rfl rfl) (ja_cons (je_var 0) (ja_cons (je_var 1) (ja_cons (je_var 2) ja_nil)))))))))⟩
theorem sc_need_block : FnScope N_need_block P_need_block (defScope s_need_block) := ⟨rfl, rfl, rfl, by decide +kernel, rfl, by decide +kernel, by decide +kernel⟩
theorem d_need_block {C_InvalidBlock : Addr} {P : Program} {wd : World} {K : PySem.W.Frag} {mg : Str → Option Value} {base : Heap} {f : Addr} {cdv : Value} {A : Around} {outer : List Env} {s : Shared} {H : Hp} {E : XK} (hG : (A.deeper (envOfC "need_block" (defScope s_need_block) s.heap.objs.size f cdv)).guards = some []) (hr : Room 3 (A.deeper (envOfC "need_block" (defScope s_need_block) s.heap.objs.size f cdv))) (m_tuple : mg "tuple" = none) (m_isinstance : mg "isinstance" = none) (c_is_integer : CalG P wd K mg base "is_integer" s_is_integer 1 P_is_integer sp_is_integer) (m_len : mg "len" = none) (g_MOST_CELLS : ∃ t, mg "MOST_CELLS" = some (.int 12 t)) (m_all : mg "all" = none) (e_InvalidBlock : ExcF K mg "InvalidBlock" C_InvalidBlock) (c_blocks_in : CalG P wd K mg base "blocks_in" s_blocks_in 3 P_blocks_in sp_blocks_in) :
    ∃ t, JB (cxOf (L2.CX P wd) P wd K mg base N_need_block "need_block" (defScope s_need_block) f cdv A outer s H E) (WD E) (defBody s_need_block) t (T_need_block C_InvalidBlock) := by
  have hu : (A.deeper (envOfC "need_block" (defScope s_need_block) s.heap.objs.size f cdv)).units + 64 < cLine := hr.units
  exact ⟨_, (jb_cons (js_if (JW.jt (jw_or (jt_not (jt_val (je_callB call_isi cd_isi rfl m_isinstance (by decide +kernel) (ja_cons (je_var 1) (ja_cons (je_ty rfl m_tuple (by decide +kernel)) ja_nil))))) (jw_or1 (jt_not (jt_val (je_callB (cr_all rfl) cd_all rfl m_all (by decide +kernel) (ja_cons (je_lc (own := ([("part", 2)] : List (Str × Nat))) finF finF_ok rfl sc_need_block.nd (ji_tup (je_var 1)) (blkOk_by (N := N_need_block) (sc := defScope s_need_block) (by decide +kernel)) (fun _ _ _ _ _ => (jg_name 2 sc_need_block.nd)) (by exact (gk_name (vs := [2]) (i := 2))) (fun _ _ _ _ _ => jts_nil) (fun _ _ _ _ _ => (je_callCG c_is_integer hG (hr.mono (by decide)) rfl takes0 (ja_cons (je_var 2) (ja_cons je_int (ja_cons (je_op op_addA opd_add (je_callB call_lenA cd_len rfl m_len (by decide +kernel) (ja_cons (je_var 0) ja_nil)) (je_gint rfl g_MOST_CELLS)) ja_nil)))))) ja_nil)))))))
  (jb_one (js_raiseC e_InvalidBlock rfl (takes_of rfl rfl rfl rfl) rfl))
  jb_nil)
  (jb_one (js_if (jt_cmp (op_notInE hu) opd_notInE (je_var 1) (je_callCG c_blocks_in hG (hr.mono (by decide)) rfl (takes_of rfl rfl rfl rfl) (ja_cons (je_var 0) ja_nil)) (by rfl))
  (jb_one (js_raiseC e_InvalidBlock rfl (takes_of rfl rfl rfl rfl) rfl))
  jb_nil)))⟩
theorem sc_parent_of : FnScope N_parent_of P_parent_of (defScope s_parent_of) := ⟨rfl, rfl, rfl, by decide +kernel, rfl, by decide +kernel, by decide +kernel⟩
theorem d_parent_of {P : Program} {wd : World} {K : PySem.W.Frag} {mg : Str → Option Value} {base : Heap} {f : Addr} {cdv : Value} {A : Around} {outer : List Env} {s : Shared} {H : Hp} {E : XK} (hG : (A.deeper (envOfC "parent_of" (defScope s_parent_of) s.heap.objs.size f cdv)).guards = some []) (hr : Room 5 (A.deeper (envOfC "parent_of" (defScope s_parent_of) s.heap.objs.size f cdv))) (c_need_table : CalG P wd K mg base "need_table" s_need_table 5 P_need_table sp_need_table) (c_need_block : CalG P wd K mg base "need_block" s_need_block 4 P_need_block sp_need_block) (c_block_with : CalG P wd K mg base "block_with" s_block_with 4 P_block_with sp_block_with) :
    ∃ t, JB (cxOf (L2.CX P wd) P wd K mg base N_parent_of "parent_of" (defScope s_parent_of) f cdv A outer s H E) (WD E) (defBody s_parent_of) t T_parent_of := by
  have hu : (A.deeper (envOfC "parent_of" (defScope s_parent_of) s.heap.objs.size f cdv)).units + 64 < cLine := hr.units
  exact ⟨_, (jb_cons (js_expr (je_callCG c_need_table hG (hr.mono (by decide)) rfl (takes_of rfl rfl rfl rfl) (ja_cons (je_var 0) ja_nil)))
  (jb_cons (js_expr (je_callCG c_need_block hG (hr.mono (by decide)) rfl (takes_of rfl rfl rfl rfl) (ja_cons (je_var 0) (ja_cons (je_var 1) ja_nil))))
  (jb_one (js_ret (je_callCG c_block_with hG (hr.mono (by decide)) rfl (takes_of rfl rfl rfl rfl) (ja_cons (je_var 0) (ja_cons (je_ix ix_seq opd_ix (je_var 1) je_int) (ja_cons (je_op op_sub opd_sub (je_ix ix_seq opd_ix (je_var 1) je_int) je_int) ja_nil))))))))⟩
theorem sc_greatest_in : FnScope N_greatest_in P_greatest_in (defScope s_greatest_in) := ⟨rfl, rfl, rfl, by decide +kernel, rfl, by decide +kernel, by decide +kernel⟩
theorem d_greatest_in {P : Program} {wd : World} {K : PySem.W.Frag} {mg : Str → Option Value} {base : Heap} {f : Addr} {cdv : Value} {A : Around} {outer : List Env} {s : Shared} {H : Hp} {E : XK} (hG : (A.deeper (envOfC "greatest_in" (defScope s_greatest_in) s.heap.objs.size f cdv)).guards = some []) (hr : Room 0 (A.deeper (envOfC "greatest_in" (defScope s_greatest_in) s.heap.objs.size f cdv))) (m_max : mg "max" = none) :
    ∃ t, JB (cxOf (L2.CX P wd) P wd K mg base N_greatest_in "greatest_in" (defScope s_greatest_in) f cdv A outer s H E) (WD E) (defBody s_greatest_in) t T_greatest_in := by
  have hu : (A.deeper (envOfC "greatest_in" (defScope s_greatest_in) s.heap.objs.size f cdv)).units + 64 < cLine := hr.units
  exact ⟨_, (jb_cons (js_asg (je_var 1) (jg_tup rfl (jgs_cons (jg_name 2 sc_greatest_in.nd) (jgs_cons (jg_name 3 sc_greatest_in.nd) (jgs_cons (jg_name 4 sc_greatest_in.nd) jgs_nil)))))
  (jb_one (js_ret (je_callB (cr_max rfl) cd_max rfl m_max (by decide +kernel) (ja_cons (je_lc (own := ([("cells", 5)] : List (Str × Nat))) finF finF_ok rfl sc_greatest_in.nd (ji_list (je_slice sl_list sld_l (je_var 0) (jo_some (je_var 3)) (jo_some (je_op op_addA opd_add (je_var 4) je_int)))) (blkOk_by (N := N_greatest_in) (sc := defScope s_greatest_in) (by decide +kernel)) (fun _ _ _ _ _ => (jg_name 5 sc_greatest_in.nd)) (by exact (gk_name (vs := [5]) (i := 5))) (fun _ _ _ _ _ => jts_nil) (fun _ _ _ _ _ => (je_ix ix_seq opd_ix (je_var 5) (je_var 2)))) ja_nil)))))⟩
theorem sc_room_of : FnScope N_room_of P_room_of (defScope s_room_of) := ⟨rfl, rfl, rfl, by decide +kernel, rfl, by decide +kernel, by decide +kernel⟩
theorem d_room_of {C_Style : Addr} {P : Program} {wd : World} {K : PySem.W.Frag} {mg : Str → Option Value} {base : Heap} {f : Addr} {cdv : Value} {A : Around} {outer : List Env} {s : Shared} {H : Hp} {E : XK} (hG : (A.deeper (envOfC "room_of" (defScope s_room_of) s.heap.objs.size f cdv)).guards = some []) (hr : Room 2 (A.deeper (envOfC "room_of" (defScope s_room_of) s.heap.objs.size f cdv))) (c_greatest_in : CalG P wd K mg base "greatest_in" s_greatest_in 1 P_greatest_in sp_greatest_in) (pr_Style_least : PropK P wd K mg base C_Style "least" 1 (pkP 1 [0] [] (sp_Style_least C_Style))) (m_max : mg "max" = none) :
    ∃ t, JB (cxOf (L2.CX P wd) P wd K mg base N_room_of "room_of" (defScope s_room_of) f cdv A outer s H E) (WD E) (defBody s_room_of) t (T_room_of C_Style) := by
  have hu : (A.deeper (envOfC "room_of" (defScope s_room_of) s.heap.objs.size f cdv)).units + 64 < cLine := hr.units
  exact ⟨_, (jb_one (js_ret (je_callB (call_max2 rfl) cd_max2 rfl m_max (by decide +kernel) (ja_cons (je_propA pr_Style_least hG (hr.mono (by decide)) (je_var 1)) (ja_cons (je_callCG c_greatest_in hG (hr.mono (by decide)) rfl (takes_of rfl rfl rfl rfl) (ja_cons (je_var 0) (ja_cons (je_var 2) ja_nil))) ja_nil)))))⟩
theorem sc_rooms_in : FnScope N_rooms_in P_rooms_in (defScope s_rooms_in) := ⟨rfl, rfl, rfl, by decide +kernel, rfl, by decide +kernel, by decide +kernel⟩
theorem d_rooms_in {C_Style : Addr} {P : Program} {wd : World} {K : PySem.W.Frag} {mg : Str → Option Value} {base : Heap} {f : Addr} {cdv : Value} {A : Around} {outer : List Env} {s : Shared} {H : Hp} {E : XK} (hG : (A.deeper (envOfC "rooms_in" (defScope s_rooms_in) s.heap.objs.size f cdv)).guards = some []) (hr : Room 3 (A.deeper (envOfC "rooms_in" (defScope s_rooms_in) s.heap.objs.size f cdv))) (c_blocks_in : CalG P wd K mg base "blocks_in" s_blocks_in 3 P_blocks_in sp_blocks_in) (c_room_of : CalG P wd K mg base "room_of" s_room_of 3 P_room_of (sp_room_of C_Style)) (m_range : mg "range" = none) :
    ∃ t, JB (cxOf (L2.CX P wd) P wd K mg base N_rooms_in "rooms_in" (defScope s_rooms_in) f cdv A outer s H E) (WD E) (defBody s_rooms_in) t (T_rooms_in C_Style) := by
  have hu : (A.deeper (envOfC "rooms_in" (defScope s_rooms_in) s.heap.objs.size f cdv)).units + 64 < cLine := hr.units
  exact ⟨_, (jb_cons (js_setLc 2 (own := ([("cells", 6)] : List (Str × Nat))) finO finO_ok rfl sc_rooms_in.nd (ji_list (je_var 0)) (blkOk_by (N := N_rooms_in) (sc := defScope s_rooms_in) (by decide +kernel)) (fun _ _ _ _ _ => (jg_name 6 sc_rooms_in.nd)) (by exact (gk_name (vs := [6]) (i := 6))) (fun _ _ _ _ _ => jts_nil) (fun _ _ _ _ _ => (je_lstO ja_nil)))
  (jb_cons (js_for (passes_of rfl) rfl (ji_list (je_callCG c_blocks_in hG (hr.mono (by decide)) rfl (takes_of rfl rfl rfl rfl) (ja_cons (je_var 0) ja_nil))) (jg_name 3 sc_rooms_in.nd)
  (jb_cons (js_set 4 sc_rooms_in.nd (je_callCG c_room_of hG (hr.mono (by decide)) rfl (takes_of rfl rfl rfl rfl) (ja_cons (je_var 0) (ja_cons (je_var 1) (ja_cons (je_var 3) ja_nil)))))
  (jb_one (js_for (passes_of rfl) rfl (ji_range2 rfl m_range (ja_cons (je_ix ix_seq opd_ix (je_var 3) je_int) (ja_cons (je_op op_addA opd_add (je_ix ix_seq opd_ix (je_var 3) je_int) je_int) ja_nil))) (jg_name 5 sc_rooms_in.nd)
  (jb_one (js_expr (je_bm PySem.F.slot_list_append PySem.F.type_list_append mt_append mtd_append (je_ix ix_seq opd_ix (je_var 2) (je_var 5)) (ja_cons (je_var 4) ja_nil))))))))
  (jb_one (js_ret (je_var 2)))))⟩
theorem sc_stops_in : FnScope N_stops_in P_stops_in (defScope s_stops_in) := ⟨rfl, rfl, rfl, by decide +kernel, rfl, by decide +kernel, by decide +kernel⟩
theorem d_stops_in {C_Style : Addr} {P : Program} {wd : World} {K : PySem.W.Frag} {mg : Str → Option Value} {base : Heap} {f : Addr} {cdv : Value} {A : Around} {outer : List Env} {s : Shared} {H : Hp} {E : XK} (hG : (A.deeper (envOfC "stops_in" (defScope s_stops_in) s.heap.objs.size f cdv)).guards = some []) (hr : Room 4 (A.deeper (envOfC "stops_in" (defScope s_stops_in) s.heap.objs.size f cdv))) (c_rooms_in : CalG P wd K mg base "rooms_in" s_rooms_in 4 P_rooms_in (sp_rooms_in C_Style)) (pr_Style_gap : PropK P wd K mg base C_Style "gap" 1 (pkP 1 [0] [] (sp_Style_gap C_Style))) :
    ∃ t, JB (cxOf (L2.CX P wd) P wd K mg base N_stops_in "stops_in" (defScope s_stops_in) f cdv A outer s H E) (WD E) (defBody s_stops_in) t (T_stops_in C_Style) := by
  have hu : (A.deeper (envOfC "stops_in" (defScope s_stops_in) s.heap.objs.size f cdv)).units + 64 < cLine := hr.units
  exact ⟨_, (jb_cons (js_set 2 sc_stops_in.nd (je_lstO ja_nil))
  (jb_cons (js_for (passes_of rfl) rfl (ji_list (je_fz2 (je_callCG c_rooms_in hG (hr.mono (by decide)) rfl (takes_of rfl rfl rfl rfl) (ja_cons (je_var 0) (ja_cons (je_var 1) ja_nil))))) (jg_name 3 sc_stops_in.nd)
  (jb_cons (js_par 4 5 rfl sc_stops_in.nd (ja_cons je_int (ja_cons (je_lstO ja_nil) ja_nil)))
  (jb_cons (js_for (passes_of rfl) rfl (ji_list (je_var 3)) (jg_name 6 sc_stops_in.nd)
  (jb_cons (js_aug 4 sc_stops_in.nd (je_op op_addA opd_add (je_var 6) (je_propA pr_Style_gap hG (hr.mono (by decide)) (je_var 1))) ip_add ipd_addI)
  (jb_one (js_expr (je_bm PySem.F.slot_list_append PySem.F.type_list_append mt_append mtd_append (je_var 5) (ja_cons (je_var 4) ja_nil))))))
  (jb_one (js_expr (je_bm PySem.F.slot_list_append PySem.F.type_list_append mt_append mtd_append (je_var 2) (ja_cons (je_fz (je_var 5)) ja_nil)))))))
  (jb_one (js_ret (je_fz (je_var 2))))))⟩
theorem sc_ends_in : FnScope N_ends_in P_ends_in (defScope s_ends_in) := ⟨rfl, rfl, rfl, by decide +kernel, rfl, by decide +kernel, by decide +kernel⟩
theorem d_ends_in {C_Style : Addr} {P : Program} {wd : World} {K : PySem.W.Frag} {mg : Str → Option Value} {base : Heap} {f : Addr} {cdv : Value} {A : Around} {outer : List Env} {s : Shared} {H : Hp} {E : XK} (hG : (A.deeper (envOfC "ends_in" (defScope s_ends_in) s.heap.objs.size f cdv)).guards = some []) (hr : Room 5 (A.deeper (envOfC "ends_in" (defScope s_ends_in) s.heap.objs.size f cdv))) (c_stops_in : CalG P wd K mg base "stops_in" s_stops_in 5 P_stops_in (sp_stops_in C_Style)) (m_zip : mg "zip" = none) :
    ∃ t, JB (cxOf (L2.CX P wd) P wd K mg base N_ends_in "ends_in" (defScope s_ends_in) f cdv A outer s H E) (WD E) (defBody s_ends_in) t (T_ends_in C_Style) := by
  have hu : (A.deeper (envOfC "ends_in" (defScope s_ends_in) s.heap.objs.size f cdv)).units + 64 < cLine := hr.units
  exact ⟨_, (jb_cons (js_set 2 sc_ends_in.nd (je_lstO ja_nil))
  (jb_cons (js_for (passes_of rfl) rfl (ji_zip rfl m_zip (ja_cons (je_var 0) (ja_cons (je_callCG c_stops_in hG (hr.mono (by decide)) rfl (takes_of rfl rfl rfl rfl) (ja_cons (je_var 0) (ja_cons (je_var 1) ja_nil))) ja_nil))) (jg_tup rfl (jgs_cons (jg_name 3 sc_ends_in.nd) (jgs_cons (jg_name 4 sc_ends_in.nd) jgs_nil)))
  (jb_cons (js_set 5 sc_ends_in.nd (je_if (jt_cmp (op_neD hu) opd_ne (je_var 4) (je_lst ja_nil) (nomark _)) (je_ix ix_seq opd_ix (je_var 4) (je_neg je_int)) je_int))
  (jb_one (js_expr (je_bm PySem.F.slot_list_append PySem.F.type_list_append mt_append mtd_append (je_var 2) (ja_cons (je_op op_addA opd_add (je_var 5) (je_ix ix_seq opd_ix (je_var 3) (je_neg je_int))) ja_nil))))))
  (jb_one (js_ret (je_fz (je_var 2))))))⟩
theorem sc_width_in : FnScope N_width_in P_width_in (defScope s_width_in) := ⟨rfl, rfl, rfl, by decide +kernel, rfl, by decide +kernel, by decide +kernel⟩
theorem d_width_in {C_Style : Addr} {P : Program} {wd : World} {K : PySem.W.Frag} {mg : Str → Option Value} {base : Heap} {f : Addr} {cdv : Value} {A : Around} {outer : List Env} {s : Shared} {H : Hp} {E : XK} (hG : (A.deeper (envOfC "width_in" (defScope s_width_in) s.heap.objs.size f cdv)).guards = some []) (hr : Room 6 (A.deeper (envOfC "width_in" (defScope s_width_in) s.heap.objs.size f cdv))) (c_ends_in : CalG P wd K mg base "ends_in" s_ends_in 6 P_ends_in (sp_ends_in C_Style)) (m_max : mg "max" = none) :
    ∃ t, JB (cxOf (L2.CX P wd) P wd K mg base N_width_in "width_in" (defScope s_width_in) f cdv A outer s H E) (WD E) (defBody s_width_in) t (T_width_in C_Style) := by
  have hu : (A.deeper (envOfC "width_in" (defScope s_width_in) s.heap.objs.size f cdv)).units + 64 < cLine := hr.units
  exact ⟨_, (jb_one (js_ret (je_callB (cr_max rfl) cd_max rfl m_max (by decide +kernel) (ja_cons (je_callCG c_ends_in hG (hr.mono (by decide)) rfl (takes_of rfl rfl rfl rfl) (ja_cons (je_var 0) (ja_cons (je_var 1) ja_nil))) ja_nil))))⟩
theorem sc_stops : FnScope N_stops P_stops (defScope s_stops) := ⟨rfl, rfl, rfl, by decide +kernel, rfl, by decide +kernel, by decide +kernel⟩
theorem d_stops {C_Style : Addr} {P : Program} {wd : World} {K : PySem.W.Frag} {mg : Str → Option Value} {base : Heap} {f : Addr} {cdv : Value} {A : Around} {outer : List Env} {s : Shared} {H : Hp} {E : XK} (hG : (A.deeper (envOfC "stops" (defScope s_stops) s.heap.objs.size f cdv)).guards = some []) (hr : Room 5 (A.deeper (envOfC "stops" (defScope s_stops) s.heap.objs.size f cdv))) (c_need_table : CalG P wd K mg base "need_table" s_need_table 5 P_need_table sp_need_table) (c_stops_in : CalG P wd K mg base "stops_in" s_stops_in 5 P_stops_in (sp_stops_in C_Style)) :
    ∃ t, JB (cxOf (L2.CX P wd) P wd K mg base N_stops "stops" (defScope s_stops) f cdv A outer s H E) (WD E) (defBody s_stops) t (T_stops C_Style) := by
  have hu : (A.deeper (envOfC "stops" (defScope s_stops) s.heap.objs.size f cdv)).units + 64 < cLine := hr.units
  exact ⟨_, (jb_cons (js_expr (je_callCG c_need_table hG (hr.mono (by decide)) rfl (takes_of rfl rfl rfl rfl) (ja_cons (je_var 0) ja_nil)))
  (jb_one (js_ret (je_callCG c_stops_in hG (hr.mono (by decide)) rfl (takes_of rfl rfl rfl rfl) (ja_cons (je_var 0) (ja_cons (je_var 1) ja_nil))))))⟩
theorem sc_ends : FnScope N_ends P_ends (defScope s_ends) := ⟨rfl, rfl, rfl, by decide +kernel, rfl, by decide +kernel, by decide +kernel⟩
theorem d_ends {C_Style : Addr} {P : Program} {wd : World} {K : PySem.W.Frag} {mg : Str → Option Value} {base : Heap} {f : Addr} {cdv : Value} {A : Around} {outer : List Env} {s : Shared} {H : Hp} {E : XK} (hG : (A.deeper (envOfC "ends" (defScope s_ends) s.heap.objs.size f cdv)).guards = some []) (hr : Room 6 (A.deeper (envOfC "ends" (defScope s_ends) s.heap.objs.size f cdv))) (c_need_table : CalG P wd K mg base "need_table" s_need_table 5 P_need_table sp_need_table) (c_ends_in : CalG P wd K mg base "ends_in" s_ends_in 6 P_ends_in (sp_ends_in C_Style)) :
    ∃ t, JB (cxOf (L2.CX P wd) P wd K mg base N_ends "ends" (defScope s_ends) f cdv A outer s H E) (WD E) (defBody s_ends) t (T_ends C_Style) := by
  have hu : (A.deeper (envOfC "ends" (defScope s_ends) s.heap.objs.size f cdv)).units + 64 < cLine := hr.units
  exact ⟨_, (jb_cons (js_expr (je_callCG c_need_table hG (hr.mono (by decide)) rfl (takes_of rfl rfl rfl rfl) (ja_cons (je_var 0) ja_nil)))
  (jb_one (js_ret (je_callCG c_ends_in hG (hr.mono (by decide)) rfl (takes_of rfl rfl rfl rfl) (ja_cons (je_var 0) (ja_cons (je_var 1) ja_nil))))))⟩
theorem sc_width_of : FnScope N_width_of P_width_of (defScope s_width_of) := ⟨rfl, rfl, rfl, by decide +kernel, rfl, by decide +kernel, by decide +kernel⟩
theorem d_width_of {C_Style : Addr} {P : Program} {wd : World} {K : PySem.W.Frag} {mg : Str → Option Value} {base : Heap} {f : Addr} {cdv : Value} {A : Around} {outer : List Env} {s : Shared} {H : Hp} {E : XK} (hG : (A.deeper (envOfC "width_of" (defScope s_width_of) s.heap.objs.size f cdv)).guards = some []) (hr : Room 7 (A.deeper (envOfC "width_of" (defScope s_width_of) s.heap.objs.size f cdv))) (c_need_table : CalG P wd K mg base "need_table" s_need_table 5 P_need_table sp_need_table) (c_width_in : CalG P wd K mg base "width_in" s_width_in 7 P_width_in (sp_width_in C_Style)) :
    ∃ t, JB (cxOf (L2.CX P wd) P wd K mg base N_width_of "width_of" (defScope s_width_of) f cdv A outer s H E) (WD E) (defBody s_width_of) t (T_width_of C_Style) := by
  have hu : (A.deeper (envOfC "width_of" (defScope s_width_of) s.heap.objs.size f cdv)).units + 64 < cLine := hr.units
  exact ⟨_, (jb_cons (js_expr (je_callCG c_need_table hG (hr.mono (by decide)) rfl (takes_of rfl rfl rfl rfl) (ja_cons (je_var 0) ja_nil)))
  (jb_one (js_ret (je_callCG c_width_in hG (hr.mono (by decide)) rfl (takes_of rfl rfl rfl rfl) (ja_cons (je_var 0) (ja_cons (je_var 1) ja_nil))))))⟩
theorem sc_need_tab : FnScope N_need_tab P_need_tab (defScope s_need_tab) := ⟨rfl, rfl, rfl, by decide +kernel, rfl, by decide +kernel, by decide +kernel⟩
theorem d_need_tab {C_InvalidColumn : Addr} {P : Program} {wd : World} {K : PySem.W.Frag} {mg : Str → Option Value} {base : Heap} {f : Addr} {cdv : Value} {A : Around} {outer : List Env} {s : Shared} {H : Hp} {E : XK} (hG : (A.deeper (envOfC "need_tab" (defScope s_need_tab) s.heap.objs.size f cdv)).guards = some []) (hr : Room 5 (A.deeper (envOfC "need_tab" (defScope s_need_tab) s.heap.objs.size f cdv))) (c_need_table : CalG P wd K mg base "need_table" s_need_table 5 P_need_table sp_need_table) (c_need_line : CalG P wd K mg base "need_line" s_need_line 2 P_need_line sp_need_line) (c_is_integer : CalG P wd K mg base "is_integer" s_is_integer 1 P_is_integer sp_is_integer) (c_tabs_in : CalG P wd K mg base "tabs_in" s_tabs_in 1 P_tabs_in sp_tabs_in) (e_InvalidColumn : ExcF K mg "InvalidColumn" C_InvalidColumn) :
    ∃ t, JB (cxOf (L2.CX P wd) P wd K mg base N_need_tab "need_tab" (defScope s_need_tab) f cdv A outer s H E) (WD E) (defBody s_need_tab) t (T_need_tab C_InvalidColumn) := by
  have hu : (A.deeper (envOfC "need_tab" (defScope s_need_tab) s.heap.objs.size f cdv)).units + 64 < cLine := hr.units
  exact ⟨_, (jb_cons (js_expr (je_callCG c_need_table hG (hr.mono (by decide)) rfl (takes_of rfl rfl rfl rfl) (ja_cons (je_var 0) ja_nil)))
  (jb_cons (js_expr (je_callCG c_need_line hG (hr.mono (by decide)) rfl (takes_of rfl rfl rfl rfl) (ja_cons (je_var 0) (ja_cons (je_var 1) ja_nil))))
  (jb_one (js_if (jt_not (jt_val (je_callCG c_is_integer hG (hr.mono (by decide)) rfl (takes_of rfl rfl rfl rfl) (ja_cons (je_var 2) (ja_cons je_int (ja_cons (je_op op_sub opd_sub (je_ix ix_seq opd_ix (je_callCG c_tabs_in hG (hr.mono (by decide)) rfl (takes_of rfl rfl rfl rfl) (ja_cons (je_var 0) ja_nil)) (je_var 1)) je_int) ja_nil))))))
  (jb_one (js_raiseC e_InvalidColumn rfl (takes_of rfl rfl rfl rfl) rfl))
  jb_nil))))⟩
theorem sc_lines_with : FnScope N_lines_with P_lines_with (defScope s_lines_with) := ⟨rfl, rfl, rfl, by decide +kernel, rfl, by decide +kernel, by decide +kernel⟩
theorem d_lines_with {P : Program} {wd : World} {K : PySem.W.Frag} {mg : Str → Option Value} {base : Heap} {f : Addr} {cdv : Value} {A : Around} {outer : List Env} {s : Shared} {H : Hp} {E : XK} (hG : (A.deeper (envOfC "lines_with" (defScope s_lines_with) s.heap.objs.size f cdv)).guards = some []) (hr : Room 0 (A.deeper (envOfC "lines_with" (defScope s_lines_with) s.heap.objs.size f cdv))) (m_range : mg "range" = none) :
    ∃ t, JB (cxOf (L2.CX P wd) P wd K mg base N_lines_with "lines_with" (defScope s_lines_with) f cdv A outer s H E) (WD E) (defBody s_lines_with) t T_lines_with := by
  have hu : (A.deeper (envOfC "lines_with" (defScope s_lines_with) s.heap.objs.size f cdv)).units + 64 < cLine := hr.units
  exact ⟨_, (jb_cons (js_asg (je_var 1) (jg_tup rfl (jgs_cons (jg_name 3 sc_lines_with.nd) (jgs_cons (jg_name 4 sc_lines_with.nd) (jgs_cons (jg_name 5 sc_lines_with.nd) jgs_nil)))))
  (jb_one (js_ret (je_lc (own := ([("line", 6)] : List (Str × Nat))) finF finF_ok rfl sc_lines_with.nd (ji_range2 rfl m_range (ja_cons (je_var 4) (ja_cons (je_op op_addA opd_add (je_var 5) je_int) ja_nil))) (blkOk_by (N := N_lines_with) (sc := defScope s_lines_with) (by decide +kernel)) (fun _ _ _ _ _ => (jg_name 6 sc_lines_with.nd)) (by exact (gk_name (vs := [6]) (i := 6))) (fun _ _ _ _ _ => (jts_one (jt_cmp (op_eqD hu) opd_eq (je_ix ix_seq opd_ix (je_ix ix_seq opd_ix (je_var 0) (je_var 6)) (je_var 3)) (je_var 2) (nomark _)))) (fun _ _ _ _ _ => (je_var 6))))))⟩
theorem sc_bearers : FnScope N_bearers P_bearers (defScope s_bearers) := ⟨rfl, rfl, rfl, by decide +kernel, rfl, by decide +kernel, by decide +kernel⟩
theorem d_bearers {C_Style : Addr} {P : Program} {wd : World} {K : PySem.W.Frag} {mg : Str → Option Value} {base : Heap} {f : Addr} {cdv : Value} {A : Around} {outer : List Env} {s : Shared} {H : Hp} {E : XK} (hG : (A.deeper (envOfC "bearers" (defScope s_bearers) s.heap.objs.size f cdv)).guards = some []) (hr : Room 6 (A.deeper (envOfC "bearers" (defScope s_bearers) s.heap.objs.size f cdv))) (c_need_tab : CalG P wd K mg base "need_tab" s_need_tab 6 P_need_tab sp_need_tab) (c_blocks_around : CalG P wd K mg base "blocks_around" s_blocks_around 4 P_blocks_around sp_blocks_around) (c_greatest_in : CalG P wd K mg base "greatest_in" s_greatest_in 1 P_greatest_in sp_greatest_in) (pr_Style_least : PropK P wd K mg base C_Style "least" 1 (pkP 1 [0] [] (sp_Style_least C_Style))) (c_lines_with : CalG P wd K mg base "lines_with" s_lines_with 1 P_lines_with sp_lines_with) :
    ∃ t, JB (cxOf (L2.CX P wd) P wd K mg base N_bearers "bearers" (defScope s_bearers) f cdv A outer s H E) (WD E) (defBody s_bearers) t (T_bearers C_Style) := by
  have hu : (A.deeper (envOfC "bearers" (defScope s_bearers) s.heap.objs.size f cdv)).units + 64 < cLine := hr.units
  exact ⟨_, (jb_cons (js_expr (je_callCG c_need_tab hG (hr.mono (by decide)) rfl (takes_of rfl rfl rfl rfl) (ja_cons (je_var 0) (ja_cons (je_var 2) (ja_cons (je_var 3) ja_nil)))))
  (jb_cons (js_set 4 sc_bearers.nd (je_lstO ja_nil))
  (jb_cons (js_for (passes_of rfl) rfl (ji_list (je_callCG c_blocks_around hG (hr.mono (by decide)) rfl (takes_of rfl rfl rfl rfl) (ja_cons (je_var 0) (ja_cons (je_var 2) (ja_cons (je_var 3) ja_nil))))) (jg_name 5 sc_bearers.nd)
  (jb_cons (js_set 6 sc_bearers.nd (je_callCG c_greatest_in hG (hr.mono (by decide)) rfl (takes_of rfl rfl rfl rfl) (ja_cons (je_var 0) (ja_cons (je_var 5) ja_nil))))
  (jb_one (js_expr (je_bm PySem.F.slot_list_append PySem.F.type_list_append mt_append mtd_append (je_var 4) (ja_cons (je_if (jt_cmp op_gt opd_gt (je_var 6) (je_propA pr_Style_least hG (hr.mono (by decide)) (je_var 1)) (nomark _)) (je_ix ix_seq opd_ix (je_callCG c_lines_with hG (hr.mono (by decide)) rfl (takes_of rfl rfl rfl rfl) (ja_cons (je_var 0) (ja_cons (je_var 5) (ja_cons (je_var 6) ja_nil)))) je_int) je_non) ja_nil))))))
  (jb_one (js_ret (je_fz (je_var 4)))))))⟩
theorem sc_bears_block : FnScope N_bears_block P_bears_block (defScope s_bears_block) := ⟨rfl, rfl, rfl, by decide +kernel, rfl, by decide +kernel, by decide +kernel⟩
theorem d_bears_block {C_Style : Addr} {P : Program} {wd : World} {K : PySem.W.Frag} {mg : Str → Option Value} {base : Heap} {f : Addr} {cdv : Value} {A : Around} {outer : List Env} {s : Shared} {H : Hp} {E : XK} (hG : (A.deeper (envOfC "bears_block" (defScope s_bears_block) s.heap.objs.size f cdv)).guards = some []) (hr : Room 2 (A.deeper (envOfC "bears_block" (defScope s_bears_block) s.heap.objs.size f cdv))) (c_greatest_in : CalG P wd K mg base "greatest_in" s_greatest_in 1 P_greatest_in sp_greatest_in) (pr_Style_least : PropK P wd K mg base C_Style "least" 1 (pkP 1 [0] [] (sp_Style_least C_Style))) (c_is_integer : CalG P wd K mg base "is_integer" s_is_integer 1 P_is_integer sp_is_integer) (c_lines_with : CalG P wd K mg base "lines_with" s_lines_with 1 P_lines_with sp_lines_with) :
    ∃ t, JB (cxOf (L2.CX P wd) P wd K mg base N_bears_block "bears_block" (defScope s_bears_block) f cdv A outer s H E) (WD E) (defBody s_bears_block) t (T_bears_block C_Style) := by
  have hu : (A.deeper (envOfC "bears_block" (defScope s_bears_block) s.heap.objs.size f cdv)).units + 64 < cLine := hr.units
  exact ⟨_, (jb_cons (js_set 4 sc_bears_block.nd (je_callCG c_greatest_in hG (hr.mono (by decide)) rfl (takes_of rfl rfl rfl rfl) (ja_cons (je_var 0) (ja_cons (je_var 2) ja_nil))))
  (jb_cons (js_if (jt_cmp op_isN opd_isN (je_var 3) je_non (nomark _))
  (jb_one (js_ret (je_cmp op_le opd_le (je_var 4) (je_propA pr_Style_least hG (hr.mono (by decide)) (je_var 1)) (nomark _))))
  jb_nil)
  (jb_cons (js_if (JW.jt (jw_or (jt_not (jt_val (je_callCG c_is_integer hG (hr.mono (by decide)) rfl (takes_of rfl rfl rfl rfl) (ja_cons (je_var 3) (ja_cons (je_ix ix_seq opd_ix (je_var 2) je_int) (ja_cons (je_ix ix_seq opd_ix (je_var 2) je_int) ja_nil)))))) (jw_or1 (jt_cmp op_lt opd_lt (je_var 4) (je_propA pr_Style_least hG (hr.mono (by decide)) (je_var 1)) (nomark _)))))
  (jb_one (js_ret je_bl))
  jb_nil)
  (jb_one (js_ret (je_cmp op_in_seq opd_in (je_var 3) (je_callCG c_lines_with hG (hr.mono (by decide)) rfl (takes_of rfl rfl rfl rfl) (ja_cons (je_var 0) (ja_cons (je_var 2) (ja_cons (je_var 4) ja_nil)))) (by rfl)))))))⟩
theorem sc_bears : FnScope N_bears P_bears (defScope s_bears) := ⟨rfl, rfl, rfl, by decide +kernel, rfl, by decide +kernel, by decide +kernel⟩
theorem d_bears {C_Style : Addr} {P : Program} {wd : World} {K : PySem.W.Frag} {mg : Str → Option Value} {base : Heap} {f : Addr} {cdv : Value} {A : Around} {outer : List Env} {s : Shared} {H : Hp} {E : XK} (hG : (A.deeper (envOfC "bears" (defScope s_bears) s.heap.objs.size f cdv)).guards = some []) (hr : Room 6 (A.deeper (envOfC "bears" (defScope s_bears) s.heap.objs.size f cdv))) (c_need_tab : CalG P wd K mg base "need_tab" s_need_tab 6 P_need_tab sp_need_tab) (c_blocks_around : CalG P wd K mg base "blocks_around" s_blocks_around 4 P_blocks_around sp_blocks_around) (m_list : mg "list" = none) (m_isinstance : mg "isinstance" = none) (m_len : mg "len" = none) (m_zip : mg "zip" = none) (c_bears_block : CalG P wd K mg base "bears_block" s_bears_block 3 P_bears_block (sp_bears_block C_Style)) (m_all : mg "all" = none) :
    ∃ t, JB (cxOf (L2.CX P wd) P wd K mg base N_bears "bears" (defScope s_bears) f cdv A outer s H E) (WD E) (defBody s_bears) t (T_bears C_Style) := by
  have hu : (A.deeper (envOfC "bears" (defScope s_bears) s.heap.objs.size f cdv)).units + 64 < cLine := hr.units
  exact ⟨_, (jb_cons (js_expr (je_callCG c_need_tab hG (hr.mono (by decide)) rfl (takes_of rfl rfl rfl rfl) (ja_cons (je_var 0) (ja_cons (je_var 2) (ja_cons (je_var 3) ja_nil)))))
  (jb_cons (js_set 5 sc_bears.nd (je_callCG c_blocks_around hG (hr.mono (by decide)) rfl (takes_of rfl rfl rfl rfl) (ja_cons (je_var 0) (ja_cons (je_var 2) (ja_cons (je_var 3) ja_nil)))))
  (jb_cons (js_if (JW.jt (jw_or (jt_not (jt_val (je_callB call_isi cd_isi rfl m_isinstance (by decide +kernel) (ja_cons (je_var 4) (ja_cons (je_ty rfl m_list (by decide +kernel)) ja_nil))))) (jw_or1 (jt_cmp (op_neD hu) opd_ne (je_callB call_lenA cd_len rfl m_len (by decide +kernel) (ja_cons (je_var 4) ja_nil)) (je_callB call_lenA cd_len rfl m_len (by decide +kernel) (ja_cons (je_var 5) ja_nil)) (nomark _)))))
  (jb_one (js_ret je_bl))
  jb_nil)
  (jb_one (js_ret (je_callB (cr_all rfl) cd_all rfl m_all (by decide +kernel) (ja_cons (je_lc (own := ([("block", 6), ("one", 7)] : List (Str × Nat))) finF finF_ok rfl sc_bears.nd (ji_zip rfl m_zip (ja_cons (je_var 5) (ja_cons (je_var 4) ja_nil))) (blkOk_by (N := N_bears) (sc := defScope s_bears) (by decide +kernel)) (fun _ _ _ _ _ => (jg_tup rfl (jgs_cons (jg_name 6 sc_bears.nd) (jgs_cons (jg_name 7 sc_bears.nd) jgs_nil)))) (by exact (gk_tup (gks_name (vs := [6, 7]) (i := 6) (gks_name (vs := [6, 7]) (i := 7) (gks_nil (vs := [6, 7])))))) (fun _ _ _ _ _ => jts_nil) (fun _ _ _ _ _ => (je_callCG c_bears_block hG (hr.mono (by decide)) rfl takes0 (ja_cons (je_var 0) (ja_cons (je_var 1) (ja_cons (je_var 6) (ja_cons (je_var 7) ja_nil))))))) ja_nil)))))))⟩
theorem sc_are_kinds : FnScope N_are_kinds P_are_kinds (defScope s_are_kinds) := ⟨rfl, rfl, rfl, by decide +kernel, rfl, by decide +kernel, by decide +kernel⟩
theorem d_are_kinds {C_Kind : Addr} {P : Program} {wd : World} {K : PySem.W.Frag} {mg : Str → Option Value} {base : Heap} {f : Addr} {cdv : Value} {A : Around} {outer : List Env} {s : Shared} {H : Hp} {E : XK} (hG : (A.deeper (envOfC "are_kinds" (defScope s_are_kinds) s.heap.objs.size f cdv)).guards = some []) (hr : Room 0 (A.deeper (envOfC "are_kinds" (defScope s_are_kinds) s.heap.objs.size f cdv))) (m_list : mg "list" = none) (m_isinstance : mg "isinstance" = none) (m_len : mg "len" = none) (g_MOST_KINDS : ∃ t, mg "MOST_KINDS" = some (.int 12 t)) (m_str : mg "str" = none) (h_Kind : mg "Kind" = some (.ref C_Kind)) (cv_NAMES : ∀ q ∈ ((conNAMES C_Kind) : List (Addr × D)), CValF K q.1 "NAMES" q.2) (m_all : mg "all" = none) :
    ∃ t, JB (cxOf (L2.CX P wd) P wd K mg base N_are_kinds "are_kinds" (defScope s_are_kinds) f cdv A outer s H E) (WD E) (defBody s_are_kinds) t (T_are_kinds C_Kind) := by
  have hu : (A.deeper (envOfC "are_kinds" (defScope s_are_kinds) s.heap.objs.size f cdv)).units + 64 < cLine := hr.units
  exact ⟨_, (jb_cons (js_if (JW.jt (jw_or (jt_not (jt_val (je_callB call_isi cd_isi rfl m_isinstance (by decide +kernel) (ja_cons (je_var 0) (ja_cons (je_ty rfl m_list (by decide +kernel)) ja_nil))))) (jw_or1 (jt_not (jt_chain op_le op_le opd_le opd_le je_int (je_callB call_lenA cd_len rfl m_len (by decide +kernel) (ja_cons (je_var 0) ja_nil)) (je_gint rfl g_MOST_KINDS))))))
  (jb_one (js_ret je_bl))
  jb_nil)
  (jb_one (js_ret (je_callB (cr_all rfl) cd_all rfl m_all (by decide +kernel) (ja_cons (je_lc (own := ([("name", 1)] : List (Str × Nat))) finF finF_ok rfl sc_are_kinds.nd (ji_list (je_var 0)) (blkOk_by (N := N_are_kinds) (sc := defScope s_are_kinds) (by decide +kernel)) (fun _ _ _ _ _ => (jg_name 1 sc_are_kinds.nd)) (by exact (gk_name (vs := [1]) (i := 1))) (fun _ _ _ _ _ => jts_nil) (fun _ _ _ _ _ => (je_and (je_callB call_isi cd_isi rfl m_isinstance (by decide +kernel) (ja_cons (je_var 1) (ja_cons (je_ty rfl m_str (by decide +kernel)) ja_nil))) (je_one (je_cmp op_in_seq opd_in (je_var 1) (je_cval (tab := (conNAMES C_Kind)) cv_NAMES (je_gref rfl h_Kind)) (by rfl)))))) ja_nil)))))⟩
theorem sc_Style___init__ : FnScope N_Style___init__ P_Style___init__ (defScope s_Style___init__) := ⟨rfl, rfl, rfl, by decide +kernel, rfl, by decide +kernel, by decide +kernel⟩
theorem d_Style___init__ {C_InvalidStyle C_Style : Addr} {P : Program} {wd : World} {K : PySem.W.Frag} {mg : Str → Option Value} {base : Heap} {f : Addr} {cdv : Value} {A : Around} {outer : List Env} {s : Shared} {H : Hp} {E : XK} (hG : (A.deeper (envOfC "Style.__init__" (defScope s_Style___init__) s.heap.objs.size f cdv)).guards = some []) (hr : Room 2 (A.deeper (envOfC "Style.__init__" (defScope s_Style___init__) s.heap.objs.size f cdv))) (m_len : mg "len" = none) (m_list : mg "list" = none) (g_LEFT : ∃ t, mg "LEFT" = some (.str "left" t)) (c_are_kinds : CalG P wd K mg base "are_kinds" s_are_kinds 1 P_are_kinds sp_are_kinds) (c_is_cell : CalG P wd K mg base "is_cell" s_is_cell 2 P_is_cell sp_is_cell) (e_InvalidStyle : ExcF K mg "InvalidStyle" C_InvalidStyle) (cl_Style : Cls K C_Style) (na_Style_held_kinds : NoAttr K C_Style "held_kinds") (na_Style_held_gap : NoAttr K C_Style "held_gap") (na_Style_held_least : NoAttr K C_Style "held_least") :
    ∃ t, JB (cxOf (L2.CX P wd) P wd K mg base N_Style___init__ "Style.__init__" (defScope s_Style___init__) f cdv A outer s H E) (WD E) (defBody s_Style___init__) t (T_Style___init__ C_InvalidStyle C_Style) := by
  have hu : (A.deeper (envOfC "Style.__init__" (defScope s_Style___init__) s.heap.objs.size f cdv)).units + 64 < cLine := hr.units
  exact ⟨_, (jb_cons (js_set 4 sc_Style___init__.nd (je_if (jt_cmp op_gt opd_gt (je_callB call_lenA cd_len rfl m_len (by decide +kernel) (ja_cons (je_var 3) ja_nil)) je_int (nomark _)) (je_callTy call_list_of cd_list rfl m_list (by decide +kernel) (ja_cons (je_var 3) ja_nil)) (je_lst (ja_cons (je_gstr rfl g_LEFT) ja_nil))))
  (jb_cons (js_if (JW.jt (jw_or (jt_not (jt_val (je_callCG c_are_kinds hG (hr.mono (by decide)) rfl (takes_of rfl rfl rfl rfl) (ja_cons (je_var 4) ja_nil)))) (jw_or (jt_not (jt_val (je_callCG c_is_cell hG (hr.mono (by decide)) rfl (takes_of rfl rfl rfl rfl) (ja_cons (je_var 1) ja_nil)))) (jw_or1 (jt_not (jt_val (je_callCG c_is_cell hG (hr.mono (by decide)) rfl (takes_of rfl rfl rfl rfl) (ja_cons (je_var 2) ja_nil))))))))
  (jb_one (js_raiseC e_InvalidStyle rfl (takes_of rfl rfl rfl rfl) rfl))
  jb_nil)
  (jb_cons (js_fld cl_Style na_Style_held_kinds (je_var 0) (je_var 4))
  (jb_cons (js_fld cl_Style na_Style_held_gap (je_var 0) (je_var 1))
  (jb_one (js_fld cl_Style na_Style_held_least (je_var 0) (je_var 2)))))))⟩
theorem sc_Style_of : FnScope N_Style_of P_Style_of (defScope s_Style_of) := ⟨rfl, rfl, rfl, by decide +kernel, rfl, by decide +kernel, by decide +kernel⟩
theorem d_Style_of {C_InvalidStyle C_Style : Addr} {P : Program} {wd : World} {K : PySem.W.Frag} {mg : Str → Option Value} {base : Heap} {f : Addr} {cdv : Value} {A : Around} {outer : List Env} {s : Shared} {H : Hp} {E : XK} (hG : (A.deeper (envOfC "Style.of" (defScope s_Style_of) s.heap.objs.size f cdv)).guards = some []) (hr : Room 4 (A.deeper (envOfC "Style.of" (defScope s_Style_of) s.heap.objs.size f cdv))) (c_are_kinds : CalG P wd K mg base "are_kinds" s_are_kinds 1 P_are_kinds sp_are_kinds) (e_InvalidStyle : ExcF K mg "InvalidStyle" C_InvalidStyle) (mk_Style___init___s1_gap_least : CtorK P wd K mg base C_Style 3 (["gap", "least"] : List Str) (pkS true 1 [0, 1, 2] [] (sp_Style___init__ C_Style))) :
    ∃ t, JB (cxOf (L2.CX P wd) P wd K mg base N_Style_of "Style.of" (defScope s_Style_of) f cdv A outer s H E) (WD E) (defBody s_Style_of) t (T_Style_of C_InvalidStyle C_Style) := by
  have hu : (A.deeper (envOfC "Style.of" (defScope s_Style_of) s.heap.objs.size f cdv)).units + 64 < cLine := hr.units
  exact ⟨_, (jb_cons (js_if (jt_not (jt_val (je_callCG c_are_kinds hG (hr.mono (by decide)) rfl (takes_of rfl rfl rfl rfl) (ja_cons (je_var 1) ja_nil))))
  (jb_one (js_raiseC e_InvalidStyle rfl (takes_of rfl rfl rfl rfl) rfl))
  jb_nil)
  (jb_one (js_ret (je_makeV 0 mk_Style___init___s1_gap_least hG (hr.mono (by decide)) (takes_of rfl rfl rfl rfl) (jc_lone (ks := (["gap", "least"] : List Str)) (je_var 1) (jk_cons (je_var 2) (jk_cons (je_var 3) jk_nil)))))))⟩
theorem sc_Style_kinds : FnScope N_Style_kinds P_Style_kinds (defScope s_Style_kinds) := ⟨rfl, rfl, rfl, by decide +kernel, rfl, by decide +kernel, by decide +kernel⟩
theorem d_Style_kinds {C_Style : Addr} {P : Program} {wd : World} {K : PySem.W.Frag} {mg : Str → Option Value} {base : Heap} {f : Addr} {cdv : Value} {A : Around} {outer : List Env} {s : Shared} {H : Hp} {E : XK} (hG : (A.deeper (envOfC "Style.kinds" (defScope s_Style_kinds) s.heap.objs.size f cdv)).guards = some []) (hr : Room 0 (A.deeper (envOfC "Style.kinds" (defScope s_Style_kinds) s.heap.objs.size f cdv))) (cl_Style : Cls K C_Style) (na_Style_held_kinds : NoAttr K C_Style "held_kinds") (m_list : mg "list" = none) :
    ∃ t, JB (cxOf (L2.CX P wd) P wd K mg base N_Style_kinds "Style.kinds" (defScope s_Style_kinds) f cdv A outer s H E) (WD E) (defBody s_Style_kinds) t (T_Style_kinds C_Style) := by
  have hu : (A.deeper (envOfC "Style.kinds" (defScope s_Style_kinds) s.heap.objs.size f cdv)).units + 64 < cLine := hr.units
  exact ⟨_, (jb_one (js_ret (je_callTy call_list_of cd_list rfl m_list (by decide +kernel) (ja_cons (je_fld cl_Style na_Style_held_kinds (je_var 0)) ja_nil))))⟩
theorem sc_Style_gap : FnScope N_Style_gap P_Style_gap (defScope s_Style_gap) := ⟨rfl, rfl, rfl, by decide +kernel, rfl, by decide +kernel, by decide +kernel⟩
theorem d_Style_gap {C_Style : Addr} {P : Program} {wd : World} {K : PySem.W.Frag} {mg : Str → Option Value} {base : Heap} {f : Addr} {cdv : Value} {A : Around} {outer : List Env} {s : Shared} {H : Hp} {E : XK} (hG : (A.deeper (envOfC "Style.gap" (defScope s_Style_gap) s.heap.objs.size f cdv)).guards = some []) (hr : Room 0 (A.deeper (envOfC "Style.gap" (defScope s_Style_gap) s.heap.objs.size f cdv))) (cl_Style : Cls K C_Style) (na_Style_held_gap : NoAttr K C_Style "held_gap") :
    ∃ t, JB (cxOf (L2.CX P wd) P wd K mg base N_Style_gap "Style.gap" (defScope s_Style_gap) f cdv A outer s H E) (WD E) (defBody s_Style_gap) t (T_Style_gap C_Style) := by
  have hu : (A.deeper (envOfC "Style.gap" (defScope s_Style_gap) s.heap.objs.size f cdv)).units + 64 < cLine := hr.units
  exact ⟨_, (jb_one (js_ret (je_fld cl_Style na_Style_held_gap (je_var 0))))⟩
theorem sc_Style_least : FnScope N_Style_least P_Style_least (defScope s_Style_least) := ⟨rfl, rfl, rfl, by decide +kernel, rfl, by decide +kernel, by decide +kernel⟩
theorem d_Style_least {C_Style : Addr} {P : Program} {wd : World} {K : PySem.W.Frag} {mg : Str → Option Value} {base : Heap} {f : Addr} {cdv : Value} {A : Around} {outer : List Env} {s : Shared} {H : Hp} {E : XK} (hG : (A.deeper (envOfC "Style.least" (defScope s_Style_least) s.heap.objs.size f cdv)).guards = some []) (hr : Room 0 (A.deeper (envOfC "Style.least" (defScope s_Style_least) s.heap.objs.size f cdv))) (cl_Style : Cls K C_Style) (na_Style_held_least : NoAttr K C_Style "held_least") :
    ∃ t, JB (cxOf (L2.CX P wd) P wd K mg base N_Style_least "Style.least" (defScope s_Style_least) f cdv A outer s H E) (WD E) (defBody s_Style_least) t (T_Style_least C_Style) := by
  have hu : (A.deeper (envOfC "Style.least" (defScope s_Style_least) s.heap.objs.size f cdv)).units + 64 < cLine := hr.units
  exact ⟨_, (jb_one (js_ret (je_fld cl_Style na_Style_held_least (je_var 0))))⟩
theorem sc__law_feed : FnScope N__law_feed P__law_feed (defScope s__law_feed) := ⟨rfl, rfl, rfl, by decide +kernel, rfl, by decide +kernel, by decide +kernel⟩
theorem d__law_feed {P : Program} {wd : World} {K : PySem.W.Frag} {mg : Str → Option Value} {base : Heap} {f : Addr} {cdv : Value} {A : Around} {outer : List Env} {s : Shared} {H : Hp} {E : XK} (hG : (A.deeper (envOfC "_law_feed" (defScope s__law_feed) s.heap.objs.size f cdv)).guards = some []) (hr : Room 0 (A.deeper (envOfC "_law_feed" (defScope s__law_feed) s.heap.objs.size f cdv))) (m_len : mg "len" = none) (m_abs : mg "abs" = none) (m_max : mg "max" = none) :
    ∃ t, JB (cxOf (L2.CX P wd) P wd K mg base N__law_feed "_law_feed" (defScope s__law_feed) f cdv A outer s H E) (WD E) (defBody s__law_feed) t T__law_feed := by
  have hu : (A.deeper (envOfC "_law_feed" (defScope s__law_feed) s.heap.objs.size f cdv)).units + 64 < cLine := hr.units
  exact ⟨_, (jb_cons (js_set 2 sc__law_feed.nd je_int)
  (jb_cons (js_if (jt_cmp op_lt opd_lt (je_var 1) (je_callB call_lenA cd_len rfl m_len (by decide +kernel) (ja_cons (je_var 0) ja_nil)) (nomark _))
  (jb_one (js_set 2 sc__law_feed.nd (je_ix ix_seq opd_ix (je_var 0) (je_var 1))))
  jb_nil)
  (jb_one (js_ret (je_lstO (ja_cons (je_callB (call_max2 rfl) cd_max2 rfl m_max (by decide +kernel) (ja_cons je_int (ja_cons (je_op op_sub opd_sub (je_callB call_abs cd_abs rfl m_abs (by decide +kernel) (ja_cons (je_var 2) ja_nil)) (je_op op_powW opd_pow je_int je_int)) ja_nil))) (ja_cons (je_op op_mod opd_mod (je_op op_addA opd_add (je_op op_addA opd_add (je_op op_mulA opd_mul (je_var 2) je_int) (je_op op_mulA opd_mul je_int (je_var 1))) je_int) je_int) (ja_cons je_int ja_nil))))))))⟩
theorem sc__law_pick : FnScope N__law_pick P__law_pick (defScope s__law_pick) := ⟨rfl, rfl, rfl, by decide +kernel, rfl, by decide +kernel, by decide +kernel⟩
theorem d__law_pick {P : Program} {wd : World} {K : PySem.W.Frag} {mg : Str → Option Value} {base : Heap} {f : Addr} {cdv : Value} {A : Around} {outer : List Env} {s : Shared} {H : Hp} {E : XK} (hG : (A.deeper (envOfC "_law_pick" (defScope s__law_pick) s.heap.objs.size f cdv)).guards = some []) (hr : Room 0 (A.deeper (envOfC "_law_pick" (defScope s__law_pick) s.heap.objs.size f cdv)))  :
    ∃ t, JB (cxOf (L2.CX P wd) P wd K mg base N__law_pick "_law_pick" (defScope s__law_pick) f cdv A outer s H E) (WD E) (defBody s__law_pick) t T__law_pick := by
  have hu : (A.deeper (envOfC "_law_pick" (defScope s__law_pick) s.heap.objs.size f cdv)).units + 64 < cLine := hr.units
  exact ⟨_, (jb_cons (js_if (jt_cmp op_gt opd_gt (je_ix ix_seq opd_ix (je_var 0) je_int) je_int (nomark _))
  (jb_cons (js_set 2 sc__law_pick.nd (je_op op_mod opd_mod (je_ix ix_seq opd_ix (je_var 0) je_int) (je_var 1)))
  (jb_cons (js_asg (je_op op_fdivW opd_div (je_ix ix_seq opd_ix (je_var 0) je_int) (je_var 1)) (jg_sub (je_var 0) je_int set_list setd_o))
  (jb_one (js_ret (je_var 2)))))
  jb_nil)
  (jb_cons (js_asg (je_op op_addA opd_add (je_ix ix_seq opd_ix (je_var 0) je_int) je_int) (jg_sub (je_var 0) je_int set_list setd_o))
  (jb_cons (js_set 3 sc__law_pick.nd (je_op op_mod opd_mod (je_op op_addA opd_add (je_ix ix_seq opd_ix (je_var 0) je_int) (je_op op_mulA opd_mul je_int (je_ix ix_seq opd_ix (je_var 0) je_int))) je_int))
  (jb_cons (js_set 3 sc__law_pick.nd (je_op op_mod opd_mod (je_op op_addA opd_add (je_op op_addA opd_add (je_op op_mulA opd_mul (je_var 3) (je_var 3)) (je_op op_mulA opd_mul (je_op op_mulA opd_mul je_int (je_ix ix_seq opd_ix (je_var 0) je_int)) (je_var 3))) je_int) je_int))
  (jb_cons (js_set 3 sc__law_pick.nd (je_op op_mod opd_mod (je_op op_addA opd_add (je_op op_addA opd_add (je_op op_powW opd_pow (je_var 3) je_int) (je_ix ix_seq opd_ix (je_var 0) je_int)) (je_op op_mulA opd_mul je_int (je_ix ix_seq opd_ix (je_var 0) je_int))) je_int))
  (jb_one (js_ret (je_op op_mod opd_mod (je_op op_fdivW opd_div (je_var 3) je_int) (je_var 1)))))))))⟩
theorem sc__law_width : FnScope N__law_width P__law_width (defScope s__law_width) := ⟨rfl, rfl, rfl, by decide +kernel, rfl, by decide +kernel, by decide +kernel⟩
theorem d__law_width {P : Program} {wd : World} {K : PySem.W.Frag} {mg : Str → Option Value} {base : Heap} {f : Addr} {cdv : Value} {A : Around} {outer : List Env} {s : Shared} {H : Hp} {E : XK} (hG : (A.deeper (envOfC "_law_width" (defScope s__law_width) s.heap.objs.size f cdv)).guards = some []) (hr : Room 1 (A.deeper (envOfC "_law_width" (defScope s__law_width) s.heap.objs.size f cdv))) (c__law_pick : CalG P wd K mg base "_law_pick" s__law_pick 1 P__law_pick sp__law_pick) :
    ∃ t, JB (cxOf (L2.CX P wd) P wd K mg base N__law_width "_law_width" (defScope s__law_width) f cdv A outer s H E) (WD E) (defBody s__law_width) t T__law_width := by
  have hu : (A.deeper (envOfC "_law_width" (defScope s__law_width) s.heap.objs.size f cdv)).units + 64 < cLine := hr.units
  exact ⟨_, (jb_cons (js_if (jt_cmp op_lt opd_lt (je_var 1) je_int (nomark _))
  (jb_one (js_ret (je_callCG c__law_pick hG (hr.mono (by decide)) rfl (takes_of rfl rfl rfl rfl) (ja_cons (je_var 0) (ja_cons (je_ix ix_seq opd_ix (je_lst (ja_cons je_int (ja_cons je_int (ja_cons je_int ja_nil)))) (je_var 1)) ja_nil)))))
  jb_nil)
  (jb_cons (js_set 2 sc__law_width.nd (je_op op_addA opd_add (je_op op_mulA opd_mul (je_callCG c__law_pick hG (hr.mono (by decide)) rfl (takes_of rfl rfl rfl rfl) (ja_cons (je_var 0) (ja_cons (je_op op_powW opd_pow je_int je_int) ja_nil))) (je_op op_powW opd_pow je_int je_int)) (je_callCG c__law_pick hG (hr.mono (by decide)) rfl (takes_of rfl rfl rfl rfl) (ja_cons (je_var 0) (ja_cons (je_op op_powW opd_pow je_int je_int) ja_nil)))))
  (jb_one (js_ret (je_ix ix_seq opd_ix (je_lst (ja_cons (je_var 2) (ja_cons (je_op op_powW opd_pow je_int je_int) (ja_cons (je_op op_sub opd_sub (je_op op_powW opd_pow je_int je_int) (je_var 2)) (ja_cons (je_callCG c__law_pick hG (hr.mono (by decide)) rfl (takes_of rfl rfl rfl rfl) (ja_cons (je_var 0) (ja_cons je_int ja_nil))) ja_nil))))) (je_callCG c__law_pick hG (hr.mono (by decide)) rfl (takes_of rfl rfl rfl rfl) (ja_cons (je_var 0) (ja_cons je_int ja_nil))))))))⟩
theorem sc__law_counts : FnScope N__law_counts P__law_counts (defScope s__law_counts) := ⟨rfl, rfl, rfl, by decide +kernel, rfl, by decide +kernel, by decide +kernel⟩
theorem d__law_counts {P : Program} {wd : World} {K : PySem.W.Frag} {mg : Str → Option Value} {base : Heap} {f : Addr} {cdv : Value} {A : Around} {outer : List Env} {s : Shared} {H : Hp} {E : XK} (hG : (A.deeper (envOfC "_law_counts" (defScope s__law_counts) s.heap.objs.size f cdv)).guards = some []) (hr : Room 1 (A.deeper (envOfC "_law_counts" (defScope s__law_counts) s.heap.objs.size f cdv))) (c__law_pick : CalG P wd K mg base "_law_pick" s__law_pick 1 P__law_pick sp__law_pick) (m_range : mg "range" = none) (m_max : mg "max" = none) (m_min : mg "min" = none) (m_int : mg "int" = none) :
    ∃ t, JB (cxOf (L2.CX P wd) P wd K mg base N__law_counts "_law_counts" (defScope s__law_counts) f cdv A outer s H E) (WD E) (defBody s__law_counts) t T__law_counts := by
  have hu : (A.deeper (envOfC "_law_counts" (defScope s__law_counts) s.heap.objs.size f cdv)).units + 64 < cLine := hr.units
  exact ⟨_, (jb_cons (js_par3 2 3 4 rfl sc__law_counts.nd (ja_cons (je_callCG c__law_pick hG (hr.mono (by decide)) rfl (takes_of rfl rfl rfl rfl) (ja_cons (je_var 0) (ja_cons je_int ja_nil))) (ja_cons (je_lstO ja_nil) (ja_cons (je_op op_addA opd_add je_int (je_callCG c__law_pick hG (hr.mono (by decide)) rfl (takes_of rfl rfl rfl rfl) (ja_cons (je_var 0) (ja_cons je_int ja_nil)))) ja_nil))))
  (jb_cons (js_for (passes_of rfl) rfl (ji_range1 rfl m_range (ja_cons (je_var 1) ja_nil)) (jg_name 5 sc__law_counts.nd)
  (jb_cons (js_if (JW.jt (jw_or (JW.jt (jw_and (jt_cmp op_eq opd_eqF (je_var 2) je_int (nomark _)) (jw_and1 (jt_cmp op_eq opd_eqF (je_callCG c__law_pick hG (hr.mono (by decide)) rfl (takes_of rfl rfl rfl rfl) (ja_cons (je_var 0) (ja_cons je_int ja_nil))) je_int (nomark _))))) (jw_or1 (jt_cmp op_eq opd_eqF (je_var 2) je_int (nomark _)))))
  (jb_one (js_set 4 sc__law_counts.nd (je_op op_addA opd_add je_int (je_callCG c__law_pick hG (hr.mono (by decide)) rfl (takes_of rfl rfl rfl rfl) (ja_cons (je_var 0) (ja_cons je_int ja_nil))))))
  jb_nil)
  (jb_cons (js_set 6 sc__law_counts.nd (je_lst (ja_cons (je_op op_addA opd_add je_int (je_callCG c__law_pick hG (hr.mono (by decide)) rfl (takes_of rfl rfl rfl rfl) (ja_cons (je_var 0) (ja_cons je_int ja_nil)))) (ja_cons (je_var 4) (ja_cons (je_callB (call_min2 rfl) cd_min2 rfl m_min (by decide +kernel) (ja_cons je_int (ja_cons (je_op op_addA opd_add je_int (je_var 5)) ja_nil))) (ja_cons (je_callB (call_max2 rfl) cd_max2 rfl m_max (by decide +kernel) (ja_cons je_int (ja_cons (je_op op_sub opd_sub je_int (je_var 5)) ja_nil))) (ja_cons (je_var 4) ja_nil)))))))
  (jb_one (js_expr (je_bm PySem.F.slot_list_append PySem.F.type_list_append mt_append mtd_append (je_var 3) (ja_cons (je_ix ix_seq opd_ix (je_op op_addA opd_add (je_var 6) (je_lst (ja_cons (je_ix ix_seq opd_ix (je_lst (ja_cons (je_var 4) (ja_cons je_int ja_nil))) (je_callTy call_int1 cd_int rfl m_int (by decide +kernel) (ja_cons (je_cmp op_eq opd_eqF (je_callCG c__law_pick hG (hr.mono (by decide)) rfl (takes_of rfl rfl rfl rfl) (ja_cons (je_var 0) (ja_cons je_int ja_nil))) je_int (nomark _)) ja_nil))) ja_nil))) (je_var 2)) ja_nil)))))))
  (jb_one (js_ret (je_fz (je_var 3))))))⟩
theorem sc__law_sheet : FnScope N__law_sheet P__law_sheet (defScope s__law_sheet) := ⟨rfl, rfl, rfl, by decide +kernel, rfl, by decide +kernel, by decide +kernel⟩
theorem d__law_sheet {P : Program} {wd : World} {K : PySem.W.Frag} {mg : Str → Option Value} {base : Heap} {f : Addr} {cdv : Value} {A : Around} {outer : List Env} {s : Shared} {H : Hp} {E : XK} (hG : (A.deeper (envOfC "_law_sheet" (defScope s__law_sheet) s.heap.objs.size f cdv)).guards = some []) (hr : Room 2 (A.deeper (envOfC "_law_sheet" (defScope s__law_sheet) s.heap.objs.size f cdv))) (c__law_pick : CalG P wd K mg base "_law_pick" s__law_pick 1 P__law_pick sp__law_pick) (m_min : mg "min" = none) (c__law_counts : CalG P wd K mg base "_law_counts" s__law_counts 2 P__law_counts sp__law_counts) (m_range : mg "range" = none) (c__law_width : CalG P wd K mg base "_law_width" s__law_width 2 P__law_width sp__law_width) :
    ∃ t, JB (cxOf (L2.CX P wd) P wd K mg base N__law_sheet "_law_sheet" (defScope s__law_sheet) f cdv A outer s H E) (WD E) (defBody s__law_sheet) t T__law_sheet := by
  have hu : (A.deeper (envOfC "_law_sheet" (defScope s__law_sheet) s.heap.objs.size f cdv)).units + 64 < cLine := hr.units
  exact ⟨_, (jb_cons (js_set 2 sc__law_sheet.nd (je_ix ix_seq opd_ix (je_lst (ja_cons (je_op op_addA opd_add je_int (je_callCG c__law_pick hG (hr.mono (by decide)) rfl (takes_of rfl rfl rfl rfl) (ja_cons (je_var 0) (ja_cons (je_var 1) ja_nil)))) (ja_cons (je_op op_addA opd_add je_int (je_callCG c__law_pick hG (hr.mono (by decide)) rfl (takes_of rfl rfl rfl rfl) (ja_cons (je_var 0) (ja_cons (je_callB (call_min2 rfl) cd_min2 rfl m_min (by decide +kernel) (ja_cons je_int (ja_cons (je_var 1) ja_nil))) ja_nil)))) ja_nil))) (je_callCG c__law_pick hG (hr.mono (by decide)) rfl (takes_of rfl rfl rfl rfl) (ja_cons (je_var 0) (ja_cons je_int ja_nil)))))
  (jb_cons (js_set 3 sc__law_sheet.nd (je_callCG c__law_pick hG (hr.mono (by decide)) rfl (takes_of rfl rfl rfl rfl) (ja_cons (je_var 0) (ja_cons je_int ja_nil))))
  (jb_one (js_ret (je_lc (own := ([("_law_size", 4)] : List (Str × Nat))) finF finF_ok rfl sc__law_sheet.nd (ji_list (je_callCG c__law_counts hG (hr.mono (by decide)) rfl (takes_of rfl rfl rfl rfl) (ja_cons (je_var 0) (ja_cons (je_var 2) ja_nil)))) (blkOk_by (N := N__law_sheet) (sc := defScope s__law_sheet) (by decide +kernel)) (fun _ _ _ _ _ => (jg_name 4 sc__law_sheet.nd)) (by exact (gk_name (vs := [4]) (i := 4))) (fun _ _ _ _ _ => jts_nil) (fun _ _ _ _ _ => (je_lc (own := ([("_law_at", 5)] : List (Str × Nat))) finF finF_ok rfl sc__law_sheet.nd (ji_range1 rfl m_range (ja_cons (je_var 4) ja_nil)) (by exact blkOk_by (by kernel_rfl)) (fun _ _ _ _ _ => (jg_name 5 sc__law_sheet.nd)) (by exact (gk_name (vs := [5]) (i := 5))) (fun _ _ _ _ _ => jts_nil) (fun _ _ _ _ _ => (je_op op_fdivW opd_div (je_callCG c__law_width hG (hr.mono (by decide)) rfl takes0 (ja_cons (je_var 0) (ja_cons (je_var 3) ja_nil))) (je_ix ix_seq opd_ix (je_lst (ja_cons je_int (ja_cons je_int (ja_cons je_int (ja_cons je_int ja_nil))))) (je_var 3)))))))))))⟩
theorem sc__law_stops_right : FnScope N__law_stops_right P__law_stops_right (defScope s__law_stops_right) := ⟨rfl, rfl, rfl, by decide +kernel, rfl, by decide +kernel, by decide +kernel⟩
theorem d__law_stops_right {C_Style : Addr} {P : Program} {wd : World} {K : PySem.W.Frag} {mg : Str → Option Value} {base : Heap} {f : Addr} {cdv : Value} {A : Around} {outer : List Env} {s : Shared} {H : Hp} {E : XK} (hG : (A.deeper (envOfC "_law_stops_right" (defScope s__law_stops_right) s.heap.objs.size f cdv)).guards = some []) (hr : Room 7 (A.deeper (envOfC "_law_stops_right" (defScope s__law_stops_right) s.heap.objs.size f cdv))) (c_stops : CalG P wd K mg base "stops" s_stops 6 P_stops (sp_stops C_Style)) (c_blocks_of : CalG P wd K mg base "blocks_of" s_blocks_of 6 P_blocks_of sp_blocks_of) (m_int : mg "int" = none) (m_range : mg "range" = none) (c__law_pick : CalG P wd K mg base "_law_pick" s__law_pick 1 P__law_pick sp__law_pick) (m_len : mg "len" = none) (c_parent_of : CalG P wd K mg base "parent_of" s_parent_of 6 P_parent_of sp_parent_of) (c_bearers : CalG P wd K mg base "bearers" s_bearers 7 P_bearers (sp_bearers C_Style)) (pr_Style_least : PropK P wd K mg base C_Style "least" 1 (pkP 1 [0] [] (sp_Style_least C_Style))) (pr_Style_gap : PropK P wd K mg base C_Style "gap" 1 (pkP 1 [0] [] (sp_Style_gap C_Style))) (c_block_at : CalG P wd K mg base "block_at" s_block_at 6 P_block_at sp_block_at) (c_bears : CalG P wd K mg base "bears" s_bears 7 P_bears (sp_bears C_Style)) :
    ∃ t, JB (cxOf (L2.CX P wd) P wd K mg base N__law_stops_right "_law_stops_right" (defScope s__law_stops_right) f cdv A outer s H E) (WD E) (defBody s__law_stops_right) t (T__law_stops_right C_Style) := by
  have hu : (A.deeper (envOfC "_law_stops_right" (defScope s__law_stops_right) s.heap.objs.size f cdv)).units + 64 < cLine := hr.units
  exact ⟨_, (jb_cons (js_set 3 sc__law_stops_right.nd (je_callCG c_stops hG (hr.mono (by decide)) rfl (takes_of rfl rfl rfl rfl) (ja_cons (je_var 1) (ja_cons (je_var 2) ja_nil))))
  (jb_cons (js_set 4 sc__law_stops_right.nd (je_callCG c_blocks_of hG (hr.mono (by decide)) rfl (takes_of rfl rfl rfl rfl) (ja_cons (je_var 1) ja_nil)))
  (jb_cons (js_for (passes_of rfl) rfl (ji_list (je_op op_addA opd_add (je_slice sl_list sld_l (je_var 4) jo_none (jo_some je_int)) (je_lc (own := ([("_law_turn", 14)] : List (Str × Nat))) finF finF_ok rfl sc__law_stops_right.nd (ji_range1 rfl m_range (ja_cons (je_op op_mulA opd_mul je_int (je_callTy call_int1 cd_int rfl m_int (by decide +kernel) (ja_cons (je_cmp (op_neD hu) opd_ne (je_var 4) (je_lst ja_nil) (nomark _)) ja_nil))) ja_nil)) (blkOk_by (N := N__law_stops_right) (sc := defScope s__law_stops_right) (by decide +kernel)) (fun _ _ _ _ _ => (jg_name 14 sc__law_stops_right.nd)) (by exact (gk_name (vs := [14]) (i := 14))) (fun _ _ _ _ _ => jts_nil) (fun _ _ _ _ _ => (je_ix ix_seq opd_ix (je_var 4) (je_callCG c__law_pick hG (hr.mono (by decide)) rfl takes0 (ja_cons (je_var 0) (ja_cons (je_callB call_lenA cd_len rfl m_len (by decide +kernel) (ja_cons (je_var 4) ja_nil)) ja_nil)))))))) (jg_name 5 sc__law_stops_right.nd)
  (jb_cons (js_asg (je_var 5) (jg_tup rfl (jgs_cons (jg_name 6 sc__law_stops_right.nd) (jgs_cons (jg_name 7 sc__law_stops_right.nd) (jgs_cons (jg_name 8 sc__law_stops_right.nd) jgs_nil)))))
  (jb_cons (js_set 9 sc__law_stops_right.nd (je_callCG c_parent_of hG (hr.mono (by decide)) rfl (takes_of rfl rfl rfl rfl) (ja_cons (je_var 1) (ja_cons (je_var 5) ja_nil))))
  (jb_cons (js_set 10 sc__law_stops_right.nd (je_if (jt_cmp op_isN opd_isN (je_var 9) je_non (nomark _)) je_int (je_ix ix_seq opd_ix (je_ix ix_seq opd_ix (je_var 3) (je_ix ix_seq opd_ix (je_var 9) je_int)) (je_op op_sub opd_sub (je_var 6) je_int))))
  (jb_cons (js_set 11 sc__law_stops_right.nd (je_callCG c_bearers hG (hr.mono (by decide)) rfl (takes_of rfl rfl rfl rfl) (ja_cons (je_var 1) (ja_cons (je_var 2) (ja_cons (je_var 7) (ja_cons (je_var 6) ja_nil))))))
  (jb_cons (js_set 12 sc__law_stops_right.nd (je_if (jt_cmp op_isN opd_isN (je_ix ix_seq opd_ix (je_var 11) (je_neg je_int)) je_non (nomark _)) (je_propA pr_Style_least hG (hr.mono (by decide)) (je_var 2)) (je_ix ix_seq opd_ix (je_ix ix_seq opd_ix (je_var 1) (je_ix ix_seq opd_ix (je_var 11) (je_neg je_int))) (je_var 6))))
  (jb_cons (js_if (jt_cmp (op_neD hu) opd_ne (je_lc (own := ([("_law_at", 15)] : List (Str × Nat))) finF finF_ok rfl sc__law_stops_right.nd (ji_range2 rfl m_range (ja_cons (je_var 7) (ja_cons (je_op op_addA opd_add (je_var 8) je_int) ja_nil))) (blkOk_by (N := N__law_stops_right) (sc := defScope s__law_stops_right) (by decide +kernel)) (fun _ _ _ _ _ => (jg_name 15 sc__law_stops_right.nd)) (by exact (gk_name (vs := [15]) (i := 15))) (fun _ _ _ _ _ => (jts_one (jt_cmp op_ne opd_neF (je_ix ix_seq opd_ix (je_ix ix_seq opd_ix (je_var 3) (je_var 15)) (je_var 6)) (je_op op_addA opd_add (je_op op_addA opd_add (je_var 10) (je_var 12)) (je_propA pr_Style_gap hG (hr.mono (by decide)) (je_var 2))) (nomark _)))) (fun _ _ _ _ _ => (je_var 15))) (je_lst ja_nil) (nomark _))
  (jb_one (js_ret je_bl))
  jb_nil)
  (jb_cons (js_if (jt_cmp (op_neD hu) opd_ne (je_lc (own := ([("_law_at", 15)] : List (Str × Nat))) finF finF_ok rfl sc__law_stops_right.nd (ji_range2 rfl m_range (ja_cons (je_var 7) (ja_cons (je_op op_addA opd_add (je_var 8) je_int) ja_nil))) (blkOk_by (N := N__law_stops_right) (sc := defScope s__law_stops_right) (by decide +kernel)) (fun _ _ _ _ _ => (jg_name 15 sc__law_stops_right.nd)) (by exact (gk_name (vs := [15]) (i := 15))) (fun _ _ _ _ _ => (jts_one (JW.jt (jw_or (jt_cmp op_gt opd_gt (je_ix ix_seq opd_ix (je_ix ix_seq opd_ix (je_var 1) (je_var 15)) (je_var 6)) (je_var 12) (nomark _)) (jw_or1 (jt_cmp (op_neD hu) opd_ne (je_callCG c_block_at hG (hr.mono (by decide)) rfl takes0 (ja_cons (je_var 1) (ja_cons (je_var 15) (ja_cons (je_var 6) ja_nil)))) (je_var 5) (nomark _))))))) (fun _ _ _ _ _ => (je_var 15))) (je_lst ja_nil) (nomark _))
  (jb_one (js_ret je_bl))
  jb_nil)
  (jb_cons (js_if (JW.jt (jw_or (jt_cmp op_lt opd_lt (je_var 12) (je_propA pr_Style_least hG (hr.mono (by decide)) (je_var 2)) (nomark _)) (jw_or1 (jt_not (jt_val (je_callCG c_bears hG (hr.mono (by decide)) rfl (takes_of rfl rfl rfl rfl) (ja_cons (je_var 1) (ja_cons (je_var 2) (ja_cons (je_var 8) (ja_cons (je_var 6) (ja_cons (je_var 11) ja_nil)))))))))))
  (jb_one (js_ret je_bl))
  jb_nil)
  (jb_cons (js_set 13 sc__law_stops_right.nd (je_if (jt_cmp op_isN opd_isN (je_ix ix_seq opd_ix (je_var 11) (je_neg je_int)) je_non (nomark _)) (je_lst ja_nil) (je_slice sl_list sld_l (je_var 1) (jo_some (je_var 7)) (jo_some (je_ix ix_seq opd_ix (je_var 11) (je_neg je_int))))))
  (jb_one (js_if (jt_cmp (op_neD hu) opd_ne (je_lc (own := ([("_law_row", 16)] : List (Str × Nat))) finF finF_ok rfl sc__law_stops_right.nd (ji_list (je_var 13)) (blkOk_by (N := N__law_stops_right) (sc := defScope s__law_stops_right) (by decide +kernel)) (fun _ _ _ _ _ => (jg_name 16 sc__law_stops_right.nd)) (by exact (gk_name (vs := [16]) (i := 16))) (fun _ _ _ _ _ => (jts_one (jt_cmp op_ge opd_ge (je_ix ix_seq opd_ix (je_var 16) (je_var 6)) (je_var 12) (nomark _)))) (fun _ _ _ _ _ => (je_var 16))) (je_lst ja_nil) (nomark _))
  (jb_one (js_ret je_bl))
  jb_nil))))))))))))
  (jb_one (js_ret je_bl)))))⟩
theorem sc__law_other_styles_right : FnScope N__law_other_styles_right P__law_other_styles_right (defScope s__law_other_styles_right) := ⟨rfl, rfl, rfl, by decide +kernel, rfl, by decide +kernel, by decide +kernel⟩
theorem d__law_other_styles_right {C_Style : Addr} {P : Program} {wd : World} {K : PySem.W.Frag} {mg : Str → Option Value} {base : Heap} {f : Addr} {cdv : Value} {A : Around} {outer : List Env} {s : Shared} {H : Hp} {E : XK} (hG : (A.deeper (envOfC "_law_other_styles_right" (defScope s__law_other_styles_right) s.heap.objs.size f cdv)).guards = some []) (hr : Room 8 (A.deeper (envOfC "_law_other_styles_right" (defScope s__law_other_styles_right) s.heap.objs.size f cdv))) (c__law_pick : CalG P wd K mg base "_law_pick" s__law_pick 1 P__law_pick sp__law_pick) (c_stops : CalG P wd K mg base "stops" s_stops 6 P_stops (sp_stops C_Style)) (h_Style : mg "Style" = some (.ref C_Style)) (pr_Style_least : PropK P wd K mg base C_Style "least" 1 (pkP 1 [0] [] (sp_Style_least C_Style))) (pr_Style_gap : PropK P wd K mg base C_Style "gap" 1 (pkP 1 [0] [] (sp_Style_gap C_Style))) (pr_Style_kinds : PropK P wd K mg base C_Style "kinds" 1 (pkP 1 [0] [] (sp_Style_kinds C_Style))) (cm_Style_Style_of_4 : CMetK P wd K mg base C_Style "of" 5 ([] : List Str) (pkP 4 [0, 1, 2, 3] [] (sp_Style_of C_Style))) (m_enumerate : mg "enumerate" = none) (c_width_of : CalG P wd K mg base "width_of" s_width_of 8 P_width_of (sp_width_of C_Style)) (c_ends : CalG P wd K mg base "ends" s_ends 7 P_ends (sp_ends C_Style)) (m_max : mg "max" = none) :
    ∃ t, JB (cxOf (L2.CX P wd) P wd K mg base N__law_other_styles_right "_law_other_styles_right" (defScope s__law_other_styles_right) f cdv A outer s H E) (WD E) (defBody s__law_other_styles_right) t (T__law_other_styles_right C_Style) := by
  have hu : (A.deeper (envOfC "_law_other_styles_right" (defScope s__law_other_styles_right) s.heap.objs.size f cdv)).units + 64 < cLine := hr.units
  exact ⟨_, (jb_cons (js_asg (je_tup (ja_cons (je_callCG c_stops hG (hr.mono (by decide)) rfl (takes_of rfl rfl rfl rfl) (ja_cons (je_var 1) (ja_cons (je_var 2) ja_nil))) (ja_cons (je_op op_addA opd_add je_int (je_callCG c__law_pick hG (hr.mono (by decide)) rfl (takes_of rfl rfl rfl rfl) (ja_cons (je_var 0) (ja_cons je_int ja_nil)))) ja_nil))) (jg_tup rfl (jgs_cons (jg_name 3 sc__law_other_styles_right.nd) (jgs_cons (jg_name 4 sc__law_other_styles_right.nd) jgs_nil))))
  (jb_cons (js_set 5 sc__law_other_styles_right.nd (je_fzI (je_cmethA cm_Style_Style_of_4 hG (hr.mono (by decide)) (takes_of rfl rfl rfl rfl) (je_gref rfl h_Style) (jc_cons (ks := ([] : List Str)) (ja_cons (je_propA pr_Style_kinds hG (hr.mono (by decide)) (je_var 2)) (ja_cons (je_op op_addA opd_add (je_propA pr_Style_gap hG (hr.mono (by decide)) (je_var 2)) (je_var 4)) (ja_cons (je_propA pr_Style_least hG (hr.mono (by decide)) (je_var 2)) ja_nil))) jk_nil))))
  (jb_cons (js_if (jt_cmp (op_neD hu) opd_ne (je_callCG c_stops hG (hr.mono (by decide)) rfl (takes_of rfl rfl rfl rfl) (ja_cons (je_var 1) (ja_cons (je_var 5) ja_nil))) (je_lc (own := ([("_law_row", 9)] : List (Str × Nat))) finF finF_ok rfl sc__law_other_styles_right.nd (ji_list (je_var 3)) (blkOk_by (N := N__law_other_styles_right) (sc := defScope s__law_other_styles_right) (by decide +kernel)) (fun _ _ _ _ _ => (jg_name 9 sc__law_other_styles_right.nd)) (by exact (gk_name (vs := [9]) (i := 9))) (fun _ _ _ _ _ => jts_nil) (fun _ _ _ _ _ => (je_lc (own := ([("_law_spot", 10), ("_law_x", 11)] : List (Str × Nat))) finF finF_ok rfl sc__law_other_styles_right.nd (ji_enum rfl m_enumerate (ja_cons (je_var 9) ja_nil)) (by exact blkOk_by (by kernel_rfl)) (fun _ _ _ _ _ => (jg_tup rfl (jgs_cons (jg_name 10 sc__law_other_styles_right.nd) (jgs_cons (jg_name 11 sc__law_other_styles_right.nd) jgs_nil)))) (by exact (gk_tup (gks_name (vs := [10, 11]) (i := 10) (gks_name (vs := [10, 11]) (i := 11) (gks_nil (vs := [10, 11])))))) (fun _ _ _ _ _ => jts_nil) (fun _ _ _ _ _ => (je_op op_addA opd_add (je_var 11) (je_op op_mulA opd_mul (je_var 4) (je_op op_addA opd_add (je_var 10) je_int))))))) (nomark _))
  (jb_one (js_ret je_bl))
  jb_nil)
  (jb_cons (js_set 6 sc__law_other_styles_right.nd (je_fzI (je_cmethA cm_Style_Style_of_4 hG (hr.mono (by decide)) (takes_of rfl rfl rfl rfl) (je_gref rfl h_Style) (jc_cons (ks := ([] : List Str)) (ja_cons (je_lst (ja_cons je_str ja_nil)) (ja_cons (je_op op_mulA opd_mul (je_propA pr_Style_gap hG (hr.mono (by decide)) (je_var 2)) (je_var 4)) (ja_cons (je_op op_mulA opd_mul (je_propA pr_Style_least hG (hr.mono (by decide)) (je_var 2)) (je_var 4)) ja_nil))) jk_nil))))
  (jb_cons (js_setLc 7 (own := ([("_law_row", 9)] : List (Str × Nat))) finF finF_ok rfl sc__law_other_styles_right.nd (ji_list (je_var 1)) (blkOk_by (N := N__law_other_styles_right) (sc := defScope s__law_other_styles_right) (by decide +kernel)) (fun _ _ _ _ _ => (jg_name 9 sc__law_other_styles_right.nd)) (by exact (gk_name (vs := [9]) (i := 9))) (fun _ _ _ _ _ => jts_nil) (fun _ _ _ _ _ => (je_lc (own := ([("_law_one", 12)] : List (Str × Nat))) finF finF_ok rfl sc__law_other_styles_right.nd (ji_list (je_var 9)) (by exact blkOk_by (by kernel_rfl)) (fun _ _ _ _ _ => (jg_name 12 sc__law_other_styles_right.nd)) (by exact (gk_name (vs := [12]) (i := 12))) (fun _ _ _ _ _ => jts_nil) (fun _ _ _ _ _ => (je_op op_mulA opd_mul (je_var 12) (je_var 4))))))
  (jb_cons (js_set 8 sc__law_other_styles_right.nd (je_callCG c_width_of hG (hr.mono (by decide)) rfl (takes_of rfl rfl rfl rfl) (ja_cons (je_var 1) (ja_cons (je_var 2) ja_nil))))
  (jb_cons (js_if (JW.jt (jw_or (jt_cmp (op_neD hu) opd_ne (je_callCG c_stops hG (hr.mono (by decide)) rfl (takes_of rfl rfl rfl rfl) (ja_cons (je_var 7) (ja_cons (je_var 6) ja_nil))) (je_lc (own := ([("_law_row", 9)] : List (Str × Nat))) finF finF_ok rfl sc__law_other_styles_right.nd (ji_list (je_var 3)) (blkOk_by (N := N__law_other_styles_right) (sc := defScope s__law_other_styles_right) (by decide +kernel)) (fun _ _ _ _ _ => (jg_name 9 sc__law_other_styles_right.nd)) (by exact (gk_name (vs := [9]) (i := 9))) (fun _ _ _ _ _ => jts_nil) (fun _ _ _ _ _ => (je_lc (own := ([("_law_x", 11)] : List (Str × Nat))) finF finF_ok rfl sc__law_other_styles_right.nd (ji_list (je_var 9)) (by exact blkOk_by (by kernel_rfl)) (fun _ _ _ _ _ => (jg_name 11 sc__law_other_styles_right.nd)) (by exact (gk_name (vs := [11]) (i := 11))) (fun _ _ _ _ _ => jts_nil) (fun _ _ _ _ _ => (je_op op_mulA opd_mul (je_var 11) (je_var 4)))))) (nomark _)) (jw_or1 (jt_cmp op_ne opd_neF (je_callCG c_width_of hG (hr.mono (by decide)) rfl (takes_of rfl rfl rfl rfl) (ja_cons (je_var 7) (ja_cons (je_var 6) ja_nil))) (je_op op_mulA opd_mul (je_var 4) (je_var 8)) (nomark _)))))
  (jb_one (js_ret je_bl))
  jb_nil)
  (jb_one (js_ret (je_and (je_cmp (op_eqD hu) opd_eq (je_callCG c_ends hG (hr.mono (by decide)) rfl (takes_of rfl rfl rfl rfl) (ja_cons (je_rev (je_var 1)) (ja_cons (je_var 2) ja_nil))) (je_rev (je_callCG c_ends hG (hr.mono (by decide)) rfl (takes_of rfl rfl rfl rfl) (ja_cons (je_var 1) (ja_cons (je_var 2) ja_nil)))) (nomark _)) (je_one (je_cmp op_eq opd_eqF (je_var 8) (je_callB (cr_max rfl) cd_max rfl m_max (by decide +kernel) (ja_cons (je_callCG c_ends hG (hr.mono (by decide)) rfl (takes_of rfl rfl rfl rfl) (ja_cons (je_var 1) (ja_cons (je_var 2) ja_nil))) ja_nil)) (nomark _)))))))))))))⟩
theorem sc__law_parts_right : FnScope N__law_parts_right P__law_parts_right (defScope s__law_parts_right) := ⟨rfl, rfl, rfl, by decide +kernel, rfl, by decide +kernel, by decide +kernel⟩
theorem d__law_parts_right {C_Style C_stacked : Addr} {P : Program} {wd : World} {K : PySem.W.Frag} {mg : Str → Option Value} {base : Heap} {f : Addr} {cdv : Value} {A : Around} {outer : List Env} {s : Shared} {H : Hp} {E : XK} (hG : (A.deeper (envOfC "_law_parts_right" (defScope s__law_parts_right) s.heap.objs.size f cdv)).guards = some []) (hr : Room 7 (A.deeper (envOfC "_law_parts_right" (defScope s__law_parts_right) s.heap.objs.size f cdv))) (c__law_pick : CalG P wd K mg base "_law_pick" s__law_pick 1 P__law_pick sp__law_pick) (m_len : mg "len" = none) (c_ends : CalG P wd K mg base "ends" s_ends 7 P_ends (sp_ends C_Style)) (c_part : CalG P wd K mg base "part" s_part 6 P_part sp_part) (m_zip : mg "zip" = none) (fk_stacked_s0 : FnK P wd K mg base 6 C_stacked ([] : List Str) (pkS true 0 [] [] sp_stacked)) (h_stacked : mg "stacked" = some (.ref C_stacked)) (c_tabs_of : CalG P wd K mg base "tabs_of" s_tabs_of 6 P_tabs_of sp_tabs_of) (m_min : mg "min" = none) (c_blocks_of : CalG P wd K mg base "blocks_of" s_blocks_of 6 P_blocks_of sp_blocks_of) :
    ∃ t, JB (cxOf (L2.CX P wd) P wd K mg base N__law_parts_right "_law_parts_right" (defScope s__law_parts_right) f cdv A outer s H E) (WD E) (defBody s__law_parts_right) t (T__law_parts_right C_Style) := by
  have hu : (A.deeper (envOfC "_law_parts_right" (defScope s__law_parts_right) s.heap.objs.size f cdv)).units + 64 < cLine := hr.units
  exact ⟨_, (jb_cons (js_set 4 sc__law_parts_right.nd (je_callCG c__law_pick hG (hr.mono (by decide)) rfl (takes_of rfl rfl rfl rfl) (ja_cons (je_var 0) (ja_cons (je_callB call_lenA cd_len rfl m_len (by decide +kernel) (ja_cons (je_var 1) ja_nil)) ja_nil))))
  (jb_cons (js_set 5 sc__law_parts_right.nd (je_op op_addA opd_add (je_var 4) (je_callCG c__law_pick hG (hr.mono (by decide)) rfl (takes_of rfl rfl rfl rfl) (ja_cons (je_var 0) (ja_cons (je_op op_sub opd_sub (je_callB call_lenA cd_len rfl m_len (by decide +kernel) (ja_cons (je_var 1) ja_nil)) (je_var 4)) ja_nil)))))
  (jb_cons (js_par 6 7 rfl sc__law_parts_right.nd (ja_cons (je_callCG c_ends hG (hr.mono (by decide)) rfl (takes_of rfl rfl rfl rfl) (ja_cons (je_callCG c_part hG (hr.mono (by decide)) rfl (takes_of rfl rfl rfl rfl) (ja_cons (je_var 1) (ja_cons (je_var 4) (ja_cons (je_var 5) ja_nil)))) (ja_cons (je_var 3) ja_nil))) (ja_cons (je_callCG c_ends hG (hr.mono (by decide)) rfl (takes_of rfl rfl rfl rfl) (ja_cons (je_var 1) (ja_cons (je_var 3) ja_nil))) ja_nil)))
  (jb_cons (js_if (jt_cmp (op_neD hu) opd_ne (je_lc (own := ([("_law_one", 11), ("_law_two", 12)] : List (Str × Nat))) finF finF_ok rfl sc__law_parts_right.nd (ji_zip rfl m_zip (ja_cons (je_var 6) (ja_cons (je_slice sl_list sld_l (je_var 7) (jo_some (je_var 4)) (jo_some (je_op op_addA opd_add (je_var 5) je_int))) ja_nil))) (blkOk_by (N := N__law_parts_right) (sc := defScope s__law_parts_right) (by decide +kernel)) (fun _ _ _ _ _ => (jg_tup rfl (jgs_cons (jg_name 11 sc__law_parts_right.nd) (jgs_cons (jg_name 12 sc__law_parts_right.nd) jgs_nil)))) (by exact (gk_tup (gks_name (vs := [11, 12]) (i := 11) (gks_name (vs := [11, 12]) (i := 12) (gks_nil (vs := [11, 12])))))) (fun _ _ _ _ _ => (jts_one (jt_cmp op_gt opd_gt (je_var 11) (je_var 12) (nomark _)))) (fun _ _ _ _ _ => je_int)) (je_lst ja_nil) (nomark _))
  (jb_one (js_ret je_bl))
  jb_nil)
  (jb_cons (js_par 8 9 rfl sc__law_parts_right.nd (ja_cons (je_callA fk_stacked_s0 h_stacked hG (hr.mono (by decide)) rfl (takes_of rfl rfl rfl rfl) (jc_cons (ks := ([] : List Str)) (ja_cons (je_var 1) (ja_cons (je_lst (ja_cons (je_lst (ja_cons je_int ja_nil)) ja_nil)) (ja_cons (je_var 2) ja_nil))) jk_nil)) (ja_cons (je_callA fk_stacked_s0 h_stacked hG (hr.mono (by decide)) rfl (takes_of rfl rfl rfl rfl) (jc_cons (ks := ([] : List Str)) (ja_cons (je_var 1) (ja_cons (je_var 2) ja_nil)) jk_nil)) ja_nil)))
  (jb_cons (js_if (JW.jt (jw_or (jt_cmp (op_neD hu) opd_ne (je_callCG c_ends hG (hr.mono (by decide)) rfl (takes_of rfl rfl rfl rfl) (ja_cons (je_var 8) (ja_cons (je_var 3) ja_nil))) (je_op op_addA opd_add (je_op op_addA opd_add (je_var 7) (je_lst (ja_cons je_int ja_nil))) (je_callCG c_ends hG (hr.mono (by decide)) rfl (takes_of rfl rfl rfl rfl) (ja_cons (je_var 2) (ja_cons (je_var 3) ja_nil)))) (nomark _)) (jw_or1 (jt_cmp (op_neD hu) opd_ne (je_callCG c_tabs_of hG (hr.mono (by decide)) rfl (takes_of rfl rfl rfl rfl) (ja_cons (je_var 9) ja_nil)) (je_op op_addA opd_add (je_callCG c_tabs_of hG (hr.mono (by decide)) rfl (takes_of rfl rfl rfl rfl) (ja_cons (je_var 1) ja_nil)) (je_callCG c_tabs_of hG (hr.mono (by decide)) rfl (takes_of rfl rfl rfl rfl) (ja_cons (je_var 2) ja_nil))) (nomark _)))))
  (jb_one (js_ret je_bl))
  jb_nil)
  (jb_cons (js_if (jt_cmp (op_neD hu) opd_ne (je_lc (own := ([("_law_one", 11), ("_law_two", 12)] : List (Str × Nat))) finF finF_ok rfl sc__law_parts_right.nd (ji_zip rfl m_zip (ja_cons (je_op op_addA opd_add (je_var 7) (je_callCG c_ends hG (hr.mono (by decide)) rfl (takes_of rfl rfl rfl rfl) (ja_cons (je_var 2) (ja_cons (je_var 3) ja_nil)))) (ja_cons (je_callCG c_ends hG (hr.mono (by decide)) rfl (takes_of rfl rfl rfl rfl) (ja_cons (je_var 9) (ja_cons (je_var 3) ja_nil))) ja_nil))) (blkOk_by (N := N__law_parts_right) (sc := defScope s__law_parts_right) (by decide +kernel)) (fun _ _ _ _ _ => (jg_tup rfl (jgs_cons (jg_name 11 sc__law_parts_right.nd) (jgs_cons (jg_name 12 sc__law_parts_right.nd) jgs_nil)))) (by exact (gk_tup (gks_name (vs := [11, 12]) (i := 11) (gks_name (vs := [11, 12]) (i := 12) (gks_nil (vs := [11, 12])))))) (fun _ _ _ _ _ => (jts_one (jt_cmp op_gt opd_gt (je_var 11) (je_var 12) (nomark _)))) (fun _ _ _ _ _ => je_int)) (je_lst ja_nil) (nomark _))
  (jb_one (js_ret je_bl))
  jb_nil)
  (jb_cons (js_set 10 sc__law_parts_right.nd (je_op op_sub opd_sub (je_callB (call_min2 rfl) cd_min2 rfl m_min (by decide +kernel) (ja_cons (je_callB call_lenA cd_len rfl m_len (by decide +kernel) (ja_cons (je_ix ix_seq opd_ix (je_var 1) (je_neg je_int)) ja_nil)) (ja_cons (je_callB call_lenA cd_len rfl m_len (by decide +kernel) (ja_cons (je_ix ix_seq opd_ix (je_var 2) je_int) ja_nil)) ja_nil))) je_int))
  (jb_one (js_ret (je_cmp op_eq opd_eqF (je_callB call_lenA cd_len rfl m_len (by decide +kernel) (ja_cons (je_callCG c_blocks_of hG (hr.mono (by decide)) rfl (takes_of rfl rfl rfl rfl) (ja_cons (je_var 9) ja_nil)) ja_nil)) (je_op op_sub opd_sub (je_op op_addA opd_add (je_callB call_lenA cd_len rfl m_len (by decide +kernel) (ja_cons (je_callCG c_blocks_of hG (hr.mono (by decide)) rfl (takes_of rfl rfl rfl rfl) (ja_cons (je_var 1) ja_nil)) ja_nil)) (je_callB call_lenA cd_len rfl m_len (by decide +kernel) (ja_cons (je_callCG c_blocks_of hG (hr.mono (by decide)) rfl (takes_of rfl rfl rfl rfl) (ja_cons (je_var 2) ja_nil)) ja_nil))) (je_var 10)) (nomark _))))))))))))⟩
theorem sc__law_wider_right : FnScope N__law_wider_right P__law_wider_right (defScope s__law_wider_right) := ⟨rfl, rfl, rfl, by decide +kernel, rfl, by decide +kernel, by decide +kernel⟩
theorem d__law_wider_right {C_Style : Addr} {P : Program} {wd : World} {K : PySem.W.Frag} {mg : Str → Option Value} {base : Heap} {f : Addr} {cdv : Value} {A : Around} {outer : List Env} {s : Shared} {H : Hp} {E : XK} (hG : (A.deeper (envOfC "_law_wider_right" (defScope s__law_wider_right) s.heap.objs.size f cdv)).guards = some []) (hr : Room 6 (A.deeper (envOfC "_law_wider_right" (defScope s__law_wider_right) s.heap.objs.size f cdv))) (c__law_pick : CalG P wd K mg base "_law_pick" s__law_pick 1 P__law_pick sp__law_pick) (m_len : mg "len" = none) (c_block_at : CalG P wd K mg base "block_at" s_block_at 6 P_block_at sp_block_at) (c_stops : CalG P wd K mg base "stops" s_stops 6 P_stops (sp_stops C_Style)) (m_list : mg "list" = none) (m_enumerate : mg "enumerate" = none) (m_int : mg "int" = none) :
    ∃ t, JB (cxOf (L2.CX P wd) P wd K mg base N__law_wider_right "_law_wider_right" (defScope s__law_wider_right) f cdv A outer s H E) (WD E) (defBody s__law_wider_right) t (T__law_wider_right C_Style) := by
  have hu : (A.deeper (envOfC "_law_wider_right" (defScope s__law_wider_right) s.heap.objs.size f cdv)).units + 64 < cLine := hr.units
  exact ⟨_, (jb_cons (js_set 3 sc__law_wider_right.nd (je_callCG c__law_pick hG (hr.mono (by decide)) rfl (takes_of rfl rfl rfl rfl) (ja_cons (je_var 0) (ja_cons (je_callB call_lenA cd_len rfl m_len (by decide +kernel) (ja_cons (je_var 1) ja_nil)) ja_nil))))
  (jb_cons (js_set 4 sc__law_wider_right.nd (je_callCG c__law_pick hG (hr.mono (by decide)) rfl (takes_of rfl rfl rfl rfl) (ja_cons (je_var 0) (ja_cons (je_callB call_lenA cd_len rfl m_len (by decide +kernel) (ja_cons (je_ix ix_seq opd_ix (je_var 1) (je_var 3)) ja_nil)) ja_nil))))
  (jb_cons (js_par 5 6 rfl sc__law_wider_right.nd (ja_cons (je_callCG c_stops hG (hr.mono (by decide)) rfl (takes_of rfl rfl rfl rfl) (ja_cons (je_var 1) (ja_cons (je_var 2) ja_nil))) (ja_cons (je_callCG c_block_at hG (hr.mono (by decide)) rfl (takes_of rfl rfl rfl rfl) (ja_cons (je_var 1) (ja_cons (je_var 3) (ja_cons (je_var 4) ja_nil)))) ja_nil)))
  (jb_cons (js_setLc 7 (own := ([("_law_row", 12)] : List (Str × Nat))) finO finO_ok rfl sc__law_wider_right.nd (ji_list (je_var 1)) (blkOk_by (N := N__law_wider_right) (sc := defScope s__law_wider_right) (by decide +kernel)) (fun _ _ _ _ _ => (jg_name 12 sc__law_wider_right.nd)) (by exact (gk_name (vs := [12]) (i := 12))) (fun _ _ _ _ _ => jts_nil) (fun _ _ _ _ _ => (je_callTy call_list_of cd_listO rfl m_list (by decide +kernel) (ja_cons (je_var 12) ja_nil))))
  (jb_cons (js_asg (je_op op_addA opd_add (je_op op_addA opd_add (je_ix ix_seq opd_ix (je_ix ix_seq opd_ix (je_var 7) (je_var 3)) (je_var 4)) je_int) (je_callCG c__law_pick hG (hr.mono (by decide)) rfl (takes_of rfl rfl rfl rfl) (ja_cons (je_var 0) (ja_cons je_int ja_nil)))) (jg_sub (je_ix ix_seq opd_ix (je_var 7) (je_var 3)) (je_var 4) set_list setd_o))
  (jb_cons (js_set 8 sc__law_wider_right.nd (je_callCG c_stops hG (hr.mono (by decide)) rfl (takes_of rfl rfl rfl rfl) (ja_cons (je_var 7) (ja_cons (je_var 2) ja_nil))))
  (jb_cons (js_if (jt_cmp op_isN opd_isN (je_var 6) je_non (nomark _))
  (jb_one (js_ret (je_cmp (op_eqD hu) opd_eq (je_var 8) (je_var 5) (nomark _))))
  jb_nil)
  (jb_cons (js_set 9 sc__law_wider_right.nd (je_op op_sub opd_sub (je_ix ix_seq opd_ix (je_ix ix_seq opd_ix (je_var 8) (je_var 3)) (je_var 4)) (je_ix ix_seq opd_ix (je_ix ix_seq opd_ix (je_var 5) (je_var 3)) (je_var 4))))
  (jb_cons (js_for (passes_of rfl) rfl (ji_enum rfl m_enumerate (ja_cons (je_var 5) ja_nil)) (jg_tup rfl (jgs_cons (jg_name 10 sc__law_wider_right.nd) (jgs_cons (jg_name 12 sc__law_wider_right.nd) jgs_nil)))
  (jb_cons (js_set 11 sc__law_wider_right.nd (je_chain op_le op_le opd_le opd_le (je_ix ix_seq opd_ix (je_var 6) je_int) (je_var 10) (je_ix ix_seq opd_ix (je_var 6) je_int)))
  (jb_one (js_if (jt_cmp (op_neD hu) opd_ne (je_ix ix_seq opd_ix (je_var 8) (je_var 10)) (je_lc (own := ([("_law_column_at", 13), ("_law_x", 14)] : List (Str × Nat))) finF finF_ok rfl sc__law_wider_right.nd (ji_enum rfl m_enumerate (ja_cons (je_var 12) ja_nil)) (blkOk_by (N := N__law_wider_right) (sc := defScope s__law_wider_right) (by decide +kernel)) (fun _ _ _ _ _ => (jg_tup rfl (jgs_cons (jg_name 13 sc__law_wider_right.nd) (jgs_cons (jg_name 14 sc__law_wider_right.nd) jgs_nil)))) (by exact (gk_tup (gks_name (vs := [13, 14]) (i := 13) (gks_name (vs := [13, 14]) (i := 14) (gks_nil (vs := [13, 14])))))) (fun _ _ _ _ _ => jts_nil) (fun _ _ _ _ _ => (je_op op_addA opd_add (je_var 14) (je_op op_mulA opd_mul (je_var 9) (je_callTy call_int1 cd_int rfl m_int (by decide +kernel) (ja_cons (je_and (je_var 11) (je_one (je_cmp op_ge opd_ge (je_var 13) (je_var 4) (nomark _)))) ja_nil)))))) (nomark _))
  (jb_one (js_ret je_bl))
  jb_nil))))
  (jb_one (js_ret (je_chain op_le op_le opd_le opd_le je_int (je_var 9) (je_op op_sub opd_sub (je_ix ix_seq opd_ix (je_ix ix_seq opd_ix (je_var 7) (je_var 3)) (je_var 4)) (je_ix ix_seq opd_ix (je_ix ix_seq opd_ix (je_var 1) (je_var 3)) (je_var 4)))))))))))))))⟩
theorem sc_law : FnScope N_law P_law (defScope s_law) := ⟨rfl, rfl, rfl, by decide +kernel, rfl, by decide +kernel, by decide +kernel⟩
theorem d_law {C_Style : Addr} {P : Program} {wd : World} {K : PySem.W.Frag} {mg : Str → Option Value} {base : Heap} {f : Addr} {cdv : Value} {A : Around} {outer : List Env} {s : Shared} {H : Hp} {E : XK} (hG : (A.deeper (envOfC "law" (defScope s_law) s.heap.objs.size f cdv)).guards = some []) (hr : Room 9 (A.deeper (envOfC "law" (defScope s_law) s.heap.objs.size f cdv))) (m_len : mg "len" = none) (m_min : mg "min" = none) (m_max : mg "max" = none) (m_range : mg "range" = none) (c__law_feed : CalG P wd K mg base "_law_feed" s__law_feed 1 P__law_feed sp__law_feed) (c__law_sheet : CalG P wd K mg base "_law_sheet" s__law_sheet 3 P__law_sheet sp__law_sheet) (c__law_width : CalG P wd K mg base "_law_width" s__law_width 2 P__law_width sp__law_width) (c__law_pick : CalG P wd K mg base "_law_pick" s__law_pick 1 P__law_pick sp__law_pick) (h_Style : mg "Style" = some (.ref C_Style)) (cm_Style_Style_of_4 : CMetK P wd K mg base C_Style "of" 5 ([] : List Str) (pkP 4 [0, 1, 2, 3] [] (sp_Style_of C_Style))) (c__law_stops_right : CalG P wd K mg base "_law_stops_right" s__law_stops_right 8 P__law_stops_right (sp__law_stops_right C_Style)) (c__law_other_styles_right : CalG P wd K mg base "_law_other_styles_right" s__law_other_styles_right 9 P__law_other_styles_right (sp__law_other_styles_right C_Style)) (c__law_parts_right : CalG P wd K mg base "_law_parts_right" s__law_parts_right 8 P__law_parts_right (sp__law_parts_right C_Style)) (c__law_wider_right : CalG P wd K mg base "_law_wider_right" s__law_wider_right 7 P__law_wider_right (sp__law_wider_right C_Style)) :
    ∃ t, JB (cxOf (L2.CX P wd) P wd K mg base N_law "law" (defScope s_law) f cdv A outer s H E) (WD E) (defBody s_law) t (T_law C_Style) := by
  have hu : (A.deeper (envOfC "law" (defScope s_law) s.heap.objs.size f cdv)).units + 64 < cLine := hr.units
  exact ⟨_, (jb_cons (js_for (passes_of rfl) rfl (ji_range1 rfl m_range (ja_cons (je_callB (call_max2 rfl) cd_max2 rfl m_max (by decide +kernel) (ja_cons je_int (ja_cons (je_callB (call_min2 rfl) cd_min2 rfl m_min (by decide +kernel) (ja_cons je_int (ja_cons (je_callB call_lenA cd_len rfl m_len (by decide +kernel) (ja_cons (je_var 0) ja_nil)) ja_nil))) ja_nil))) ja_nil)) (jg_name 1 sc_law.nd)
  (jb_cons (js_set 2 sc_law.nd (je_callCG c__law_feed hG (hr.mono (by decide)) rfl (takes_of rfl rfl rfl rfl) (ja_cons (je_var 0) (ja_cons (je_var 1) ja_nil))))
  (jb_one (js_for (passes_of rfl) rfl (ji_range1 rfl m_range (ja_cons je_int ja_nil)) (jg_name 3 sc_law.nd)
  (jb_cons (js_par 4 5 rfl sc_law.nd (ja_cons (je_callCG c__law_sheet hG (hr.mono (by decide)) rfl (takes_of rfl rfl rfl rfl) (ja_cons (je_var 2) (ja_cons (je_ix ix_seq opd_ix (je_lst (ja_cons je_int (ja_cons je_int ja_nil))) (je_var 3)) ja_nil))) (ja_cons (je_callCG c__law_sheet hG (hr.mono (by decide)) rfl (takes_of rfl rfl rfl rfl) (ja_cons (je_var 2) (ja_cons (je_ix ix_seq opd_ix (je_lst (ja_cons je_int (ja_cons je_int ja_nil))) (je_var 3)) ja_nil))) ja_nil)))
  (jb_cons (js_set 6 sc_law.nd (je_callCG c__law_width hG (hr.mono (by decide)) rfl (takes_of rfl rfl rfl rfl) (ja_cons (je_var 2) (ja_cons (je_callCG c__law_pick hG (hr.mono (by decide)) rfl (takes_of rfl rfl rfl rfl) (ja_cons (je_var 2) (ja_cons je_int ja_nil))) ja_nil))))
  (jb_cons (js_set 7 sc_law.nd (je_fzI (je_cmethA cm_Style_Style_of_4 hG (hr.mono (by decide)) (takes_of rfl rfl rfl rfl) (je_gref rfl h_Style) (jc_cons (ks := ([] : List Str)) (ja_cons (je_lst (ja_cons je_str (ja_cons je_str ja_nil))) (ja_cons (je_callCG c__law_width hG (hr.mono (by decide)) rfl (takes_of rfl rfl rfl rfl) (ja_cons (je_var 2) (ja_cons (je_callCG c__law_pick hG (hr.mono (by decide)) rfl (takes_of rfl rfl rfl rfl) (ja_cons (je_var 2) (ja_cons je_int ja_nil))) ja_nil))) (ja_cons (je_var 6) ja_nil))) jk_nil))))
  (jb_cons (js_if (JW.jt (jw_or (jt_not (jt_val (je_callCG c__law_stops_right hG (hr.mono (by decide)) rfl (takes_of rfl rfl rfl rfl) (ja_cons (je_var 2) (ja_cons (je_var 4) (ja_cons (je_var 7) ja_nil)))))) (jw_or1 (jt_not (jt_val (je_callCG c__law_other_styles_right hG (hr.mono (by decide)) rfl (takes_of rfl rfl rfl rfl) (ja_cons (je_var 2) (ja_cons (je_var 4) (ja_cons (je_var 7) ja_nil)))))))))
  (jb_one (js_ret je_bl))
  jb_nil)
  (jb_one (js_if (JW.jt (jw_or (jt_not (jt_val (je_callCG c__law_parts_right hG (hr.mono (by decide)) rfl (takes_of rfl rfl rfl rfl) (ja_cons (je_var 2) (ja_cons (je_var 4) (ja_cons (je_var 5) (ja_cons (je_var 7) ja_nil))))))) (jw_or1 (jt_not (jt_val (je_callCG c__law_wider_right hG (hr.mono (by decide)) rfl (takes_of rfl rfl rfl rfl) (ja_cons (je_var 2) (ja_cons (je_var 4) (ja_cons (je_var 7) ja_nil)))))))))
  (jb_one (js_ret je_bl))
  jb_nil))))))))))
  (jb_one (js_ret je_bl)))⟩
end DL
namespace DL
open PySem PySem.Spec PyProof.Rows L2
theorem fun_one {K : PySem.W.Frag} {x : Str} {st : Stmt} {f : Addr} {fd fd2 : FuncData} (F : FunS K x st f fd) (F2 : FunS K x st f fd2) : fd = fd2 := by
  obtain ⟨⟨_, _, _, _, _, _, _, _, _, _, _, e, lk, _⟩, _⟩ := F
  obtain ⟨⟨_, _, _, _, _, _, _, _, _, _, _, e2, lk2, _⟩, _⟩ := F2
  rw [e] at e2
  cases e2
  rfl
theorem len_is_integer : ∀ ds S Φ Ψ, sp_is_integer ds S Φ Ψ → ds.length = (P_is_integer : List Str).length := by
  intro ds S Φ Ψ h
  repeat' (first | (obtain ⟨e, _⟩ := h; (rw [e]; rfl)) | (refine Or.elim h ?_ ?_ <;> clear h <;> intro h) | (obtain ⟨_, h⟩ := h))
theorem len_is_cell : ∀ ds S Φ Ψ, sp_is_cell ds S Φ Ψ → ds.length = (P_is_cell : List Str).length := by
  intro ds S Φ Ψ h
  repeat' (first | (obtain ⟨e, _⟩ := h; (rw [e]; rfl)) | (refine Or.elim h ?_ ?_ <;> clear h <;> intro h) | (obtain ⟨_, h⟩ := h))
theorem len_is_line : ∀ ds S Φ Ψ, sp_is_line ds S Φ Ψ → ds.length = (P_is_line : List Str).length := by
  intro ds S Φ Ψ h
  repeat' (first | (obtain ⟨e, _⟩ := h; (rw [e]; rfl)) | (refine Or.elim h ?_ ?_ <;> clear h <;> intro h) | (obtain ⟨_, h⟩ := h))
theorem len_is_table : ∀ ds S Φ Ψ, sp_is_table ds S Φ Ψ → ds.length = (P_is_table : List Str).length := by
  intro ds S Φ Ψ h
  repeat' (first | (obtain ⟨e, _⟩ := h; (rw [e]; rfl)) | (refine Or.elim h ?_ ?_ <;> clear h <;> intro h) | (obtain ⟨_, h⟩ := h))
theorem len_need_table : ∀ ds S Φ Ψ, sp_need_table ds S Φ Ψ → ds.length = (P_need_table : List Str).length := by
  intro ds S Φ Ψ h
  repeat' (first | (obtain ⟨e, _⟩ := h; (rw [e]; rfl)) | (refine Or.elim h ?_ ?_ <;> clear h <;> intro h) | (obtain ⟨_, h⟩ := h))
theorem len_need_line : ∀ ds S Φ Ψ, sp_need_line ds S Φ Ψ → ds.length = (P_need_line : List Str).length := by
  intro ds S Φ Ψ h
  repeat' (first | (obtain ⟨e, _⟩ := h; (rw [e]; rfl)) | (refine Or.elim h ?_ ?_ <;> clear h <;> intro h) | (obtain ⟨_, h⟩ := h))
theorem len_copy_of : ∀ ds S Φ Ψ, sp_copy_of ds S Φ Ψ → ds.length = (P_copy_of : List Str).length := by
  intro ds S Φ Ψ h
  repeat' (first | (obtain ⟨e, _⟩ := h; (rw [e]; rfl)) | (refine Or.elim h ?_ ?_ <;> clear h <;> intro h) | (obtain ⟨_, h⟩ := h))
theorem len_tabs_in : ∀ ds S Φ Ψ, sp_tabs_in ds S Φ Ψ → ds.length = (P_tabs_in : List Str).length := by
  intro ds S Φ Ψ h
  repeat' (first | (obtain ⟨e, _⟩ := h; (rw [e]; rfl)) | (refine Or.elim h ?_ ?_ <;> clear h <;> intro h) | (obtain ⟨_, h⟩ := h))
theorem len_tabs_of : ∀ ds S Φ Ψ, sp_tabs_of ds S Φ Ψ → ds.length = (P_tabs_of : List Str).length := by
  intro ds S Φ Ψ h
  repeat' (first | (obtain ⟨e, _⟩ := h; (rw [e]; rfl)) | (refine Or.elim h ?_ ?_ <;> clear h <;> intro h) | (obtain ⟨_, h⟩ := h))
theorem len_stacked : ∀ ds S Φ Ψ, sp_stacked ds S Φ Ψ → ds.length = (P_stacked : List Str).length := by
  intro ds S Φ Ψ h
  repeat' (first | (obtain ⟨e, _⟩ := h; (rw [e]; rfl)) | (refine Or.elim h ?_ ?_ <;> clear h <;> intro h) | (obtain ⟨_, h⟩ := h))
theorem len_part : ∀ ds S Φ Ψ, sp_part ds S Φ Ψ → ds.length = (P_part : List Str).length := by
  intro ds S Φ Ψ h
  repeat' (first | (obtain ⟨e, _⟩ := h; (rw [e]; rfl)) | (refine Or.elim h ?_ ?_ <;> clear h <;> intro h) | (obtain ⟨_, h⟩ := h))
theorem len_blocks_of_column : ∀ ds S Φ Ψ, sp_blocks_of_column ds S Φ Ψ → ds.length = (P_blocks_of_column : List Str).length := by
  intro ds S Φ Ψ h
  repeat' (first | (obtain ⟨e, _⟩ := h; (rw [e]; rfl)) | (refine Or.elim h ?_ ?_ <;> clear h <;> intro h) | (obtain ⟨_, h⟩ := h))
theorem len_blocks_by_tabs : ∀ ds S Φ Ψ, sp_blocks_by_tabs ds S Φ Ψ → ds.length = (P_blocks_by_tabs : List Str).length := by
  intro ds S Φ Ψ h
  repeat' (first | (obtain ⟨e, _⟩ := h; (rw [e]; rfl)) | (refine Or.elim h ?_ ?_ <;> clear h <;> intro h) | (obtain ⟨_, h⟩ := h))
theorem len_blocks_in : ∀ ds S Φ Ψ, sp_blocks_in ds S Φ Ψ → ds.length = (P_blocks_in : List Str).length := by
  intro ds S Φ Ψ h
  repeat' (first | (obtain ⟨e, _⟩ := h; (rw [e]; rfl)) | (refine Or.elim h ?_ ?_ <;> clear h <;> intro h) | (obtain ⟨_, h⟩ := h))
theorem len_block_with : ∀ ds S Φ Ψ, sp_block_with ds S Φ Ψ → ds.length = (P_block_with : List Str).length := by
  intro ds S Φ Ψ h
  repeat' (first | (obtain ⟨e, _⟩ := h; (rw [e]; rfl)) | (refine Or.elim h ?_ ?_ <;> clear h <;> intro h) | (obtain ⟨_, h⟩ := h))
theorem len_blocks_around : ∀ ds S Φ Ψ, sp_blocks_around ds S Φ Ψ → ds.length = (P_blocks_around : List Str).length := by
  intro ds S Φ Ψ h
  repeat' (first | (obtain ⟨e, _⟩ := h; (rw [e]; rfl)) | (refine Or.elim h ?_ ?_ <;> clear h <;> intro h) | (obtain ⟨_, h⟩ := h))
theorem len_blocks_of : ∀ ds S Φ Ψ, sp_blocks_of ds S Φ Ψ → ds.length = (P_blocks_of : List Str).length := by
  intro ds S Φ Ψ h
  repeat' (first | (obtain ⟨e, _⟩ := h; (rw [e]; rfl)) | (refine Or.elim h ?_ ?_ <;> clear h <;> intro h) | (obtain ⟨_, h⟩ := h))
theorem len_block_at : ∀ ds S Φ Ψ, sp_block_at ds S Φ Ψ → ds.length = (P_block_at : List Str).length := by
  intro ds S Φ Ψ h
  repeat' (first | (obtain ⟨e, _⟩ := h; (rw [e]; rfl)) | (refine Or.elim h ?_ ?_ <;> clear h <;> intro h) | (obtain ⟨_, h⟩ := h))
theorem len_need_block : ∀ ds S Φ Ψ, sp_need_block ds S Φ Ψ → ds.length = (P_need_block : List Str).length := by
  intro ds S Φ Ψ h
  repeat' (first | (obtain ⟨e, _⟩ := h; (rw [e]; rfl)) | (refine Or.elim h ?_ ?_ <;> clear h <;> intro h) | (obtain ⟨_, h⟩ := h))
theorem len_parent_of : ∀ ds S Φ Ψ, sp_parent_of ds S Φ Ψ → ds.length = (P_parent_of : List Str).length := by
  intro ds S Φ Ψ h
  repeat' (first | (obtain ⟨e, _⟩ := h; (rw [e]; rfl)) | (refine Or.elim h ?_ ?_ <;> clear h <;> intro h) | (obtain ⟨_, h⟩ := h))
theorem len_greatest_in : ∀ ds S Φ Ψ, sp_greatest_in ds S Φ Ψ → ds.length = (P_greatest_in : List Str).length := by
  intro ds S Φ Ψ h
  repeat' (first | (obtain ⟨e, _⟩ := h; (rw [e]; rfl)) | (refine Or.elim h ?_ ?_ <;> clear h <;> intro h) | (obtain ⟨_, h⟩ := h))
theorem len_room_of {C_Style : Addr} : ∀ ds S Φ Ψ, (sp_room_of C_Style) ds S Φ Ψ → ds.length = (P_room_of : List Str).length := by
  intro ds S Φ Ψ h
  repeat' (first | (obtain ⟨e, _⟩ := h; (rw [e]; rfl)) | (refine Or.elim h ?_ ?_ <;> clear h <;> intro h) | (obtain ⟨_, h⟩ := h))
theorem len_rooms_in {C_Style : Addr} : ∀ ds S Φ Ψ, (sp_rooms_in C_Style) ds S Φ Ψ → ds.length = (P_rooms_in : List Str).length := by
  intro ds S Φ Ψ h
  repeat' (first | (obtain ⟨e, _⟩ := h; (rw [e]; rfl)) | (refine Or.elim h ?_ ?_ <;> clear h <;> intro h) | (obtain ⟨_, h⟩ := h))
theorem len_stops_in {C_Style : Addr} : ∀ ds S Φ Ψ, (sp_stops_in C_Style) ds S Φ Ψ → ds.length = (P_stops_in : List Str).length := by
  intro ds S Φ Ψ h
  repeat' (first | (obtain ⟨e, _⟩ := h; (rw [e]; rfl)) | (refine Or.elim h ?_ ?_ <;> clear h <;> intro h) | (obtain ⟨_, h⟩ := h))
theorem len_ends_in {C_Style : Addr} : ∀ ds S Φ Ψ, (sp_ends_in C_Style) ds S Φ Ψ → ds.length = (P_ends_in : List Str).length := by
  intro ds S Φ Ψ h
  repeat' (first | (obtain ⟨e, _⟩ := h; (rw [e]; rfl)) | (refine Or.elim h ?_ ?_ <;> clear h <;> intro h) | (obtain ⟨_, h⟩ := h))
theorem len_width_in {C_Style : Addr} : ∀ ds S Φ Ψ, (sp_width_in C_Style) ds S Φ Ψ → ds.length = (P_width_in : List Str).length := by
  intro ds S Φ Ψ h
  repeat' (first | (obtain ⟨e, _⟩ := h; (rw [e]; rfl)) | (refine Or.elim h ?_ ?_ <;> clear h <;> intro h) | (obtain ⟨_, h⟩ := h))
theorem len_stops {C_Style : Addr} : ∀ ds S Φ Ψ, (sp_stops C_Style) ds S Φ Ψ → ds.length = (P_stops : List Str).length := by
  intro ds S Φ Ψ h
  repeat' (first | (obtain ⟨e, _⟩ := h; (rw [e]; rfl)) | (refine Or.elim h ?_ ?_ <;> clear h <;> intro h) | (obtain ⟨_, h⟩ := h))
theorem len_ends {C_Style : Addr} : ∀ ds S Φ Ψ, (sp_ends C_Style) ds S Φ Ψ → ds.length = (P_ends : List Str).length := by
  intro ds S Φ Ψ h
  repeat' (first | (obtain ⟨e, _⟩ := h; (rw [e]; rfl)) | (refine Or.elim h ?_ ?_ <;> clear h <;> intro h) | (obtain ⟨_, h⟩ := h))
theorem len_width_of {C_Style : Addr} : ∀ ds S Φ Ψ, (sp_width_of C_Style) ds S Φ Ψ → ds.length = (P_width_of : List Str).length := by
  intro ds S Φ Ψ h
  repeat' (first | (obtain ⟨e, _⟩ := h; (rw [e]; rfl)) | (refine Or.elim h ?_ ?_ <;> clear h <;> intro h) | (obtain ⟨_, h⟩ := h))
theorem len_need_tab : ∀ ds S Φ Ψ, sp_need_tab ds S Φ Ψ → ds.length = (P_need_tab : List Str).length := by
  intro ds S Φ Ψ h
  repeat' (first | (obtain ⟨e, _⟩ := h; (rw [e]; rfl)) | (refine Or.elim h ?_ ?_ <;> clear h <;> intro h) | (obtain ⟨_, h⟩ := h))
theorem len_lines_with : ∀ ds S Φ Ψ, sp_lines_with ds S Φ Ψ → ds.length = (P_lines_with : List Str).length := by
  intro ds S Φ Ψ h
  repeat' (first | (obtain ⟨e, _⟩ := h; (rw [e]; rfl)) | (refine Or.elim h ?_ ?_ <;> clear h <;> intro h) | (obtain ⟨_, h⟩ := h))
theorem len_bearers {C_Style : Addr} : ∀ ds S Φ Ψ, (sp_bearers C_Style) ds S Φ Ψ → ds.length = (P_bearers : List Str).length := by
  intro ds S Φ Ψ h
  repeat' (first | (obtain ⟨e, _⟩ := h; (rw [e]; rfl)) | (refine Or.elim h ?_ ?_ <;> clear h <;> intro h) | (obtain ⟨_, h⟩ := h))
theorem len_bears_block {C_Style : Addr} : ∀ ds S Φ Ψ, (sp_bears_block C_Style) ds S Φ Ψ → ds.length = (P_bears_block : List Str).length := by
  intro ds S Φ Ψ h
  repeat' (first | (obtain ⟨e, _⟩ := h; (rw [e]; rfl)) | (refine Or.elim h ?_ ?_ <;> clear h <;> intro h) | (obtain ⟨_, h⟩ := h))
theorem len_bears {C_Style : Addr} : ∀ ds S Φ Ψ, (sp_bears C_Style) ds S Φ Ψ → ds.length = (P_bears : List Str).length := by
  intro ds S Φ Ψ h
  repeat' (first | (obtain ⟨e, _⟩ := h; (rw [e]; rfl)) | (refine Or.elim h ?_ ?_ <;> clear h <;> intro h) | (obtain ⟨_, h⟩ := h))
theorem len_are_kinds : ∀ ds S Φ Ψ, sp_are_kinds ds S Φ Ψ → ds.length = (P_are_kinds : List Str).length := by
  intro ds S Φ Ψ h
  repeat' (first | (obtain ⟨e, _⟩ := h; (rw [e]; rfl)) | (refine Or.elim h ?_ ?_ <;> clear h <;> intro h) | (obtain ⟨_, h⟩ := h))
theorem len_Style___init__ {C_Style : Addr} : ∀ ds S Φ Ψ, (sp_Style___init__ C_Style) ds S Φ Ψ → ds.length = (P_Style___init__ : List Str).length := by
  intro ds S Φ Ψ h
  repeat' (first | (obtain ⟨e, _⟩ := h; (rw [e]; rfl)) | (refine Or.elim h ?_ ?_ <;> clear h <;> intro h) | (obtain ⟨_, h⟩ := h))
theorem len_Style_of {C_Style : Addr} : ∀ ds S Φ Ψ, (sp_Style_of C_Style) ds S Φ Ψ → ds.length = (P_Style_of : List Str).length := by
  intro ds S Φ Ψ h
  repeat' (first | (obtain ⟨e, _⟩ := h; (rw [e]; rfl)) | (refine Or.elim h ?_ ?_ <;> clear h <;> intro h) | (obtain ⟨_, h⟩ := h))
theorem len_Style_kinds {C_Style : Addr} : ∀ ds S Φ Ψ, (sp_Style_kinds C_Style) ds S Φ Ψ → ds.length = (P_Style_kinds : List Str).length := by
  intro ds S Φ Ψ h
  repeat' (first | (obtain ⟨e, _⟩ := h; (rw [e]; rfl)) | (refine Or.elim h ?_ ?_ <;> clear h <;> intro h) | (obtain ⟨_, h⟩ := h))
theorem len_Style_gap {C_Style : Addr} : ∀ ds S Φ Ψ, (sp_Style_gap C_Style) ds S Φ Ψ → ds.length = (P_Style_gap : List Str).length := by
  intro ds S Φ Ψ h
  repeat' (first | (obtain ⟨e, _⟩ := h; (rw [e]; rfl)) | (refine Or.elim h ?_ ?_ <;> clear h <;> intro h) | (obtain ⟨_, h⟩ := h))
theorem len_Style_least {C_Style : Addr} : ∀ ds S Φ Ψ, (sp_Style_least C_Style) ds S Φ Ψ → ds.length = (P_Style_least : List Str).length := by
  intro ds S Φ Ψ h
  repeat' (first | (obtain ⟨e, _⟩ := h; (rw [e]; rfl)) | (refine Or.elim h ?_ ?_ <;> clear h <;> intro h) | (obtain ⟨_, h⟩ := h))
theorem len__law_feed : ∀ ds S Φ Ψ, sp__law_feed ds S Φ Ψ → ds.length = (P__law_feed : List Str).length := by
  intro ds S Φ Ψ h
  repeat' (first | (obtain ⟨e, _⟩ := h; (rw [e]; rfl)) | (refine Or.elim h ?_ ?_ <;> clear h <;> intro h) | (obtain ⟨_, h⟩ := h))
theorem len__law_pick : ∀ ds S Φ Ψ, sp__law_pick ds S Φ Ψ → ds.length = (P__law_pick : List Str).length := by
  intro ds S Φ Ψ h
  repeat' (first | (obtain ⟨e, _⟩ := h; (rw [e]; rfl)) | (refine Or.elim h ?_ ?_ <;> clear h <;> intro h) | (obtain ⟨_, h⟩ := h))
theorem len__law_width : ∀ ds S Φ Ψ, sp__law_width ds S Φ Ψ → ds.length = (P__law_width : List Str).length := by
  intro ds S Φ Ψ h
  repeat' (first | (obtain ⟨e, _⟩ := h; (rw [e]; rfl)) | (refine Or.elim h ?_ ?_ <;> clear h <;> intro h) | (obtain ⟨_, h⟩ := h))
theorem len__law_counts : ∀ ds S Φ Ψ, sp__law_counts ds S Φ Ψ → ds.length = (P__law_counts : List Str).length := by
  intro ds S Φ Ψ h
  repeat' (first | (obtain ⟨e, _⟩ := h; (rw [e]; rfl)) | (refine Or.elim h ?_ ?_ <;> clear h <;> intro h) | (obtain ⟨_, h⟩ := h))
theorem len__law_sheet : ∀ ds S Φ Ψ, sp__law_sheet ds S Φ Ψ → ds.length = (P__law_sheet : List Str).length := by
  intro ds S Φ Ψ h
  repeat' (first | (obtain ⟨e, _⟩ := h; (rw [e]; rfl)) | (refine Or.elim h ?_ ?_ <;> clear h <;> intro h) | (obtain ⟨_, h⟩ := h))
theorem len__law_stops_right {C_Style : Addr} : ∀ ds S Φ Ψ, (sp__law_stops_right C_Style) ds S Φ Ψ → ds.length = (P__law_stops_right : List Str).length := by
  intro ds S Φ Ψ h
  repeat' (first | (obtain ⟨e, _⟩ := h; (rw [e]; rfl)) | (refine Or.elim h ?_ ?_ <;> clear h <;> intro h) | (obtain ⟨_, h⟩ := h))
theorem len__law_other_styles_right {C_Style : Addr} : ∀ ds S Φ Ψ, (sp__law_other_styles_right C_Style) ds S Φ Ψ → ds.length = (P__law_other_styles_right : List Str).length := by
  intro ds S Φ Ψ h
  repeat' (first | (obtain ⟨e, _⟩ := h; (rw [e]; rfl)) | (refine Or.elim h ?_ ?_ <;> clear h <;> intro h) | (obtain ⟨_, h⟩ := h))
theorem len__law_parts_right {C_Style : Addr} : ∀ ds S Φ Ψ, (sp__law_parts_right C_Style) ds S Φ Ψ → ds.length = (P__law_parts_right : List Str).length := by
  intro ds S Φ Ψ h
  repeat' (first | (obtain ⟨e, _⟩ := h; (rw [e]; rfl)) | (refine Or.elim h ?_ ?_ <;> clear h <;> intro h) | (obtain ⟨_, h⟩ := h))
theorem len__law_wider_right {C_Style : Addr} : ∀ ds S Φ Ψ, (sp__law_wider_right C_Style) ds S Φ Ψ → ds.length = (P__law_wider_right : List Str).length := by
  intro ds S Φ Ψ h
  repeat' (first | (obtain ⟨e, _⟩ := h; (rw [e]; rfl)) | (refine Or.elim h ?_ ?_ <;> clear h <;> intro h) | (obtain ⟨_, h⟩ := h))
theorem len_law : ∀ ds S Φ Ψ, sp_law ds S Φ Ψ → ds.length = (P_law : List Str).length := by
  intro ds S Φ Ψ h
  repeat' (first | (obtain ⟨e, _⟩ := h; (rw [e]; rfl)) | (refine Or.elim h ?_ ?_ <;> clear h <;> intro h) | (obtain ⟨_, h⟩ := h))
theorem factsL {P : Program} {wd : World} {K : PySem.W.Frag} {h : Heap} {mg : Str → Option Value} {f : Addr} (X : K.In h) (G : h.Ns mainGlobals mg) (hfa : mg ("law" : Str) = some (.ref f)) (c : SaysX faL fnL K) :
    ∃ fd : FuncData, (∀ (s : Shared) (v : Value), BindsTo s fd ⟨[v], []⟩ [("_law_script", v)]) ∧ ∀ base : Heap, K.In base → base.Ns mainGlobals mg → FnOkG P wd K mg base (L2.CX P wd) 10 f fd ["_law_script"] (spOf K sp_law) := by
  have t_is_integer : Tx K mg "is_integer" s_is_integer := ⟨let ⟨fd, F⟩ := c.def_ 0 (d := dd_is_integer) rfl; ⟨_, fd, F, He.glo_ok X G (c.fact 0 (f := (fun K => (He.Fa.glo "is_integer").ok K)) rfl)⟩⟩
  have t_is_cell : Tx K mg "is_cell" s_is_cell := ⟨let ⟨fd, F⟩ := c.def_ 1 (d := dd_is_cell) rfl; ⟨_, fd, F, He.glo_ok X G (c.fact 1 (f := (fun K => (He.Fa.glo "is_cell").ok K)) rfl)⟩⟩
  have t_is_line : Tx K mg "is_line" s_is_line := ⟨let ⟨fd, F⟩ := c.def_ 2 (d := dd_is_line) rfl; ⟨_, fd, F, He.glo_ok X G (c.fact 2 (f := (fun K => (He.Fa.glo "is_line").ok K)) rfl)⟩⟩
  have t_is_table : Tx K mg "is_table" s_is_table := ⟨let ⟨fd, F⟩ := c.def_ 3 (d := dd_is_table) rfl; ⟨_, fd, F, He.glo_ok X G (c.fact 3 (f := (fun K => (He.Fa.glo "is_table").ok K)) rfl)⟩⟩
  have t_need_table : Tx K mg "need_table" s_need_table := ⟨let ⟨fd, F⟩ := c.def_ 4 (d := dd_need_table) rfl; ⟨_, fd, F, He.glo_ok X G (c.fact 4 (f := (fun K => (He.Fa.glo "need_table").ok K)) rfl)⟩⟩
  have t_need_line : Tx K mg "need_line" s_need_line := ⟨let ⟨fd, F⟩ := c.def_ 5 (d := dd_need_line) rfl; ⟨_, fd, F, He.glo_ok X G (c.fact 5 (f := (fun K => (He.Fa.glo "need_line").ok K)) rfl)⟩⟩
  have t_copy_of : Tx K mg "copy_of" s_copy_of := ⟨let ⟨fd, F⟩ := c.def_ 6 (d := dd_copy_of) rfl; ⟨_, fd, F, He.glo_ok X G (c.fact 6 (f := (fun K => (He.Fa.glo "copy_of").ok K)) rfl)⟩⟩
  have t_tabs_in : Tx K mg "tabs_in" s_tabs_in := ⟨let ⟨fd, F⟩ := c.def_ 7 (d := dd_tabs_in) rfl; ⟨_, fd, F, He.glo_ok X G (c.fact 7 (f := (fun K => (He.Fa.glo "tabs_in").ok K)) rfl)⟩⟩
  have t_tabs_of : Tx K mg "tabs_of" s_tabs_of := ⟨let ⟨fd, F⟩ := c.def_ 8 (d := dd_tabs_of) rfl; ⟨_, fd, F, He.glo_ok X G (c.fact 8 (f := (fun K => (He.Fa.glo "tabs_of").ok K)) rfl)⟩⟩
  have t_stacked : Tx K mg "stacked" s_stacked := ⟨let ⟨fd, F⟩ := c.def_ 9 (d := dd_stacked) rfl; ⟨_, fd, F, He.glo_ok X G (c.fact 9 (f := (fun K => (He.Fa.glo "stacked").ok K)) rfl)⟩⟩
  have t_part : Tx K mg "part" s_part := ⟨let ⟨fd, F⟩ := c.def_ 10 (d := dd_part) rfl; ⟨_, fd, F, He.glo_ok X G (c.fact 10 (f := (fun K => (He.Fa.glo "part").ok K)) rfl)⟩⟩
  have t_blocks_of_column : Tx K mg "blocks_of_column" s_blocks_of_column := ⟨let ⟨fd, F⟩ := c.def_ 11 (d := dd_blocks_of_column) rfl; ⟨_, fd, F, He.glo_ok X G (c.fact 11 (f := (fun K => (He.Fa.glo "blocks_of_column").ok K)) rfl)⟩⟩
  have t_blocks_by_tabs : Tx K mg "blocks_by_tabs" s_blocks_by_tabs := ⟨let ⟨fd, F⟩ := c.def_ 12 (d := dd_blocks_by_tabs) rfl; ⟨_, fd, F, He.glo_ok X G (c.fact 12 (f := (fun K => (He.Fa.glo "blocks_by_tabs").ok K)) rfl)⟩⟩
  have t_blocks_in : Tx K mg "blocks_in" s_blocks_in := ⟨let ⟨fd, F⟩ := c.def_ 13 (d := dd_blocks_in) rfl; ⟨_, fd, F, He.glo_ok X G (c.fact 13 (f := (fun K => (He.Fa.glo "blocks_in").ok K)) rfl)⟩⟩
  have t_block_with : Tx K mg "block_with" s_block_with := ⟨let ⟨fd, F⟩ := c.def_ 14 (d := dd_block_with) rfl; ⟨_, fd, F, He.glo_ok X G (c.fact 14 (f := (fun K => (He.Fa.glo "block_with").ok K)) rfl)⟩⟩
  have t_blocks_around : Tx K mg "blocks_around" s_blocks_around := ⟨let ⟨fd, F⟩ := c.def_ 15 (d := dd_blocks_around) rfl; ⟨_, fd, F, He.glo_ok X G (c.fact 15 (f := (fun K => (He.Fa.glo "blocks_around").ok K)) rfl)⟩⟩
  have t_blocks_of : Tx K mg "blocks_of" s_blocks_of := ⟨let ⟨fd, F⟩ := c.def_ 16 (d := dd_blocks_of) rfl; ⟨_, fd, F, He.glo_ok X G (c.fact 16 (f := (fun K => (He.Fa.glo "blocks_of").ok K)) rfl)⟩⟩
  have t_block_at : Tx K mg "block_at" s_block_at := ⟨let ⟨fd, F⟩ := c.def_ 17 (d := dd_block_at) rfl; ⟨_, fd, F, He.glo_ok X G (c.fact 17 (f := (fun K => (He.Fa.glo "block_at").ok K)) rfl)⟩⟩
  have t_need_block : Tx K mg "need_block" s_need_block := ⟨let ⟨fd, F⟩ := c.def_ 18 (d := dd_need_block) rfl; ⟨_, fd, F, He.glo_ok X G (c.fact 18 (f := (fun K => (He.Fa.glo "need_block").ok K)) rfl)⟩⟩
  have t_parent_of : Tx K mg "parent_of" s_parent_of := ⟨let ⟨fd, F⟩ := c.def_ 19 (d := dd_parent_of) rfl; ⟨_, fd, F, He.glo_ok X G (c.fact 19 (f := (fun K => (He.Fa.glo "parent_of").ok K)) rfl)⟩⟩
  have t_greatest_in : Tx K mg "greatest_in" s_greatest_in := ⟨let ⟨fd, F⟩ := c.def_ 20 (d := dd_greatest_in) rfl; ⟨_, fd, F, He.glo_ok X G (c.fact 20 (f := (fun K => (He.Fa.glo "greatest_in").ok K)) rfl)⟩⟩
  have t_room_of : Tx K mg "room_of" s_room_of := ⟨let ⟨fd, F⟩ := c.def_ 21 (d := dd_room_of) rfl; ⟨_, fd, F, He.glo_ok X G (c.fact 21 (f := (fun K => (He.Fa.glo "room_of").ok K)) rfl)⟩⟩
  have t_rooms_in : Tx K mg "rooms_in" s_rooms_in := ⟨let ⟨fd, F⟩ := c.def_ 22 (d := dd_rooms_in) rfl; ⟨_, fd, F, He.glo_ok X G (c.fact 22 (f := (fun K => (He.Fa.glo "rooms_in").ok K)) rfl)⟩⟩
  have t_stops_in : Tx K mg "stops_in" s_stops_in := ⟨let ⟨fd, F⟩ := c.def_ 23 (d := dd_stops_in) rfl; ⟨_, fd, F, He.glo_ok X G (c.fact 23 (f := (fun K => (He.Fa.glo "stops_in").ok K)) rfl)⟩⟩
  have t_ends_in : Tx K mg "ends_in" s_ends_in := ⟨let ⟨fd, F⟩ := c.def_ 24 (d := dd_ends_in) rfl; ⟨_, fd, F, He.glo_ok X G (c.fact 24 (f := (fun K => (He.Fa.glo "ends_in").ok K)) rfl)⟩⟩
  have t_width_in : Tx K mg "width_in" s_width_in := ⟨let ⟨fd, F⟩ := c.def_ 25 (d := dd_width_in) rfl; ⟨_, fd, F, He.glo_ok X G (c.fact 25 (f := (fun K => (He.Fa.glo "width_in").ok K)) rfl)⟩⟩
  have t_stops : Tx K mg "stops" s_stops := ⟨let ⟨fd, F⟩ := c.def_ 26 (d := dd_stops) rfl; ⟨_, fd, F, He.glo_ok X G (c.fact 26 (f := (fun K => (He.Fa.glo "stops").ok K)) rfl)⟩⟩
  have t_ends : Tx K mg "ends" s_ends := ⟨let ⟨fd, F⟩ := c.def_ 27 (d := dd_ends) rfl; ⟨_, fd, F, He.glo_ok X G (c.fact 27 (f := (fun K => (He.Fa.glo "ends").ok K)) rfl)⟩⟩
  have t_width_of : Tx K mg "width_of" s_width_of := ⟨let ⟨fd, F⟩ := c.def_ 28 (d := dd_width_of) rfl; ⟨_, fd, F, He.glo_ok X G (c.fact 28 (f := (fun K => (He.Fa.glo "width_of").ok K)) rfl)⟩⟩
  have t_need_tab : Tx K mg "need_tab" s_need_tab := ⟨let ⟨fd, F⟩ := c.def_ 29 (d := dd_need_tab) rfl; ⟨_, fd, F, He.glo_ok X G (c.fact 29 (f := (fun K => (He.Fa.glo "need_tab").ok K)) rfl)⟩⟩
  have t_lines_with : Tx K mg "lines_with" s_lines_with := ⟨let ⟨fd, F⟩ := c.def_ 30 (d := dd_lines_with) rfl; ⟨_, fd, F, He.glo_ok X G (c.fact 30 (f := (fun K => (He.Fa.glo "lines_with").ok K)) rfl)⟩⟩
  have t_bearers : Tx K mg "bearers" s_bearers := ⟨let ⟨fd, F⟩ := c.def_ 31 (d := dd_bearers) rfl; ⟨_, fd, F, He.glo_ok X G (c.fact 31 (f := (fun K => (He.Fa.glo "bearers").ok K)) rfl)⟩⟩
  have t_bears_block : Tx K mg "bears_block" s_bears_block := ⟨let ⟨fd, F⟩ := c.def_ 32 (d := dd_bears_block) rfl; ⟨_, fd, F, He.glo_ok X G (c.fact 32 (f := (fun K => (He.Fa.glo "bears_block").ok K)) rfl)⟩⟩
  have t_bears : Tx K mg "bears" s_bears := ⟨let ⟨fd, F⟩ := c.def_ 33 (d := dd_bears) rfl; ⟨_, fd, F, He.glo_ok X G (c.fact 33 (f := (fun K => (He.Fa.glo "bears").ok K)) rfl)⟩⟩
  have t_are_kinds : Tx K mg "are_kinds" s_are_kinds := ⟨let ⟨fd, F⟩ := c.def_ 34 (d := dd_are_kinds) rfl; ⟨_, fd, F, He.glo_ok X G (c.fact 34 (f := (fun K => (He.Fa.glo "are_kinds").ok K)) rfl)⟩⟩
  have t__law_feed : Tx K mg "_law_feed" s__law_feed := ⟨let ⟨fd, F⟩ := c.def_ 40 (d := dd__law_feed) rfl; ⟨_, fd, F, He.glo_ok X G (c.fact 35 (f := (fun K => (He.Fa.glo "_law_feed").ok K)) rfl)⟩⟩
  have t__law_pick : Tx K mg "_law_pick" s__law_pick := ⟨let ⟨fd, F⟩ := c.def_ 41 (d := dd__law_pick) rfl; ⟨_, fd, F, He.glo_ok X G (c.fact 36 (f := (fun K => (He.Fa.glo "_law_pick").ok K)) rfl)⟩⟩
  have t__law_width : Tx K mg "_law_width" s__law_width := ⟨let ⟨fd, F⟩ := c.def_ 42 (d := dd__law_width) rfl; ⟨_, fd, F, He.glo_ok X G (c.fact 37 (f := (fun K => (He.Fa.glo "_law_width").ok K)) rfl)⟩⟩
  have t__law_counts : Tx K mg "_law_counts" s__law_counts := ⟨let ⟨fd, F⟩ := c.def_ 43 (d := dd__law_counts) rfl; ⟨_, fd, F, He.glo_ok X G (c.fact 38 (f := (fun K => (He.Fa.glo "_law_counts").ok K)) rfl)⟩⟩
  have t__law_sheet : Tx K mg "_law_sheet" s__law_sheet := ⟨let ⟨fd, F⟩ := c.def_ 44 (d := dd__law_sheet) rfl; ⟨_, fd, F, He.glo_ok X G (c.fact 39 (f := (fun K => (He.Fa.glo "_law_sheet").ok K)) rfl)⟩⟩
  have t__law_stops_right : Tx K mg "_law_stops_right" s__law_stops_right := ⟨let ⟨fd, F⟩ := c.def_ 45 (d := dd__law_stops_right) rfl; ⟨_, fd, F, He.glo_ok X G (c.fact 40 (f := (fun K => (He.Fa.glo "_law_stops_right").ok K)) rfl)⟩⟩
  have t__law_other_styles_right : Tx K mg "_law_other_styles_right" s__law_other_styles_right := ⟨let ⟨fd, F⟩ := c.def_ 46 (d := dd__law_other_styles_right) rfl; ⟨_, fd, F, He.glo_ok X G (c.fact 41 (f := (fun K => (He.Fa.glo "_law_other_styles_right").ok K)) rfl)⟩⟩
  have t__law_parts_right : Tx K mg "_law_parts_right" s__law_parts_right := ⟨let ⟨fd, F⟩ := c.def_ 47 (d := dd__law_parts_right) rfl; ⟨_, fd, F, He.glo_ok X G (c.fact 42 (f := (fun K => (He.Fa.glo "_law_parts_right").ok K)) rfl)⟩⟩
  have t__law_wider_right : Tx K mg "_law_wider_right" s__law_wider_right := ⟨let ⟨fd, F⟩ := c.def_ 48 (d := dd__law_wider_right) rfl; ⟨_, fd, F, He.glo_ok X G (c.fact 43 (f := (fun K => (He.Fa.glo "_law_wider_right").ok K)) rfl)⟩⟩
  have t_law : Tx K mg "law" s_law := ⟨let ⟨fd, F⟩ := c.def_ 49 (d := dd_law) rfl; ⟨_, fd, F, He.glo_ok X G (c.fact 44 (f := (fun K => (He.Fa.glo "law").ok K)) rfl)⟩⟩
  have m_int := He.free_ok X G (c.fact 45 (f := (fun K => (He.Fa.free "int").ok K)) rfl)
  have m_isinstance := He.free_ok X G (c.fact 46 (f := (fun K => (He.Fa.free "isinstance").ok K)) rfl)
  have m_bool := He.free_ok X G (c.fact 47 (f := (fun K => (He.Fa.free "bool").ok K)) rfl)
  have g_MOST_CELL := He.int_ok X G (c.fact 48 (f := (fun K => (He.Fa.int "MOST_CELL" 1000000000000000000000000000000).ok K)) rfl)
  have m_list := He.free_ok X G (c.fact 49 (f := (fun K => (He.Fa.free "list").ok K)) rfl)
  have m_len := He.free_ok X G (c.fact 50 (f := (fun K => (He.Fa.free "len").ok K)) rfl)
  have g_MOST_CELLS := He.int_ok X G (c.fact 51 (f := (fun K => (He.Fa.int "MOST_CELLS" 12).ok K)) rfl)
  have m_all := He.free_ok X G (c.fact 52 (f := (fun K => (He.Fa.free "all").ok K)) rfl)
  have g_MOST_LINES := He.int_ok X G (c.fact 53 (f := (fun K => (He.Fa.int "MOST_LINES" 60).ok K)) rfl)
  have e_InvalidTable : ExcF K mg "InvalidTable" (He.ga K "InvalidTable") := let ⟨a, b, d, e⟩ := He.exc_ok (c.fact 55 (f := (fun K => (He.Fa.exc "InvalidTable").ok K)) rfl); ⟨a, He.glo_ok X G (c.fact 54 (f := (fun K => (He.Fa.glo "InvalidTable").ok K)) rfl), b, d, e⟩
  have e_InvalidLine : ExcF K mg "InvalidLine" (He.ga K "InvalidLine") := let ⟨a, b, d, e⟩ := He.exc_ok (c.fact 57 (f := (fun K => (He.Fa.exc "InvalidLine").ok K)) rfl); ⟨a, He.glo_ok X G (c.fact 56 (f := (fun K => (He.Fa.glo "InvalidLine").ok K)) rfl), b, d, e⟩
  have m_enumerate := He.free_ok X G (c.fact 58 (f := (fun K => (He.Fa.free "enumerate").ok K)) rfl)
  have m_range := He.free_ok X G (c.fact 59 (f := (fun K => (He.Fa.free "range").ok K)) rfl)
  have e_InvalidColumn : ExcF K mg "InvalidColumn" (He.ga K "InvalidColumn") := let ⟨a, b, d, e⟩ := He.exc_ok (c.fact 61 (f := (fun K => (He.Fa.exc "InvalidColumn").ok K)) rfl); ⟨a, He.glo_ok X G (c.fact 60 (f := (fun K => (He.Fa.glo "InvalidColumn").ok K)) rfl), b, d, e⟩
  have m_tuple := He.free_ok X G (c.fact 62 (f := (fun K => (He.Fa.free "tuple").ok K)) rfl)
  have e_InvalidBlock : ExcF K mg "InvalidBlock" (He.ga K "InvalidBlock") := let ⟨a, b, d, e⟩ := He.exc_ok (c.fact 64 (f := (fun K => (He.Fa.exc "InvalidBlock").ok K)) rfl); ⟨a, He.glo_ok X G (c.fact 63 (f := (fun K => (He.Fa.glo "InvalidBlock").ok K)) rfl), b, d, e⟩
  have m_max := He.free_ok X G (c.fact 65 (f := (fun K => (He.Fa.free "max").ok K)) rfl)
  have m_zip := He.free_ok X G (c.fact 69 (f := (fun K => (He.Fa.free "zip").ok K)) rfl)
  have g_MOST_KINDS := He.int_ok X G (c.fact 70 (f := (fun K => (He.Fa.int "MOST_KINDS" 12).ok K)) rfl)
  have m_str := He.free_ok X G (c.fact 71 (f := (fun K => (He.Fa.free "str").ok K)) rfl)
  have h_Kind := He.glo_ok X G (c.fact 72 (f := (fun K => (He.Fa.glo "Kind").ok K)) rfl)
  have cv_NAMES : ∀ q ∈ ((conNAMES (He.ga K "Kind")) : List (Addr × D)), CValF K q.1 "NAMES" q.2 := by
    intro q hq
    simp only [conNAMES, List.mem_cons, List.not_mem_nil, or_false] at hq
    subst hq
    exact bCVT_ok (c.fact 73 (f := (bCVT "Kind" "NAMES" ["left", "right", "center"])) rfl)
  have g_LEFT := He.str_ok X G (c.fact 74 (f := (fun K => (He.Fa.str "LEFT" "left").ok K)) rfl)
  have e_InvalidStyle : ExcF K mg "InvalidStyle" (He.ga K "InvalidStyle") := let ⟨a, b, d, e⟩ := He.exc_ok (c.fact 76 (f := (fun K => (He.Fa.exc "InvalidStyle").ok K)) rfl); ⟨a, He.glo_ok X G (c.fact 75 (f := (fun K => (He.Fa.glo "InvalidStyle").ok K)) rfl), b, d, e⟩
  have cl_Style := He.cls_ok (c.fact 66 (f := (fun K => (He.Fa.cls "Style").ok K)) rfl)
  have na_Style_held_kinds := He.noat_ok (c.fact 77 (f := (fun K => (He.Fa.noat "Style" "held_kinds").ok K)) rfl)
  have na_Style_held_gap := He.noat_ok (c.fact 78 (f := (fun K => (He.Fa.noat "Style" "held_gap").ok K)) rfl)
  have na_Style_held_least := He.noat_ok (c.fact 79 (f := (fun K => (He.Fa.noat "Style" "held_least").ok K)) rfl)
  have m_abs := He.free_ok X G (c.fact 81 (f := (fun K => (He.Fa.free "abs").ok K)) rfl)
  have m_min := He.free_ok X G (c.fact 82 (f := (fun K => (He.Fa.free "min").ok K)) rfl)
  have h_Style := He.glo_ok X G (c.fact 83 (f := (fun K => (He.Fa.glo "Style").ok K)) rfl)
  have h_stacked := He.glo_ok X G (c.fact 9 (f := (fun K => (He.Fa.glo "stacked").ok K)) rfl)
  have all : ∀ base : Heap, CalG P wd K mg base "law" s_law 10 P_law sp_law := fun base => by
    have c_is_integer : CalG P wd K mg base "is_integer" s_is_integer 1 P_is_integer sp_is_integer := calG_ok t_is_integer (fun _ _ _ _ _ _ us hl => match us, hl with | [_, _, _], _ => rfl) sc_is_integer (len_is_integer) fun f cdv A outer s H E hG hr => let ⟨t, jb⟩ := d_is_integer hG hr m_int m_isinstance m_bool; ⟨t, _, jb, p_is_integer⟩
    have c_copy_of : CalG P wd K mg base "copy_of" s_copy_of 1 P_copy_of sp_copy_of := calG_ok t_copy_of (fun _ _ _ _ _ _ us hl => match us, hl with | [_], _ => rfl) sc_copy_of (len_copy_of) fun f cdv A outer s H E hG hr => let ⟨t, jb⟩ := d_copy_of hG hr m_list; ⟨t, _, jb, p_copy_of⟩
    have c_tabs_in : CalG P wd K mg base "tabs_in" s_tabs_in 1 P_tabs_in sp_tabs_in := calG_ok t_tabs_in (fun _ _ _ _ _ _ us hl => match us, hl with | [_], _ => rfl) sc_tabs_in (len_tabs_in) fun f cdv A outer s H E hG hr => let ⟨t, jb⟩ := d_tabs_in hG hr m_len; ⟨t, _, jb, p_tabs_in⟩
    have c_blocks_of_column : CalG P wd K mg base "blocks_of_column" s_blocks_of_column 1 P_blocks_of_column sp_blocks_of_column := calG_ok t_blocks_of_column (fun _ _ _ _ _ _ us hl => match us, hl with | [_, _], _ => rfl) sc_blocks_of_column (len_blocks_of_column) fun f cdv A outer s H E hG hr => let ⟨t, jb⟩ := d_blocks_of_column hG hr m_enumerate; ⟨t, _, jb, p_blocks_of_column⟩
    have c_greatest_in : CalG P wd K mg base "greatest_in" s_greatest_in 1 P_greatest_in sp_greatest_in := calG_ok t_greatest_in (fun _ _ _ _ _ _ us hl => match us, hl with | [_, _], _ => rfl) sc_greatest_in (len_greatest_in) fun f cdv A outer s H E hG hr => let ⟨t, jb⟩ := d_greatest_in hG hr m_max; ⟨t, _, jb, p_greatest_in⟩
    have c_lines_with : CalG P wd K mg base "lines_with" s_lines_with 1 P_lines_with sp_lines_with := calG_ok t_lines_with (fun _ _ _ _ _ _ us hl => match us, hl with | [_, _, _], _ => rfl) sc_lines_with (len_lines_with) fun f cdv A outer s H E hG hr => let ⟨t, jb⟩ := d_lines_with hG hr m_range; ⟨t, _, jb, p_lines_with⟩
    have c_are_kinds : CalG P wd K mg base "are_kinds" s_are_kinds 1 P_are_kinds sp_are_kinds := calG_ok t_are_kinds (fun _ _ _ _ _ _ us hl => match us, hl with | [_], _ => rfl) sc_are_kinds (len_are_kinds) fun f cdv A outer s H E hG hr => let ⟨t, jb⟩ := d_are_kinds hG hr m_list m_isinstance m_len g_MOST_KINDS m_str h_Kind cv_NAMES m_all; ⟨t, _, jb, p_are_kinds (He.ga K "Kind")⟩
    have k_Style_kinds_1 : FnK P wd K mg base 1 ((fun K => He5.wf K (He.ga K "Style") "property" "kinds") K) ([] : List Str) (pkP 1 [0] [] (sp_Style_kinds (He.ga K "Style"))) := (let ⟨fd, F⟩ := c.def_ 37 (d := dd_Style_kinds) rfl; fnK_plain (ms := []) (md := []) (ks := ([] : List Str)) (perm := [0]) (n := 1) F sc_Style_kinds (fun q hq => nomatch hq) (fun _ => .nil) (len_Style_kinds) (fun D kV doc pm an cdv ct us mv ws _ l1 l2 l3 => match us, mv, ws, l1, l2, l3 with | [_], [], [], _, _, _ => rfl) fun cdv A outer s H E hG hr => let ⟨t, jb⟩ := d_Style_kinds hG hr cl_Style na_Style_held_kinds m_list; ⟨t, _, jb, p_Style_kinds (He.ga K "Style")⟩)
    have pr_Style_kinds : PropK P wd K mg base (He.ga K "Style") "kinds" 1 (pkP 1 [0] [] (sp_Style_kinds (He.ga K "Style"))) := ⟨He.cls_ok (c.fact 66 (f := (fun K => (He.Fa.cls "Style").ok K)) rfl), _, _, bProp_ok (c.fact 84 (f := (bProp "Style" "kinds")) rfl), k_Style_kinds_1⟩
    have k_Style_gap_1 : FnK P wd K mg base 1 ((fun K => He5.wf K (He.ga K "Style") "property" "gap") K) ([] : List Str) (pkP 1 [0] [] (sp_Style_gap (He.ga K "Style"))) := (let ⟨fd, F⟩ := c.def_ 38 (d := dd_Style_gap) rfl; fnK_plain (ms := []) (md := []) (ks := ([] : List Str)) (perm := [0]) (n := 1) F sc_Style_gap (fun q hq => nomatch hq) (fun _ => .nil) (len_Style_gap) (fun D kV doc pm an cdv ct us mv ws _ l1 l2 l3 => match us, mv, ws, l1, l2, l3 with | [_], [], [], _, _, _ => rfl) fun cdv A outer s H E hG hr => let ⟨t, jb⟩ := d_Style_gap hG hr cl_Style na_Style_held_gap; ⟨t, _, jb, p_Style_gap (He.ga K "Style")⟩)
    have pr_Style_gap : PropK P wd K mg base (He.ga K "Style") "gap" 1 (pkP 1 [0] [] (sp_Style_gap (He.ga K "Style"))) := ⟨He.cls_ok (c.fact 66 (f := (fun K => (He.Fa.cls "Style").ok K)) rfl), _, _, bProp_ok (c.fact 68 (f := (bProp "Style" "gap")) rfl), k_Style_gap_1⟩
    have k_Style_least_1 : FnK P wd K mg base 1 ((fun K => He5.wf K (He.ga K "Style") "property" "least") K) ([] : List Str) (pkP 1 [0] [] (sp_Style_least (He.ga K "Style"))) := (let ⟨fd, F⟩ := c.def_ 39 (d := dd_Style_least) rfl; fnK_plain (ms := []) (md := []) (ks := ([] : List Str)) (perm := [0]) (n := 1) F sc_Style_least (fun q hq => nomatch hq) (fun _ => .nil) (len_Style_least) (fun D kV doc pm an cdv ct us mv ws _ l1 l2 l3 => match us, mv, ws, l1, l2, l3 with | [_], [], [], _, _, _ => rfl) fun cdv A outer s H E hG hr => let ⟨t, jb⟩ := d_Style_least hG hr cl_Style na_Style_held_least; ⟨t, _, jb, p_Style_least (He.ga K "Style")⟩)
    have pr_Style_least : PropK P wd K mg base (He.ga K "Style") "least" 1 (pkP 1 [0] [] (sp_Style_least (He.ga K "Style"))) := ⟨He.cls_ok (c.fact 66 (f := (fun K => (He.Fa.cls "Style").ok K)) rfl), _, _, bProp_ok (c.fact 67 (f := (bProp "Style" "least")) rfl), k_Style_least_1⟩
    have c__law_feed : CalG P wd K mg base "_law_feed" s__law_feed 1 P__law_feed sp__law_feed := calG_ok t__law_feed (fun _ _ _ _ _ _ us hl => match us, hl with | [_, _], _ => rfl) sc__law_feed (len__law_feed) fun f cdv A outer s H E hG hr => let ⟨t, jb⟩ := d__law_feed hG hr m_len m_abs m_max; ⟨t, _, jb, p__law_feed⟩
    have c__law_pick : CalG P wd K mg base "_law_pick" s__law_pick 1 P__law_pick sp__law_pick := calG_ok t__law_pick (fun _ _ _ _ _ _ us hl => match us, hl with | [_, _], _ => rfl) sc__law_pick (len__law_pick) fun f cdv A outer s H E hG hr => let ⟨t, jb⟩ := d__law_pick hG hr ; ⟨t, _, jb, p__law_pick⟩
    have c_is_cell : CalG P wd K mg base "is_cell" s_is_cell 2 P_is_cell sp_is_cell := calG_ok t_is_cell (fun _ _ _ _ _ _ us hl => match us, hl with | [_], _ => rfl) sc_is_cell (len_is_cell) fun f cdv A outer s H E hG hr => let ⟨t, jb⟩ := d_is_cell hG hr c_is_integer g_MOST_CELL; ⟨t, _, jb, p_is_cell⟩
    have c_need_line : CalG P wd K mg base "need_line" s_need_line 2 P_need_line sp_need_line := calG_ok t_need_line (fun _ _ _ _ _ _ us hl => match us, hl with | [_, _], _ => rfl) sc_need_line (len_need_line) fun f cdv A outer s H E hG hr => let ⟨t, jb⟩ := d_need_line hG hr c_is_integer m_len e_InvalidLine; ⟨t, _, jb, p_need_line (He.ga K "InvalidLine")⟩
    have c_blocks_by_tabs : CalG P wd K mg base "blocks_by_tabs" s_blocks_by_tabs 2 P_blocks_by_tabs sp_blocks_by_tabs := calG_ok t_blocks_by_tabs (fun _ _ _ _ _ _ us hl => match us, hl with | [_], _ => rfl) sc_blocks_by_tabs (len_blocks_by_tabs) fun f cdv A outer s H E hG hr => let ⟨t, jb⟩ := d_blocks_by_tabs hG hr g_MOST_CELLS m_range c_blocks_of_column; ⟨t, _, jb, p_blocks_by_tabs⟩
    have c__law_width : CalG P wd K mg base "_law_width" s__law_width 2 P__law_width sp__law_width := calG_ok t__law_width (fun _ _ _ _ _ _ us hl => match us, hl with | [_, _], _ => rfl) sc__law_width (len__law_width) fun f cdv A outer s H E hG hr => let ⟨t, jb⟩ := d__law_width hG hr c__law_pick; ⟨t, _, jb, p__law_width⟩
    have c__law_counts : CalG P wd K mg base "_law_counts" s__law_counts 2 P__law_counts sp__law_counts := calG_ok t__law_counts (fun _ _ _ _ _ _ us hl => match us, hl with | [_, _], _ => rfl) sc__law_counts (len__law_counts) fun f cdv A outer s H E hG hr => let ⟨t, jb⟩ := d__law_counts hG hr c__law_pick m_range m_max m_min m_int; ⟨t, _, jb, p__law_counts⟩
    have c_is_line : CalG P wd K mg base "is_line" s_is_line 3 P_is_line sp_is_line := calG_ok t_is_line (fun _ _ _ _ _ _ us hl => match us, hl with | [_], _ => rfl) sc_is_line (len_is_line) fun f cdv A outer s H E hG hr => let ⟨t, jb⟩ := d_is_line hG hr m_list m_isinstance m_len g_MOST_CELLS c_is_cell m_all; ⟨t, _, jb, p_is_line⟩
    have c_blocks_in : CalG P wd K mg base "blocks_in" s_blocks_in 3 P_blocks_in sp_blocks_in := calG_ok t_blocks_in (fun _ _ _ _ _ _ us hl => match us, hl with | [_], _ => rfl) sc_blocks_in (len_blocks_in) fun f cdv A outer s H E hG hr => let ⟨t, jb⟩ := d_blocks_in hG hr c_blocks_by_tabs c_tabs_in; ⟨t, _, jb, p_blocks_in⟩
    have c_room_of : CalG P wd K mg base "room_of" s_room_of 3 P_room_of (sp_room_of (He.ga K "Style")) := calG_ok t_room_of (fun _ _ _ _ _ _ us hl => match us, hl with | [_, _, _], _ => rfl) sc_room_of (len_room_of) fun f cdv A outer s H E hG hr => let ⟨t, jb⟩ := d_room_of hG hr c_greatest_in pr_Style_least m_max; ⟨t, _, jb, p_room_of (He.ga K "Style")⟩
    have c_bears_block : CalG P wd K mg base "bears_block" s_bears_block 3 P_bears_block (sp_bears_block (He.ga K "Style")) := calG_ok t_bears_block (fun _ _ _ _ _ _ us hl => match us, hl with | [_, _, _, _], _ => rfl) sc_bears_block (len_bears_block) fun f cdv A outer s H E hG hr => let ⟨t, jb⟩ := d_bears_block hG hr c_greatest_in pr_Style_least c_is_integer c_lines_with; ⟨t, _, jb, p_bears_block (He.ga K "Style")⟩
    have k_Style___init___s1_gap_least : FnK P wd K mg base 3 ((fun K => He.ma K (He.ga K "Style") "__init__") K) (["gap", "least"] : List Str) (pkS true 1 [0, 1, 2] [] (sp_Style___init__ (He.ga K "Style"))) := (let ⟨fd, F⟩ := c.def_ 35 (d := dd_Style___init__) rfl; fnK_star (ps := P0_Style___init__) (pv := "kinds") (a := 1) (b := true) (ms := []) (md := []) (ks := (["gap", "least"] : List Str)) (perm := [0, 1, 2]) F sc_Style___init__ (fun q hq => nomatch hq) (fun _ => .nil) (len_Style___init__) (fun D kV doc pm an cdv ct us rest mv ws _ hb l1 l2 l3 => match us, rest, mv, ws, l1, l2, l3, hb with | [_], [], [], [_, _], _, _, _, _ => rfl | [_], _ :: _, [], [_, _], _, _, _, _ => rfl) fun cdv A outer s H E hG hr => let ⟨t, jb⟩ := d_Style___init__ hG hr m_len m_list g_LEFT c_are_kinds c_is_cell e_InvalidStyle cl_Style na_Style_held_kinds na_Style_held_gap na_Style_held_least; ⟨t, _, jb, p_Style___init__ (He.ga K "InvalidStyle") (He.ga K "Style")⟩)
    have mk_Style___init___s1_gap_least : CtorK P wd K mg base (He.ga K "Style") 3 (["gap", "least"] : List Str) (pkS true 1 [0, 1, 2] [] (sp_Style___init__ (He.ga K "Style"))) := ⟨_, He.mkr_ok (c.fact 80 (f := (fun K => (He.Fa.mkr "Style").ok K)) rfl), k_Style___init___s1_gap_least⟩
    have c__law_sheet : CalG P wd K mg base "_law_sheet" s__law_sheet 3 P__law_sheet sp__law_sheet := calG_ok t__law_sheet (fun _ _ _ _ _ _ us hl => match us, hl with | [_, _], _ => rfl) sc__law_sheet (len__law_sheet) fun f cdv A outer s H E hG hr => let ⟨t, jb⟩ := d__law_sheet hG hr c__law_pick m_min c__law_counts m_range c__law_width; ⟨t, _, jb, p__law_sheet⟩
    have c_is_table : CalG P wd K mg base "is_table" s_is_table 4 P_is_table sp_is_table := calG_ok t_is_table (fun _ _ _ _ _ _ us hl => match us, hl with | [_], _ => rfl) sc_is_table (len_is_table) fun f cdv A outer s H E hG hr => let ⟨t, jb⟩ := d_is_table hG hr m_list m_isinstance m_len g_MOST_LINES c_is_line m_all; ⟨t, _, jb, p_is_table⟩
    have c_block_with : CalG P wd K mg base "block_with" s_block_with 4 P_block_with sp_block_with := calG_ok t_block_with (fun _ _ _ _ _ _ us hl => match us, hl with | [_, _, _], _ => rfl) sc_block_with (len_block_with) fun f cdv A outer s H E hG hr => let ⟨t, jb⟩ := d_block_with hG hr c_blocks_in; ⟨t, _, jb, p_block_with⟩
    have c_blocks_around : CalG P wd K mg base "blocks_around" s_blocks_around 4 P_blocks_around sp_blocks_around := calG_ok t_blocks_around (fun _ _ _ _ _ _ us hl => match us, hl with | [_, _, _], _ => rfl) sc_blocks_around (len_blocks_around) fun f cdv A outer s H E hG hr => let ⟨t, jb⟩ := d_blocks_around hG hr c_blocks_in; ⟨t, _, jb, p_blocks_around⟩
    have c_need_block : CalG P wd K mg base "need_block" s_need_block 4 P_need_block sp_need_block := calG_ok t_need_block (fun _ _ _ _ _ _ us hl => match us, hl with | [_, _], _ => rfl) sc_need_block (len_need_block) fun f cdv A outer s H E hG hr => let ⟨t, jb⟩ := d_need_block hG hr m_tuple m_isinstance c_is_integer m_len g_MOST_CELLS m_all e_InvalidBlock c_blocks_in; ⟨t, _, jb, p_need_block (He.ga K "InvalidBlock")⟩
    have c_rooms_in : CalG P wd K mg base "rooms_in" s_rooms_in 4 P_rooms_in (sp_rooms_in (He.ga K "Style")) := calG_ok t_rooms_in (fun _ _ _ _ _ _ us hl => match us, hl with | [_, _], _ => rfl) sc_rooms_in (len_rooms_in) fun f cdv A outer s H E hG hr => let ⟨t, jb⟩ := d_rooms_in hG hr c_blocks_in c_room_of m_range; ⟨t, _, jb, p_rooms_in (He.ga K "Style")⟩
    have c_need_table : CalG P wd K mg base "need_table" s_need_table 5 P_need_table sp_need_table := calG_ok t_need_table (fun _ _ _ _ _ _ us hl => match us, hl with | [_], _ => rfl) sc_need_table (len_need_table) fun f cdv A outer s H E hG hr => let ⟨t, jb⟩ := d_need_table hG hr c_is_table e_InvalidTable; ⟨t, _, jb, p_need_table (He.ga K "InvalidTable")⟩
    have c_stops_in : CalG P wd K mg base "stops_in" s_stops_in 5 P_stops_in (sp_stops_in (He.ga K "Style")) := calG_ok t_stops_in (fun _ _ _ _ _ _ us hl => match us, hl with | [_, _], _ => rfl) sc_stops_in (len_stops_in) fun f cdv A outer s H E hG hr => let ⟨t, jb⟩ := d_stops_in hG hr c_rooms_in pr_Style_gap; ⟨t, _, jb, p_stops_in (He.ga K "Style")⟩
    have k_Style_of_4 : FnK P wd K mg base 5 ((fun K => He5.wf K (He.ga K "Style") "classmethod" "of") K) ([] : List Str) (pkP 4 [0, 1, 2, 3] [] (sp_Style_of (He.ga K "Style"))) := (let ⟨fd, F⟩ := c.def_ 36 (d := dd_Style_of) rfl; fnK_plain (ms := []) (md := []) (ks := ([] : List Str)) (perm := [0, 1, 2, 3]) (n := 4) F sc_Style_of (fun q hq => nomatch hq) (fun _ => .nil) (len_Style_of) (fun D kV doc pm an cdv ct us mv ws _ l1 l2 l3 => match us, mv, ws, l1, l2, l3 with | [_, _, _, _], [], [], _, _, _ => rfl) fun cdv A outer s H E hG hr => let ⟨t, jb⟩ := d_Style_of hG hr c_are_kinds e_InvalidStyle mk_Style___init___s1_gap_least; ⟨t, _, jb, p_Style_of (He.ga K "InvalidStyle") (He.ga K "Style")⟩)
    have cm_Style_Style_of_4 : CMetK P wd K mg base (He.ga K "Style") "of" 5 ([] : List Str) (pkP 4 [0, 1, 2, 3] [] (sp_Style_of (He.ga K "Style"))) := ⟨_, _, _, bCRd_ok (c.fact 85 (f := (bCRd "Style")) rfl), bCMet_ok (c.fact 86 (f := (bCMet "Style" "of")) rfl), k_Style_of_4⟩
    have c_tabs_of : CalG P wd K mg base "tabs_of" s_tabs_of 6 P_tabs_of sp_tabs_of := calG_ok t_tabs_of (fun _ _ _ _ _ _ us hl => match us, hl with | [_], _ => rfl) sc_tabs_of (len_tabs_of) fun f cdv A outer s H E hG hr => let ⟨t, jb⟩ := d_tabs_of hG hr c_need_table c_tabs_in; ⟨t, _, jb, p_tabs_of⟩
    have k_stacked_s0 : FnK P wd K mg base 6 ((fun K => He.ga K "stacked") K) ([] : List Str) (pkS true 0 [] [] sp_stacked) := (let ⟨fd, F⟩ := c.def_ 9 (d := dd_stacked) rfl; fnK_star (ps := P0_stacked) (pv := "tables") (a := 0) (b := true) (ms := []) (md := []) (ks := ([] : List Str)) (perm := []) F sc_stacked (fun q hq => nomatch hq) (fun _ => .nil) (len_stacked) (fun D kV doc pm an cdv ct us rest mv ws _ hb l1 l2 l3 => match us, rest, mv, ws, l1, l2, l3, hb with | [], [], [], [], _, _, _, _ => rfl | [], _ :: _, [], [], _, _, _, _ => rfl) fun cdv A outer s H E hG hr => let ⟨t, jb⟩ := d_stacked hG hr c_need_table m_list; ⟨t, _, jb, p_stacked⟩)
    have fk_stacked_s0 := k_stacked_s0
    have c_part : CalG P wd K mg base "part" s_part 6 P_part sp_part := calG_ok t_part (fun _ _ _ _ _ _ us hl => match us, hl with | [_, _, _], _ => rfl) sc_part (len_part) fun f cdv A outer s H E hG hr => let ⟨t, jb⟩ := d_part hG hr c_need_table c_need_line e_InvalidLine c_copy_of; ⟨t, _, jb, p_part (He.ga K "InvalidLine")⟩
    have c_blocks_of : CalG P wd K mg base "blocks_of" s_blocks_of 6 P_blocks_of sp_blocks_of := calG_ok t_blocks_of (fun _ _ _ _ _ _ us hl => match us, hl with | [_], _ => rfl) sc_blocks_of (len_blocks_of) fun f cdv A outer s H E hG hr => let ⟨t, jb⟩ := d_blocks_of hG hr c_need_table c_blocks_in; ⟨t, _, jb, p_blocks_of⟩
    have c_block_at : CalG P wd K mg base "block_at" s_block_at 6 P_block_at sp_block_at := calG_ok t_block_at (fun _ _ _ _ _ _ us hl => match us, hl with | [_, _, _], _ => rfl) sc_block_at (len_block_at) fun f cdv A outer s H E hG hr => let ⟨t, jb⟩ := d_block_at hG hr c_need_table c_need_line e_InvalidColumn c_block_with; ⟨t, _, jb, p_block_at (He.ga K "InvalidColumn")⟩
    have c_parent_of : CalG P wd K mg base "parent_of" s_parent_of 6 P_parent_of sp_parent_of := calG_ok t_parent_of (fun _ _ _ _ _ _ us hl => match us, hl with | [_, _], _ => rfl) sc_parent_of (len_parent_of) fun f cdv A outer s H E hG hr => let ⟨t, jb⟩ := d_parent_of hG hr c_need_table c_need_block c_block_with; ⟨t, _, jb, p_parent_of⟩
    have c_ends_in : CalG P wd K mg base "ends_in" s_ends_in 6 P_ends_in (sp_ends_in (He.ga K "Style")) := calG_ok t_ends_in (fun _ _ _ _ _ _ us hl => match us, hl with | [_, _], _ => rfl) sc_ends_in (len_ends_in) fun f cdv A outer s H E hG hr => let ⟨t, jb⟩ := d_ends_in hG hr c_stops_in m_zip; ⟨t, _, jb, p_ends_in (He.ga K "Style")⟩
    have c_stops : CalG P wd K mg base "stops" s_stops 6 P_stops (sp_stops (He.ga K "Style")) := calG_ok t_stops (fun _ _ _ _ _ _ us hl => match us, hl with | [_, _], _ => rfl) sc_stops (len_stops) fun f cdv A outer s H E hG hr => let ⟨t, jb⟩ := d_stops hG hr c_need_table c_stops_in; ⟨t, _, jb, p_stops (He.ga K "Style")⟩
    have c_need_tab : CalG P wd K mg base "need_tab" s_need_tab 6 P_need_tab sp_need_tab := calG_ok t_need_tab (fun _ _ _ _ _ _ us hl => match us, hl with | [_, _, _], _ => rfl) sc_need_tab (len_need_tab) fun f cdv A outer s H E hG hr => let ⟨t, jb⟩ := d_need_tab hG hr c_need_table c_need_line c_is_integer c_tabs_in e_InvalidColumn; ⟨t, _, jb, p_need_tab (He.ga K "InvalidColumn")⟩
    have c_width_in : CalG P wd K mg base "width_in" s_width_in 7 P_width_in (sp_width_in (He.ga K "Style")) := calG_ok t_width_in (fun _ _ _ _ _ _ us hl => match us, hl with | [_, _], _ => rfl) sc_width_in (len_width_in) fun f cdv A outer s H E hG hr => let ⟨t, jb⟩ := d_width_in hG hr c_ends_in m_max; ⟨t, _, jb, p_width_in (He.ga K "Style")⟩
    have c_ends : CalG P wd K mg base "ends" s_ends 7 P_ends (sp_ends (He.ga K "Style")) := calG_ok t_ends (fun _ _ _ _ _ _ us hl => match us, hl with | [_, _], _ => rfl) sc_ends (len_ends) fun f cdv A outer s H E hG hr => let ⟨t, jb⟩ := d_ends hG hr c_need_table c_ends_in; ⟨t, _, jb, p_ends (He.ga K "Style")⟩
    have c_bearers : CalG P wd K mg base "bearers" s_bearers 7 P_bearers (sp_bearers (He.ga K "Style")) := calG_ok t_bearers (fun _ _ _ _ _ _ us hl => match us, hl with | [_, _, _, _], _ => rfl) sc_bearers (len_bearers) fun f cdv A outer s H E hG hr => let ⟨t, jb⟩ := d_bearers hG hr c_need_tab c_blocks_around c_greatest_in pr_Style_least c_lines_with; ⟨t, _, jb, p_bearers (He.ga K "Style")⟩
    have c_bears : CalG P wd K mg base "bears" s_bears 7 P_bears (sp_bears (He.ga K "Style")) := calG_ok t_bears (fun _ _ _ _ _ _ us hl => match us, hl with | [_, _, _, _, _], _ => rfl) sc_bears (len_bears) fun f cdv A outer s H E hG hr => let ⟨t, jb⟩ := d_bears hG hr c_need_tab c_blocks_around m_list m_isinstance m_len m_zip c_bears_block m_all; ⟨t, _, jb, p_bears (He.ga K "Style")⟩
    have c__law_wider_right : CalG P wd K mg base "_law_wider_right" s__law_wider_right 7 P__law_wider_right (sp__law_wider_right (He.ga K "Style")) := calG_ok t__law_wider_right (fun _ _ _ _ _ _ us hl => match us, hl with | [_, _, _], _ => rfl) sc__law_wider_right (len__law_wider_right) fun f cdv A outer s H E hG hr => let ⟨t, jb⟩ := d__law_wider_right hG hr c__law_pick m_len c_block_at c_stops m_list m_enumerate m_int; ⟨t, _, jb, p__law_wider_right (He.ga K "Style")⟩
    have c_width_of : CalG P wd K mg base "width_of" s_width_of 8 P_width_of (sp_width_of (He.ga K "Style")) := calG_ok t_width_of (fun _ _ _ _ _ _ us hl => match us, hl with | [_, _], _ => rfl) sc_width_of (len_width_of) fun f cdv A outer s H E hG hr => let ⟨t, jb⟩ := d_width_of hG hr c_need_table c_width_in; ⟨t, _, jb, p_width_of (He.ga K "Style")⟩
    have c__law_stops_right : CalG P wd K mg base "_law_stops_right" s__law_stops_right 8 P__law_stops_right (sp__law_stops_right (He.ga K "Style")) := calG_ok t__law_stops_right (fun _ _ _ _ _ _ us hl => match us, hl with | [_, _, _], _ => rfl) sc__law_stops_right (len__law_stops_right) fun f cdv A outer s H E hG hr => let ⟨t, jb⟩ := d__law_stops_right hG hr c_stops c_blocks_of m_int m_range c__law_pick m_len c_parent_of c_bearers pr_Style_least pr_Style_gap c_block_at c_bears; ⟨t, _, jb, p__law_stops_right (He.ga K "Style")⟩
    have c__law_parts_right : CalG P wd K mg base "_law_parts_right" s__law_parts_right 8 P__law_parts_right (sp__law_parts_right (He.ga K "Style")) := calG_ok t__law_parts_right (fun _ _ _ _ _ _ us hl => match us, hl with | [_, _, _, _], _ => rfl) sc__law_parts_right (len__law_parts_right) fun f cdv A outer s H E hG hr => let ⟨t, jb⟩ := d__law_parts_right hG hr c__law_pick m_len c_ends c_part m_zip fk_stacked_s0 h_stacked c_tabs_of m_min c_blocks_of; ⟨t, _, jb, p__law_parts_right (He.ga K "Style")⟩
    have c__law_other_styles_right : CalG P wd K mg base "_law_other_styles_right" s__law_other_styles_right 9 P__law_other_styles_right (sp__law_other_styles_right (He.ga K "Style")) := calG_ok t__law_other_styles_right (fun _ _ _ _ _ _ us hl => match us, hl with | [_, _, _], _ => rfl) sc__law_other_styles_right (len__law_other_styles_right) fun f cdv A outer s H E hG hr => let ⟨t, jb⟩ := d__law_other_styles_right hG hr c__law_pick c_stops h_Style pr_Style_least pr_Style_gap pr_Style_kinds cm_Style_Style_of_4 m_enumerate c_width_of c_ends m_max; ⟨t, _, jb, p__law_other_styles_right (He.ga K "Style")⟩
    have c_law : CalG P wd K mg base "law" s_law 10 P_law sp_law := calG_ok t_law (fun _ _ _ _ _ _ us hl => match us, hl with | [_], _ => rfl) sc_law (len_law) fun f cdv A outer s H E hG hr => let ⟨t, jb⟩ := d_law hG hr m_len m_min m_max m_range c__law_feed c__law_sheet c__law_width c__law_pick h_Style cm_Style_Style_of_4 c__law_stops_right c__law_other_styles_right c__law_parts_right c__law_wider_right; ⟨t, _, jb, p_law (He.ga K "Style")⟩
    exact c_law
  obtain ⟨fd, F⟩ := c.def_ 49 (d := dd_law) rfl
  have e := hfa.symm.trans (He.glo_ok X G (c.fact 44 (f := (fun K => (He.Fa.glo "law").ok K)) rfl))
  cases e
  have b := FunD.bindsA (ps := ["_law_script"]) F fun _ _ _ _ _ _ us hl => match us, hl with | [_], _ => rfl
  refine ⟨fd, fun s v => b s [v] rfl, fun base _ _ => ?_⟩
  obtain ⟨f2, fd2, F2, hm, FS, _⟩ := (all base).ex
  have e2 := hfa.symm.trans hm
  cases e2
  have ed : fd2 = fd := fun_one FS F
  rw [← ed]
  exact F2
end DL
open PySem PySem.W PySem.Calls PyProof.Rows
theorem PySem.Challenge.cw_runtabs_k13_whole_layouts_holds : PySem.Challenge.rw_runtabs_k13_whole_layouts.Holds := by
  w_on; o_law
  refine HandSHeadRun.head_any (r := OpenLaw.row PySem.Challenge.rw_runtabs_k13_whole_layouts) (q := view (OpenLaw.row PySem.Challenge.rw_runtabs_k13_whole_layouts).prog [65]) (H := DL.hkL) (ob := DL.obL) (M := 12000) (loose := DL.othersL) (d := HandSHeadRun.topDef (OpenLaw.row PySem.Challenge.rw_runtabs_k13_whole_layouts).prog 65) (kwd := []) DL.obL_eq
    (by kernel_rfl) (fun s => by kernel_rfl) DL.runL (by kernel_rfl) (by kernel_rfl) (by kernel_rfl) (by rfl) (by first | assumption | decide +kernel) (by decide +kernel) ⟨rfl, rfl, rfl, rfl, rfl, by decide +kernel⟩ ?hw ?hc
  case hw => w_witness2
  case hc =>
    refine DL.walk_end (l := PySem.Challenge.rw_runtabs_k13_whole_layouts) (n := 63) (k := 10) (x := "_law_script") rfl (by decide) (by kernel_rfl) ⟨rfl, by decide, by decide⟩ ?F
    intro w mg fa h Y G hmg0
    obtain ⟨K, KX, c⟩ := Y
    have hmg : mg ("law" : PySem.Str) = some (.ref fa) := by
      have e : (HandSHeadRun.topDef (OpenLaw.row PySem.Challenge.rw_runtabs_k13_whole_layouts).prog 65).name = ("law" : PySem.Str) := by kernel_rfl
      rw [← e]
      exact hmg0
    obtain ⟨fd, hb, hF⟩ := DL.factsL (P := (PySem.Challenge.rw_runtabs_k13_whole_layouts).prog) (wd := w) KX G hmg c
    exact ⟨K, fd, DL.sp_law, KX, hb, fun ns hl hb => ⟨ns, rfl, fun _ => rfl⟩, hF⟩
