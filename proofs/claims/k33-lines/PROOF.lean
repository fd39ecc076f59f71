import PyProof.Rows.All
import Wide.All
import OpenK.AllK
import Wide.FinOn
import HandS.Base
import HandS.Call
import HandS.List
import HandS.Comp
import HandS.Ends
import HandS.Exc
import HandS.TryOnly
import HandS.ExcOwn
import HandS.WordsExc
import HandS.Words
import HandS.Wide
import HandS.Iter
import HandS.IsInst
import HandS.Text
import HandS.Flow
import HandS.HeadEnd
import HandS.EndBits
import HandS.HeadHook2
import HandS.Head2
import HandS.Defaults
import HandS.ExcIs
import HandS.Style
import HandS.More
import HandS.ClsMeth
import HandS.Property
import HandS.Star
import HandS.CallLocal
import HandS.HeadNt
import KE.KExcIs
import HandS.Strs
import HandS.ExcInit
import HandS.SetFor
import KE.IntTextLaws
import KE.IntTextText
import KE.KIntText
import HandS.DictSub
import HandS.RaiseMore
import PyProof.FactsLen
import HandS.Conv
import HandS.Dict
import HandS.SortRule
import HandS.Zip
import PyProof.EqAt
import PyProof.EqKinds
import HandS.TupLe
import PyProof.MinMaxWalk
import PyProof.WalkInts
import HandS.Deep
import HandS.DictComp
import KE.KDictList
import HandS.TupSets
import HandS.SetBool
import KE.KUnpack
import HandS.SortKw
import HandS.Sort
import KE.DataMinMax
import HandS.DictTup
import KE.GoesEnum
import HandS.GenList
import HandS.Nested
import KE.KSuper
import HandS.SortOrd
import PyProof.Rows.RuleB_bool
import HandS.Flt
import KE.GoesMore
import HandS.DeepEq
import PyProof.Rows.IntBool
import KE.KStateDown
import HandS.Head0
import HandS.Head1
import HandS.HeadHook1
import PySem.Challenge.RW_runtabs_k33_lines_put_in_and_taken_out
set_option Elab.async false
set_option linter.all false
set_option maxRecDepth 100000
set_option maxHeartbeats 0
namespace DL
open PySem PySem.Spec PyProof.Rows L2
/-- data: what a value stands for; own h: the list in the h-th cell -/
inductive D where
  | non | bl (b : Bool) | int (i : Int) | str (x : Str)
  | lst (ds : List D) | tup (ds : List D)
  | sq (ds : List D)
  | ins (C : Addr) (fs : List (Str × D))
  | dic (kvs : List (Key × D))
  | obj (a : Addr)
  | own (h : Nat)
  | ty (n : String)
  | exc (C : Addr) (fs : List (Str × D))
inductive Cell where
  | lst (ds : List D)
  | ins (C : Addr) (fs : List (Str × D))
  | dct (kvs : List (List Key × D))
  | dck (kvs : List (Key × D))
  | lck (o : Obj) (us : List (Key × V)) (kvs : List (Key × D))
  | tpl (ks : List Int)
  | gone
abbrev Gam := List (Option D)
abbrev Sto := List Cell
mutual
inductive Rp (K : PySem.W.Frag) (F : Hp) (al : List Addr) : V → D → Prop
  | non : Rp K F al .non .non
  | bl (b : Bool) : Rp K F al (.bl b) (.bl b)
  | int (i : Int) : Rp K F al (.int i) (.int i)
  | str (x : Str) : Rp K F al (.str x) (.str x)
  | lst {a : Addr} {xs : List V} {ds : List D} : F a = some (.lst xs) → RpA K F al xs ds → Rp K F al (.ref a) (.lst ds)
  | sq {a : Addr} {xs : List V} {ds : List D} : SqL K F a xs → RpA K F al xs ds → Rp K F al (.ref a) (.sq ds)
  | tup {a : Addr} {xs : List V} {ds : List D} : SqT K F a xs → RpA K F al xs ds → Rp K F al (.ref a) (.tup ds)
  | ins {a C dx : Addr} {vs : List (Str × V)} {fs : List (Str × D)} : F a = some (.ins C dx vs) → RpF K F al vs fs → Rp K F al (.ref a) (.ins C fs)
  | dic {a : Addr} {vs : List (Key × V)} {ds : List (Key × D)} : F a = some (.dK vs) → RpK K F al vs ds → Rp K F al (.ref a) (.dic ds)
  | obj (a : Addr) : Rp K F al (.ref a) (.obj a)
  | own {h : Nat} {a : Addr} : al[h]? = some a → Rp K F al (.ref a) (.own h)
  | ty (n : String) : Rp K F al (.ty n) (.ty n)
  | exc0 {a C : Addr} {oe : Obj} {u : HO} : F a = some (.frz oe u) → oe.cls = .ref C → (∃ vs, oe.data = .fields vs) → oe.dict = none → Rp K F al (.ref a) (.exc C [])
  | excD {a C dx : Addr} {oe : Obj} {u : HO} {vs : List (Str × V)} {fs : List (Str × D)} : F a = some (.frz oe u) → oe.cls = .ref C → (∃ ws, oe.data = .fields ws) → oe.dict = some dx → F dx = some (.xd vs) → RpF K F al vs fs → Rp K F al (.ref a) (.exc C fs)
inductive RpA (K : PySem.W.Frag) (F : Hp) (al : List Addr) : List V → List D → Prop
  | nil : RpA K F al [] []
  | cons {v : V} {vs : List V} {d : D} {ds : List D} : Rp K F al v d → RpA K F al vs ds → RpA K F al (v :: vs) (d :: ds)
inductive RpF (K : PySem.W.Frag) (F : Hp) (al : List Addr) : List (Str × V) → List (Str × D) → Prop
  | nil : RpF K F al [] []
  | cons {n : Str} {v : V} {vs : List (Str × V)} {d : D} {ds : List (Str × D)} : Rp K F al v d → RpF K F al vs ds → RpF K F al ((n, v) :: vs) ((n, d) :: ds)
inductive RpK (K : PySem.W.Frag) (F : Hp) (al : List Addr) : List (Key × V) → List (Key × D) → Prop
  | nil : RpK K F al [] []
  | cons {n : Key} {v : V} {vs : List (Key × V)} {d : D} {ds : List (Key × D)} : Rp K F al v d → RpK K F al vs ds → RpK K F al ((n, v) :: vs) ((n, d) :: ds)
end
theorem sameSql {K : PySem.W.Frag} {F F' : Hp} {a : Addr} {xs : List V} (e : ∀ b o, F b = some o → F' b = some o) (h : SqL K F a xs) : SqL K F' a xs := by
  rcases h with (h | ⟨o, h⟩) | h
  · exact .inl (.inl (e _ _ h))
  · exact .inl (.inr ⟨o, e _ _ h⟩)
  · exact .inr h
theorem sameSqt {K : PySem.W.Frag} {F F' : Hp} {a : Addr} {xs : List V} (e : ∀ b o, F b = some o → F' b = some o) (h : SqT K F a xs) : SqT K F' a xs := by
  rcases h with (h | ⟨o, h⟩) | h
  · exact .inl (.inl (e _ _ h))
  · exact .inl (.inr ⟨o, e _ _ h⟩)
  · exact .inr h
section
variable {K : PySem.W.Frag} {F F' : Hp} {al al' : List Addr}
mutual
theorem Rp.mono (e : ∀ b o, F b = some o → F' b = some o) (ea : ∀ (h : Nat) (a : Addr), al[h]? = some a → al'[h]? = some a) : ∀ (d : D) (v : V), Rp K F al v d → Rp K F' al' v d
  | .non, _, h => by cases h; exact .non
  | .bl _, _, h => by cases h; exact .bl _
  | .int _, _, h => by cases h; exact .int _
  | .str _, _, h => by cases h; exact .str _
  | .lst ds, _, h => by
    cases h with
    | lst h1 h2 => exact .lst (e _ _ h1) (RpA.mono e ea ds _ h2)
  | .sq ds, _, h => by
    cases h with
    | sq h1 h2 => exact .sq (sameSql e h1) (RpA.mono e ea ds _ h2)
  | .tup ds, _, h => by
    cases h with
    | tup h1 h2 => exact .tup (sameSqt e h1) (RpA.mono e ea ds _ h2)
  | .ins C fs, _, h => by
    cases h with
    | ins h1 h2 => exact .ins (e _ _ h1) (RpF.mono e ea fs _ h2)
  | .dic fs, _, h => by
    cases h with
    | dic h1 h2 => exact .dic (e _ _ h1) (RpK.mono e ea fs _ h2)
  | .obj _, _, h => by cases h; exact .obj _
  | .own _, _, h => by
    cases h with
    | own h1 => exact .own (ea _ _ h1)
  | .ty _, _, h => by cases h; exact .ty _
  | .exc C fs, _, h => by
    cases h with
    | exc0 h1 h2 h0 h3 => exact .exc0 (e _ _ h1) h2 h0 h3
    | excD h1 h2 h0 h3 h4 h5 => exact .excD (e _ _ h1) h2 h0 h3 (e _ _ h4) (RpF.mono e ea fs _ h5)
theorem RpA.mono (e : ∀ b o, F b = some o → F' b = some o) (ea : ∀ (h : Nat) (a : Addr), al[h]? = some a → al'[h]? = some a) : ∀ (ds : List D) (vs : List V), RpA K F al vs ds → RpA K F' al' vs ds
  | [], _, h => by cases h; exact .nil
  | d :: ds, _, h => by
    cases h with
    | cons h1 h2 => exact .cons (Rp.mono e ea d _ h1) (RpA.mono e ea ds _ h2)
theorem RpF.mono (e : ∀ b o, F b = some o → F' b = some o) (ea : ∀ (h : Nat) (a : Addr), al[h]? = some a → al'[h]? = some a) : ∀ (ds : List (Str × D)) (vs : List (Str × V)), RpF K F al vs ds → RpF K F' al' vs ds
  | [], _, h => by cases h; exact .nil
  | (n, d) :: ds, _, h => by
    cases h with
    | cons h1 h2 => exact .cons (Rp.mono e ea d _ h1) (RpF.mono e ea ds _ h2)
theorem RpK.mono (e : ∀ b o, F b = some o → F' b = some o) (ea : ∀ (h : Nat) (a : Addr), al[h]? = some a → al'[h]? = some a) : ∀ (ds : List (Key × D)) (vs : List (Key × V)), RpK K F al vs ds → RpK K F' al' vs ds
  | [], _, h => by cases h; exact .nil
  | (n, d) :: ds, _, h => by
    cases h with
    | cons h1 h2 => exact .cons (Rp.mono e ea d _ h1) (RpK.mono e ea ds _ h2)
end
theorem RpA.length : ∀ {vs : List V} {ds : List D}, RpA K F al vs ds → vs.length = ds.length
  | _, _, .nil => rfl
  | _, _, .cons _ t => by rw [List.length_cons, List.length_cons, RpA.length t]
theorem RpA.get : ∀ {vs : List V} {ds : List D} {i : Nat} {d : D}, RpA K F al vs ds → ds[i]? = some d → ∃ v, vs[i]? = some v ∧ Rp K F al v d
  | _, _, i, _, .nil, e => by simp at e
  | _, _, 0, _, .cons r _, e => by simp at e; subst e; exact ⟨_, rfl, r⟩
  | _, _, i + 1, d, .cons _ t, e => by
    obtain ⟨v, h1, h2⟩ := RpA.get (i := i) (d := d) t (by simpa using e)
    exact ⟨v, by simpa using h1, h2⟩
theorem RpA.getV : ∀ {vs : List V} {ds : List D} {i : Nat} {v : V}, RpA K F al vs ds → vs[i]? = some v → ∃ d, ds[i]? = some d ∧ Rp K F al v d
  | _, _, i, _, .nil, e => by simp at e
  | _, _, 0, _, .cons r _, e => by simp at e; subst e; exact ⟨_, rfl, r⟩
  | _, _, i + 1, d, .cons _ t, e => by
    obtain ⟨v, h1, h2⟩ := RpA.getV (i := i) (v := d) t (by simpa using e)
    exact ⟨v, by simpa using h1, h2⟩
theorem RpA.append : ∀ {vs ws : List V} {ds es : List D}, RpA K F al vs ds → RpA K F al ws es → RpA K F al (vs ++ ws) (ds ++ es)
  | _, _, _, _, .nil, s => s
  | _, _, _, _, .cons r t, s => .cons r (RpA.append t s)
theorem RpA.set {v : V} {d : D} (r : Rp K F al v d) : ∀ {vs : List V} {ds : List D} (i : Nat), RpA K F al vs ds → RpA K F al (vs.set i v) (ds.set i d)
  | _, _, _, .nil => .nil
  | _, _, 0, .cons _ t => .cons r t
  | _, _, i + 1, .cons q t => .cons q (RpA.set r i t)
theorem RpA.take : ∀ {vs : List V} {ds : List D} (n : Nat), RpA K F al vs ds → RpA K F al (vs.take n) (ds.take n)
  | _, _, 0, _ => .nil
  | _, _, _ + 1, .nil => .nil
  | _, _, n + 1, .cons r t => .cons r (RpA.take n t)
theorem RpA.drop : ∀ {vs : List V} {ds : List D} (n : Nat), RpA K F al vs ds → RpA K F al (vs.drop n) (ds.drop n)
  | _, _, 0, r => r
  | _, _, _ + 1, .nil => .nil
  | _, _, n + 1, .cons _ t => RpA.drop n t
theorem RpA.reverse : ∀ {vs : List V} {ds : List D}, RpA K F al vs ds → RpA K F al vs.reverse ds.reverse
  | _, _, .nil => .nil
  | _, _, .cons r t => by
    rw [List.reverse_cons, List.reverse_cons]
    exact (RpA.reverse t).append (.cons r .nil)
end
/-- where one stands: the frozen part, the cells' addresses, the whole -/
structure Hs where
  F : Hp
  al : List Addr
  H : Hp
abbrev Rv (K : PySem.W.Frag) (w : Hs) (v : V) (d : D) : Prop := Rp K w.F w.al v d
abbrev Ra (K : PySem.W.Frag) (w : Hs) (vs : List V) (ds : List D) : Prop := RpA K w.F w.al vs ds
/-- the entries of a dict whose keys are tuples -/
def RpT (K : PySem.W.Frag) (F : Hp) (al : List Addr) (us : List (List Key × V)) (ks : List (List Key × D)) : Prop :=
  us.length = ks.length ∧ ∀ (i : Nat) (k : List Key) (d : D), ks[i]? = some (k, d) → ∃ v, us[i]? = some (k, v) ∧ Rp K F al v d
theorem RpT.mono {K : PySem.W.Frag} {F F' : Hp} {al al' : List Addr} (e : ∀ b o, F b = some o → F' b = some o) (ea : ∀ (h : Nat) (a : Addr), al[h]? = some a → al'[h]? = some a) {us : List (List Key × V)} {ks : List (List Key × D)} (h : RpT K F al us ks) : RpT K F' al' us ks :=
  ⟨h.1, fun i k d q => let ⟨v, a, b⟩ := h.2 i k d q; ⟨v, a, Rp.mono e ea d v b⟩⟩
def CellOk (K : PySem.W.Frag) (w : Hs) (a : Addr) : Cell → Prop
  | .lst ds => w.F a = none ∧ ∃ xs, w.H a = some (.lst xs) ∧ Ra K w xs ds
  | .ins C fs => w.F a = none ∧ ∃ dx vs, w.H a = some (.ins C dx vs) ∧ RpF K w.F w.al vs fs
  | .dct ks => w.F a = none ∧ ∃ us, w.H a = some (.dT us) ∧ RpT K w.F w.al us ks
  | .dck ks => w.F a = none ∧ ∃ us, w.H a = some (.dK us) ∧ RpK K w.F w.al us ks
  | .lck o us ks => w.F a = none ∧ w.H a = some (.frz o (.dK us)) ∧ RpK K w.F w.al us ks
  | .tpl ks => w.F a = none ∧ w.H a = some (.tup (ks.map V.int))
  | .gone => True
structure Good (K : PySem.W.Frag) (w : Hs) (S : Sto) : Prop where
  sub : ∀ a o, w.F a = some o → w.H a = some o
  nd : w.al.Nodup
  len : w.al.length = S.length
  cell : ∀ (h : Nat) (a : Addr) (c : Cell), w.al[h]? = some a → S[h]? = some c → CellOk K w a c
  dom : ∀ a ∈ w.al, w.H a ≠ none
structure Ext (w w' : Hs) : Prop where
  f : ∀ a o, w.F a = some o → w'.F a = some o
  al : ∃ β, w'.al = w.al ++ β ∧ ∀ b ∈ β, w.H b = none
  new : ∀ a o, w'.F a = some o → w.F a = some o ∨ w.H a = none ∨ a ∈ w.al ∨ (w.H a = some o ∧ ∃ xs, o = HO.tup xs)
  kp : ∀ a o, w.H a = some o → a ∉ w.al → w'.H a = some o
  dm : ∀ a, w.H a ≠ none → w'.H a ≠ none
theorem Ext.refl (w : Hs) : Ext w w := ⟨fun _ _ h => h, ⟨[], by simp, by simp⟩, fun _ _ h => .inl h, fun _ _ h _ => h, fun _ h => h⟩
theorem Ext.alx {w w' : Hs} (e : Ext w w') : ∀ (h : Nat) (a : Addr), w.al[h]? = some a → w'.al[h]? = some a := fun h a q => by
  obtain ⟨β, eq, _⟩ := e.al
  rw [eq, List.getElem?_append_left (List.getElem?_eq_some_iff.mp q).1]
  exact q
theorem Ext.mem {w w' : Hs} (e : Ext w w') {a : Addr} (h : a ∈ w.al) : a ∈ w'.al := by
  obtain ⟨β, eq, _⟩ := e.al
  rw [eq]
  exact List.mem_append_left _ h
theorem Ext.old {w w' : Hs} (e : Ext w w') {a : Addr} (h : a ∈ w'.al) : a ∈ w.al ∨ w.H a = none := by
  obtain ⟨β, eq, hb⟩ := e.al
  rw [eq] at h
  rcases List.mem_append.mp h with z | z
  · exact .inl z
  · exact .inr (hb a z)
theorem Ext.fresh {w w' : Hs} (e : Ext w w') {a : Addr} (h : w'.H a = none) : w.H a = none := by
  cases q : w.H a with
  | none => rfl
  | some o => exact absurd h (e.dm a (by rw [q]; exact fun z => nomatch z))
theorem Ext.trans {w w1 w2 : Hs} (a : Ext w w1) (b : Ext w1 w2) : Ext w w2 where
  f := fun x o h => b.f x o (a.f x o h)
  al := by
    obtain ⟨β, e1, h1⟩ := a.al
    obtain ⟨γ, e2, h2⟩ := b.al
    refine ⟨β ++ γ, by rw [e2, e1, List.append_assoc], fun x hx => ?_⟩
    rcases List.mem_append.mp hx with z | z
    · exact h1 x z
    · exact a.fresh (h2 x z)
  new := fun x o h => by
    rcases b.new x o h with z | z | z | ⟨z, xs, ex⟩
    · exact a.new x o z
    · exact .inr (.inl (a.fresh z))
    · rcases a.old z with y | y
      · exact .inr (.inr (.inl y))
      · exact .inr (.inl y)
    · cases q : w.H x with
      | none => exact .inr (.inl rfl)
      | some u =>
        by_cases m : x ∈ w.al
        · exact .inr (.inr (.inl m))
        · have e := a.kp x u q m
          rw [z] at e
          cases e
          exact .inr (.inr (.inr ⟨rfl, xs, ex⟩))
  kp := fun x o h n => b.kp x o (a.kp x o h n) fun z => by
    rcases a.old z with y | y
    · exact n y
    · rw [h] at y; cases y
  dm := fun x h => b.dm x (a.dm x h)
theorem Ext.rp {K : PySem.W.Frag} {w w' : Hs} (e : Ext w w') {v : V} {d : D} (h : Rv K w v d) : Rv K w' v d := Rp.mono e.f e.alx d v h
theorem Ext.ra {K : PySem.W.Frag} {w w' : Hs} (e : Ext w w') {v : List V} {d : List D} (h : Ra K w v d) : Ra K w' v d := RpA.mono e.f e.alx d v h
/-- slots -/
def Slots (K : PySem.W.Frag) (w : Hs) (σ : L2.St) (Γ : Gam) : Prop := Γ.length = σ.length ∧ ∀ (i : Nat) (d : D), Γ[i]? = some (some d) → ∃ v, σ[i]? = some (some v) ∧ Rv K w v d
theorem Slots.ext {K : PySem.W.Frag} {w w' : Hs} {σ : L2.St} {Γ : Gam} (e : Ext w w') (h : Slots K w σ Γ) : Slots K w' σ Γ :=
  ⟨h.1, fun i d q => let ⟨v, a, b⟩ := h.2 i d q; ⟨v, a, e.rp b⟩⟩
theorem Slots.set {K : PySem.W.Frag} {w : Hs} {σ : L2.St} {Γ : Gam} {v : V} {d : D} (h : Slots K w σ Γ) (r : Rv K w v d) (i : Nat) : Slots K w (σ.set i (some v)) (Γ.set i (some d)) := by
  refine ⟨by rw [List.length_set, List.length_set]; exact h.1, fun j e q => ?_⟩
  by_cases hj : i = j
  · subst hj
    by_cases hl : i < Γ.length
    · rw [List.getElem?_set_self hl] at q
      cases q
      exact ⟨v, by rw [List.getElem?_set_self (by rw [← h.1]; exact hl)], r⟩
    · rw [List.getElem?_eq_none (by rw [List.length_set]; omega)] at q
      cases q
  · rw [List.getElem?_set_ne hj] at q
    obtain ⟨u, a, b⟩ := h.2 j e q
    exact ⟨u, by rw [List.getElem?_set_ne hj]; exact a, b⟩
/-- a slot forgotten -/
theorem Slots.unset {K : PySem.W.Frag} {w : Hs} {σ : L2.St} {Γ : Gam} (h : Slots K w σ Γ) (i : Nat) : Slots K w (σ.set i none) (Γ.set i none) := by
  refine ⟨by rw [List.length_set, List.length_set]; exact h.1, fun j e q => ?_⟩
  by_cases hj : i = j
  · subst hj
    by_cases hl : i < Γ.length
    · rw [List.getElem?_set_self hl] at q
      cases q
    · rw [List.getElem?_eq_none (by rw [List.length_set]; omega)] at q
      cases q
  · rw [List.getElem?_set_ne hj] at q
    obtain ⟨u, a, b⟩ := h.2 j e q
    exact ⟨u, by rw [List.getElem?_set_ne hj]; exact a, b⟩
def gwipe (Γ : Gam) : List Nat → Gam
  | [] => Γ
  | v :: vs => (gwipe Γ vs).set v none
theorem Slots.wipe {K : PySem.W.Frag} {w : Hs} {σ : L2.St} {Γ : Gam} (h : Slots K w σ Γ) : ∀ vs : List Nat, Slots K w (L2.wipe σ vs) (gwipe Γ vs)
  | [] => h
  | v :: vs => (Slots.wipe h vs).unset v
section
variable {K : PySem.W.Frag} {w : Hs} {S : Sto}
/-- a new frozen object -/
def Hs.frz (w : Hs) (p : Addr) (o : HO) : Hs := ⟨upd w.F p o, w.al, upd w.H p o⟩
theorem Good.notF (g : Good K w S) {p : Addr} (h : w.H p = none) : w.F p = none := by
  cases q : w.F p with
  | none => rfl
  | some o => rw [g.sub p o q] at h; cases h
theorem Good.notA (g : Good K w S) {p : Addr} (h : w.H p = none) : p ∉ w.al := fun z => g.dom p z h
theorem updF {H : Hp} {p : Addr} {o : HO} (h : H p = none) : ∀ a x, H a = some x → upd H p o a = some x := fun a x e => by
  rw [upd_ne (ne_of_none e h)]
  exact e
theorem Ext.frz (g : Good K w S) {p : Addr} (o : HO) (h : w.H p = none) : Ext w (w.frz p o) where
  f := updF (g.notF h)
  al := ⟨[], by simp [Hs.frz], by simp⟩
  new := fun a x e => by
    by_cases q : a = p
    · subst q; exact .inr (.inl h)
    · have e2 : upd w.F p o a = some x := e
      rw [upd_ne q] at e2
      exact .inl e2
  kp := fun a x e _ => updF h a x e
  dm := fun a e => by
    show upd w.H p o a ≠ none
    by_cases q : a = p
    · subst q; rw [upd_same]; exact fun z => nomatch z
    · rw [upd_ne q]; exact e
theorem cell_ext {w w' : Hs} (e : Ext w w') {a : Addr} {c : Cell} (hF : w.F a = none → w'.F a = none) (hH : ∀ o, w.H a = some o → w'.H a = some o) (h : CellOk K w a c) : CellOk K w' a c := by
  cases c with
  | gone => exact True.intro
  | lst ds =>
    obtain ⟨h1, xs, h2, h3⟩ := h
    exact ⟨hF h1, xs, hH _ h2, e.ra h3⟩
  | ins C fs =>
    obtain ⟨h1, dx, vs, h2, h3⟩ := h
    exact ⟨hF h1, dx, vs, hH _ h2, RpF.mono e.f e.alx fs vs h3⟩
  | dct ks =>
    obtain ⟨h1, us, h2, h3⟩ := h
    exact ⟨hF h1, us, hH _ h2, h3.mono e.f e.alx⟩
  | dck ks =>
    obtain ⟨h1, us, h2, h3⟩ := h
    exact ⟨hF h1, us, hH _ h2, RpK.mono e.f e.alx ks us h3⟩
  | lck o us ks =>
    obtain ⟨h1, h2, h3⟩ := h
    exact ⟨hF h1, hH _ h2, RpK.mono e.f e.alx ks us h3⟩
  | tpl ks => exact ⟨hF h.1, hH _ h.2⟩
theorem Good.frz (g : Good K w S) {p : Addr} (o : HO) (h : w.H p = none) : Good K (w.frz p o) S := by
  have e := Ext.frz g o h
  refine ⟨fun a x q => ?_, g.nd, g.len, fun n a c q1 q2 => ?_, fun a q => e.dm a (g.dom a q)⟩
  · have q2 : upd w.F p o a = some x := q
    show upd w.H p o a = some x
    by_cases z : a = p
    · subst z; rw [upd_same] at q2 ⊢; exact q2
    · rw [upd_ne z] at q2 ⊢; exact g.sub a x q2
  · have hne : a ≠ p := fun z => g.dom a (List.mem_of_getElem? q1) (by rw [z]; exact h)
    exact cell_ext e (fun z => by show upd w.F p o a = none; rw [upd_ne hne]; exact z) (fun x z => updF h a x z) (g.cell n a c q1 q2)
/-- a new cell -/
def Hs.cel (w : Hs) (p : Addr) (o : HO) : Hs := ⟨w.F, w.al ++ [p], upd w.H p o⟩
theorem Ext.cel (g : Good K w S) {p : Addr} (o : HO) (h : w.H p = none) : Ext w (w.cel p o) where
  f := fun _ _ e => e
  al := ⟨[p], rfl, fun b hb => by rw [List.mem_singleton.mp hb]; exact h⟩
  new := fun a x e => .inl e
  kp := fun a x e _ => updF h a x e
  dm := fun a e => by
    show upd w.H p o a ≠ none
    by_cases q : a = p
    · subst q; rw [upd_same]; exact fun z => nomatch z
    · rw [upd_ne q]; exact e
/-- a new cell c at p in a world where new things stand beside it -/
theorem Good.cell' {w' : Hs} (g : Good K w S) {p : Addr} {c0 : Cell} (h : w.H p = none) (e : Ext w w') (hF : w'.F = w.F) (hal : w'.al = w.al ++ [p]) (hH : ∀ a x, w.H a = some x → w'.H a = some x) (hp : w'.H p ≠ none) (ok : CellOk K w' p c0) : Good K w' (S ++ [c0]) := by
  refine ⟨fun a x q => hH a x (g.sub a x (by rw [← hF]; exact q)), ?_, ?_, fun n a c q1 q2 => ?_, fun a q => ?_⟩
  · rw [hal, List.nodup_append]
    exact ⟨g.nd, by simp, fun a ha b hb => by rw [List.mem_singleton.mp hb]; exact fun z => g.notA h (z ▸ ha)⟩
  · rw [hal, List.length_append, List.length_append, g.len] <;> rfl
  · rw [hal] at q1
    by_cases hn : n < w.al.length
    · rw [List.getElem?_append_left hn] at q1
      rw [List.getElem?_append_left (by rw [← g.len]; exact hn)] at q2
      exact cell_ext e (fun z => by rw [hF]; exact z) (fun x z => hH a x z) (g.cell n a c q1 q2)
    · have hn2 : n = w.al.length := by
        have := (List.getElem?_eq_some_iff.mp q1).1
        rw [List.length_append] at this
        have h1 : [p].length = 1 := rfl
        omega
      subst hn2
      rw [List.getElem?_append_right (Nat.le_refl _), Nat.sub_self] at q1
      rw [List.getElem?_append_right (by rw [g.len]; exact Nat.le_refl _), g.len, Nat.sub_self] at q2
      have e1 : p = a := Option.some.inj q1
      have e2 : c0 = c := Option.some.inj q2
      subst e1; subst e2
      exact ok
  · rw [hal] at q
    rcases List.mem_append.mp q with z | z
    · exact e.dm a (g.dom a z)
    · rw [List.mem_singleton.mp z]
      exact hp
theorem upd_some {H : Hp} {p : Addr} {o : HO} : upd H p o p ≠ none := by
  rw [upd_same]; exact fun z => nomatch z
theorem Good.cel (g : Good K w S) {p : Addr} {xs : List V} {ds : List D} (h : w.H p = none) (r : Ra K w xs ds) : Good K (w.cel p (.lst xs)) (S ++ [.lst ds]) :=
  g.cell' h (Ext.cel g _ h) rfl rfl (fun a x q => updF h a x q) upd_some ⟨g.notF h, xs, upd_same, (Ext.cel g _ h).ra r⟩
/-- a cell is written -/
def Hs.wr (w : Hs) (p : Addr) (o : HO) : Hs := ⟨w.F, w.al, upd w.H p o⟩
theorem Ext.wr {p : Addr} (o : HO) (hp : p ∈ w.al) : Ext w (w.wr p o) where
  f := fun _ _ e => e
  al := ⟨[], by simp [Hs.wr], by simp⟩
  new := fun a x e => .inl e
  kp := fun a x e n => by
    show upd w.H p o a = some x
    rw [upd_ne (fun z => n (by rw [z]; exact hp))]; exact e
  dm := fun a e => by
    show upd w.H p o a ≠ none
    by_cases q : a = p
    · subst q; rw [upd_same]; exact fun z => nomatch z
    · rw [upd_ne q]; exact e
theorem CellOk.notF {a : Addr} {c : Cell} (h : CellOk K w a c) (hc : c ≠ .gone) : w.F a = none := by
  cases c with
  | gone => exact absurd rfl hc
  | lst _ => exact h.1
  | ins _ _ => exact h.1
  | dct _ => exact h.1
  | dck _ => exact h.1
  | lck _ _ _ => exact h.1
  | tpl _ => exact h.1
theorem Good.write (g : Good K w S) {h : Nat} {p : Addr} {c0 : Cell} {o : HO} (hp : w.al[h]? = some p) (hl : h < S.length) (hF : w.F p = none) (ok : CellOk K (w.wr p o) p c0) : Good K (w.wr p o) (S.set h c0) := by
  have hm : p ∈ w.al := List.mem_of_getElem? hp
  have e := Ext.wr o hm
  refine ⟨fun a x q => ?_, g.nd, by rw [List.length_set]; exact g.len, fun n a c q1 q2 => ?_, fun a q => e.dm a (g.dom a q)⟩
  · show upd w.H p o a = some x
    rw [upd_ne (ne_of_none q hF)]
    exact g.sub a x q
  · have q1 : w.al[n]? = some a := q1
    by_cases hn : h = n
    · subst hn
      rw [hp] at q1; cases q1
      rw [List.getElem?_set_self hl] at q2
      cases q2
      exact ok
    · rw [List.getElem?_set_ne hn] at q2
      have hne : a ≠ p := fun z => by
        subst z
        obtain ⟨l1, e1⟩ := List.getElem?_eq_some_iff.mp hp
        obtain ⟨l2, e2⟩ := List.getElem?_eq_some_iff.mp q1
        exact hn ((List.getElem_inj g.nd).mp (e1.trans e2.symm))
      exact cell_ext e (fun z => z) (fun x z => by show upd w.H p _ a = some x; rw [upd_ne hne]; exact z) (g.cell n a c q1 q2)
theorem Good.wr (g : Good K w S) {h : Nat} {p : Addr} {xs : List V} {es ds : List D} (hp : w.al[h]? = some p) (hc : S[h]? = some (.lst es)) (r : Ra K w xs ds) : Good K (w.wr p (.lst xs)) (S.set h (.lst ds)) :=
  have hF := (g.cell h p _ hp hc).1
  g.write hp (List.getElem?_eq_some_iff.mp hc).1 hF ⟨hF, xs, upd_same, r⟩
/-- a cell is frozen -/
def Hs.fz (w : Hs) (p : Addr) (o : HO) : Hs := ⟨upd w.F p o, w.al, w.H⟩
theorem Ext.fz {p : Addr} {o : HO} (hp : p ∈ w.al) (hF : w.F p = none) : Ext w (w.fz p o) where
  f := updF hF
  al := ⟨[], by simp [Hs.fz], by simp⟩
  new := fun a x e => by
    by_cases q : a = p
    · subst q; exact .inr (.inr (.inl hp))
    · have e2 : upd w.F p o a = some x := e
      rw [upd_ne q] at e2
      exact .inl e2
  kp := fun a x e n => e
  dm := fun a e => e
theorem Good.fzC (g : Good K w S) {h : Nat} {p : Addr} {o : HO} {c0 : Cell} (hp : w.al[h]? = some p) (hc : S[h]? = some c0) (hng : c0 ≠ .gone) (ho : w.H p = some o) : Good K (w.fz p o) (S.set h .gone) := by
  have hm : p ∈ w.al := List.mem_of_getElem? hp
  have hF : w.F p = none := (g.cell h p _ hp hc).notF hng
  have e : Ext w (w.fz p o) := Ext.fz hm hF
  refine ⟨fun a x q => ?_, g.nd, by rw [List.length_set]; exact g.len, fun n a c q1 q2 => ?_, g.dom⟩
  · have q2 : upd w.F p o a = some x := q
    show w.H a = some x
    by_cases z : a = p
    · subst z; rw [upd_same] at q2; cases q2; exact ho
    · rw [upd_ne z] at q2; exact g.sub a x q2
  · have q1 : w.al[n]? = some a := q1
    by_cases hn : h = n
    · subst hn
      rw [List.getElem?_set_self (List.getElem?_eq_some_iff.mp hc).1] at q2
      cases q2
      exact True.intro
    · rw [List.getElem?_set_ne hn] at q2
      have hne : a ≠ p := fun z => by
        subst z
        obtain ⟨l1, e1⟩ := List.getElem?_eq_some_iff.mp hp
        obtain ⟨l2, e2⟩ := List.getElem?_eq_some_iff.mp q1
        exact hn ((List.getElem_inj g.nd).mp (e1.trans e2.symm))
      exact cell_ext e (fun z => by show upd w.F p o a = none; rw [upd_ne hne]; exact z) (fun x z => z) (g.cell n a c q1 q2)
theorem Good.fz (g : Good K w S) {h : Nat} {p : Addr} {o : HO} {es : List D} (hp : w.al[h]? = some p) (hc : S[h]? = some (.lst es)) (ho : w.H p = some o) : Good K (w.fz p o) (S.set h .gone) :=
  g.fzC hp hc (fun z => nomatch z) ho
end
end DL
namespace DL
open PySem PySem.Spec PyProof.Rows L2
structure Exn where
  cls : Addr
  fs : List (Str × D)
def RpX (K : PySem.W.Frag) (w : Hs) (cv : Value) (dx : Option Addr) (x : Exn) : Prop :=
  cv = .ref x.cls ∧ match dx with
    | none => x.fs = []
    | some a => ∃ vs, w.F a = some (.xd vs) ∧ RpF K w.F w.al vs x.fs
abbrev KD := Sto → D → Prop
abbrev KX := Sto → Exn → Prop
abbrev TD := Gam → Sto → KD → KX → Prop
abbrev TB := Gam → Sto → (Sto → Bool → Prop) → KX → Prop
abbrev TL := Gam → Sto → (Sto → List D → Prop) → KX → Prop
section
variable (K : PySem.W.Frag) (W : WX)
def OkD (w : Hs) (Φ : KD) (Q : VK) : Prop := ∀ v d w' S', Ext w w' → Good K w' S' → Rv K w' v d → Φ S' d → Q v w'.H
def OkB (w : Hs) (Φ : Sto → Bool → Prop) (Q : Bool → Hp → Prop) : Prop := ∀ b w' S', Ext w w' → Good K w' S' → Φ S' b → Q b w'.H
def OkL (w : Hs) (Φ : Sto → List D → Prop) (Q : List V → Hp → Prop) : Prop := ∀ vs ds w' S', Ext w w' → Good K w' S' → Ra K w' vs ds → Φ S' ds → Q vs w'.H
def OkX (w : Hs) (Ψ : KX) (σ : L2.St) : Prop := ∀ cv dx x w' S', Ext w w' → Good K w' S' → RpX K w' cv dx x → Ψ S' x → W cv dx σ w'.H
def SemE (t : TE) (T : TD) : Prop := ∀ Γ S Φ Ψ σ w, Good K w S → Slots K w σ Γ → T Γ S Φ Ψ → OkX K W w Ψ σ → ∀ Q : VK, OkD K w Φ Q → t σ w.H Q
def SemT (t : TT) (T : TB) : Prop := ∀ Γ S Φ Ψ σ w, Good K w S → Slots K w σ Γ → T Γ S Φ Ψ → OkX K W w Ψ σ → ∀ Q : Bool → Hp → Prop, OkB K w Φ Q → t σ w.H Q
def SemA (t : TA) (T : TL) : Prop := ∀ Γ S Φ Ψ σ w, Good K w S → Slots K w σ Γ → T Γ S Φ Ψ → OkX K W w Ψ σ → ∀ Q : List V → Hp → Prop, OkL K w Φ Q → t σ w.H Q
end
section
variable {K : PySem.W.Frag} {W : WX} {w w' : Hs}
theorem OkD.ext {Φ : KD} {Q : VK} (h : OkD K w Φ Q) (e : Ext w w') : OkD K w' Φ Q := fun v d w2 S' e2 => h v d w2 S' (e.trans e2)
theorem OkB.ext {Φ : Sto → Bool → Prop} {Q : Bool → Hp → Prop} (h : OkB K w Φ Q) (e : Ext w w') : OkB K w' Φ Q := fun v w2 S' e2 => h v w2 S' (e.trans e2)
theorem OkL.ext {Φ : Sto → List D → Prop} {Q : List V → Hp → Prop} (h : OkL K w Φ Q) (e : Ext w w') : OkL K w' Φ Q := fun v d w2 S' e2 => h v d w2 S' (e.trans e2)
theorem OkX.ext {Ψ : KX} {σ : L2.St} (h : OkX K W w Ψ σ) (e : Ext w w') : OkX K W w' Ψ σ := fun a b c w2 S' e2 => h a b c w2 S' (e.trans e2)
end
/-- an expression, a test, arguments: what is read (t) and what is asked of the data (T) -/
structure JE (X : Cx) (W : WX) (e : Expr) (t : TE) (T : TD) : Prop where
  pe : PE X e t
  sem : SemE X.K W t T
structure JT (X : Cx) (W : WX) (e : Expr) (t : TT) (T : TB) : Prop where
  pt : PT X e t
  sem : SemT X.K W t T
structure JW (X : Cx) (W : WX) (e : Expr) (t : TT) (T : TB) : Prop where
  pw : PW X e t
  sem : SemT X.K W t T
structure JA (X : Cx) (W : WX) (es : List Expr) (t : TA) (T : TL) : Prop where
  pa : PA X es t
  sem : SemA X.K W t T
section
variable {X : Cx} {W : WX} {e a b c : Expr} {es : List Expr} {pos : Pos} {ta tb tc te : TE} {Ta Tb Tc Te : TD}
def dVar (i : Nat) : TD := fun Γ S Φ _ => ∃ d, Γ[i]? = some (some d) ∧ Φ S d
def dC (d : D) : TD := fun _ S Φ _ => Φ S d
theorem sem_var {K : PySem.W.Frag} {i : Nat} : SemE K W (tVar i) (dVar i) := fun Γ S Φ Ψ σ w g sl ⟨d, h1, h2⟩ _ Q q => by
  obtain ⟨v, h3, r⟩ := sl.2 i d h1
  exact ⟨v, h3, q v d w S (Ext.refl w) g r h2⟩
theorem sem_c {K : PySem.W.Frag} {v : V} {d : D} (r : ∀ w : Hs, Rv K w v d) : SemE K W (tC v) (dC d) := fun Γ S Φ Ψ σ w g sl h _ Q q => q v d w S (Ext.refl w) g (r w) h
theorem je_var (i : Nat) {x : Str} (hN : X.N[i]? = some x := by rfl) (hv : Vis X.env.scope x := by first | exact Or.inl rfl | exact Or.inr (Or.inl rfl) | exact Or.inr (Or.inr rfl)) (hd : (x == ("__debug__" : Str)) = false := by decide)
    (hcd : (x == ("__classdict__" : Str)) = false := by decide) : JE X W (.Name x pos) (tVar i) (dVar i) := ⟨pe_var hN hv hd hcd, sem_var⟩
theorem je_int {i j} : JE X W (.Constant (.int i) j pos) (tC (.int i)) (dC (.int i)) := ⟨pe_int, sem_c fun _ => .int i⟩
theorem je_bl {b j} : JE X W (.Constant (.bool b) j pos) (tC (.bl b)) (dC (.bl b)) := ⟨pe_bl, sem_c fun _ => .bl b⟩
/-- a constant of the module -/
theorem je_glob {x : Str} {v : V} {u : Value} {d : D} (r : ∀ w : Hs, Rv X.K w v d) (hg : Gl X x) (hm : X.mg x = some u) (q : RelV v u) (hd : (x == ("__debug__" : Str)) = false := by decide) : JE X W (.Name x pos) (tC v) (dC d) := ⟨pe_glob hg hm q hd, sem_c r⟩
theorem je_gint {x : Str} {i : Int} (hg : Gl X x) (hm : ∃ t, X.mg x = some (.int i t)) (hd : (x == ("__debug__" : Str)) = false := by decide) : JE X W (.Name x pos) (tC (.int i)) (dC (.int i)) := by
  obtain ⟨t, hm⟩ := hm
  exact je_glob (fun _ => .int i) hg hm ⟨t, rfl⟩ hd
/-- a built-in type as a value -/
theorem je_ty {x : Str} {n : String} (hg : Gl X x) (hm : X.mg x = none) (hv : bootBuiltins x = some (.type n)) (hn : x ≠ "__name__" := by decide) (hd : (x == ("__debug__" : Str)) = false := by decide) : JE X W (.Name x pos) (tC (.ty n)) (dC (.ty n)) :=
  ⟨pe_bltn hg hm hv rfl hn hd, sem_c fun _ => .ty n⟩
def OpD (K : PySem.W.Frag) (r : R2) (f : D → D → Sto → KD → Prop) : Prop :=
  ∀ w S x y u v Φ Q, Good K w S → Rv K w x u → Rv K w y v → f u v S Φ → OkD K w Φ Q → r x y w.H Q
def dOp (f : D → D → Sto → KD → Prop) (Ta Tb : TD) : TD := fun Γ S Φ Ψ => Ta Γ S (fun S1 x => Tb Γ S1 (fun S2 y => f x y S2 Φ) Ψ) Ψ
theorem sem_op {K : PySem.W.Frag} {r : R2} {f : D → D → Sto → KD → Prop} (hd : OpD K r f) (ha : SemE K W ta Ta) (hb : SemE K W tb Tb) : SemE K W (tOp r ta tb) (dOp f Ta Tb) :=
  fun Γ S Φ Ψ σ w g sl h hx Q q => ha Γ S _ Ψ σ w g sl h hx _ fun v d w1 S1 e1 g1 r1 h1 =>
    hb Γ S1 _ Ψ σ w1 g1 (sl.ext e1) h1 (hx.ext e1) _ fun v2 d2 w2 S2 e2 g2 r2 h2 => hd w2 S2 v v2 d d2 Φ Q g2 (e2.rp r1) r2 h2 (q.ext (e1.trans e2))
theorem je_op {op : Operator} {r : R2} {f : D → D → Sto → KD → Prop} (ho : OpR X (binaryOp op) r) (hd : OpD X.K r f) (ha : JE X W a ta Ta) (hb : JE X W b tb Tb) : JE X W (.BinOp a op b pos) (tOp r ta tb) (dOp f Ta Tb) :=
  ⟨pe_op ho ha.pe hb.pe, sem_op hd ha.sem hb.sem⟩
theorem je_cmp {op : CmpOp} {r : R2} {f : D → D → Sto → KD → Prop} (ho : OpR X (compareOp op) r) (hd : OpD X.K r f) (ha : JE X W a ta Ta) (hb : JE X W b tb Tb) (hm : behindInMarks op b = false) : JE X W (.Compare a [op] [b] pos) (tOp r ta tb) (dOp f Ta Tb) :=
  ⟨pe_cmpR ho ha.pe hb.pe hm, sem_op hd ha.sem hb.sem⟩
/-- a value that is a bool, as a test -/
def bOf (T : TD) : TB := fun Γ S Φ Ψ => T Γ S (fun S1 d => ∃ k, d = .bl k ∧ Φ S1 k) Ψ
theorem rv_bl {K : PySem.W.Frag} {w : Hs} {v : V} {k : Bool} (r : Rv K w v (.bl k)) : v = .bl k := by cases r; rfl
theorem rv_int {K : PySem.W.Frag} {w : Hs} {v : V} {k : Int} (r : Rv K w v (.int k)) : v = .int k := by cases r; rfl
theorem rv_str {K : PySem.W.Frag} {w : Hs} {v : V} {k : Str} (r : Rv K w v (.str k)) : v = .str k := by cases r; rfl
theorem sem_bl {K : PySem.W.Frag} (h : SemE K W te Te) : SemT K W (fun σ H Q => te σ H fun x H' => ∃ k, x = .bl k ∧ Q k H') (bOf Te) := fun Γ S Φ Ψ σ w g sl h2 hx Q q =>
  h Γ S _ Ψ σ w g sl h2 hx _ fun v d w1 S1 e1 g1 r1 ⟨k, e, h3⟩ => by
    subst e
    exact ⟨k, rv_bl r1, q k w1 S1 e1 g1 h3⟩
theorem jt_cmp {op : CmpOp} {r : R2} {f : D → D → Sto → KD → Prop} (ho : OpR X (compareOp op) r) (hd : OpD X.K r f) (ha : JE X W a ta Ta) (hb : JE X W b tb Tb) (hm : behindInMarks op b = false) : JT X W (.Compare a [op] [b] pos) (tTest (tOp r ta tb)) (bOf (dOp f Ta Tb)) :=
  ⟨pt_cmpR ho ha.pe hb.pe hm, sem_bl (sem_op hd ha.sem hb.sem)⟩
def dChain (f g : D → D → Sto → KD → Prop) (Ta Tb Tc : TD) : TD := fun Γ S Φ Ψ => Ta Γ S (fun S1 x => Tb Γ S1 (fun S2 y => f x y S2 fun S3 z => ∃ k, z = .bl k ∧ (if k = true then Tc Γ S3 (fun S4 u => g y u S4 Φ) Ψ else Φ S3 (.bl false))) Ψ) Ψ
theorem sem_chain {K : PySem.W.Frag} {r r' : R2} {f g : D → D → Sto → KD → Prop} (hd : OpD K r f) (hd' : OpD K r' g) (ha : SemE K W ta Ta) (hb : SemE K W tb Tb) (hc : SemE K W tc Tc) : SemE K W (tChain r r' ta tb tc) (dChain f g Ta Tb Tc) :=
  fun Γ S Φ Ψ σ w g0 sl h hx Q q => ha Γ S _ Ψ σ w g0 sl h hx _ fun v d w1 S1 e1 g1 r1 h1 =>
    hb Γ S1 _ Ψ σ w1 g1 (sl.ext e1) h1 (hx.ext e1) _ fun v2 d2 w2 S2 e2 g2 r2 h2 => hd w2 S2 v v2 d d2 _ _ g2 (e2.rp r1) r2 h2 fun z dz w3 S3 e3 g3 r3 ⟨k, ek, h3⟩ => by
      subst ek
      refine ⟨k, rv_bl r3, ?_⟩
      have e13 := (e1.trans e2).trans e3
      cases k with
      | true => exact hc Γ S3 _ Ψ σ w3 g3 (sl.ext e13) h3 (hx.ext e13) _ fun v4 d4 w4 S4 e4 g4 r4 h4 => hd' w4 S4 v2 v4 d2 d4 Φ Q g4 ((e3.trans e4).rp r2) r4 h4 (q.ext (e13.trans e4))
      | false => exact q (.bl false) (.bl false) w3 S3 e13 g3 (.bl false) h3
theorem je_chain {op op' : CmpOp} {r r' : R2} {f g : D → D → Sto → KD → Prop} (ho : OpR X (compareOp op) r) (ho' : OpR X (compareOp op') r') (hd : OpD X.K r f) (hd' : OpD X.K r' g) (ha : JE X W a ta Ta) (hb : JE X W b tb Tb) (hc : JE X W c tc Tc)
    (hm : lastMarks [op, op'] [b, c] = false := by with_unfolding_all rfl) : JE X W (.Compare a [op, op'] [b, c] pos) (tChain r r' ta tb tc) (dChain f g Ta Tb Tc) := ⟨pe_chain ho ho' ha.pe hb.pe hc.pe hm, sem_chain hd hd' ha.sem hb.sem hc.sem⟩
theorem jt_chain {op op' : CmpOp} {r r' : R2} {f g : D → D → Sto → KD → Prop} (ho : OpR X (compareOp op) r) (ho' : OpR X (compareOp op') r') (hd : OpD X.K r f) (hd' : OpD X.K r' g) (ha : JE X W a ta Ta) (hb : JE X W b tb Tb) (hc : JE X W c tc Tc)
    (hm : lastMarks [op, op'] [b, c] = false := by with_unfolding_all rfl) : JT X W (.Compare a [op, op'] [b, c] pos) (tTest (tChain r r' ta tb tc)) (bOf (dChain f g Ta Tb Tc)) := ⟨pt_chain ho ho' ha.pe hb.pe hc.pe hm, sem_bl (sem_chain hd hd' ha.sem hb.sem hc.sem)⟩
/-- a value as a test -/
theorem jt_val (h : JE X W e te Te) (he : ∀ whole, isTrue e X.env whole = (do let v ← whole; standAt e.pos; holding [v] (truthy v)) := by intro _; rfl) : JT X W e (tB te) (bOf Te) := ⟨pt_val h.pe he, sem_bl h.sem⟩
variable {t u : TT} {T U : TB} {rest : List Expr}
def bAnd (T U : TB) : TB := fun Γ S Φ Ψ => T Γ S (fun S1 k => if k = true then U Γ S1 Φ Ψ else Φ S1 false) Ψ
def bOr (T U : TB) : TB := fun Γ S Φ Ψ => T Γ S (fun S1 k => if k = true then Φ S1 true else U Γ S1 Φ Ψ) Ψ
def bNot (T : TB) : TB := fun Γ S Φ Ψ => T Γ S (fun S1 k => Φ S1 (!k)) Ψ
theorem sem_bAnd {K : PySem.W.Frag} (h1 : SemT K W t T) (h2 : SemT K W u U) : SemT K W (tAnd t u) (bAnd T U) := fun Γ S Φ Ψ σ w g sl h hx Q q =>
  h1 Γ S _ Ψ σ w g sl h hx _ fun k w1 S1 e1 g1 h3 => by
    cases k with
    | true => exact h2 Γ S1 Φ Ψ σ w1 g1 (sl.ext e1) h3 (hx.ext e1) Q (q.ext e1)
    | false => exact q false w1 S1 e1 g1 h3
theorem sem_bOr {K : PySem.W.Frag} (h1 : SemT K W t T) (h2 : SemT K W u U) : SemT K W (tOr t u) (bOr T U) := fun Γ S Φ Ψ σ w g sl h hx Q q =>
  h1 Γ S _ Ψ σ w g sl h hx _ fun k w1 S1 e1 g1 h3 => by
    cases k with
    | true => exact q true w1 S1 e1 g1 h3
    | false => exact h2 Γ S1 Φ Ψ σ w1 g1 (sl.ext e1) h3 (hx.ext e1) Q (q.ext e1)
theorem jw_and1 (h : JT X W a t T) : JW X W (.BoolOp .And [a] pos) t T := ⟨pw_and1 h.pt, h.sem⟩
theorem jw_or1 (h : JT X W a t T) : JW X W (.BoolOp .Or [a] pos) t T := ⟨pw_or1 h.pt, h.sem⟩
theorem jw_and (h : JT X W a t T) (h2 : JW X W (.BoolOp .And (b :: rest) pos) u U) : JW X W (.BoolOp .And (a :: b :: rest) pos) (tAnd t u) (bAnd T U) := ⟨pw_and h.pt h2.pw, sem_bAnd h.sem h2.sem⟩
theorem jw_or (h : JT X W a t T) (h2 : JW X W (.BoolOp .Or (b :: rest) pos) u U) : JW X W (.BoolOp .Or (a :: b :: rest) pos) (tOr t u) (bOr T U) := ⟨pw_or h.pt h2.pw, sem_bOr h.sem h2.sem⟩
theorem JW.jt (h : JW X W e t T) : JT X W e t T := ⟨h.pw.pt, h.sem⟩
theorem jt_not (h : JT X W a t T) : JT X W (.UnaryOp .Not a pos) (tNot t) (bNot T) := ⟨pt_not h.pt, fun Γ S Φ Ψ σ w g sl h2 hx Q q => h.sem Γ S _ Ψ σ w g sl h2 hx _ fun k w1 S1 e1 g1 h3 => q (!k) w1 S1 e1 g1 h3⟩
/-- as values -/
def dAnd (Ta Tb : TD) : TD := fun Γ S Φ Ψ => Ta Γ S (fun S1 x => ∃ k, x = .bl k ∧ if k = true then Tb Γ S1 Φ Ψ else Φ S1 (.bl false)) Ψ
def dOr (Ta Tb : TD) : TD := fun Γ S Φ Ψ => Ta Γ S (fun S1 x => ∃ k, x = .bl k ∧ if k = true then Φ S1 (.bl true) else Tb Γ S1 Φ Ψ) Ψ
def dNot (Ta : TD) : TD := fun Γ S Φ Ψ => Ta Γ S (fun S1 x => ∃ k, x = .bl k ∧ Φ S1 (.bl (!k))) Ψ
theorem je_one {op} (h : JE X W a ta Ta) : JE X W (.BoolOp op [a] pos) ta Ta := ⟨pe_one h.pe, h.sem⟩
theorem je_and (ha : JE X W a ta Ta) (hb : JE X W (.BoolOp .And (b :: rest) pos) tb Tb) : JE X W (.BoolOp .And (a :: b :: rest) pos) (tAndV ta tb) (dAnd Ta Tb) := ⟨pe_and ha.pe hb.pe, fun Γ S Φ Ψ σ w g sl h hx Q q =>
  ha.sem Γ S _ Ψ σ w g sl h hx _ fun v d w1 S1 e1 g1 r1 ⟨k, e, h1⟩ => by
    subst e
    refine ⟨k, rv_bl r1, ?_⟩
    cases k with
    | true => exact hb.sem Γ S1 Φ Ψ σ w1 g1 (sl.ext e1) h1 (hx.ext e1) Q (q.ext e1)
    | false => exact q (.bl false) (.bl false) w1 S1 e1 g1 (.bl false) h1⟩
theorem je_not (ha : JE X W a ta Ta) : JE X W (.UnaryOp .Not a pos) (tNotV ta) (dNot Ta) := ⟨pe_not ha.pe, fun Γ S Φ Ψ σ w g sl h hx Q q =>
  ha.sem Γ S _ Ψ σ w g sl h hx _ fun v d w1 S1 e1 g1 r1 ⟨k, e, h1⟩ => by
    subst e
    exact ⟨k, rv_bl r1, q (.bl (!k)) (.bl (!k)) w1 S1 e1 g1 (.bl (!k)) h1⟩⟩
def dIf (T : TB) (Ta Tb : TD) : TD := fun Γ S Φ Ψ => T Γ S (fun S1 k => if k = true then Ta Γ S1 Φ Ψ else Tb Γ S1 Φ Ψ) Ψ
theorem je_if (hc : JT X W c t T) (ha : JE X W a ta Ta) (hb : JE X W b tb Tb) : JE X W (.IfExp c a b pos) (tIf t ta tb) (dIf T Ta Tb) := ⟨pe_ifExp hc.pt ha.pe hb.pe, fun Γ S Φ Ψ σ w g sl h hx Q q =>
  hc.sem Γ S _ Ψ σ w g sl h hx _ fun k w1 S1 e1 g1 h3 => by
    cases k with
    | true => exact ha.sem Γ S1 Φ Ψ σ w1 g1 (sl.ext e1) h3 (hx.ext e1) Q (q.ext e1)
    | false => exact hb.sem Γ S1 Φ Ψ σ w1 g1 (sl.ext e1) h3 (hx.ext e1) Q (q.ext e1)⟩
variable {tl : TA} {Tl : TL}
def lNil : TL := fun _ S Φ _ => Φ S []
def lCons (T : TD) (U : TL) : TL := fun Γ S Φ Ψ => T Γ S (fun S1 x => U Γ S1 (fun S2 xs => Φ S2 (x :: xs)) Ψ) Ψ
theorem ja_nil : JA X W [] tNil lNil := ⟨pa_nil, fun Γ S Φ Ψ σ w g sl h hx Q q => q [] [] w S (Ext.refl w) g .nil h⟩
theorem ja_cons (ha : JE X W e te Te) (hr : JA X W es tl Tl) (hs : starEach (e :: es) X.env = (false, eval e X.env) :: starEach es X.env := by rfl) : JA X W (e :: es) (tCons te tl) (lCons Te Tl) := ⟨pa_cons ha.pe hr.pa hs, fun Γ S Φ Ψ σ w g sl h hx Q q =>
  ha.sem Γ S _ Ψ σ w g sl h hx _ fun v d w1 S1 e1 g1 r1 h1 => hr.sem Γ S1 _ Ψ σ w1 g1 (sl.ext e1) h1 (hx.ext e1) _ fun vs ds w2 S2 e2 g2 r2 h2 => q _ _ w2 S2 (e1.trans e2) g2 (.cons (e2.rp r1) r2) h2⟩
/-- a new frozen list, a new cell, a new tuple -/
def dLst (T : TL) : TD := fun Γ S Φ Ψ => T Γ S (fun S1 ds => ds.length ≤ sizeLine ∧ Φ S1 (.lst ds)) Ψ
def dLstO (T : TL) : TD := fun Γ S Φ Ψ => T Γ S (fun S1 ds => ds.length ≤ sizeLine ∧ Φ (S1 ++ [.lst ds]) (.own S1.length)) Ψ
def dTup (T : TL) : TD := fun Γ S Φ Ψ => T Γ S (fun S1 ds => ds.length ≤ sizeLine ∧ Φ S1 (.tup ds)) Ψ
theorem new_lst {K : PySem.W.Frag} {w : Hs} {S : Sto} (g : Good K w S) {Φ : KD} {Q : VK} (q : OkD K w Φ Q) {vs : List V} {ds : List D} (r : Ra K w vs ds) (h : Φ S (.lst ds)) (p : Addr) (hp : w.H p = none) : Q (.ref p) (upd w.H p (.lst vs)) :=
  q (.ref p) (.lst ds) (w.frz p (.lst vs)) S (Ext.frz g _ hp) (g.frz _ hp) (.lst upd_same ((Ext.frz g _ hp).ra r)) h
theorem new_own {K : PySem.W.Frag} {w : Hs} {S : Sto} (g : Good K w S) {Φ : KD} {Q : VK} (q : OkD K w Φ Q) {vs : List V} {ds : List D} (r : Ra K w vs ds) (h : Φ (S ++ [.lst ds]) (.own S.length)) (p : Addr) (hp : w.H p = none) : Q (.ref p) (upd w.H p (.lst vs)) :=
  q (.ref p) (.own S.length) (w.cel p (.lst vs)) (S ++ [.lst ds]) (Ext.cel g _ hp) (g.cel hp r) (.own (by
    show (w.al ++ [p])[S.length]? = some p
    rw [← g.len, List.getElem?_append_right (Nat.le_refl _), Nat.sub_self] <;> rfl)) h
theorem je_lst (h : JA X W es tl Tl) : JE X W (.List es pos) (tLst tl) (dLst Tl) := ⟨pe_lst h.pa, fun Γ S Φ Ψ σ w g sl hT hx Q q =>
  h.sem Γ S _ Ψ σ w g sl hT hx _ fun vs ds w1 S1 e1 g1 r1 ⟨z, h1⟩ => ⟨by rw [r1.length]; exact z, new_lst g1 (q.ext e1) r1 h1⟩⟩
theorem je_lstO (h : JA X W es tl Tl) : JE X W (.List es pos) (tLst tl) (dLstO Tl) := ⟨pe_lst h.pa, fun Γ S Φ Ψ σ w g sl hT hx Q q =>
  h.sem Γ S _ Ψ σ w g sl hT hx _ fun vs ds w1 S1 e1 g1 r1 ⟨z, h1⟩ => ⟨by rw [r1.length]; exact z, new_own g1 (q.ext e1) r1 h1⟩⟩
def CallD (K : PySem.W.Frag) (r : List V → Hp → VK → Prop) (f : List D → Sto → KD → Prop) : Prop :=
  ∀ w S vs ds Φ Q, Good K w S → Ra K w vs ds → f ds S Φ → OkD K w Φ Q → r vs w.H Q
def dCB (f : List D → Sto → KD → Prop) (T : TL) : TD := fun Γ S Φ Ψ => T Γ S (fun S1 ds => f ds S1 Φ) Ψ
theorem sem_cb {K : PySem.W.Frag} {r : List V → Hp → VK → Prop} {f : List D → Sto → KD → Prop} (hd : CallD K r f) (h : SemA K W tl Tl) : SemE K W (tCB r tl) (dCB f Tl) := fun Γ S Φ Ψ σ w g sl hT hx Q q =>
  h Γ S _ Ψ σ w g sl hT hx _ fun vs ds w1 S1 e1 g1 r1 h1 => hd w1 S1 vs ds Φ Q g1 r1 h1 (q.ext e1)
theorem je_callB {id : String} {x : Str} {p : Pos} {r : List V → Hp → VK → Prop} {f : List D → Sto → KD → Prop} (hc : CallR X (.builtin id) r) (hd : CallD X.K r f) (hg : Gl X x) (hm : X.mg x = none) (hv : bootBuiltins x = some (.builtin id)) (ha : JA X W (e :: es) tl Tl)
    (hn : x ≠ "__name__" := by decide) (hdb : (x == ("__debug__" : Str)) = false := by decide)
    (he : starEach (e :: es) X.env = (false, eval e X.env) :: starEach es X.env := by rfl) (hpl : (backTo pos (starEach es X.env)).any (·.1) = false := by rfl) : JE X W (.Call (.Name x p) (e :: es) [] pos) (tCB r tl) (dCB f Tl) :=
  ⟨pe_callB hc hg hm hv ha.pa hn hdb he hpl, sem_cb hd ha.sem⟩
theorem je_callTy {n : String} {x : Str} {p : Pos} {r : List V → Hp → VK → Prop} {f : List D → Sto → KD → Prop} (hc : CallR X (.type n) r) (hd : CallD X.K r f) (hg : Gl X x) (hm : X.mg x = none) (hv : bootBuiltins x = some (.type n)) (ha : JA X W (e :: es) tl Tl)
    (hn : x ≠ "__name__" := by decide) (hdb : (x == ("__debug__" : Str)) = false := by decide)
    (he : starEach (e :: es) X.env = (false, eval e X.env) :: starEach es X.env := by rfl) (hpl : (backTo pos (starEach es X.env)).any (·.1) = false := by rfl) : JE X W (.Call (.Name x p) (e :: es) [] pos) (tCB r tl) (dCB f Tl) :=
  ⟨pe_callTy hc hg hm hv ha.pa hn hdb he hpl, sem_cb hd ha.sem⟩
/-- what a def promises of data -/
abbrev DSpec := List D → Sto → KD → KX → Prop
def spOf (K : PySem.W.Frag) (sp : DSpec) : Sp := fun vs H Q E => ∃ w S ds Φ Ψ, w.H = H ∧ Good K w S ∧ Ra K w vs ds ∧ sp ds S Φ Ψ ∧ OkD K w Φ Q ∧
  ∀ cv dx x w' S', Ext w w' → Good K w' S' → RpX K w' cv dx x → Ψ S' x → E cv dx w'.H
def dCall (sp : DSpec) (T : TL) : TD := fun Γ S Φ Ψ => T Γ S (fun S1 ds => sp ds S1 Φ Ψ) Ψ
theorem sem_call {K : PySem.W.Frag} {sp : DSpec} (h : SemA K W tl Tl) : SemE K W (tCallS (spOf K sp) (WE W) tl) (dCall sp Tl) := fun Γ S Φ Ψ σ w g sl hT hx Q q =>
  h Γ S _ Ψ σ w g sl hT hx _ fun vs ds w1 S1 e1 g1 r1 h1 => ⟨w1, S1, ds, Φ, Ψ, rfl, g1, r1, h1, q.ext e1, fun cv dx x w' S' e g r hΨ => hx.ext e1 cv dx x w' S' e g r hΨ⟩
theorem je_ix {r : R2} {f : D → D → Sto → KD → Prop} (hr : IxR X r) (hd : OpD X.K r f) (ha : JE X W a ta Ta) (hb : JE X W b tb Tb) (hs : PlainIx b := by exact fun _ _ => rfl) : JE X W (.Subscript a b pos) (tOp r ta tb) (dOp f Ta Tb) := ⟨pe_ix hr ha.pe hb.pe hs, sem_op hd ha.sem hb.sem⟩
structure JO (X : Cx) (W : WX) (e : Option Expr) (t : TO) (T : Gam → Sto → (Sto → Option Int → Prop) → KX → Prop) : Prop where
  po : PO X e t
  sem : ∀ Γ S Φ Ψ σ w, Good X.K w S → Slots X.K w σ Γ → T Γ S Φ Ψ → OkX X.K W w Ψ σ → ∀ Q : Option Int → Hp → Prop, (∀ o w' S', Ext w w' → Good X.K w' S' → Φ S' o → Q o w'.H) → t σ w.H Q
abbrev TOd := Gam → Sto → (Sto → Option Int → Prop) → KX → Prop
def oNone : TOd := fun _ S Φ _ => Φ S none
def oSome (T : TD) : TOd := fun Γ S Φ Ψ => T Γ S (fun S1 d => ∃ i, d = .int i ∧ Φ S1 (some i)) Ψ
theorem jo_none : JO X W none tNoPart oNone := ⟨po_none, fun Γ S Φ Ψ σ w g sl h hx Q q => q none w S (Ext.refl w) g h⟩
theorem jo_some (h : JE X W e te Te) : JO X W (some e) (tPart te) (oSome Te) := ⟨po_some h.pe, fun Γ S Φ Ψ σ w g sl hT hx Q q =>
  h.sem Γ S _ Ψ σ w g sl hT hx _ fun v d w1 S1 e1 g1 r1 ⟨i, ei, h1⟩ => by
    subst ei
    exact ⟨i, rv_int r1, q _ w1 S1 e1 g1 h1⟩⟩
def SlD (K : PySem.W.Frag) (r : V → Option Int → Option Int → Hp → VK → Prop) (f : D → Option Int → Option Int → Sto → KD → Prop) : Prop :=
  ∀ w S v d lo hi Φ Q, Good K w S → Rv K w v d → f d lo hi S Φ → OkD K w Φ Q → r v lo hi w.H Q
def dSl (f : D → Option Int → Option Int → Sto → KD → Prop) (T : TD) (Tl Th : TOd) : TD := fun Γ S Φ Ψ => T Γ S (fun S1 d => Tl Γ S1 (fun S2 lo => Th Γ S2 (fun S3 hi => f d lo hi S3 Φ) Ψ) Ψ) Ψ
theorem je_slice {r : V → Option Int → Option Int → Hp → VK → Prop} {f : D → Option Int → Option Int → Sto → KD → Prop} {lo hi : Option Expr} {p2 : Pos} {tlo thi : TO} {Tlo Thi : TOd} (hr : SlR X r) (hd : SlD X.K r f) (he : JE X W e te Te) (hl : JO X W lo tlo Tlo) (hh : JO X W hi thi Thi) :
    JE X W (.Subscript e (.Slice lo hi none p2) pos) (tSl r te tlo thi) (dSl f Te Tlo Thi) := ⟨pe_slice hr he.pe hl.po hh.po, fun Γ S Φ Ψ σ w g sl hT hx Q q =>
  he.sem Γ S _ Ψ σ w g sl hT hx _ fun v d w1 S1 e1 g1 r1 h1 => hl.sem Γ S1 _ Ψ σ w1 g1 (sl.ext e1) h1 (hx.ext e1) _ fun lo w2 S2 e2 g2 h2 =>
    hh.sem Γ S2 _ Ψ σ w2 g2 (sl.ext (e1.trans e2)) h2 (hx.ext (e1.trans e2)) _ fun hi w3 S3 e3 g3 h3 => hd w3 S3 v d lo hi Φ Q g3 ((e2.trans e3).rp r1) h3 (q.ext ((e1.trans e2).trans e3))⟩
end
end DL
namespace DL
open PySem PySem.Spec PyProof.Rows L2
structure EdD where
  nx : Gam → Sto → Prop
  rt : Sto → D → Prop
  bk : Gam → Sto → Prop := fun _ _ => False
  ct : Gam → Sto → Prop := fun _ _ => False
  er : Sto → Exn → Prop
abbrev TSd := EdD → Gam → Sto → Prop
section
variable (K : PySem.W.Frag) (W : WX)
def OkN (w : Hs) (P : Gam → Sto → Prop) (Q : L2.St → Hp → Prop) : Prop := ∀ σ' Γ' w' S', Ext w w' → Good K w' S' → Slots K w' σ' Γ' → P Γ' S' → Q σ' w'.H
/-- what the ends by data give the ends -/
structure Rl (w : Hs) (D' : EdD) (D : Ends) : Prop where
  nx : OkN K w D'.nx D.nx
  rt : OkD K w D'.rt D.rt
  bk : OkN K w D'.bk D.bk
  ct : OkN K w D'.ct D.ct
  er : ∀ σ, OkX K W w D'.er σ
def SemS (t : TS) (T : TSd) : Prop := ∀ D' Γ S σ w D, Good K w S → Slots K w σ Γ → T D' Γ S → Rl K W w D' D → t D σ w.H
end
section
variable {K : PySem.W.Frag} {W : WX} {w w' : Hs}
theorem OkN.ext {P : Gam → Sto → Prop} {Q : L2.St → Hp → Prop} (h : OkN K w P Q) (e : Ext w w') : OkN K w' P Q := fun σ Γ w2 S' e2 => h σ Γ w2 S' (e.trans e2)
theorem Rl.ext {D' : EdD} {D : Ends} (h : Rl K W w D' D) (e : Ext w w') : Rl K W w' D' D := ⟨h.nx.ext e, h.rt.ext e, h.bk.ext e, h.ct.ext e, fun σ => (h.er σ).ext e⟩
end
structure JS (X : Cx) (W : WX) (st : Stmt) (t : TS) (T : TSd) : Prop where
  ps : PS X st t
  sem : SemS X.K W t T
structure JB (X : Cx) (W : WX) (st : List Stmt) (t : TS) (T : TSd) : Prop where
  pss : PSs X st t
  sem : SemS X.K W t T
section
variable {X : Cx} {W : WX} {e a b c : Expr} {es : List Expr} {pos : Pos} {ta tb tc te : TE} {Ta Tb Tc Te : TD} {st : Stmt} {rest : List Stmt} {t u : TS} {T U : TSd}
def sNext : TSd := fun D Γ S => D.nx Γ S
def sSeq (T U : TSd) : TSd := fun D Γ S => T { D with nx := U D } Γ S
theorem jb_nil : JB X W [] tNext sNext := ⟨pss_nil, fun D' Γ S σ w D g sl h r => r.nx σ Γ w S (Ext.refl w) g sl h⟩
theorem jb_cons (h1 : JS X W st t T) (h2 : JB X W rest u U) : JB X W (st :: rest) (tSeq t u) (sSeq T U) := ⟨pss_cons h1.ps h2.pss, fun D' Γ S σ w D g sl h r =>
  h1.sem { D' with nx := U D' } Γ S σ w { D with nx := u D } g sl h ⟨fun σ' Γ' w' S' e' g' sl' h' => h2.sem D' Γ' S' σ' w' D g' sl' h' (r.ext e'), r.rt, r.bk, r.ct, r.er⟩⟩
theorem jb_one (h1 : JS X W st t T) : JB X W [st] t T := ⟨pss_one h1.ps, h1.sem⟩
def sBrk : TSd := fun D Γ S => D.bk Γ S
def sCnt : TSd := fun D Γ S => D.ct Γ S
def sDrop (T : TD) : TSd := fun D Γ S => T Γ S (fun S1 _ => D.nx Γ S1) D.er
theorem js_expr (he : JE X W e te Te) (hs : swapsWith e none pos.line X.env = pure false := by rfl) : JS X W (.Expr e pos) (tDrop te) (sDrop Te) := ⟨ps_expr he.pe hs, fun D' Γ S σ w D g sl h r =>
  he.sem Γ S _ _ σ w g sl h (r.er σ) _ fun v d w' S' e' g' _ h' => r.nx σ Γ w' S' e' g' (sl.ext e') h'⟩
def sRet (T : TD) : TSd := fun D Γ S => T Γ S D.rt D.er
theorem js_ret (he : JE X W e te Te) : JS X W (.Return (some e) pos) (tRet te) (sRet Te) := ⟨ps_ret he.pe, fun D' Γ S σ w D g sl h r => he.sem Γ S _ _ σ w g sl h (r.er σ) _ r.rt⟩
def sRetN : TSd := fun D _ S => D.rt S .non
def sIf (C : TB) (T U : TSd) : TSd := fun D Γ S => C Γ S (fun S1 k => if k = true then T D Γ S1 else U D Γ S1) D.er
theorem js_if {A B : List Stmt} {tt : TT} {C : TB} (hc : JT X W c tt C) (ha : JB X W A t T) (hb : JB X W B u U) : JS X W (.If c A B pos) (tIfS tt t u) (sIf C T U) := ⟨ps_if hc.pt ha.pss hb.pss, fun D' Γ S σ w D g sl h r =>
  hc.sem Γ S _ _ σ w g sl h (r.er σ) _ fun k w' S' e' g' h' => by
    cases k with
    | true => exact ha.sem D' Γ S' σ w' D g' (sl.ext e') h' (r.ext e')
    | false => exact hb.sem D' Γ S' σ w' D g' (sl.ext e') h' (r.ext e')⟩
abbrev TGd := D → Gam → Sto → (Gam → Sto → Prop) → Prop
def SemG (K : PySem.W.Frag) (t : TG) (T : TGd) : Prop := ∀ d Γ S v σ w P Q, Good K w S → Slots K w σ Γ → Rv K w v d → T d Γ S P → OkN K w P Q → t v σ w.H Q
structure JG (X : Cx) (tg : Expr) (t : TG) (T : TGd) : Prop where
  pg : PG X tg t
  sem : SemG X.K t T
abbrev TGs' := List D → Gam → Sto → (Gam → Sto → Prop) → Prop
def nmG (i : Nat) : TGd := fun d Γ S P => P (Γ.set i (some d)) S
theorem jg_name (i : Nat) {x : Str} (hN : X.N.Nodup) (hi : X.N[i]? = some x := by rfl) (hx : Loc X.env.scope x := by first | exact Or.inl rfl | exact Or.inr rfl) (hf : X.fn x = true ∨ X.env.scope.names.lookup x = some .local := by first | exact .inl rfl | exact .inr rfl | assumption) : JG X (.Name x pos) (gName i) (nmG i) :=
  ⟨pg_name hN hi hx hf, fun d Γ S v σ w P Q g sl r h q => q _ _ w S (Ext.refl w) g (sl.set r i) h⟩
def gsNil : TGs' := fun ds Γ S P => ds = [] ∧ P Γ S
def gsCons (T : TGd) (U : TGs') : TGs' := fun ds Γ S P => ∃ d r, ds = d :: r ∧ T d Γ S fun Γ' S' => U r Γ' S' P
def tupG (n : Nat) (T : TGs') : TGd := fun d Γ S P => ∃ ds, d = .tup ds ∧ ds.length = n ∧ T ds Γ S P
/-- o[i] = v -/
def TSetD (K : PySem.W.Frag) (t : TSet) (f : D → D → D → Sto → (Sto → Prop) → Prop) : Prop := ∀ w S o i v do_ di dv P Q, Good K w S → Rv K w o do_ → Rv K w i di → Rv K w v dv → f do_ di dv S P → (∀ w' S', Ext w w' → Good K w' S' → P S' → Q w'.H) → t o i v w.H Q
def subG (f : D → D → D → Sto → (Sto → Prop) → Prop) (To Ti : TD) : TGd := fun d Γ S P => To Γ S (fun S1 o => Ti Γ S1 (fun S2 i => f o i d S2 fun S3 => P Γ S3) fun _ _ => False) fun _ _ => False
theorem jg_sub {o i : Expr} {to ti : TE} {To Ti : TD} {ts : TSet} {f : D → D → D → Sto → (Sto → Prop) → Prop} (ho : JE X (fun _ _ _ _ => False) o to To) (hi : JE X (fun _ _ _ _ => False) i ti Ti) (hs : PSet X ts) (hd : TSetD X.K ts f)
    (hha : ∀ v, assign (.Subscript o i pos) X.env v = (do
      let ov ← holding [v] (eval o X.env)
      let iv ← holding [v, ov] (eval i X.env)
      standAt pos
      holding [v, ov, iv] (setItem ov iv v)
      release [v, ov, iv] []) := by intro _; rfl) : JG X (.Subscript o i pos) (gSub to ti ts) (subG f To Ti) :=
  ⟨pg_sub ho.pe hi.pe hs hha, fun d Γ S v σ w P Q g sl r h q => ho.sem Γ S _ _ σ w g sl h (fun _ _ _ _ _ _ _ _ z => z) _ fun vo do_ w1 S1 e1 g1 r1 h1 =>
    hi.sem Γ S1 _ _ σ w1 g1 (sl.ext e1) h1 (fun _ _ _ _ _ _ _ _ z => z) _ fun vi di w2 S2 e2 g2 r2 h2 =>
      hd w2 S2 vo vi v do_ di d _ _ g2 (e2.rp r1) r2 ((e1.trans e2).rp r) h2 fun w3 S3 e3 g3 h3 => q σ Γ w3 S3 ((e1.trans e2).trans e3) g3 (sl.ext ((e1.trans e2).trans e3)) h3⟩
def sAsg (T : TD) (G : TGd) : TSd := fun D Γ S => T Γ S (fun S1 d => G d Γ S1 D.nx) D.er
theorem sem_asg {K : PySem.W.Frag} {g : TG} {G : TGd} (he : SemE K W te Te) (hg : SemG K g G) : SemS K W (tAsg te g) (sAsg Te G) := fun D' Γ S σ w D g0 sl h r =>
  he Γ S _ _ σ w g0 sl h (r.er σ) _ fun v d w1 S1 e1 g1 r1 h1 => hg d Γ S1 v σ w1 D'.nx D.nx g1 (sl.ext e1) r1 h1 (r.nx.ext e1)
theorem js_asg {tg : Expr} {g : TG} {G : TGd} (he : JE X W e te Te) (hg : JG X tg g G) (hs : swapsWithSole [tg] e pos.line X.env = pure false := by rfl) (hw : swappedStores [tg] e X.env = pure none := by rfl)
    (h1 : (assignEach [tg] X.env).map (·.2) = [assign tg X.env] := by rfl) : JS X W (.Assign [tg] e pos) (tAsg te g) (sAsg Te G) :=
  ⟨ps_asg he.pe hg.pg hs hw h1, sem_asg he.sem hg.sem⟩
theorem sem_nmG {K : PySem.W.Frag} (i : Nat) : SemG K (gName i) (nmG i) := fun d Γ S v σ w P Q g sl r h q => q _ _ w S (Ext.refl w) g (sl.set r i) h
theorem js_set (i : Nat) {x : Str} {pos' : Pos} (hN : X.N.Nodup) (he : JE X W e te Te) (hi : X.N[i]? = some x := by rfl) (hx : Loc X.env.scope x := by first | exact Or.inl rfl | exact Or.inr rfl) (hs : swapsWith e (some (.Name x pos')) pos.line X.env = pure false := by rfl)
    (hf : X.fn x = true ∨ X.env.scope.names.lookup x = some .local := by first | exact .inl rfl | exact .inr rfl | assumption) : JS X W (.Assign [.Name x pos'] e pos) (tAsg te (gName i)) (sAsg Te (nmG i)) := ⟨ps_set hN hi hx he.pe hs hf, sem_asg he.sem (sem_nmG i)⟩
/-- a, b = e1, e2 -/
def sPar (i j : Nat) (T : TL) : TSd := fun D Γ S => T Γ S (fun S1 ds => ∃ x y, ds = [x, y] ∧ D.nx ((Γ.set i (some x)).set j (some y)) S1) D.er
theorem sem_par {K : PySem.W.Frag} {i j : Nat} {tl : TA} {Tl : TL} (h : SemA K W tl Tl) : SemS K W (tPar i j tl) (sPar i j Tl) := fun D' Γ S σ w D g sl hT r =>
  h Γ S _ _ σ w g sl hT (r.er σ) _ fun vs ds w1 S1 e1 g1 r1 ⟨x, y, e, h1⟩ => by
    subst e
    cases r1 with
    | cons ra rb =>
      cases rb with
      | cons rc rd =>
        cases rd
        exact ⟨_, _, rfl, r.nx _ _ w1 S1 e1 g1 (((sl.ext e1).set ra i).set rc j) h1⟩
theorem js_par (i j : Nat) {x y : Str} {px py pt : Pos} {kt k2 pt2} {tl : TA} {Tl : TL} (hc : X.calm = true) (hN : X.N.Nodup) (ha : JA X W [a, b] tl Tl) (hij : i ≠ j := by decide) (hi : X.N[i]? = some x := by rfl) (hj : X.N[j]? = some y := by rfl)
    (hx : X.env.scope.names.lookup x = some .local := by rfl) (hy : X.env.scope.names.lookup y = some .local := by rfl)
    (hw : swappedStores [.Tuple [.Name x px, .Name y py] kt pt] (.Tuple [a, b] k2 pt2) X.env = pure (some [x, y]) := by rfl)
    (hs : swapsWithSole [.Tuple [.Name x px, .Name y py] kt pt] (.Tuple [a, b] k2 pt2) pos.line X.env = pure false := by rfl) :
    JS X W (.Assign [.Tuple [.Name x px, .Name y py] kt pt] (.Tuple [a, b] k2 pt2) pos) (tPar i j tl) (sPar i j Tl) := ⟨ps_par hc hN hi hj hij hx hy ha.pa hw hs, sem_par ha.sem⟩
/-- x += e -/
def sAug (i : Nat) (T : TD) (f : D → D → Sto → KD → Prop) : TSd := fun D Γ S => ∃ d, Γ[i]? = some (some d) ∧ T Γ S (fun S1 y => f d y S1 fun S2 z => D.nx (Γ.set i (some z)) S2) D.er
/-- the items behind a source, by the cells -/
abbrev Src := Sto → Option (List D)
def SrcOk (K : PySem.W.Frag) (w0 : Hs) (J : It) (src : Src) : Prop := ∀ w S ds i, Ext w0 w → Good K w S → src S = some ds →
  (∀ d, ds[i]? = some d → J.go i w.H ∧ ∀ x H', J.yld i w.H x H' → ∃ w', Ext w w' ∧ Good K w' S ∧ w'.H = H' ∧ Rv K w' x d) ∧ (ds.length ≤ i → J.stop i w.H)
abbrev TId := Gam → Sto → (Sto → Src → Prop) → KX → Prop
def SemI (K : PySem.W.Frag) (W : WX) (t : TI) (T : TId) : Prop := ∀ Γ S Φ Ψ σ w, Good K w S → Slots K w σ Γ → T Γ S Φ Ψ → OkX K W w Ψ σ → ∀ Q : It → Hp → Prop, (∀ J src w' S', Ext w w' → Good K w' S' → SrcOk K w' J src → Φ S' src → Q J w'.H) → t σ w.H Q
structure JI (X : Cx) (W : WX) (tg iter : Expr) (t : TI) (T : TId) : Prop where
  pi : PI X tg iter t
  sem : SemI X.K W t T
/-- for: n turns, P the invariant -/
def sFor (I : TId) (G : TGd) (B : TSd) : TSd := fun D Γ S => I Γ S (fun S1 src => ∃ (P : Nat → Gam → Sto → Prop) (n : Nat), P 0 Γ S1 ∧
  (∀ i Γ' S', i ≤ n → P i Γ' S' → ∃ ds, src S' = some ds ∧ ds.length = n) ∧
  (∀ i Γ' S' ds d, P i Γ' S' → src S' = some ds → ds[i]? = some d → G d Γ' S' fun Γ2 S2 => B { D with nx := P (i + 1), ct := P (i + 1), bk := D.nx } Γ2 S2) ∧
  (∀ Γ' S', P n Γ' S' → D.nx Γ' S')) D.er
theorem sem_for {K : PySem.W.Frag} {wi : TI} {g : TG} {tb : TS} {I : TId} {G : TGd} {B : TSd} (hi : SemI K W wi I) (hg : SemG K g G) (hb : SemS K W tb B) : SemS K W (tFor wi g tb) (sFor I G B) := fun D' Γ S σ w D g0 sl h r =>
  hi Γ S _ _ σ w g0 sl h (r.er σ) _ fun J src w1 S1 e1 g1 ok ⟨P, n, h0, hl, hs, hd⟩ => by
    refine ⟨fun i m σ' H' => m + i = n ∧ ∃ w' Γ' S', H' = w'.H ∧ Ext w1 w' ∧ Good K w' S' ∧ Slots K w' σ' Γ' ∧ P i Γ' S', ⟨n, by omega, w1, Γ, S1, rfl, Ext.refl w1, g1, sl.ext e1, h0⟩, ?_⟩
    rintro i m σ' H' ⟨hm, w', Γ', S', rfl, e', g', sl', p⟩
    obtain ⟨ds, hsrc, hlen⟩ := hl i Γ' S' (by omega) p
    have q := ok w' S' ds i e' g' hsrc
    by_cases hlt : i < n
    · have hx : ds[i]? = some ds[i] := List.getElem?_eq_getElem (by omega)
      obtain ⟨hgo, hy⟩ := q.1 _ hx
      refine .inr ⟨hgo, fun σ2 H2 => ∃ w2 Γ2 S2, H2 = w2.H ∧ Ext w1 w2 ∧ Good K w2 S2 ∧ Slots K w2 σ2 Γ2 ∧ P (i + 1) Γ2 S2, ?_, ?_⟩
      · rintro σ2 H2 ⟨w2, Γ2, S2, rfl, e2, g2, sl2, p2⟩
        exact ⟨m - 1, by omega, by omega, w2, Γ2, S2, rfl, e2, g2, sl2, p2⟩
      · intro x H2 hyl
        obtain ⟨w2, e2, g2, rfl, r2⟩ := hy x H2 hyl
        have e12 := e'.trans e2
        refine hg _ Γ' S' x σ' w2 _ _ g2 (sl'.ext e2) r2 (hs i Γ' S' ds _ p hsrc hx) fun σ3 Γ3 w3 S3 e3 g3 sl3 h3 => ?_
        have e13 := e12.trans e3
        refine hb _ Γ3 S3 σ3 w3 _ g3 sl3 h3 ⟨fun σ4 Γ4 w4 S4 e4 g4 sl4 h4 => ⟨w4, Γ4, S4, rfl, e13.trans e4, g4, sl4, h4⟩, (r.ext (e1.trans e13)).rt, (r.ext (e1.trans e13)).nx, fun σ4 Γ4 w4 S4 e4 g4 sl4 h4 => ⟨w4, Γ4, S4, rfl, e13.trans e4, g4, sl4, h4⟩, (r.ext (e1.trans e13)).er⟩
    · have hin : i = n := by omega
      subst hin
      exact .inl ⟨q.2 (by omega), r.nx σ' Γ' w' S' (e1.trans e') g' sl' (hd Γ' S' p)⟩
theorem js_for {tg iter : Expr} {body : List Stmt} {wi : TI} {g : TG} {tb : TS} {I : TId} {G : TGd} {B : TSd} (hp : PassesOwn (model X.prog X.w) X.A X.env X.xe) (hc : X.calm = true) (hi : JI X W tg iter wi I) (hg : JG X tg g G) (hb : JB X W body tb B) (hs : ∀ x, foldedSetIterable iter X.env x = pure x := by intro _; rfl) :
    JS X W (.For tg iter body [] pos) (tFor wi g tb) (sFor I G B) := ⟨ps_for hp hc hi.pi hg.pg hb.pss hs, sem_for hi.sem hg.sem hb.sem⟩
def gstart (N : List Str) (ds : List D) : Gam := ds.map some ++ List.replicate (N.length - ds.length) none
theorem slots_start {K : PySem.W.Frag} {w : Hs} {N : List Str} {vs : List V} {ds : List D} (r : Ra K w vs ds) : Slots K w (L2.start N vs) (gstart N ds) := by
  refine ⟨by simp [L2.start, gstart, r.length], fun i d h => ?_⟩
  unfold gstart at h
  by_cases hi : i < ds.length
  · rw [List.getElem?_append_left (by simpa using hi), List.getElem?_map] at h
    cases q : ds[i]? with
    | none => rw [q] at h; cases h
    | some d' =>
      rw [q] at h; cases h
      obtain ⟨v, h1, h2⟩ := r.get q
      refine ⟨v, ?_, h2⟩
      unfold L2.start
      rw [List.getElem?_append_left (by rw [List.length_map]; exact (List.getElem?_eq_some_iff.mp h1).1), List.getElem?_map, h1] <;> rfl
  · rw [List.getElem?_append_right (by simpa using hi)] at h
    rw [List.getElem?_replicate] at h
    split at h <;> cases h
/-- the wish of a def's body -/
abbrev WD (E : XK) : WX := fun cv dx _ H => E cv dx H
structure JTs (X : Cx) (ifs : List Expr) (t : TT) (T : TB) : Prop where
  pts : PTs X ifs t
  sem : SemT X.K (fun _ _ _ _ => False) t T
def bYes : TB := fun _ S Φ _ => Φ S true
theorem jts_nil : JTs X [] tYes bYes := ⟨pts_nil, fun Γ S Φ Ψ σ w g sl h hx Q q => q true w S (Ext.refl w) g h⟩
/-- [elt for tg in iter if ..]: P by the turn, the cells and what is made so far -/
def dLc (I : TId) (G : TGd) (C : TB) (Te : TD) (vs : List Nat) (Fin : List D → Sto → KD → Prop) : TD := fun Γ S Φ Ψ => I Γ S (fun S1 src => ∃ (P : Nat → List D → Sto → Prop) (n : Nat), n ≤ sizeLine ∧ P 0 [] S1 ∧
  (∀ i acc S', i ≤ n → P i acc S' → ∃ ds, src S' = some ds ∧ ds.length = n) ∧
  (∀ i acc S' ds d, P i acc S' → src S' = some ds → ds[i]? = some d → G d (gwipe Γ vs) S' fun Γ2 S2 => C Γ2 S2 (fun S3 k => if k = true then Te Γ2 S3 (fun S4 y => P (i + 1) (acc ++ [y]) S4) (fun _ _ => False) else P (i + 1) acc S3) (fun _ _ => False)) ∧
  (∀ acc S', P n acc S' → Fin acc S' Φ)) Ψ
def finF : List D → Sto → KD → Prop := fun acc S Φ => Φ S (.lst acc)
def finO : List D → Sto → KD → Prop := fun acc S Φ => Φ (S ++ [.lst acc]) (.own S.length)
def FinOk (Fin : List D → Sto → KD → Prop) : Prop := ∀ (K : PySem.W.Frag) (w : Hs) (S : Sto) (acc : List D) (Φ : KD) (p : Addr) (xs : List V) (Q : V → Hp → Prop), Good K w S → w.H p = some (.lst xs) → w.F p = none → p ∉ w.al → Ra K w xs acc → Fin acc S Φ →
  (∀ v d w' S', (∀ a o, w.F a = some o → w'.F a = some o) → (∀ a o, w'.F a = some o → w.F a = some o ∨ a = p) → (w'.al = w.al ∨ w'.al = w.al ++ [p]) → w'.H = w.H → Good K w' S' → Rv K w' v d → Φ S' d → Q v w'.H) → Q (.ref p) w.H
theorem finF_ok : FinOk finF := by
  intro K w S acc Φ p xs Q g hH hF hA r h q
  let w' : Hs := ⟨upd w.F p (.lst xs), w.al, w.H⟩
  have up : ∀ a o, w.F a = some o → w'.F a = some o := updF hF
  have ra : Ra K w' xs acc := RpA.mono up (fun _ _ z => z) acc xs r
  refine q (.ref p) (.lst acc) w' S up (fun a o e => ?_) (.inl rfl) rfl ⟨fun a o e => ?_, g.nd, g.len, fun n a c q1 q2 => ?_, g.dom⟩ (.lst upd_same ra) h
  · by_cases z : a = p
    · exact .inr z
    · have e2 : upd w.F p (.lst xs) a = some o := e
      rw [upd_ne z] at e2
      exact .inl e2
  · have e2 : upd w.F p (.lst xs) a = some o := e
    by_cases z : a = p
    · subst z; rw [upd_same] at e2; cases e2; exact hH
    · rw [upd_ne z] at e2; exact g.sub a o e2
  · have hne : a ≠ p := fun z => hA (z ▸ List.mem_of_getElem? q1)
    cases c with
    | gone => exact True.intro
    | lst ds =>
      obtain ⟨h1, ys, h2, h3⟩ := g.cell n a _ q1 q2
      exact ⟨by show upd w.F p _ a = none; rw [upd_ne hne]; exact h1, ys, h2, RpA.mono up (fun _ _ z => z) ds ys h3⟩
    | ins C fs =>
      obtain ⟨h1, dx, ys, h2, h3⟩ := g.cell n a _ q1 q2
      exact ⟨by show upd w.F p _ a = none; rw [upd_ne hne]; exact h1, dx, ys, h2, RpF.mono up (fun _ _ z => z) fs ys h3⟩
    | dct ks =>
      obtain ⟨h1, us, h2, h3⟩ := g.cell n a _ q1 q2
      exact ⟨by show upd w.F p _ a = none; rw [upd_ne hne]; exact h1, us, h2, h3.mono up (fun _ _ z => z)⟩
    | dck ks =>
      obtain ⟨h1, us, h2, h3⟩ := g.cell n a _ q1 q2
      exact ⟨by show upd w.F p _ a = none; rw [upd_ne hne]; exact h1, us, h2, RpK.mono up (fun _ _ z => z) ks us h3⟩
    | lck o us ks =>
      obtain ⟨h1, h2, h3⟩ := g.cell n a _ q1 q2
      exact ⟨by show upd w.F p _ a = none; rw [upd_ne hne]; exact h1, h2, RpK.mono up (fun _ _ z => z) ks us h3⟩
    | tpl ks =>
      obtain ⟨h1, h2⟩ := g.cell n a _ q1 q2
      exact ⟨by show upd w.F p _ a = none; rw [upd_ne hne]; exact h1, h2⟩
theorem finO_ok : FinOk finO := by
  intro K w S acc Φ p xs Q g hH hF hA r h q
  let w' : Hs := ⟨w.F, w.al ++ [p], w.H⟩
  have am : ∀ (n : Nat) (a : Addr), w.al[n]? = some a → w'.al[n]? = some a := fun n a z => by
    show (w.al ++ [p])[n]? = some a
    rw [List.getElem?_append_left (List.getElem?_eq_some_iff.mp z).1]; exact z
  have ra : Ra K w' xs acc := RpA.mono (fun _ _ z => z) am acc xs r
  refine q (.ref p) (.own S.length) w' (S ++ [Cell.lst acc]) (fun _ _ z => z) (fun _ _ z => .inl z) (.inr rfl) rfl ⟨g.sub, ?_, ?_, fun n a c q1 q2 => ?_, fun a z => ?_⟩ (.own ?_) h
  · show (w.al ++ [p]).Nodup
    rw [List.nodup_append]
    exact ⟨g.nd, by simp, fun a ha b hb => by rw [List.mem_singleton.mp hb]; exact fun z => hA (z ▸ ha)⟩
  · show (w.al ++ [p]).length = _
    rw [List.length_append, List.length_append, g.len] <;> rfl
  · have q1 : (w.al ++ [p])[n]? = some a := q1
    by_cases hn : n < w.al.length
    · rw [List.getElem?_append_left hn] at q1
      rw [List.getElem?_append_left (by rw [← g.len]; exact hn)] at q2
      cases c with
      | gone => exact True.intro
      | lst ds =>
        obtain ⟨h1, ys, h2, h3⟩ := g.cell n a _ q1 q2
        exact ⟨h1, ys, h2, RpA.mono (fun _ _ z => z) am ds ys h3⟩
      | ins C fs =>
        obtain ⟨h1, dx, ys, h2, h3⟩ := g.cell n a _ q1 q2
        exact ⟨h1, dx, ys, h2, RpF.mono (fun _ _ z => z) am fs ys h3⟩
      | dct ks =>
        obtain ⟨h1, us, h2, h3⟩ := g.cell n a _ q1 q2
        exact ⟨h1, us, h2, h3.mono (fun _ _ z => z) am⟩
      | dck ks =>
        obtain ⟨h1, us, h2, h3⟩ := g.cell n a _ q1 q2
        exact ⟨h1, us, h2, RpK.mono (fun _ _ z => z) am ks us h3⟩
      | lck o us ks =>
        obtain ⟨h1, h2, h3⟩ := g.cell n a _ q1 q2
        exact ⟨h1, h2, RpK.mono (fun _ _ z => z) am ks us h3⟩
      | tpl ks => exact g.cell n a _ q1 q2
    · have hn2 : n = w.al.length := by
        have := (List.getElem?_eq_some_iff.mp q1).1
        rw [List.length_append] at this
        have h1 : [p].length = 1 := rfl
        omega
      subst hn2
      rw [List.getElem?_append_right (Nat.le_refl _), Nat.sub_self] at q1
      rw [List.getElem?_append_right (by rw [g.len]; exact Nat.le_refl _), g.len, Nat.sub_self] at q2
      have e1 : p = a := Option.some.inj q1
      have e2 : Cell.lst acc = c := Option.some.inj q2
      subst e1; subst e2
      exact ⟨hF, xs, hH, ra⟩
  · have z : a ∈ w.al ++ [p] := z
    rcases List.mem_append.mp z with z | z
    · exact g.dom a z
    · rw [List.mem_singleton.mp z, hH]; exact fun z => nomatch z
  · show (w.al ++ [p])[S.length]? = some p
    rw [← g.len, List.getElem?_append_right (Nat.le_refl _), Nat.sub_self] <;> rfl
theorem wipe_set {σ : L2.St} : ∀ {vs : List Nat} {i : Nat} {o : Option V}, i ∈ vs → L2.wipe (σ.set i o) vs = L2.wipe σ vs
  | [], _, _, h => nomatch h
  | v :: vs, i, o, h => by
    by_cases hv : i ∈ vs
    · show (L2.wipe (σ.set i o) vs).set v none = (L2.wipe σ vs).set v none
      rw [wipe_set hv]
    · have e : i = v := by
        rcases List.mem_cons.mp h with z | z
        · exact z
        · exact absurd z hv
      subst e
      have out : ∀ (us : List Nat) (G : L2.St), i ∉ us → L2.wipe (G.set i o) us = (L2.wipe G us).set i o := by
        intro us
        induction us with
        | nil => intro G _; rfl
        | cons u us ih =>
          intro G hn
          have h1 : i ≠ u := fun z => hn (by rw [z]; exact List.mem_cons_self)
          have h2 : i ∉ us := fun z => hn (List.mem_cons_of_mem _ z)
          show (L2.wipe (G.set i o) us).set u none = ((L2.wipe G us).set u none).set i o
          rw [ih G h2, List.set_comm _ _ h1]
      show (L2.wipe (σ.set i o) vs).set i none = (L2.wipe σ vs).set i none
      rw [out vs σ hv, List.set_set]
theorem wipe_wipe (σ : L2.St) : ∀ (vs us : List Nat), (∀ v ∈ us, v ∈ vs) → L2.wipe (L2.wipe σ us) vs = L2.wipe σ vs
  | vs, [], _ => rfl
  | vs, u :: us, h => by
    show L2.wipe ((L2.wipe σ us).set u none) vs = L2.wipe σ vs
    rw [wipe_set (h u List.mem_cons_self)]
    exact wipe_wipe σ vs us fun v hv => h v (List.mem_cons_of_mem _ hv)
/-- a target that stores in the slots vs alone -/
structure GK (vs : List Nat) (g : TG) : Prop where
  keep : ∀ x σ H k, g x σ H k → g x σ H fun σ2 H2 => L2.wipe σ2 vs = L2.wipe σ vs ∧ k σ2 H2
theorem gk_name {vs : List Nat} {i : Nat} (h : i ∈ vs := by decide) : GK vs (gName i) := ⟨fun x σ H k q => ⟨wipe_set h, q⟩⟩
/-- the world with a list in the making at p -/
def Hs.at (w : Hs) (p : Addr) (o : HO) : Hs := ⟨w.F, w.al, upd w.H p o⟩
theorem Good.at {K : PySem.W.Frag} {w : Hs} {S : Sto} (g : Good K w S) {p : Addr} (o : HO) (hF : w.F p = none) (hA : p ∉ w.al) : Good K (w.at p o) S := by
  refine ⟨fun a x q => ?_, g.nd, g.len, fun n a c q1 q2 => ?_, fun a q => ?_⟩
  · show upd w.H p o a = some x
    rw [upd_ne (ne_of_none q hF)]; exact g.sub a x q
  · have hne : a ≠ p := fun z => hA (z ▸ List.mem_of_getElem? q1)
    cases c with
    | gone => exact True.intro
    | lst ds =>
      obtain ⟨h1, ys, h2, h3⟩ := g.cell n a _ q1 q2
      exact ⟨h1, ys, by show upd w.H p o a = _; rw [upd_ne hne]; exact h2, h3⟩
    | ins C fs =>
      obtain ⟨h1, dx, ys, h2, h3⟩ := g.cell n a _ q1 q2
      exact ⟨h1, dx, ys, by show upd w.H p o a = _; rw [upd_ne hne]; exact h2, h3⟩
    | dct ks =>
      obtain ⟨h1, us, h2, h3⟩ := g.cell n a _ q1 q2
      exact ⟨h1, us, by show upd w.H p o a = _; rw [upd_ne hne]; exact h2, h3⟩
    | dck ks =>
      obtain ⟨h1, us, h2, h3⟩ := g.cell n a _ q1 q2
      exact ⟨h1, us, by show upd w.H p o a = _; rw [upd_ne hne]; exact h2, h3⟩
    | lck o' us ks =>
      obtain ⟨h1, h2, h3⟩ := g.cell n a _ q1 q2
      exact ⟨h1, by show upd w.H p o a = _; rw [upd_ne hne]; exact h2, h3⟩
    | tpl ks =>
      obtain ⟨h1, h2⟩ := g.cell n a _ q1 q2
      exact ⟨h1, by show upd w.H p o a = _; rw [upd_ne hne]; exact h2⟩
  · show upd w.H p o a ≠ none
    by_cases z : a = p
    · rw [z, upd_same]; exact fun z => nomatch z
    · rw [upd_ne z]; exact g.dom a q
theorem Ext.at {w0 w : Hs} (e : Ext w0 w) {p : Addr} (o : HO) (h0 : w0.H p = none) : Ext w0 (w.at p o) := by
  refine ⟨e.f, e.al, e.new, fun a x q n => ?_, fun a q => ?_⟩
  · show upd w.H p o a = some x
    rw [upd_ne (ne_of_none q h0)]; exact e.kp a x q n
  · show upd w.H p o a ≠ none
    by_cases z : a = p
    · rw [z, upd_same]; exact fun z => nomatch z
    · rw [upd_ne z]; exact e.dm a q
/-- an address that is neither frozen nor a cell stays so -/
theorem Ext.hid {w w' : Hs} (e : Ext w w') {p : Addr} {o : HO} (hH : w.H p = some o) (hF : w.F p = none) (hA : p ∉ w.al) (ht : ∀ xs, o ≠ HO.tup xs := by intro _ z; first | cases z | exact HO.noConfusion z) : w'.H p = some o ∧ w'.F p = none ∧ p ∉ w'.al := by
  refine ⟨e.kp p o hH hA, ?_, fun z => ?_⟩
  · cases q : w'.F p with
    | none => rfl
    | some x =>
      rcases e.new p x q with z | z | z | ⟨z, xs, ex⟩
      · rw [hF] at z; cases z
      · rw [hH] at z; cases z
      · exact absurd z hA
      · rw [hH] at z
        exact absurd ((Option.some.inj z).trans ex) (ht xs)
  · rcases e.old z with y | y
    · exact hA y
    · rw [hH] at y; cases y
theorem sem_lc {K : PySem.W.Frag} {wi : TI} {g : TG} {tt : TT} {te : TE} {I : TId} {G : TGd} {C : TB} {Te : TD} {vs : List Nat} {Fin : List D → Sto → KD → Prop} (hi : SemI K W wi I) (hg : SemG K g G) (hk : GK vs g) (ht : SemT K (fun _ _ _ _ => False) tt C) (he : SemE K (fun _ _ _ _ => False) te Te) (hf : FinOk Fin) :
    SemE K W (tLc wi g tt te vs) (dLc I G C Te vs Fin) := fun Γ S Φ Ψ σ w g0 sl h hx Q q =>
  hi Γ S _ _ σ w g0 sl h hx _ fun J src w1 S1 e1 g1 ok ⟨P, n, hn, h0, hl, hs, hd⟩ => fun p hp => by
    have hF1 := g1.notF hp
    have hA1 := g1.notA hp
    refine ⟨fun i m H' => m + i = n ∧ ∃ w' S' acc accV, H' = w'.H ∧ Ext w1 w' ∧ Good K w' S' ∧ w'.F p = none ∧ p ∉ w'.al ∧ w'.H p = some (.lst accV) ∧ Ra K w' accV acc ∧ P i acc S' ∧ acc.length ≤ i,
      ⟨n, by omega, w1.at p (.lst []), S1, [], [], rfl, (Ext.refl w1).at _ hp, g1.at _ hF1 hA1, hF1, hA1, upd_same, .nil, h0, Nat.le_refl _⟩, ?_⟩
    rintro i m H' ⟨hm, w', S', acc, accV, rfl, e', g', hF, hA, hH, hr, pp, hlen⟩
    obtain ⟨ds, hsrc, hlenD⟩ := hl i acc S' (by omega) pp
    have qq := ok w' S' ds i e' g' hsrc
    by_cases hlt : i < n
    · have hx' : ds[i]? = some ds[i] := List.getElem?_eq_getElem (by omega)
      obtain ⟨hgo, hy⟩ := qq.1 _ hx'
      refine .inr ⟨hgo, fun H2 => ∃ w2 S2 acc2 accV2, H2 = w2.H ∧ Ext w1 w2 ∧ Good K w2 S2 ∧ w2.F p = none ∧ p ∉ w2.al ∧ w2.H p = some (.lst accV2) ∧ Ra K w2 accV2 acc2 ∧ P (i + 1) acc2 S2 ∧ acc2.length ≤ i + 1, ?_, ?_⟩
      · rintro H2 ⟨w2, S2, acc2, accV2, r⟩
        exact ⟨m - 1, by omega, by omega, w2, S2, acc2, accV2, r⟩
      · intro x H2 hyl
        obtain ⟨w2, e2, g2, rfl, r2⟩ := hy x H2 hyl
        have sl2 : Slots K w2 (L2.wipe σ vs) (gwipe Γ vs) := (sl.ext ((e1.trans e').trans e2)).wipe vs
        have s1 := hk.keep x (L2.wipe σ vs) w2.H _ (hg _ (gwipe Γ vs) S' x (L2.wipe σ vs) w2 _ (fun σ2 H2 => tt σ2 H2 fun b H3 => if b = true then te σ2 H3 fun y H4 => ∃ acc, H4 p = some (.lst acc) ∧ acc.length < sizeLine ∧ (∃ w2 S2 acc2 accV2, upd H4 p (.lst (acc ++ [y])) = w2.H ∧ Ext w1 w2 ∧ Good K w2 S2 ∧ w2.F p = none ∧ p ∉ w2.al ∧ w2.H p = some (.lst accV2) ∧ Ra K w2 accV2 acc2 ∧ P (i + 1) acc2 S2 ∧ acc2.length ≤ i + 1)
          else ∃ w2 S2 acc2 accV2, H3 = w2.H ∧ Ext w1 w2 ∧ Good K w2 S2 ∧ w2.F p = none ∧ p ∉ w2.al ∧ w2.H p = some (.lst accV2) ∧ Ra K w2 accV2 acc2 ∧ P (i + 1) acc2 S2 ∧ acc2.length ≤ i + 1) g2 sl2 r2 (hs i acc S' ds _ pp hsrc hx') fun σ3 Γ3 w3 S3 e3 g3 sl3 h3 => ?_)
        · rw [wipe_wipe σ vs vs fun _ z => z] at s1
          exact s1
        · have e23 := e2.trans e3
          refine ht Γ3 S3 _ _ σ3 w3 g3 sl3 h3 (fun _ _ _ _ _ _ _ _ z => z) _ fun b w4 S4 e4 g4 h4 => ?_
          have e24 := e23.trans e4
          have ee4 := e'.trans e24
          obtain ⟨hH4, hF4, hA4⟩ := e24.hid hH hF hA
          cases b with
          | false => exact ⟨w4, S4, acc, accV, rfl, ee4, g4, hF4, hA4, hH4, e24.ra hr, h4, by omega⟩
          | true =>
            refine he Γ3 S4 _ _ σ3 w4 g4 (sl3.ext e4) h4 (fun _ _ _ _ _ _ _ _ z => z) _ fun y dy w5 S5 e5 g5 r5 h5 => ?_
            have e25 := e24.trans e5
            have ee5 := e'.trans e25
            obtain ⟨hH5, hF5, hA5⟩ := e25.hid hH hF hA
            refine ⟨accV, hH5, by rw [hr.length]; omega, w5.at p (.lst (accV ++ [y])), S5, acc ++ [dy], accV ++ [y], rfl, ee5.at _ hp, g5.at _ hF5 hA5, hF5, hA5, upd_same, RpA.append (e25.ra hr) (.cons r5 .nil), h5, by rw [List.length_append]; show acc.length + 1 ≤ i + 1; omega⟩
    · have hin : i = n := by omega
      subst hin
      refine .inl ⟨qq.2 (by omega), ?_⟩
      refine hf K w' S' acc Φ p accV (fun v H => Q v H) g' hH hF hA hr (hd acc S' pp) fun v d w2 S2 hF2 hN2 hal hHH g2 r2 h2 => q v d w2 S2 (e1.trans ?_) g2 r2 h2
      refine ⟨fun a o z => hF2 a o (e'.f a o z), ?_, fun a o z => ?_, fun a o z nz => by rw [hHH]; exact e'.kp a o z nz, fun a z => by rw [hHH]; exact e'.dm a z⟩
      · obtain ⟨β, eb, hb⟩ := e'.al
        rcases hal with z | z
        · exact ⟨β, by rw [z, eb], hb⟩
        · refine ⟨β ++ [p], by rw [z, eb, List.append_assoc], fun b hbm => ?_⟩
          rcases List.mem_append.mp hbm with y | y
          · exact hb b y
          · rw [List.mem_singleton.mp y]; exact hp
      · rcases hN2 a o z with y | y
        · exact e'.new a o y
        · subst y; exact .inr (.inl hp)
abbrev Bk (α : Type) := Shared → Hp → Addr → List (Str × Addr) → List Addr → α
theorem je_lc {elt tg iter : Expr} {ifs : List Expr} {scope : Scope} {own : List (Str × Nat)} {wi : TI} {g : Bk TG} {tt : Bk TT} {te : Bk TE} {I : TId} {G : TGd} {C : TB} {Te : TD} (Fin : List D → Sto → KD → Prop) (hf : FinOk Fin) (hc : X.calm = true) (hN : X.N.Nodup) (hi : JI X W tg iter wi I) (ok : BlkOk X.N X.env.scope scope own)
    (hg : ∀ (s : Shared) (H : Hp) (C : Addr) (cl : List (Str × Addr)) (fp : List Addr), JG (X.blk s H scope (compEnvC scope cl C X.env) fp) tg (g s H C cl fp) G) (hk : GK (own.map (·.2)) (g {} (fun _ => none) 0 [] [])) (ht : ∀ (s : Shared) (H : Hp) (C' : Addr) (cl : List (Str × Addr)) (fp : List Addr), JTs (X.blk s H scope (compEnvC scope cl C' X.env) fp) ifs (tt s H C' cl fp) C)
    (he : ∀ (s : Shared) (H : Hp) (C : Addr) (cl : List (Str × Addr)) (fp : List Addr), JE (X.blk s H scope (compEnvC scope cl C X.env) fp) (fun _ _ _ _ => False) elt (te s H C cl fp) Te) (hs : ∀ x, foldedSetIterable iter X.env x = pure x := by intro _; rfl)
    (eg : ∀ s H C cl fp, g s H C cl fp = g {} (fun _ => none) 0 [] [] := by intros; rfl) (et : ∀ s H C cl fp, tt s H C cl fp = tt {} (fun _ => none) 0 [] [] := by intros; rfl) (ee : ∀ s H C cl fp, te s H C cl fp = te {} (fun _ => none) 0 [] [] := by intros; rfl) :
    JE X W (.ListComp elt [⟨tg, iter, ifs, 0⟩] scope pos) (tLc wi (g {} (fun _ => none) 0 [] []) (tt {} (fun _ => none) 0 [] []) (te {} (fun _ => none) 0 [] []) (own.map (·.2))) (dLc I G C Te (own.map (·.2)) Fin) :=
  ⟨pe_lc hc hN hi.pi ok (fun s H C cl fp => eg s H C cl fp ▸ (hg s H C cl fp).pg) (fun s H C cl fp => et s H C cl fp ▸ (ht s H C cl fp).pts) (fun s H C cl fp => ee s H C cl fp ▸ (he s H C cl fp).pe) hs,
    sem_lc hi.sem (hg {} (fun _ => none) 0 [] []).sem hk (ht {} (fun _ => none) 0 [] []).sem (he {} (fun _ => none) 0 [] []).sem hf⟩
end
end DL
namespace DL
open PySem PySem.Spec PyProof.Rows L2
/-- the items of a list; of any list that may be read -/
def asL (S : Sto) : D → Option (List D)
  | .lst ds => some ds
  | .own h => match S[h]? with
    | some (.lst ds) => some ds
    | _ => none
  | _ => none
def asQ (S : Sto) : D → Option (List D)
  | .lst ds => some ds
  | .sq ds => some ds
  | .own h => match S[h]? with
    | some (.lst ds) => some ds
    | _ => none
  | _ => none
section
variable {K : PySem.W.Frag} {w : Hs} {S : Sto}
theorem asL_own {h : Nat} {ds : List D} (e : asL S (.own h) = some ds) : S[h]? = some (.lst ds) := by
  have e2 : (match S[h]? with
    | some (.lst ds) => some ds
    | _ => none) = some ds := e
  cases q : S[h]? with
  | none => rw [q] at e2; cases e2
  | some c =>
    rw [q] at e2
    cases c with
    | lst es => rw [Option.some.inj e2]
    | ins _ _ => cases e2
    | dct _ => cases e2
    | dck _ => cases e2
    | lck _ _ _ => cases e2
    | tpl _ => cases e2
    | gone => cases e2
theorem own_at (g : Good K w S) {h : Nat} {v : V} {ds : List D} (r : Rv K w v (.own h)) (e : S[h]? = some (.lst ds)) : ∃ a xs, v = .ref a ∧ w.al[h]? = some a ∧ w.H a = some (.lst xs) ∧ Ra K w xs ds := by
  cases r with
  | @own h a q =>
    obtain ⟨_, xs, h2, h3⟩ := g.cell h a _ q e
    exact ⟨a, xs, rfl, q, h2, h3⟩
theorem asL_at (g : Good K w S) {v : V} {d : D} {ds : List D} (r : Rv K w v d) (e : asL S d = some ds) : ∃ a xs, v = .ref a ∧ w.H a = some (.lst xs) ∧ Ra K w xs ds := by
  cases d with
  | lst es =>
    have e2 : es = ds := Option.some.inj e
    subst e2
    cases r with
    | lst h1 h2 => exact ⟨_, _, rfl, g.sub _ _ h1, h2⟩
  | own h =>
    obtain ⟨a, xs, h1, _, h2, h3⟩ := own_at g r (asL_own e)
    exact ⟨a, xs, h1, h2, h3⟩
  | _ => cases e
theorem asQ_at (g : Good K w S) {v : V} {d : D} {ds : List D} (r : Rv K w v d) (e : asQ S d = some ds) : ∃ a xs, v = .ref a ∧ SqL K w.H a xs ∧ Ra K w xs ds := by
  cases d with
  | sq es =>
    have e2 : es = ds := Option.some.inj e
    subst e2
    cases r with
    | sq h1 h2 => exact ⟨_, _, rfl, sameSql g.sub h1, h2⟩
  | lst es =>
    obtain ⟨a, xs, h1, h2, h3⟩ := asL_at g (ds := ds) r e
    exact ⟨a, xs, h1, .inl (.inl h2), h3⟩
  | own h =>
    obtain ⟨a, xs, h1, h2, h3⟩ := asL_at g (ds := ds) r e
    exact ⟨a, xs, h1, .inl (.inl h2), h3⟩
  | _ => cases e
theorem ra_bls : ∀ {xs : List V} {ns : List Bool}, Ra K w xs (ns.map D.bl) → xs = ns.map V.bl
  | _, [], h => by cases h; rfl
  | _, n :: ns, h => by
    cases h with
    | cons h1 h2 => rw [rv_bl h1, ra_bls h2]; rfl
end
def iOp (C : Int → Int → Prop) (g : Int → Int → D) (x y : D) (S : Sto) (Φ : KD) : Prop := match x, y with
  | .int i, .int j => C i j ∧ Φ S (g i j)
  | _, _ => False
theorem opd_i {K : PySem.W.Frag} {C : Int → Int → Prop} {g : Int → Int → D} {gv : Int → Int → V} (hg : ∀ i j (w : Hs), Rv K w (gv i j) (g i j)) : OpD K (rI C gv) (iOp C g) := fun w S x y u v Φ Q g0 r1 r2 h q => by
  cases u with
  | int i =>
    cases v with
    | int j => exact ⟨i, j, rv_int r1, rv_int r2, h.1, q _ _ w S (Ext.refl w) g0 (hg i j w) h.2⟩
    | _ => exact h.elim
  | _ => cases v <;> exact h.elim
def iOp0 (g : Int → Int → D) (x y : D) (S : Sto) (Φ : KD) : Prop := match x, y with
  | .int i, .int j => Φ S (g i j)
  | _, _ => False
theorem opd_i0 {K : PySem.W.Frag} {g : Int → Int → D} {gv : Int → Int → V} (hg : ∀ i j (w : Hs), Rv K w (gv i j) (g i j)) : OpD K (rI0 gv) (iOp0 g) := fun w S x y u v Φ Q g0 r1 r2 h q => by
  cases u with
  | int i =>
    cases v with
    | int j => exact ⟨i, j, rv_int r1, rv_int r2, q _ _ w S (Ext.refl w) g0 (hg i j w) h⟩
    | _ => exact h.elim
  | _ => cases v <;> exact h.elim
/-- + of ints, texts, lists -/
def dAdd (x y : D) (S : Sto) (Φ : KD) : Prop := match x, y with
  | .int i, .int j => Φ S (.int (i + j))
  | .str a, .str b => a.length + b.length ≤ sizeLine ∧ Φ S (.str (a ++ b))
  | x, y => ∃ xs ys, asL S x = some xs ∧ asL S y = some ys ∧ xs.length + ys.length ≤ sizeLine ∧ Φ S (.lst (xs ++ ys))
def rAddA : R2 := fun x y H Q => rI0 (fun i j => .int (i + j)) x y H Q ∨ (∃ i j, x = .str i ∧ y = .str j ∧ i.length + j.length ≤ sizeLine ∧ Q (.str (i ++ j)) H) ∨ rCat x y H Q
theorem op_addA {X : Cx} : OpR X (binaryOp .Add) rAddA := op_add.or (op_add_str.or op_cat)
theorem add_seq {K : PySem.W.Frag} {w : Hs} {S : Sto} {x y : V} {u v : D} {Φ : KD} {Q : VK} (g : Good K w S) (r1 : Rv K w x u) (r2 : Rv K w y v) (h : ∃ xs ys, asL S u = some xs ∧ asL S v = some ys ∧ xs.length + ys.length ≤ sizeLine ∧ Φ S (.lst (xs ++ ys))) (q : OkD K w Φ Q) : rAddA x y w.H Q := by
  obtain ⟨xs, ys, e1, e2, hl, hΦ⟩ := h
  obtain ⟨a, us, rfl, h1, h2⟩ := asL_at g r1 e1
  obtain ⟨b, vs, rfl, h3, h4⟩ := asL_at g r2 e2
  exact .inr (.inr ⟨a, b, us, vs, rfl, rfl, h1, h3, by rw [h2.length, h4.length]; exact hl, new_lst g q (h2.append h4) hΦ⟩)
theorem opd_add {K : PySem.W.Frag} : OpD K rAddA dAdd := fun w S x y u v Φ Q g r1 r2 h q => by
  cases u with
  | int i =>
    cases v with
    | int j => exact .inl ⟨i, j, rv_int r1, rv_int r2, q _ _ w S (Ext.refl w) g (.int _) h⟩
    | _ => exact add_seq g r1 r2 h q
  | str i =>
    cases v with
    | str j => exact .inr (.inl ⟨i, j, rv_str r1, rv_str r2, h.1, q _ _ w S (Ext.refl w) g (.str _) h.2⟩)
    | _ => exact add_seq g r1 r2 h q
  | _ => cases v <;> exact add_seq g r1 r2 h q
/-- * of ints, a list by an int -/
def CMulA (i j : Int) : Prop := CMul i j ∨ CMulW i j
def dMul (x y : D) (S : Sto) (Φ : KD) : Prop := match x, y with
  | .int i, .int j => CMulA i j ∧ Φ S (.int (i * j))
  | x, .int k => ∃ xs, asL S x = some xs ∧ -(2 ^ 63) ≤ k ∧ k < 2 ^ 63 ∧ xs.length * k.toNat ≤ sizeLine ∧ Φ S (.lst ((List.replicate k.toNat xs).flatten))
  | _, _ => False
def rMulA : R2 := fun x y H Q => rI CMul (fun i j => .int (i * j)) x y H Q ∨ rI CMulW (fun i j => .int (i * j)) x y H Q ∨ rRep x y H Q
theorem op_mulA {X : Cx} : OpR X (binaryOp .Mult) rMulA := op_mul.or (op_mulW.or op_rep)
theorem ra_rep {K : PySem.W.Frag} {w : Hs} {vs : List V} {ds : List D} (r : Ra K w vs ds) : ∀ k : Nat, Ra K w (List.replicate k vs).flatten (List.replicate k ds).flatten
  | 0 => .nil
  | k + 1 => by
    rw [List.replicate_succ, List.replicate_succ, List.flatten_cons, List.flatten_cons]
    exact r.append (ra_rep r k)
theorem mul_seq {K : PySem.W.Frag} {w : Hs} {S : Sto} {x y : V} {u : D} {k : Int} {Φ : KD} {Q : VK} (g : Good K w S) (r1 : Rv K w x u) (r2 : Rv K w y (.int k)) (h : ∃ xs, asL S u = some xs ∧ -(2 ^ 63) ≤ k ∧ k < 2 ^ 63 ∧ xs.length * k.toNat ≤ sizeLine ∧ Φ S (.lst ((List.replicate k.toNat xs).flatten))) (q : OkD K w Φ Q) : rMulA x y w.H Q := by
  obtain ⟨xs, e1, hl1, hl2, hl3, hΦ⟩ := h
  obtain ⟨a, us, rfl, h1, h2⟩ := asL_at g r1 e1
  exact .inr (.inr ⟨a, k, us, rfl, rv_int r2, h1, hl1, hl2, by rw [h2.length]; exact hl3, new_lst g q (ra_rep h2 _) hΦ⟩)
theorem opd_mul {K : PySem.W.Frag} : OpD K rMulA dMul := fun w S x y u v Φ Q g r1 r2 h q => by
  cases v with
  | int j =>
    cases u with
    | int i =>
      have q2 := q (.int (i * j)) (.int (i * j)) w S (Ext.refl w) g (.int _) h.2
      rcases h.1 with c | c
      · exact .inl ⟨i, j, rv_int r1, rv_int r2, c, q2⟩
      · exact .inr (.inl ⟨i, j, rv_int r1, rv_int r2, c, q2⟩)
    | _ => exact mul_seq g r1 r2 h q
  | _ => cases u <;> exact h.elim
def dSub := iOp0 fun i j => .int (i - j)
theorem opd_sub {K : PySem.W.Frag} : OpD K (rI0 fun i j => .int (i - j)) dSub := opd_i0 fun _ _ _ => .int _
def dMod := iOp (fun _ j => 0 < j) fun i j => .int (i % j)
theorem opd_mod {K : PySem.W.Frag} : OpD K (rI (fun _ j => 0 < j) fun i j => .int (i % j)) dMod := opd_i fun _ _ _ => .int _
def dDiv := iOp CDivW fun i j => .int (i / j)
theorem opd_div {K : PySem.W.Frag} : OpD K (rI CDivW fun i j => .int (i / j)) dDiv := opd_i fun _ _ _ => .int _
/-- ** of an int of a few thousand bits by a small one -/
def CPowW (i j : Int) : Prop := 0 ≤ j ∧ j ≤ 1000 ∧ i.natAbs < 2 ^ 100000
theorem op_powW {X : Cx} : OpR X (binaryOp .Pow) (rI CPowW fun i j => .int (i ^ j.toNat)) := opI fun i j _ _ _ _ _ hc q => by
  obtain ⟨h0, h1, h2⟩ := hc
  refine PyProof.Rows.pow_int h0 ?_ q
  have b : Builtin.Int.intBits i ≤ 100000 := by
    unfold Builtin.Int.intBits
    split
    · omega
    · have := PySem.Flt.log2_lt_of (by decide : 0 < 100000) h2
      omega
  have e : (2 : Int) ^ 27 = 134217728 := by decide
  rw [e]
  have h3 : (Builtin.Int.intBits i : Int) ≤ 100000 := by omega
  have h4 : (Builtin.Int.intBits i : Int) * j ≤ 100000 * 1000 := Int.mul_le_mul h3 h1 h0 (by decide)
  omega
def dPow := iOp CPowW fun i j => .int (i ^ j.toNat)
theorem opd_pow {K : PySem.W.Frag} : OpD K (rI CPowW fun i j => .int (i ^ j.toNat)) dPow := opd_i fun _ _ _ => .int _
def dLt := iOp0 fun i j => .bl (decide (i < j))
def dLe := iOp0 fun i j => .bl (decide (i ≤ j))
def dGt := iOp0 fun i j => .bl (decide (j < i))
def dGe := iOp0 fun i j => .bl (decide (j ≤ i))
theorem opd_lt {K : PySem.W.Frag} : OpD K (rI0 fun i j => .bl (decide (i < j))) dLt := opd_i0 fun _ _ _ => .bl _
theorem opd_le {K : PySem.W.Frag} : OpD K (rI0 fun i j => .bl (decide (i ≤ j))) dLe := opd_i0 fun _ _ _ => .bl _
theorem opd_gt {K : PySem.W.Frag} : OpD K (rI0 fun i j => .bl (decide (j < i))) dGt := opd_i0 fun _ _ _ => .bl _
def uNeg (x : D) (S : Sto) (Φ : KD) : Prop := match x with
  | .int i => Φ S (.int (-i))
  | _ => False
def dUn (f : D → Sto → KD → Prop) (T : TD) : TD := fun Γ S Φ Ψ => T Γ S (fun S1 d => f d S1 Φ) Ψ
mutual
inductive PyR (S : Sto) : D → PyData → Prop
  | non : PyR S .non .none
  | bl (b : Bool) : PyR S (.bl b) (.bool b)
  | int (i : Int) : PyR S (.int i) (.int i)
  | str (x : Str) : PyR S (.str x) (.str x)
  | lst {ds : List D} {ps : List PyData} : PyRA S ds ps → PyR S (.lst ds) (.list ps)
  | sq {ds : List D} {ps : List PyData} : PyRA S ds ps → PyR S (.sq ds) (.list ps)
  | tup {ds : List D} {ps : List PyData} : PyRA S ds ps → PyR S (.tup ds) (.tuple ps)
  | own {h : Nat} {ds : List D} {ps : List PyData} : S[h]? = some (.lst ds) → PyRA S ds ps → PyR S (.own h) (.list ps)
inductive PyRA (S : Sto) : List D → List PyData → Prop
  | nil : PyRA S [] []
  | cons {d : D} {ds : List D} {p : PyData} {ps : List PyData} : PyR S d p → PyRA S ds ps → PyRA S (d :: ds) (p :: ps)
end
section
variable {K : PySem.W.Frag} {w : Hs} {S : Sto}
mutual
theorem dp_of (g : Good K w S) : ∀ (p : PyData) (d : D) (v : V), PyR S d p → Rv K w v d → Dp K w.H v p
  | .none, _, _, h, r => by cases h; cases r; exact .non
  | .bool _, _, _, h, r => by cases h; cases r; exact .bl _
  | .int _, _, _, h, r => by cases h; cases r; exact .int _
  | .str _, _, _, h, r => by cases h; cases r; exact .str _
  | .list ps, _, _, h, r => by
    cases h with
    | lst h1 =>
      cases r with
      | lst h2 h3 => exact .lst (.inl (.inl (g.sub _ _ h2))) (dpa_of g ps _ _ h1 h3)
    | sq h1 =>
      cases r with
      | sq h2 h3 => exact .lst (sameSql g.sub h2) (dpa_of g ps _ _ h1 h3)
    | own h1 h2 =>
      obtain ⟨a, xs, rfl, _, h3, h4⟩ := own_at g r h1
      exact .lst (.inl (.inl h3)) (dpa_of g ps _ _ h2 h4)
  | .tuple ps, _, _, h, r => by
    cases h with
    | tup h1 =>
      cases r with
      | tup h2 h3 => exact .tup (sameSqt g.sub h2) (dpa_of g ps _ _ h1 h3)
  | .dict _, _, _, h, _ => by cases h
theorem dpa_of (g : Good K w S) : ∀ (ps : List PyData) (ds : List D) (vs : List V), PyRA S ds ps → Ra K w vs ds → DpAll K w.H vs ps
  | [], _, _, h, r => by cases h; cases r; exact .nil
  | p :: ps, _, _, h, r => by
    cases h with
    | cons h1 h2 =>
      cases r with
      | cons r1 r2 => exact .cons (dp_of g p _ _ h1 r1) (dpa_of g ps _ _ h2 r2)
end
end
def dEq (x y : D) (S : Sto) (Φ : KD) : Prop := ∃ p q, PyR S x p ∧ PyR S y q ∧ SeqAt.shaped p = true ∧ SeqAt.shaped q = true ∧ Φ S (.bl (PyData.eqv p q))
theorem opd_eq {K : PySem.W.Frag} : OpD K (rEqD K) dEq := fun w S x y u v Φ Q g r1 r2 ⟨p, p2, h1, h2, h3, h4, h5⟩ q => ⟨p, p2, dp_of g p u x h1 r1, dp_of g p2 v y h2 r2, h3, h4, q _ _ w S (Ext.refl w) g (.bl _) h5⟩
def eqD : D → D → Bool
  | .non, .non => true
  | .bl a, .bl b => a == b
  | .bl a, .int b => (if a then 1 else 0) == b
  | .int a, .bl b => a == (if b then 1 else 0)
  | .int a, .int b => a == b
  | .str a, .str b => a == b
  | _, _ => false
def asS (S : Sto) : D → Option (List D)
  | .tup ds => some ds
  | d => asQ S d
theorem asS_at {K : PySem.W.Frag} {w : Hs} {S : Sto} (g : Good K w S) {v : V} {d : D} {ds : List D} (r : Rv K w v d) (e : asS S d = some ds) : ∃ a xs, v = .ref a ∧ (SqL K w.H a xs ∨ SqT K w.H a xs) ∧ Ra K w xs ds := by
  cases d with
  | tup es =>
    have e2 : es = ds := Option.some.inj e
    subst e2
    cases r with
    | tup h1 h2 => exact ⟨_, _, rfl, .inr (sameSqt g.sub h1), h2⟩
  | sq es =>
    obtain ⟨a, xs, h1, h2, h3⟩ := asQ_at g (ds := ds) r e
    exact ⟨a, xs, h1, .inl h2, h3⟩
  | lst es =>
    obtain ⟨a, xs, h1, h2, h3⟩ := asQ_at g (ds := ds) r e
    exact ⟨a, xs, h1, .inl h2, h3⟩
  | own h =>
    obtain ⟨a, xs, h1, h2, h3⟩ := asQ_at g (ds := ds) r e
    exact ⟨a, xs, h1, .inl h2, h3⟩
  | _ => cases e
def dIx (x y : D) (S : Sto) (Φ : KD) : Prop := match y with
  | .int i => (match x with
    | .str z => z.length ≤ sizeLine ∧ ∃ c, atI z.cps.toList i = some c ∧ Φ S (.str ⟨#[c]⟩)
    | x => ∃ ds d, asS S x = some ds ∧ atI ds i = some d ∧ Φ S d)
  | _ => False
theorem atI_of {K : PySem.W.Frag} {w : Hs} {vs : List V} {ds : List D} {i : Int} {d : D} (r : Ra K w vs ds) (h : atI ds i = some d) : ∃ v, atI vs i = some v ∧ Rv K w v d := by
  unfold atI at h ⊢
  rw [r.length]
  cases q : ixN ds.length i with
  | none => rw [q] at h; cases h
  | some j =>
    rw [q] at h
    exact r.get h
theorem ix_seqD {K : PySem.W.Frag} {w : Hs} {S : Sto} {x y : V} {u : D} {i : Int} {Φ : KD} {Q : VK} (g : Good K w S) (r1 : Rv K w x u) (r2 : Rv K w y (.int i)) (h : ∃ ds d, asS S u = some ds ∧ atI ds i = some d ∧ Φ S d) (q : OkD K w Φ Q) : rIx K x y w.H Q := by
  obtain ⟨ds, d, e, h1, h2⟩ := h
  obtain ⟨a, xs, rfl, hs, ra⟩ := asS_at g r1 e
  obtain ⟨v, h3, r3⟩ := atI_of ra h1
  have qq := q v d w S (Ext.refl w) g r3 h2
  rcases hs with hs | hs
  · exact .inl ⟨a, xs, i, v, rfl, rv_int r2, hs, h3, qq⟩
  · exact .inr (.inl ⟨a, xs, i, v, rfl, rv_int r2, hs, h3, qq⟩)
theorem opd_ix {K : PySem.W.Frag} : OpD K (rIx K) dIx := fun w S x y u v Φ Q g r1 r2 h q => by
  cases v with
  | int i =>
    cases u with
    | str z =>
      obtain ⟨h1, c, h2, h3⟩ := h
      exact .inr (.inr ⟨z, i, c, rv_str r1, rv_int r2, h1, h2, q _ _ w S (Ext.refl w) g (.str _) h3⟩)
    | _ => exact ix_seqD g r1 r2 h q
  | _ => cases u <;> exact h.elim
/-- the items of a slice -/
def cutD {α : Type} (xs : List α) (lo hi : Option Int) : List α := (xs.drop (HT.sIx xs.length 0 lo)).take (HT.sIx xs.length xs.length hi - HT.sIx xs.length 0 lo)
theorem ra_cut {K : PySem.W.Frag} {w : Hs} {vs : List V} {ds : List D} (r : Ra K w vs ds) (lo hi : Option Int) : Ra K w (cutV vs lo hi) (cutD ds lo hi) := by
  unfold cutV cutD
  rw [r.length]
  exact (r.drop _).take _
def dSlL (d : D) (lo hi : Option Int) (S : Sto) (Φ : KD) : Prop := ∃ ds, asQ S d = some ds ∧ Φ S (.lst (cutD ds lo hi))
theorem sld_l {K : PySem.W.Frag} : SlD K (rSlL K) dSlL := fun w S v d lo hi Φ Q g r ⟨ds, e, h⟩ q => by
  obtain ⟨a, xs, rfl, h1, h2⟩ := asQ_at g r e
  exact ⟨a, xs, rfl, h1, new_lst g q (ra_cut h2 lo hi) h⟩
def rLen (K : PySem.W.Frag) : List V → Hp → VK → Prop := fun xs H Q => (∃ p ys, xs = [.ref p] ∧ (SqL K H p ys ∨ SqT K H p ys) ∧ Q (.int ys.length) H) ∨ ∃ z, xs = [.str z] ∧ z.length ≤ sizeLine ∧ Q (.int z.length) H
theorem call_lenA {X : Cx} : CallR X (.builtin "len") (rLen X.K) := call_len_seq.or call_len_str
def cLen (ds : List D) (S : Sto) (Φ : KD) : Prop := match ds with
  | [.str z] => z.length ≤ sizeLine ∧ Φ S (.int z.length)
  | [d] => ∃ xs, asS S d = some xs ∧ Φ S (.int xs.length)
  | _ => False
theorem len_seqD {K : PySem.W.Frag} {w : Hs} {S : Sto} {vs : List V} {d : D} {Φ : KD} {Q : VK} (g : Good K w S) (r : Ra K w vs [d]) (h : ∃ xs, asS S d = some xs ∧ Φ S (.int xs.length)) (q : OkD K w Φ Q) : rLen K vs w.H Q := by
  obtain ⟨xs, e, h⟩ := h
  cases r with
  | cons r1 r2 =>
    cases r2
    obtain ⟨a, ys, rfl, hs, ra⟩ := asS_at g r1 e
    exact .inl ⟨a, ys, rfl, hs, by rw [ra.length]; exact q _ _ w S (Ext.refl w) g (.int _) h⟩
theorem cd_len {K : PySem.W.Frag} : CallD K (rLen K) cLen := fun w S vs ds Φ Q g r h q => by
  cases ds with
  | nil => exact h.elim
  | cons d rest =>
    cases rest with
    | cons e t => cases d <;> exact h.elim
    | nil =>
      cases d with
      | str z =>
        cases r with
        | cons r1 r2 =>
          cases r2
          exact .inr ⟨z, by rw [rv_str r1], h.1, q _ _ w S (Ext.refl w) g (.int _) h.2⟩
      | _ => exact len_seqD g r h q
def cAbs (ds : List D) (S : Sto) (Φ : KD) : Prop := match ds with
  | [.int i] => Φ S (.int (if i < 0 then -i else i))
  | _ => False
def c2I (f : Int → Int → D) (ds : List D) (S : Sto) (Φ : KD) : Prop := match ds with
  | [.int i, .int j] => Φ S (f i j)
  | _ => False
theorem cd_abs {K : PySem.W.Frag} : CallD K (fun xs H Q => ∃ i, xs = [.int i] ∧ Q (.int (if i < 0 then -i else i)) H) cAbs := fun w S vs ds Φ Q g r h q => by
  cases ds with
  | nil => exact h.elim
  | cons d t =>
    cases t with
    | cons _ _ => cases d <;> exact h.elim
    | nil =>
      cases d with
      | int i =>
        cases r with
        | cons r1 r2 => cases r2; exact ⟨i, by rw [rv_int r1], q _ _ w S (Ext.refl w) g (.int _) h⟩
      | _ => exact h.elim
theorem cd_2I {K : PySem.W.Frag} {f : Int → Int → D} {fv : Int → Int → V} (hf : ∀ i j (w : Hs), Rv K w (fv i j) (f i j)) : CallD K (fun xs H Q => ∃ i j, xs = [.int i, .int j] ∧ Q (fv i j) H) (c2I f) := fun w S vs ds Φ Q g r h q => by
  cases ds with
  | nil => exact h.elim
  | cons d t =>
    cases t with
    | nil => cases d <;> exact h.elim
    | cons e t2 =>
      cases t2 with
      | cons _ _ => cases d <;> cases e <;> exact h.elim
      | nil =>
        cases d with
        | int i =>
          cases e with
          | int j =>
            cases r with
            | cons r1 r2 =>
              cases r2 with
              | cons r3 r4 => cases r4; exact ⟨i, j, by rw [rv_int r1, rv_int r3], q _ _ w S (Ext.refl w) g (hf i j w) h⟩
          | _ => exact h.elim
        | _ => cases e <;> exact h.elim
def cMax2 := c2I fun i j => .int (if j > i then j else i)
def cMin2 := c2I fun i j => .int (if j < i then j else i)
theorem cd_max2 {K : PySem.W.Frag} : CallD K (fun xs H Q => ∃ i j, xs = [.int i, .int j] ∧ Q (.int (if j > i then j else i)) H) cMax2 := cd_2I (fv := fun i j => .int (if j > i then j else i)) fun _ _ _ => .int _
theorem cd_min2 {K : PySem.W.Frag} : CallD K (fun xs H Q => ∃ i j, xs = [.int i, .int j] ∧ Q (.int (if j < i then j else i)) H) cMin2 := cd_2I (fv := fun i j => .int (if j < i then j else i)) fun _ _ _ => .int _
def cInt (ds : List D) (S : Sto) (Φ : KD) : Prop := match ds with
  | [.int i] => Φ S (.int i)
  | [.bl k] => Φ S (.int (if k then 1 else 0))
  | _ => False
theorem cd_int {K : PySem.W.Frag} : CallD K (fun xs H Q => (∃ i, xs = [.int i] ∧ Q (.int i) H) ∨ ∃ k, xs = [.bl k] ∧ Q (.int (if k then 1 else 0)) H) cInt := fun w S vs ds Φ Q g r h q => by
  cases ds with
  | nil => exact h.elim
  | cons d t =>
    cases t with
    | cons _ _ => cases d <;> exact h.elim
    | nil =>
      cases r with
      | cons r1 r2 =>
        cases r2
        cases d with
        | int i => exact .inl ⟨i, by rw [rv_int r1], q _ _ w S (Ext.refl w) g (.int _) h⟩
        | bl i => exact .inr ⟨i, by rw [rv_bl r1], q _ _ w S (Ext.refl w) g (.int _) h⟩
        | _ => exact h.elim
/-- list(x): a new list, frozen or a cell -/
def cList (ds : List D) (S : Sto) (Φ : KD) : Prop := match ds with
  | [d] => ∃ xs, asS S d = some xs ∧ Φ S (.lst xs)
  | _ => False
def cListO (ds : List D) (S : Sto) (Φ : KD) : Prop := match ds with
  | [d] => ∃ xs, asS S d = some xs ∧ Φ (S ++ [.lst xs]) (.own S.length)
  | _ => False
theorem cd_listO {K : PySem.W.Frag} : CallD K (fun xs H Q => ∃ p ys, xs = [.ref p] ∧ (SqL K H p ys ∨ SqT K H p ys) ∧ ∀ l, H l = none → Q (.ref l) (upd H l (.lst ys))) cListO := fun w S vs ds Φ Q g r h q => by
  cases ds with
  | nil => exact h.elim
  | cons d t =>
    cases t with
    | cons _ _ => exact h.elim
    | nil =>
      obtain ⟨xs, e, h⟩ := h
      cases r with
      | cons r1 r2 =>
        cases r2
        obtain ⟨a, ys, rfl, hs, ra⟩ := asS_at g r1 e
        exact ⟨a, ys, rfl, hs, new_own g q ra h⟩
def cAll (ds : List D) (S : Sto) (Φ : KD) : Prop := match ds with
  | [d] => ∃ bs : List Bool, asQ S d = some (bs.map D.bl) ∧ Φ S (.bl (bs.all id))
  | _ => False
theorem one_of {K : PySem.W.Frag} {w : Hs} {vs : List V} {d : D} (r : Ra K w vs [d]) : ∃ v, vs = [v] ∧ Rv K w v d := by
  cases r with
  | cons r1 r2 => cases r2; exact ⟨_, rfl, r1⟩
theorem cd_all {K : PySem.W.Frag} : CallD K (rAll K) cAll := fun w S vs ds Φ Q g r h q => by
  cases ds with
  | nil => exact h.elim
  | cons d t =>
    cases t with
    | cons _ _ => exact h.elim
    | nil =>
      obtain ⟨bs, e, h⟩ := h
      obtain ⟨v, rfl, r1⟩ := one_of r
      obtain ⟨a, ys, rfl, hs, ra⟩ := asQ_at g r1 e
      rw [ra_bls ra] at hs
      exact ⟨a, bs, rfl, hs, q _ _ w S (Ext.refl w) g (.bl _) h⟩
def dSetO (o i v : D) (S : Sto) (P : Sto → Prop) : Prop := match o, i with
  | .own h, .int k => ∃ ds j, S[h]? = some (.lst ds) ∧ ixN ds.length k = some j ∧ P (S.set h (.lst (ds.set j v)))
  | _, _ => False
theorem setd_o {K : PySem.W.Frag} : TSetD K rSetL dSetO := fun w S o i v do_ di dv P Q g r1 r2 r3 h q => by
  cases do_ with
  | own hh =>
    cases di with
    | int k =>
      obtain ⟨ds, j, e, hj, hP⟩ := h
      obtain ⟨a, xs, rfl, ha, hH, ra⟩ := own_at g r1 e
      refine ⟨a, xs, k, j, rfl, rv_int r2, hH, by rw [ra.length]; exact hj, ?_⟩
      exact q (w.wr a (.lst (xs.set j v))) _ (Ext.wr _ (List.mem_of_getElem? ha)) (g.wr ha e (ra.set r3 j)) hP
    | _ => exact h.elim
  | _ => cases di <;> exact h.elim
/-- methods of a list in a cell -/
def MtD (K : PySem.W.Frag) (r : V → List V → Hp → VK → Prop) (f : D → List D → Sto → KD → Prop) : Prop :=
  ∀ w S x vs d ds Φ Q, Good K w S → Rv K w x d → Ra K w vs ds → f d ds S Φ → OkD K w Φ Q → r x vs w.H Q
def isLst (S : Sto) (d : D) : Prop := ∃ ds, asL S d = some ds
def dBM (f : D → List D → Sto → KD → Prop) (T : TD) (Tl : TL) : TD := fun Γ S Φ Ψ => T Γ S (fun S1 d => isLst S1 d ∧ Tl Γ S1 (fun S2 ds => f d ds S2 Φ) Ψ) Ψ
def dBM0 (f : D → List D → Sto → KD → Prop) (T : TD) : TD := fun Γ S Φ Ψ => T Γ S (fun S1 d => isLst S1 d ∧ f d [] S1 Φ) Ψ
section
variable {X : Cx} {W : WX} {o e : Expr} {es : List Expr} {apos cpos : Pos} {to : TE} {To : TD} {tl : TA} {Tl : TL}
theorem je_bm {name : Str} {id : String} {r : V → List V → Hp → VK → Prop} {f : D → List D → Sto → KD → Prop} (slot : Slot "list" name id) (hty : typeOf (.builtin id) = pure (.type "method_descriptor")) (hm : MtM X id r) (hd : MtD X.K r f) (ho : JE X W o to To) (ha : JA X W (e :: es) tl Tl)
    (hbase : attributeBase o name X.env (eval o X.env) = eval o X.env := by rfl)
    (hfew : ((backTo cpos (starEach (e :: es) X.env)).all (fun x => !x.1) && (backToKw cpos (keywordEach [] X.env)).all (fun x => x.1.isSome)
      && decide ((e :: es).length + ([] : List Keyword).length + (if ([] : List Keyword).isEmpty then 0 else 1) < 30)) = true := by rfl)
    (hline : (apos.endLine == cpos.line) = true := by rfl) (hs : starEach (e :: es) X.env = (false, eval e X.env) :: starEach es X.env := by rfl) (hplain : (backTo cpos (starEach es X.env)).any (·.1) = false := by rfl) :
    JE X W (.Call (.Attribute o name apos) (e :: es) [] cpos) (tBM X.K "list" r to tl) (dBM f To Tl) := ⟨pe_bm PySem.F.plainAttrs_list slot hty hm ho.pe ha.pa hbase hfew hline hs hplain, fun Γ S Φ Ψ σ w g sl h hx Q q =>
  ho.sem Γ S _ Ψ σ w g sl h hx _ fun v d w1 S1 e1 g1 r1 ⟨⟨xs, hl⟩, h1⟩ => by
    obtain ⟨a, ys, rfl, hH, _⟩ := asL_at g1 r1 hl
    exact ⟨Or.inl ⟨rfl, _, Or.inl (Or.inl hH)⟩, ha.sem Γ S1 _ Ψ σ w1 g1 (sl.ext e1) h1 (hx.ext e1) _ fun vs ds w2 S2 e2 g2 r2 h2 => hd w2 S2 _ vs d ds Φ Q g2 (e2.rp r1) r2 h2 (q.ext (e1.trans e2))⟩⟩
theorem je_bm0 {name : Str} {id : String} {r : V → List V → Hp → VK → Prop} {f : D → List D → Sto → KD → Prop} (slot : Slot "list" name id) (hty : typeOf (.builtin id) = pure (.type "method_descriptor")) (hm : MtM X id r) (hd : MtD X.K r f) (ho : JE X W o to To)
    (hbase : attributeBase o name X.env (eval o X.env) = eval o X.env := by rfl) (hline : (apos.endLine == cpos.line) = true := by rfl) :
    JE X W (.Call (.Attribute o name apos) [] [] cpos) (tBM0 X.K "list" r to) (dBM0 f To) := ⟨pe_bm0 PySem.F.plainAttrs_list slot hty hm ho.pe hbase hline, fun Γ S Φ Ψ σ w g sl h hx Q q =>
  ho.sem Γ S _ Ψ σ w g sl h hx _ fun v d w1 S1 e1 g1 r1 ⟨⟨xs, hl⟩, h1⟩ => by
    obtain ⟨a, ys, rfl, hH, _⟩ := asL_at g1 r1 hl
    exact ⟨Or.inl ⟨rfl, _, Or.inl (Or.inl hH)⟩, hd w1 S1 _ [] d [] Φ Q g1 r1 .nil h1 (q.ext e1)⟩⟩
end
def mAppend (d : D) (ds : List D) (S : Sto) (Φ : KD) : Prop := match d, ds with
  | .own h, [y] => ∃ xs, S[h]? = some (.lst xs) ∧ xs.length < sizeLine ∧ Φ (S.set h (.lst (xs ++ [y]))) .non
  | _, _ => False
theorem mtd_append {K : PySem.W.Frag} : MtD K rAppend mAppend := fun w S x vs d ds Φ Q g r1 r2 h q => by
  cases d with
  | own hh =>
    cases ds with
    | nil => exact h.elim
    | cons y t =>
      cases t with
      | cons _ _ => exact h.elim
      | nil =>
        obtain ⟨xs, e, hl, hΦ⟩ := h
        obtain ⟨a, ys, rfl, ha, hH, ra⟩ := own_at g r1 e
        obtain ⟨v, rfl, rv⟩ := one_of r2
        exact ⟨a, ys, v, rfl, rfl, hH, by rw [ra.length]; exact hl, q .non .non (w.wr a (.lst (ys ++ [v]))) _ (Ext.wr _ (List.mem_of_getElem? ha)) (g.wr ha e (ra.append (.cons rv .nil))) .non hΦ⟩
  | _ => exact h.elim
def mReverse (d : D) (ds : List D) (S : Sto) (Φ : KD) : Prop := match d, ds with
  | .own h, [] => ∃ xs, S[h]? = some (.lst xs) ∧ Φ (S.set h (.lst xs.reverse)) .non
  | _, _ => False
def mClear (d : D) (ds : List D) (S : Sto) (Φ : KD) : Prop := match d, ds with
  | .own h, [] => ∃ xs, S[h]? = some (.lst xs) ∧ Φ (S.set h (.lst [])) .non
  | _, _ => False
theorem mtd_clear {K : PySem.W.Frag} : MtD K rClear mClear := fun w S x vs d ds Φ Q g r1 r2 h q => by
  cases d with
  | own hh =>
    cases ds with
    | nil =>
      obtain ⟨xs, e, hΦ⟩ := h
      obtain ⟨a, ys, rfl, ha, hH, ra⟩ := own_at g r1 e
      cases r2
      exact ⟨a, ys, rfl, rfl, hH, q .non .non (w.wr a (.lst [])) _ (Ext.wr _ (List.mem_of_getElem? ha)) (g.wr ha e .nil) .non hΦ⟩
    | cons y t => exact h.elim
  | _ => cases ds <;> exact h.elim
section
variable {X : Cx} {W : WX} {tg e a b : Expr} {te : TE} {Te : TD} {tl : TA} {Tl : TL} {p pos : Pos}
def iSeq (T : TD) : TId := fun Γ S Φ Ψ => T Γ S (fun S1 d => (∃ ds, asQ S1 d = some ds) ∧ Φ S1 (fun S' => asQ S' d)) Ψ
theorem src_list {K : PySem.W.Frag} {w0 : Hs} {v : V} {d : D} {a : Addr} (r : Rv K w0 v d) (e : v = .ref a) : SrcOk K w0 (Itl K a) (fun S' => asQ S' d) := fun w S ds i e' g h => by
  subst e
  obtain ⟨b, xs, eb, hs, ra⟩ := asQ_at g (e'.rp r) h
  cases eb
  refine ⟨fun d' hd => ?_, fun hl => ⟨xs, hs, by rw [ra.length]; exact hl⟩⟩
  obtain ⟨x, hx, rx⟩ := ra.get hd
  refine ⟨⟨xs, x, hs, hx⟩, fun y H' ⟨e1, hy⟩ => ?_⟩
  have := hy xs hs
  rw [hx] at this
  cases this
  exact ⟨w, Ext.refl w, g, e1.symm, rx⟩
theorem ji_list (h : JE X W e te Te) : JI X W tg e (iList X.K te) (iSeq Te) := ⟨pi_list h.pe, fun Γ S Φ Ψ σ w g sl hT hx Q q =>
  h.sem Γ S _ Ψ σ w g sl hT hx _ fun v d w1 S1 e1 g1 r1 ⟨⟨ds, hd⟩, h1⟩ => by
    obtain ⟨a, xs, rfl, hs, _⟩ := asQ_at g1 r1 hd
    exact ⟨a, rfl, ⟨xs, hs⟩, q _ _ w1 S1 e1 g1 (src_list r1 rfl) h1⟩⟩
def iTupD (T : TD) : TId := fun Γ S Φ Ψ => T Γ S (fun S1 d => ∃ ds, d = .tup ds ∧ Φ S1 (fun _ => some ds)) Ψ
def rngD (lo : Int) (n : Nat) : List D := (List.range n).map fun (i : Nat) => D.int (lo + (i : Int))
theorem rngD_get {lo : Int} {n i : Nat} {d : D} (h : (rngD lo n)[i]? = some d) : i < n ∧ d = .int (lo + (i : Int)) := by
  unfold rngD at h
  rw [List.getElem?_map] at h
  cases q : (List.range n)[i]? with
  | none => rw [q] at h; cases h
  | some j =>
    rw [q] at h
    obtain ⟨h1, h2⟩ := List.getElem?_eq_some_iff.mp q
    rw [List.getElem_range] at h2
    rw [List.length_range] at h1
    subst h2
    cases h
    exact ⟨h1, rfl⟩
theorem rngD_len (lo : Int) (n : Nat) : (rngD lo n).length = n := by
  unfold rngD
  rw [List.length_map, List.length_range]
theorem src_rng {K : PySem.W.Frag} {w0 : Hs} {lo : Int} {n : Nat} : SrcOk K w0 (Itr lo n) (fun _ => some (rngD lo n)) := fun w S ds i e' g h => by
  cases h
  refine ⟨fun d hd => ?_, fun hl => by rw [rngD_len] at hl; exact hl⟩
  obtain ⟨h1, rfl⟩ := rngD_get hd
  exact ⟨h1, fun x H' ⟨e1, e2⟩ => ⟨w, Ext.refl w, g, e1.symm, by rw [e2]; exact .int _⟩⟩
def iRg1 (T : TL) : TId := fun Γ S Φ Ψ => T Γ S (fun S1 ds => ∃ j, ds = [.int j] ∧ -(2 ^ 62) ≤ j ∧ j < 2 ^ 62 ∧ Φ S1 (fun _ => some (rngD 0 j.toNat))) Ψ
def iRg2 (T : TL) : TId := fun Γ S Φ Ψ => T Γ S (fun S1 ds => ∃ i j, ds = [.int i, .int j] ∧ (-(2 ^ 62) ≤ i ∧ i < 2 ^ 62 ∧ -(2 ^ 62) ≤ j ∧ j < 2 ^ 62) ∧ Φ S1 (fun _ => some (rngD i (j - i).toNat))) Ψ
theorem ji_range1 (hg : Gl X "range") (hm : X.mg "range" = none) (ha : JA X W [a] tl Tl) (hs : starEach [a] X.env = [(false, eval a X.env)] := by rfl) : JI X W tg (.Call (.Name "range" p) [a] [] pos) (iRng1 tl) (iRg1 Tl) := ⟨pi_range1 hg hm ha.pa hs, fun Γ S Φ Ψ σ w g sl hT hx Q q =>
  ha.sem Γ S _ Ψ σ w g sl hT hx _ fun vs ds w1 S1 e1 g1 r1 ⟨j, ed, h1, h2, h3⟩ => by
    subst ed
    obtain ⟨v, rfl, rv⟩ := one_of r1
    exact ⟨j, by rw [rv_int rv], h1, h2, q _ _ w1 S1 e1 g1 src_rng h3⟩⟩
/-- zip of two lists, enumerate of a list: a new tuple each -/
def zipD (xs ys : List D) : List D := (xs.zip ys).map fun p => D.tup [p.1, p.2]
def enumD (xs : List D) : List D := (List.range xs.length).map fun (i : Nat) => D.tup [.int (i : Int), xs.getD i .non]
def iZipD (T : TL) : TId := fun Γ S Φ Ψ => T Γ S (fun S1 ds => ∃ d e, ds = [d, e] ∧ (∃ xs, asQ S1 d = some xs) ∧ (∃ ys, asQ S1 e = some ys) ∧ Φ S1 (fun S' => (asQ S' d).bind fun xs => (asQ S' e).map fun ys => zipD xs ys)) Ψ
def iEnumD (T : TL) : TId := fun Γ S Φ Ψ => T Γ S (fun S1 ds => ∃ d, ds = [d] ∧ (∃ xs, asQ S1 d = some xs) ∧ Φ S1 (fun S' => (asQ S' d).map enumD)) Ψ
end
end DL
namespace DL
open PySem PySem.Spec PyProof.Rows L2
def sRaise (C : Addr) : TSd := fun D _ S => D.er S ⟨C, []⟩
theorem js_raise {X : Cx} {W : WX} {x m : Str} {C : Addr} {j : Nat} {p p2 pos pos' : Pos} (hc : X.calm = true) (tk : Takes X W) (q : PySem.W.excIn X.K C He.veBase "ValueError.__new__" = true) (gC : X.mg x = some (.ref C)) (kC : PySem.W.keepIn X.K (.ref C) = true)
    (b : PySem.W.subIn X.K (.ref C) (.type "BaseException") = some true) (t : PySem.W.typeIn X.K (.ref C) = some (.type "type")) (hg : Gl X x) (hdb : (x == ("__debug__" : Str)) = false := by decide) :
    JS X W (.Raise (some (.Call (.Name x p) [.Constant (.str m) j p2] [] pos')) none pos) (fun _ σ H => (fun (_ : L2.St) (H : Hp) (Q : XK) => Q (.ref C) none H) σ H fun cls d H' => W cls d σ H') (sRaise C) :=
  ⟨ps_raise hc tk (pmk_own PySem.F.excBase_ValueError q gC kC (raises_own b t) hg hdb), fun D' Γ S σ w D g sl h r => r.er σ (.ref C) none ⟨C, []⟩ w S (Ext.refl w) g ⟨rfl, rfl⟩ h⟩
def tyOf (S : Sto) : D → Option String
  | .non => some "NoneType"
  | .bl _ => some "bool"
  | .int _ => some "int"
  | .str _ => some "str"
  | .lst _ => some "list"
  | .sq _ => some "list"
  | .tup _ => some "tuple"
  | .dic _ => some "dict"
  | .own h => match S[h]? with
    | some (.lst _) => some "list"
    | _ => none
  | _ => none
def isTyB (a n : String) : Bool := a == n || (a == "bool" && n == "int")
def tys : List String := ["NoneType", "bool", "int", "str", "list", "tuple", "dict"]
def tyN : List String := ["int", "bool", "str", "list", "tuple", "dict"]
theorem kit_all : (tys.all fun a => tyN.all fun n => decide (kitB a n = some (isTyB a n))) = true := by decide +kernel
theorem kit_at {K : PySem.W.Frag} {a n : String} (ha : a ∈ tys) (hn : n ∈ tyN) : PySem.W.kitOne K (.type a) (.type n) = some (isTyB a n) := by
  have h := List.all_eq_true.mp kit_all a ha
  have h2 := List.all_eq_true.mp h n hn
  exact kit_ty (of_decide_eq_true h2)
theorem tyx_of {K : PySem.W.Frag} {w : Hs} {S : Sto} (g : Good K w S) {v : V} {d : D} {n : String} (r : Rv K w v d) (h : tyOf S d = some n) : TyX K w.H v (.type n) ∧ n ∈ tys := by
  cases d with
  | non => cases r; cases h; exact ⟨.base .non, by decide⟩
  | bl b => cases r; cases h; exact ⟨.base (.bl b), by decide⟩
  | int b => cases r; cases h; exact ⟨.base (.int b), by decide⟩
  | str b => cases r; cases h; exact ⟨.base (.str b), by decide⟩
  | lst ds =>
    cases h
    cases r with
    | lst h1 h2 => exact ⟨.base (.lst (g.sub _ _ h1)), by decide⟩
  | sq ds =>
    cases h
    cases r with
    | sq h1 h2 =>
      refine ⟨?_, by decide⟩
      rcases h1 with (h1 | ⟨o, h1⟩) | ⟨o, its, m, h1, hc, _⟩
      · exact .base (.lst (g.sub _ _ h1))
      · exact .base (.frz (g.sub _ _ h1))
      · exact .kList h1 hc
  | tup ds =>
    cases h
    cases r with
    | tup h1 h2 =>
      refine ⟨?_, by decide⟩
      rcases h1 with (h1 | ⟨o, h1⟩) | ⟨o, its, m, h1, hc, _⟩
      · exact .base (.tup (g.sub _ _ h1))
      · exact .fTuple (g.sub _ _ h1)
      · exact .kTuple h1 hc
  | dic ds =>
    cases h
    cases r with
    | dic h1 h2 => exact ⟨.base (.dK (g.sub _ _ h1)), by decide⟩
  | own hh =>
    have e2 : (match S[hh]? with
      | some (.lst _) => some "list"
      | _ => none) = some n := h
    cases q : S[hh]? with
    | none => rw [q] at e2; cases e2
    | some c =>
      rw [q] at e2
      cases c with
      | gone => cases e2
      | ins _ _ => cases e2
      | dct _ => cases e2
      | dck _ => cases e2
      | lck _ _ _ => cases e2
      | tpl _ => cases e2
      | lst es =>
        cases e2
        obtain ⟨a, xs, rfl, _, h2, _⟩ := own_at g r q
        exact ⟨.base (.lst h2), by decide⟩
  | _ => cases h
def cIsi (ds : List D) (S : Sto) (Φ : KD) : Prop := match ds with
  | [d, .ty n] => ∃ a, tyOf S d = some a ∧ n ∈ tyN ∧ Φ S (.bl (isTyB a n))
  | _ => False
theorem two_of {K : PySem.W.Frag} {w : Hs} {vs : List V} {d e : D} (r : Ra K w vs [d, e]) : ∃ v u, vs = [v, u] ∧ Rv K w v d ∧ Rv K w u e := by
  cases r with
  | cons r1 r2 =>
    obtain ⟨u, rfl, ru⟩ := one_of r2
    exact ⟨_, _, rfl, r1, ru⟩
theorem rv_ty {K : PySem.W.Frag} {w : Hs} {v : V} {n : String} (r : Rv K w v (.ty n)) : v = .ty n := by cases r; rfl
theorem cd_isi {K : PySem.W.Frag} : CallD K (rIsi K) cIsi := fun w S vs ds Φ Q g r h q => by
  cases ds with
  | nil => exact h.elim
  | cons d t =>
    cases t with
    | nil => exact h.elim
    | cons e t2 =>
      cases t2 with
      | cons _ _ => cases e <;> exact h.elim
      | nil =>
        cases e with
        | ty n =>
          obtain ⟨a, h1, h2, h3⟩ := h
          obtain ⟨v, u, rfl, rv, ru⟩ := two_of r
          rw [rv_ty ru]
          obtain ⟨h4, h5⟩ := tyx_of g rv h1
          exact ⟨v, .ty n, .type a, .type n, isTyB a n, rfl, .ty n, h4, kit_at h5 h2, q _ _ w S (Ext.refl w) g (.bl _) h3⟩
        | _ => exact h.elim
def rRepr (K : PySem.W.Frag) : List V → Hp → VK → Prop := fun xs H Q => ∃ a p, xs = [.ref a] ∧ Dp K H (.ref a) p ∧ p.showable = true ∧ p.hasDict = false ∧ p.depth ≤ 60 ∧ p.shown.length ≤ sizeLine ∧ Q (.str p.shown) H
theorem call_reprD {X : Cx} (hG : X.A.guards = some []) (hu : X.A.units + 64 < cLine) : CallR X (.builtin "repr") (rRepr X.K) := by
  intro pins s σ H xs us Q I r h
  obtain ⟨a, p, rfl, hd, hs, hn, hdp, hl, q⟩ := h
  have e := Vals.ref1 r
  subst e
  obtain ⟨as, hr⟩ := Dp.reads I p (.ref a) (.ref a) hd rfl
  exact repr_of_reads' hr hs (PyData.noDict_hsm hn) hG (by omega) (fun _ _ e => e) (fun h' u tk hk => ⟨.str p.shown, H, I.kept hk, ⟨_, rfl⟩, q⟩) hl
/-- a list or tuple that == and repr take -/
structure Shw (p : PyData) : Prop where
  s : p.showable = true
  d : p.hasDict = false
  dp : p.depth ≤ 60
  l : p.shown.length ≤ sizeLine
def cRepr (ds : List D) (S : Sto) (Φ : KD) : Prop := match ds with
  | [d] => (∃ a, tyOf S d = some a ∧ (a = "list" ∨ a = "tuple")) ∧ ∃ p, PyR S d p ∧ Shw p ∧ Φ S (.str p.shown)
  | _ => False
theorem cd_repr {K : PySem.W.Frag} : CallD K (rRepr K) cRepr := fun w S vs ds Φ Q g r h q => by
  cases ds with
  | nil => exact h.elim
  | cons d t =>
    cases t with
    | cons _ _ => exact h.elim
    | nil =>
      obtain ⟨⟨a, h1, h2⟩, p, h3, h4, h5⟩ := h
      obtain ⟨v, rfl, rv⟩ := one_of r
      have hp := dp_of g p d v h3 rv
      have hv : ∃ b, v = .ref b := by
        cases rv <;> first
          | exact ⟨_, rfl⟩
          | (cases h1; rcases h2 with z | z <;> exact absurd z (by decide))
          | cases h1
      obtain ⟨b, rfl⟩ := hv
      exact ⟨b, p, rfl, hp, h4.s, h4.d, h4.dp, h4.l, q _ _ w S (Ext.refl w) g (.str _) h5⟩
/-- as FnOk, where the guards around are known to be none -/
structure FnOkG (P : Program) (wd : World) (K : PySem.W.Frag) (mg : Str → Option Value) (B : Heap) (cx : CXT) (k : Nat) (f : Addr) (fd : FuncData) (ps : List Str) (sp : Sp) : Prop where
  many : ∀ as H Q E, sp as H Q E → as.length = ps.length
  go : ∀ (Ar : Around) (out : List Env) (s0 : Shared) (H : Hp) (ar : Args) (us : List Value) (as : List V) (Q : VK) (E : XK),
    Ar.guards = some [] → Room k Ar → Env0 P wd K mg B Ar out s0 H → BindsTo s0 fd ar (ps.zip us) → Vals as us → sp as H Q E →
      codeAny (model P wd) Ar (.call (.ref f) ar) (CR cx out P wd H s0 Q E) s0
section
variable {P : Program} {wd : World} {K : PySem.W.Frag} {mg : Str → Option Value} {B : Heap} {cx : CXT} {k : Nat} {f : Addr} {fd : FuncData} {ps N : List Str} {sp : Sp}
theorem FnOkG.of (F : FnOk P wd K mg B cx k f fd ps sp) : FnOkG P wd K mg B cx k f fd ps sp where
  many := F.len
  go := fun Ar out s0 H ar us as Q E _ room en bi vs h => F.run Ar out s0 H ar us as Q E room en bi vs h
/-- how a body's end is a call's end -/
theorem end_of {qual : Str} {scope : Scope} {cdv : Value} {Ar : Around} {out : List Env} {s0 s1 : Shared} {H : Hp} {Q : VK} {E : XK} {fl : Flow}
    (h : SP (cxOf cx P wd K mg B N qual scope f cdv Ar out s0 H E) [] { nx := fun _ H1 => Q .non H1, rt := Q } fl s1) :
    match fl with
    | .ret u => CE out P wd H s0 Q u s1
    | .next => CE out P wd H s0 Q .none s1
    | _ => False := by
  cases fl with
  | ret u => exact let ⟨v, _, H1, J, r, q⟩ := h; ⟨v, H1, J.os, J.bare, J.base, J.hok, r, q⟩
  | next => exact let ⟨_, H1, J, q⟩ := h; ⟨.non, H1, J.os, J.bare, J.base, J.hok, rfl, q⟩
  | brk => exact let ⟨_, _, _, q⟩ := h; q.elim
  | cont => exact let ⟨_, _, _, q⟩ := h; q.elim
theorem fn_ofG {nm qual : Str} {pr : Arguments} {bd : List Stmt} {scope : Scope} {dV kV doc pm cdv ct oc : Value} {an od : Option Addr} {osl : Array (Option Value)}
    (there : K.lookup f = some ⟨oc, od, .func (PySem.W.fnOf nm qual pr bd scope dV kV doc pm an cdv ct), osl⟩) (code : PySem.W.codeIn K cdv qual = true) (Sc : FnScope N ps scope) (many : ∀ as H Q E, sp as H Q E → as.length = ps.length)
    (body : ∀ (Ar : Around) (out : List Env) (s0 : Shared) (H : Hp) (as : List V) (Q : VK) (E : XK), Ar.guards = some [] → Room k (Ar.deeper (envOfC qual scope s0.heap.objs.size f cdv)) → sp as H Q E →
      ∃ t, PSs (cxOf cx P wd K mg B N qual scope f cdv Ar out s0 H E) bd t ∧ t { nx := fun _ H1 => Q .non H1, rt := Q } (L2.start N as) H) :
    FnOkG P wd K mg B cx (k + 1) f (PySem.W.fnOf nm qual pr bd scope dV kV doc pm an cdv ct) ps sp where
  many := many
  go := by
    intro Ar out s0 H ar us as Q E gd room en bi vs hs
    obtain ⟨t, run, ask⟩ := body Ar out s0 H as Q E gd (room.deeper _) hs
    have up : ∀ c o, B.get? c = some o → s0.heap.get? c = some o := fun c o e => (en.bs c o e).1
    have kin : K.In s0.heap := en.mod.kin.keeps up
    have noLim := en.mod.nolimit.keeps up
    refine codeAny_call_function room.depth (kin _ _ there) rfl Sc.co Sc.gen rfl (PySem.W.codeRec_of kin code)
      (bi _ _ _ _ (wpAny_newFunctionEnv_cells Sc.kind (fun y hy => (Sc.par y.1 (List.of_mem_zip hy).1).elim .inl fun c => .inr ⟨c, PySem.W.cellsFrom_some _ _ _ (.inl c)⟩) ?_))
    intro env ee s1 inc
    subst ee
    refine ⟨noLim.keeps inc.toInCall.keep, codeAny_func ?_⟩
    refine wpAny_mono (run.run [] s1 (L2.start N as) H _ (inv_start Sc room.hd en (many _ _ _ _ hs) vs inc) ask) (fun fl s2 h => ?_) (fun _ _ h => h)
    have z := end_of (fl := fl) h
    cases fl <;> first | exact z | exact z.elim
end
section
variable {X : Cx} {W : WX} {e : Expr} {es : List Expr} {pos p : Pos} {tl : TA} {Tl : TL} {k : Nat} {f : Addr} {fd : FuncData} {ps : List Str} {sp : DSpec} {x : Str}
/-- the callee's run, its guards known -/
theorem goG {s0 : Sp} {pins : List (Addr × Obj)} {σ : L2.St} {H : Hp} {s : Shared} {Q : VK} {us : List Value} {vs : List V} (F : FnOkG X.prog X.w X.K X.mg X.base (L2.CX X.prog X.w) k f fd ps s0) (gd : X.A.guards = some []) (room : Room k X.A) (hb : Binds X.K fd ps []) (tk : Takes X W)
    (I : Inv X pins σ H s) (r : Vals vs us) (h : s0 vs H Q (WE W σ)) : wpAny (model X.prog X.w) X.A (call (.ref f) us) (EP X pins σ Q) X.xe s := by
  have many : (us ++ []).length = ps.length := by rw [List.append_nil, ← r.length, F.many _ _ _ _ h]
  have bi : BindsTo s fd ⟨us, []⟩ (ps.zip us) := by
    have z := hb s us I.kIn many
    rwa [List.append_nil] at z
  refine wpAny_call (codeAny_mono (F.go _ _ s H _ us vs Q _ gd room I.env0 bi r h) fun rr s2 hq => ?_)
  match rr, hq with
  | .error u, hq => exact passAt tk σ pins H s u s2 I hq
  | .ok (.ret u), hq => exact I.after hq
  | .ok .next, hq => exact False.elim hq
  | .ok .brk, hq => exact False.elim hq
  | .ok .cont, hq => exact False.elim hq
theorem je_callG (F : FnOkG X.prog X.w X.K X.mg X.base (L2.CX X.prog X.w) k f fd ps (spOf X.K sp)) (gd : X.A.guards = some []) (room : Room k X.A) (hg : Gl X x) (hm : X.mg x = some (.ref f)) (hk : PySem.W.keepIn X.K (.ref f) = true) (hb : Binds X.K fd ps [])
    (tk : Takes X W) (ha : JA X W (e :: es) tl Tl) (hdb : (x == ("__debug__" : Str)) = false := by decide) (he : starEach (e :: es) X.env = (false, eval e X.env) :: starEach es X.env := by rfl) (hpl : (backTo pos (starEach es X.env)).any (·.1) = false := by rfl) :
    JE X W (.Call (.Name x p) (e :: es) [] pos) (tCallS (spOf X.K sp) (WE W) tl) (dCall sp Tl) where
  sem := sem_call ha.sem
  pe := ⟨fun pins s σ H Q I h => wpAny_Call_Name_kw (ld_glob I hg hm (PySem.W.callWith_K (h₀ := X.base) I.ok.mod.kin hk
    (thn (ha.pa.run pos pins s σ H _ I h) fun us s1 ⟨vs, H1, I1, r, q⟩ => ⟨I1.kIn, goG F gd room hb tk I1 r q⟩) he hpl) hdb)⟩
end
end DL
namespace DL
open PySem PySem.Spec PyProof.Rows L2
section
variable {P : Program} {wd : World} {K : PySem.W.Frag} {mg mb : Str → Option Value} {k : Nat} {fa a : Addr} {fd : FuncData} {x : Str} {sp : DSpec} {s1 : Shared} {vs : List Value} {ns : List Int}
abbrev scrO (vs : List Value) : Obj := { cls := .type "list", data := .seq vs.toArray }
/-- the row's call, from what is tracked: nothing, or the script -/
theorem law_from {H : Hp} (hH : ∀ b u, H b = some u → b = a ∧ u = .frz (scrO vs) (.lst (ns.map V.int))) (hK : H a ≠ none → K.lookup a = none) (hS : SqL K H a (ns.map V.int))
    (kin : K.In s1.heap) (hns : s1.heap.Ns mainGlobals mg) (hb : s1.heap.Ns builtinsNs mb) (hbb : ∀ y : Str, y ≠ "__name__" → mb y = bootBuiltins y) (lim : s1.heap.NoLimit) (hg : s1.gens = #[]) (ha : s1.heap.get? a = some (scrO vs)) (hi : IntsAre vs ns) (hl : ns.length ≤ sizeLine)
    (room : Room k callerA) (F : ∀ base : Heap, K.In base → base.Ns mainGlobals mg → FnOkG P wd K mg base (L2.CX P wd) k fa fd [x] (spOf K sp)) (bind : ∀ (s : Shared) (u : Value), BindsTo s fd ⟨[u], []⟩ [(x, u)])
    (holds : sp [.sq (ns.map D.int)] [] (fun _ d => d = .bl true) fun _ _ => False) :
    codeAny (model P wd) callerA (.call (.ref fa) ⟨[.ref a], []⟩) (fun r s' => r = .ok (.ret (.bool true)) ∧ OldK s1.heap s'.heap ∧ s'.os = s1.os ∧ AllBare s'.gens) s1 := by
  have rv : Vals (ns.map V.int) vs := vals_ints hi
  have hok : HOk P wd H s1.heap := fun b u e => by
    obtain ⟨rfl, rfl⟩ := hH b u e
    exact ⟨ha, by rw [List.length_map]; exact hl, vs, _, rv, ha⟩
  have noD : ∀ {b : Addr} {o : Obj} {es : Array DictEntry} {n : Nat}, s1.heap.get? b = some o → o.data = .dict es n → H b = none := fun {b o es n} e d => by
    cases q : H b with
    | none => rfl
    | some u =>
      have z := (hH b u q).1
      rw [z, ha] at e
      rw [← Option.some.inj e] at d
      exact nomatch d
  have ns_ : ∀ {b : Addr} {m : Str → Option Value}, s1.heap.Ns b m → (hidT s1.heap H).Ns b m := fun {b m} n => by
    obtain ⟨o, es, ep, e, d, r⟩ := n
    exact ⟨o, es, ep, hidT_get e (noD e d), d, r⟩
  have kinB : K.In (hidT s1.heap H) := fun b o e => hidT_get (kin b o e) (by
    cases q : H b with
    | none => rfl
    | some u =>
      have z := (hH b u q).1
      have y := hK (by rw [← z, q]; exact fun t => nomatch t)
      rw [← z, e] at y
      exact nomatch y)
  have md : Mod K mg (hidT s1.heap H) := by
    obtain ⟨mc, l1, l2⟩ := lim
    exact ⟨kinB, ns_ hns, ⟨mb, ns_ hb, hbb⟩, ⟨mc, ns_ l1, l2⟩⟩
  have en : Env0 P wd K mg (hidT s1.heap H) callerA [] s1 H :=
    ⟨rfl, md, fun _ _ e => of_hidT e, Nat.le_of_eq (hidT_size _ _), trivial, (fun _ h => nomatch h), hok, .of_eq hg⟩
  have sps : spOf K sp [.ref a] H (fun v _ => v = .bl true) fun _ _ _ => False := by
    refine ⟨⟨H, [], H⟩, [], [.sq (ns.map D.int)], (fun _ d => d = .bl true), (fun _ _ => False), rfl, ⟨fun _ _ e => e, List.nodup_nil, rfl, fun h b c e => by simp at e, fun b h => nomatch h⟩, .cons (.sq hS ?_) .nil, holds, fun v d w' S' _ _ r q => ?_, fun _ _ _ _ _ _ _ _ z => z⟩
    · have e : ∀ l : List Int, RpA K H [] (l.map V.int) (l.map D.int) := fun l => by
        induction l with
        | nil => exact .nil
        | cons i l ih => exact .cons (.int i) ih
      exact e ns
    · have q : d = .bl true := q
      subst q
      exact rv_bl r
  refine codeAny_mono ((F _ kinB (ns_ hns)).go callerA [] s1 H ⟨[.ref a], []⟩ [.ref a] [.ref a] _ _ rfl room en (bind s1 _) (.cons rfl .nil) sps) fun r s2 h => ?_
  match r, h with
  | .ok (.ret u), h =>
    obtain ⟨v, H2, os, bare, un, hok2, r2, q⟩ := h
    have q : v = .bl true := q
    subst q
    have eu : u = Value.bool true := r2
    refine ⟨by rw [eu], OldK.of_keep fun b o e => ?_, os, bare⟩
    cases z : H b with
    | none => exact un.keep b o e z (fun t => nomatch t) (fun t => nomatch t)
    | some y =>
      obtain ⟨rfl, rfl⟩ := hH b y z
      have t1 := (hok2 b _ (un.frzs b _ _ z)).1
      rw [ha] at e
      rw [← Option.some.inj e]
      exact t1
  | .ok .next, h => exact False.elim h
  | .ok .brk, h => exact False.elim h
  | .ok .cont, h => exact False.elim h
  | .error e, h =>
    have h : L2.CX P wd [] H s1 (fun _ _ _ => False) e s2 := h
    obtain ⟨_, _, _, _, _, _, _, _, _, _, _, _, z⟩ := h
    exact z.elim
theorem law_end (kin : K.In s1.heap) (hns : s1.heap.Ns mainGlobals mg) (hb : s1.heap.Ns builtinsNs mb) (hbb : ∀ y : Str, y ≠ "__name__" → mb y = bootBuiltins y) (lim : s1.heap.NoLimit) (hg : s1.gens = #[]) (ha : s1.heap.get? a = some (scrO vs)) (hi : IntsAre vs ns) (hl : ns.length ≤ sizeLine)
    (room : Room k callerA) (F : ∀ base : Heap, K.In base → base.Ns mainGlobals mg → FnOkG P wd K mg base (L2.CX P wd) k fa fd [x] (spOf K sp)) (bind : ∀ (s : Shared) (u : Value), BindsTo s fd ⟨[u], []⟩ [(x, u)])
    (holds : sp [.sq (ns.map D.int)] [] (fun _ d => d = .bl true) fun _ _ => False) :
    codeAny (model P wd) callerA (.call (.ref fa) ⟨[.ref a], []⟩) (fun r s' => r = .ok (.ret (.bool true)) ∧ OldK s1.heap s'.heap ∧ s'.os = s1.os ∧ AllBare s'.gens) s1 := by
  cases q : K.lookup a with
  | some o =>
    have e := kin a o q
    rw [ha] at e
    have e2 := Option.some.inj e
    refine law_from (H := fun _ => none) (fun b u z => nomatch z) (fun z => absurd rfl z) (.inr ⟨o, vs.toArray, 0, q, ?_, ?_, ?_, ?_, ?_⟩) kin hns hb hbb lim hg ha hi hl room F bind holds
    · rw [← e2]
    · rw [← e2]
    · rw [← e2]
    · rw [List.size_toArray, hi.length]; exact hl
    · exact vals_ints hi
  | none =>
    refine law_from (H := fun b => if b = a then some (.frz (scrO vs) (.lst (ns.map V.int))) else none) (fun b u z => ?_) (fun _ => q) (.inl (.inr ⟨scrO vs, if_pos rfl⟩)) kin hns hb hbb lim hg ha hi hl room F bind holds
    by_cases e : b = a
    · exact ⟨e, (Option.some.inj ((if_pos e).symm.trans z)).symm⟩
    · exact nomatch (if_neg e).symm.trans z
end
/-- what the row's head leaves, from the law's promise by data -/
theorem walk_end {l : PySem.W.OpenLaw} {n k : Nat} {q : Program} {loose : List Str} {XP : (Str → Option Value) → Heap → Prop} {YP : World → Heap → Prop} {d : DefRec} {x : Str} (hn : l.most = some n) (hn2 : n ≤ sizeLine) (hdf : d.params.defaults = []) (room : Room k callerA)
    (F : ∀ (w : World) (mg : Str → Option Value) (fa : Addr) (h : Heap), YP w h → h.Ns mainGlobals mg → mg d.name = some (.ref fa) →
      ∃ (K : PySem.W.Frag) (fd : FuncData) (sp : DSpec), K.In h ∧ (∀ (s : Shared) (u : Value), BindsTo s fd ⟨[u], []⟩ [(x, u)]) ∧ (∀ ns : List Int, ns.length ≤ n → (∀ z ∈ ns, Builtin.Int.intBits z ≤ 1048576) → sp [.sq (ns.map D.int)] [] (fun _ d => d = .bl true) fun _ _ => False) ∧
        ∀ base : Heap, K.In base → base.Ns mainGlobals mg → FnOkG l.prog w K mg base (L2.CX l.prog w) k fa fd [x] (spOf K sp)) :
    PySem.W.WalkO q loose XP YP l.row.toRowW d [] (fun f vs => PySem.call f vs) := by
  refine Att.attach_callB hn hdf fun w s0 s1 mg mb fa o pm cd doc a vs ns G Y ho hd hcd hmg hobj hints hlen hbits hg => ?_
  obtain ⟨K, fd, sp, kin, hb, hs, hF⟩ := F w mg fa _ Y G.T.g hmg
  exact law_end kin G.T.g G.T.b G.T.builtins G.T.nolimit hg hobj hints (Nat.le_trans hlen hn2) room hF hb (hs ns hlen hbits)
end DL
namespace DL
open PySem PySem.Spec PyProof.Rows L2
def fzD (d : D) (S : Sto) (Φ : KD) : Prop := match d with
  | .own h => ∃ ds, S[h]? = some (.lst ds) ∧ Φ (S.set h .gone) (.lst ds)
  | d => Φ S d
def dFz (T : TD) : TD := fun Γ S Φ Ψ => T Γ S (fun S1 d => fzD d S1 Φ) Ψ
theorem fz_ok {K : PySem.W.Frag} {w : Hs} {S : Sto} (g : Good K w S) {Φ : KD} {Q : VK} {v : V} {d : D} (r : Rv K w v d) (h : fzD d S Φ) (q : OkD K w Φ Q) : Q v w.H := by
  have other : Φ S d → Q v w.H := fun z => q v d w S (Ext.refl w) g r z
  cases d with
  | own hh =>
    obtain ⟨ds, e, hΦ⟩ := h
    obtain ⟨a, xs, rfl, ha, hH, ra⟩ := own_at g r e
    have hm : a ∈ w.al := List.mem_of_getElem? ha
    have hF : w.F a = none := (g.cell hh a _ ha e).1
    have ee : Ext w (w.fz a (.lst xs)) := Ext.fz hm hF
    exact q (.ref a) (.lst ds) (w.fz a (.lst xs)) _ ee (g.fz ha e hH) (.lst upd_same (ee.ra ra)) hΦ
  | _ => exact other h
theorem je_fz {X : Cx} {W : WX} {e : Expr} {t : TE} {T : TD} (h : JE X W e t T) : JE X W e t (dFz T) := ⟨h.pe, fun Γ S Φ Ψ σ w g sl hT hx Q q =>
  h.sem Γ S _ Ψ σ w g sl hT hx Q fun v d w1 S1 e1 g1 r1 h1 => fz_ok g1 r1 h1 (q.ext e1)⟩
mutual
def D.low (n : Nat) : D → Bool
  | .own h => decide (h < n)
  | .lst ds => lowA n ds
  | .sq ds => lowA n ds
  | .tup ds => lowA n ds
  | .ins _ fs => lowF n fs
  | .dic kvs => lowK n kvs
  | .non => true
  | .bl _ => true
  | .int _ => true
  | .str _ => true
  | .obj _ => true
  | .ty _ => true
  | .exc _ fs => lowF n fs
def lowA (n : Nat) : List D → Bool
  | [] => true
  | d :: ds => D.low n d && lowA n ds
def lowF (n : Nat) : List (Str × D) → Bool
  | [] => true
  | (_, d) :: ds => D.low n d && lowF n ds
def lowK (n : Nat) : List (Key × D) → Bool
  | [] => true
  | (_, d) :: ds => D.low n d && lowK n ds
end
section
variable {K : PySem.W.Frag} {F : Hp} {al : List Addr}
mutual
theorem rp_low (n : Nat) : ∀ (d : D) (v : V), Rp K F al v d → d.low n = true → Rp K F (al.take n) v d
  | .non, _, h, _ => by cases h; exact .non
  | .bl _, _, h, _ => by cases h; exact .bl _
  | .int _, _, h, _ => by cases h; exact .int _
  | .str _, _, h, _ => by cases h; exact .str _
  | .lst ds, _, h, l => by
    cases h with
    | lst h1 h2 => exact .lst h1 (ra_low n ds _ h2 (by simpa [D.low] using l))
  | .sq ds, _, h, l => by
    cases h with
    | sq h1 h2 => exact .sq h1 (ra_low n ds _ h2 (by simpa [D.low] using l))
  | .tup ds, _, h, l => by
    cases h with
    | tup h1 h2 => exact .tup h1 (ra_low n ds _ h2 (by simpa [D.low] using l))
  | .ins C fs, _, h, l => by
    cases h with
    | ins h1 h2 => exact .ins h1 (rf_low n fs _ h2 (by simpa [D.low] using l))
  | .dic fs, _, h, l => by
    cases h with
    | dic h1 h2 => exact .dic h1 (rk_low n fs _ h2 (by simpa [D.low] using l))
  | .obj _, _, h, _ => by cases h; exact .obj _
  | .own m, _, h, l => by
    cases h with
    | own h1 =>
      have hm : m < n := by simpa [D.low] using l
      exact .own (by rw [List.getElem?_take_of_lt hm]; exact h1)
  | .ty _, _, h, _ => by cases h; exact .ty _
  | .exc C fs, _, h, l => by
    cases h with
    | exc0 h1 h2 h0 h3 => exact .exc0 h1 h2 h0 h3
    | excD h1 h2 h0 h3 h4 h5 => exact .excD h1 h2 h0 h3 h4 (rf_low n fs _ h5 (by simpa [D.low] using l))
theorem ra_low (n : Nat) : ∀ (ds : List D) (vs : List V), RpA K F al vs ds → lowA n ds = true → RpA K F (al.take n) vs ds
  | [], _, h, _ => by cases h; exact .nil
  | d :: ds, _, h, l => by
    rw [lowA, Bool.and_eq_true] at l
    cases h with
    | cons h1 h2 => exact .cons (rp_low n d _ h1 l.1) (ra_low n ds _ h2 l.2)
theorem rf_low (n : Nat) : ∀ (ds : List (Str × D)) (vs : List (Str × V)), RpF K F al vs ds → lowF n ds = true → RpF K F (al.take n) vs ds
  | [], _, h, _ => by cases h; exact .nil
  | (_, d) :: ds, _, h, l => by
    rw [lowF, Bool.and_eq_true] at l
    cases h with
    | cons h1 h2 => exact .cons (rp_low n d _ h1 l.1) (rf_low n ds _ h2 l.2)
theorem rk_low (n : Nat) : ∀ (ds : List (Key × D)) (vs : List (Key × V)), RpK K F al vs ds → lowK n ds = true → RpK K F (al.take n) vs ds
  | [], _, h, _ => by cases h; exact .nil
  | (_, d) :: ds, _, h, l => by
    rw [lowK, Bool.and_eq_true] at l
    cases h with
    | cons h1 h2 => exact .cons (rp_low n d _ h1 l.1) (rk_low n ds _ h2 l.2)
end
mutual
theorem low_of {n : Nat} (hn : al.length ≤ n) : ∀ (d : D) (v : V), Rp K F al v d → d.low n = true
  | .non, _, h => by simp [D.low]
  | .bl _, _, h => by simp [D.low]
  | .int _, _, h => by simp [D.low]
  | .str _, _, h => by simp [D.low]
  | .lst ds, _, h => by
    cases h with
    | lst h1 h2 => rw [D.low]; exact lowA_of hn ds _ h2
  | .sq ds, _, h => by
    cases h with
    | sq h1 h2 => rw [D.low]; exact lowA_of hn ds _ h2
  | .tup ds, _, h => by
    cases h with
    | tup h1 h2 => rw [D.low]; exact lowA_of hn ds _ h2
  | .ins C fs, _, h => by
    cases h with
    | ins h1 h2 => rw [D.low]; exact lowF_of hn fs _ h2
  | .dic fs, _, h => by
    cases h with
    | dic h1 h2 => rw [D.low]; exact lowK_of hn fs _ h2
  | .obj _, _, h => by simp [D.low]
  | .own m, _, h => by
    cases h with
    | own h1 =>
      have := (List.getElem?_eq_some_iff.mp h1).1
      rw [D.low, decide_eq_true_eq]
      omega
  | .ty _, _, h => by simp [D.low]
  | .exc C fs, _, h => by
    cases h with
    | exc0 h1 h2 h0 h3 => rw [D.low, lowF]
    | excD h1 h2 h0 h3 h4 h5 => rw [D.low]; exact lowF_of hn fs _ h5
theorem lowA_of {n : Nat} (hn : al.length ≤ n) : ∀ (ds : List D) (vs : List V), RpA K F al vs ds → lowA n ds = true
  | [], _, h => by rw [lowA]
  | d :: ds, _, h => by
    cases h with
    | cons h1 h2 => rw [lowA, low_of hn d _ h1, lowA_of hn ds _ h2] <;> rfl
theorem lowF_of {n : Nat} (hn : al.length ≤ n) : ∀ (ds : List (Str × D)) (vs : List (Str × V)), RpF K F al vs ds → lowF n ds = true
  | [], _, h => by rw [lowF]
  | (_, d) :: ds, _, h => by
    cases h with
    | cons h1 h2 => rw [lowF, low_of hn d _ h1, lowF_of hn ds _ h2] <;> rfl
theorem lowK_of {n : Nat} (hn : al.length ≤ n) : ∀ (ds : List (Key × D)) (vs : List (Key × V)), RpK K F al vs ds → lowK n ds = true
  | [], _, h => by rw [lowK]
  | (_, d) :: ds, _, h => by
    cases h with
    | cons h1 h2 => rw [lowK, low_of hn d _ h1, lowK_of hn ds _ h2] <;> rfl
end
end
def Cell.low (n : Nat) : Cell → Bool
  | .lst ds => lowA n ds
  | .ins _ fs => lowF n fs
  | .dct ks => ks.all fun p => p.2.low n
  | .dck ks => lowK n ks
  | .lck _ _ ks => lowK n ks
  | .tpl _ => true
  | .gone => true
/-- behind a def: the cells of its own are left behind -/
def Cut (S0 S1 S' : Sto) : Prop := S0.length ≤ S1.length ∧ S1 <+: S' ∧ ∀ (h : Nat) (c : Cell), S1[h]? = some c → S0[h]? = some c ∨ c.low S1.length = true
def RetOk (S0 : Sto) (Φ : KD) : KD := fun S' d => Φ S' d ∨ ∃ S1, Cut S0 S1 S' ∧ d.low S1.length = true ∧ Φ S1 d
def ErOk (S0 : Sto) (Ψ : KX) : KX := fun S' x => Ψ S' x ∨ ∃ S1, Cut S0 S1 S' ∧ lowF S1.length x.fs = true ∧ Ψ S1 x
theorem ret_now {S0 S : Sto} {Φ : KD} {d : D} (h : Φ S d) : RetOk S0 Φ S d := .inl h
section
variable {K : PySem.W.Frag} {w0 w' : Hs} {S0 S1 S' : Sto}
def Hs.tk (w : Hs) (n : Nat) : Hs := ⟨w.F, w.al.take n, w.H⟩
theorem cut_ok (g0 : Good K w0 S0) (e : Ext w0 w') (g' : Good K w' S') (c : Cut S0 S1 S') : Ext w0 (w'.tk S1.length) ∧ Good K (w'.tk S1.length) S1 := by
  obtain ⟨hl, ⟨cs, hp⟩, hc⟩ := c
  have hle : S1.length ≤ w'.al.length := by rw [g'.len, ← hp, List.length_append]; omega
  have get : ∀ (n : Nat) (a : Addr), (w'.al.take S1.length)[n]? = some a → n < S1.length ∧ w'.al[n]? = some a := fun n a q => by
    have h1 := (List.getElem?_eq_some_iff.mp q).1
    rw [List.length_take] at h1
    have h2 : n < S1.length := by omega
    rw [List.getElem?_take_of_lt h2] at q
    exact ⟨h2, q⟩
  refine ⟨⟨e.f, ?_, e.new, e.kp, e.dm⟩, ⟨g'.sub, g'.nd.sublist (List.take_sublist _ _), ?_, fun n a cc q1 q2 => ?_, fun a q => g'.dom a (List.mem_of_mem_take q)⟩⟩
  · obtain ⟨β, eb, hb⟩ := e.al
    refine ⟨β.take (S1.length - w0.al.length), ?_, fun b q => hb b (List.mem_of_mem_take q)⟩
    show w'.al.take S1.length = _
    rw [eb, List.take_append, List.take_of_length_le (by rw [g0.len]; exact hl)]
  · show (w'.al.take S1.length).length = _
    rw [List.length_take]; omega
  · obtain ⟨h2, q1⟩ := get n a q1
    have q3 : S'[n]? = some cc := by rw [← hp, List.getElem?_append_left h2]; exact q2
    have ok := g'.cell n a cc q1 q3
    cases cc with
    | gone => exact True.intro
    | lst ds =>
      obtain ⟨hF, xs, hH, ra⟩ := ok
      refine ⟨hF, xs, hH, ra_low _ ds xs ra ?_⟩
      rcases hc n _ q2 with z | z
      · have hn0 : n < w0.al.length := by rw [g0.len]; exact (List.getElem?_eq_some_iff.mp z).1
        have q0 : w0.al[n]? = some w0.al[n] := List.getElem?_eq_getElem hn0
        obtain ⟨_, ys, _, r0⟩ := g0.cell n _ _ q0 z
        exact lowA_of (by rw [g0.len]; exact hl) ds ys r0
      · exact z
    | ins C fs =>
      obtain ⟨hF, dx, xs, hH, ra⟩ := ok
      refine ⟨hF, dx, xs, hH, rf_low _ fs xs ra ?_⟩
      rcases hc n _ q2 with z | z
      · have hn0 : n < w0.al.length := by rw [g0.len]; exact (List.getElem?_eq_some_iff.mp z).1
        have q0 : w0.al[n]? = some w0.al[n] := List.getElem?_eq_getElem hn0
        obtain ⟨_, _, ys, _, r0⟩ := g0.cell n _ _ q0 z
        exact lowF_of (by rw [g0.len]; exact hl) fs ys r0
      · exact z
    | dct ks =>
      obtain ⟨hF, us, hH, ra⟩ := ok
      refine ⟨hF, us, hH, ra.1, fun i k d q => ?_⟩
      obtain ⟨v, q5, rv⟩ := ra.2 i k d q
      refine ⟨v, q5, rp_low _ d v rv ?_⟩
      rcases hc n _ q2 with z | z
      · have hn0 : n < w0.al.length := by rw [g0.len]; exact (List.getElem?_eq_some_iff.mp z).1
        have q0 : w0.al[n]? = some w0.al[n] := List.getElem?_eq_getElem hn0
        obtain ⟨_, ys, _, r0⟩ := g0.cell n _ _ q0 z
        obtain ⟨v0, _, rv0⟩ := r0.2 i k d q
        exact low_of (by rw [g0.len]; exact hl) d v0 rv0
      · have z : (ks.all fun p => p.2.low S1.length) = true := z
        rw [List.all_eq_true] at z
        exact z (k, d) (List.mem_of_getElem? q)
    | dck ks =>
      obtain ⟨hF, us, hH, ra⟩ := ok
      refine ⟨hF, us, hH, rk_low _ ks us ra ?_⟩
      rcases hc n _ q2 with z | z
      · have hn0 : n < w0.al.length := by rw [g0.len]; exact (List.getElem?_eq_some_iff.mp z).1
        have q0 : w0.al[n]? = some w0.al[n] := List.getElem?_eq_getElem hn0
        obtain ⟨_, ys, _, r0⟩ := g0.cell n _ _ q0 z
        exact lowK_of (by rw [g0.len]; exact hl) ks ys r0
      · exact z
    | lck o us ks =>
      obtain ⟨hF, hH, ra⟩ := ok
      refine ⟨hF, hH, rk_low _ ks us ra ?_⟩
      rcases hc n _ q2 with z | z
      · have hn0 : n < w0.al.length := by rw [g0.len]; exact (List.getElem?_eq_some_iff.mp z).1
        have q0 : w0.al[n]? = some w0.al[n] := List.getElem?_eq_getElem hn0
        obtain ⟨_, _, r0⟩ := g0.cell n _ _ q0 z
        exact lowK_of (by rw [g0.len]; exact hl) ks us r0
      · exact z
    | tpl ks => exact ok
end
theorem body_ok2 {K : PySem.W.Frag} {N : List Str} {t : TS} {T : TSd} {sp : DSpec} {E : XK} (hb : SemS K (WD E) t T) (h : ∀ ds S Φ Ψ, sp ds S Φ Ψ → T { nx := fun _ S' => RetOk S Φ S' .non, rt := RetOk S Φ, er := ErOk S Ψ } (gstart N ds) S) {vs : List V} {H : Hp} {Q : VK} (hs : spOf K sp vs H Q E) :
    t { nx := fun _ H' => Q .non H', rt := Q } (L2.start N vs) H := by
  obtain ⟨w, S, ds, Φ, Ψ, rfl, g, r, h1, q, hx⟩ := hs
  have qr : OkD K w (RetOk S Φ) Q := fun v d w' S' e' g' r' hr => by
    rcases hr with hr | ⟨S1, c, hl, hr⟩
    · exact q v d w' S' e' g' r' hr
    · obtain ⟨e2, g2⟩ := cut_ok g e' g' c
      exact q v d (w'.tk S1.length) S1 e2 g2 (rp_low _ d v r' hl) hr
  refine hb _ _ S _ w _ g (slots_start r) (h ds S Φ Ψ h1) ⟨fun σ' Γ' w' S' e' g' _ h' => qr .non .non w' S' e' g' .non h', qr, fun _ _ _ _ _ _ _ z => z.elim, fun _ _ _ _ _ _ _ z => z.elim, fun _ cv dx x w' S' e' g' r' h' => ?_⟩
  rcases h' with h' | ⟨S1, c, hl, h'⟩
  · exact hx cv dx x w' S' e' g' r' h'
  · obtain ⟨e2, g2⟩ := cut_ok g e' g' c
    refine hx cv dx x (w'.tk S1.length) S1 e2 g2 ⟨r'.1, ?_⟩ h'
    cases dx with
    | none => exact r'.2
    | some a =>
      obtain ⟨vs, k1, k2⟩ := r'.2
      exact ⟨vs, k1, rf_low _ _ _ k2 hl⟩
abbrev FunS (K : PySem.W.Frag) (x : Str) (st : Stmt) (f : Addr) (fd : FuncData) : Prop := FunD K x x (defArgs st) (defBody st) (defScope st) [] [] f fd
section
variable (P : Program) (wd : World) (K : PySem.W.Frag) (mg : Str → Option Value) (base : Heap)
/-- a callee by its name -/
structure Cal (x : Str) (st : Stmt) (k : Nat) (ps : List Str) (sp : DSpec) : Prop where
  ex : ∃ (f : Addr) (fd : FuncData), FnOk P wd K mg base (L2.CX P wd) k f fd ps (spOf K sp) ∧ mg x = some (.ref f) ∧ FunS K x st f fd ∧ Binds K fd ps []
structure CalG (x : Str) (st : Stmt) (k : Nat) (ps : List Str) (sp : DSpec) : Prop where
  ex : ∃ (f : Addr) (fd : FuncData), FnOkG P wd K mg base (L2.CX P wd) k f fd ps (spOf K sp) ∧ mg x = some (.ref f) ∧ FunS K x st f fd ∧ Binds K fd ps []
/-- a class of errors -/
structure ExcF (x : Str) (C : Addr) : Prop where
  q : PySem.W.excIn K C He.veBase "ValueError.__new__" = true
  g : mg x = some (.ref C)
  k : PySem.W.keepIn K (.ref C) = true
  b : PySem.W.subIn K (.ref C) (.type "BaseException") = some true
  t : PySem.W.typeIn K (.ref C) = some (.type "type")
/-- a def of the text -/
structure Tx (x : Str) (st : Stmt) : Prop where
  ex : ∃ (f : Addr) (fd : FuncData), FunS K x st f fd ∧ mg x = some (.ref f)
end
section
variable {P : Program} {wd : World} {K : PySem.W.Frag} {mg : Str → Option Value} {base : Heap} {x : Str} {st : Stmt} {k : Nat} {ps : List Str} {sp : DSpec}
theorem Cal.g (c : Cal P wd K mg base x st k ps sp) : CalG P wd K mg base x st k ps sp := let ⟨f, fd, h, r⟩ := c.ex; ⟨f, fd, FnOkG.of h, r⟩
theorem binds_of {f : Addr} {fd : FuncData} (F : FunS K x st f fd)
    (h : ∀ (kV doc pm : Value) (an : Option Addr) (cdv ct : Value) (us : List Value), us.length = ps.length → bindArgs (PySem.W.fnOf x x (defArgs st) (defBody st) (defScope st) .none kV doc pm an cdv ct) ⟨us, []⟩ = pure (ps.zip us)) : Binds K fd ps [] := F.bindsN h
theorem calG_ok {N : List Str} (F : Tx K mg x st)
    (hbind : ∀ (kV doc pm : Value) (an : Option Addr) (cdv ct : Value) (us : List Value), us.length = ps.length → bindArgs (PySem.W.fnOf x x (defArgs st) (defBody st) (defScope st) .none kV doc pm an cdv ct) ⟨us, []⟩ = pure (ps.zip us))
    (Sc : FnScope N ps (defScope st)) (len : ∀ ds S Φ Ψ, sp ds S Φ Ψ → ds.length = ps.length)
    (hbody : ∀ (f : Addr) (cdv : Value) (A : Around) (outer : List Env) (s : Shared) (H : Hp) (E : XK), (A.deeper (envOfC x (defScope st) s.heap.objs.size f cdv)).guards = some [] → Room k (A.deeper (envOfC x (defScope st) s.heap.objs.size f cdv)) →
      ∃ t T, JB (cxOf (L2.CX P wd) P wd K mg base N x (defScope st) f cdv A outer s H E) (WD E) (defBody st) t T ∧ ∀ ds S Φ Ψ, sp ds S Φ Ψ → T { nx := fun _ S' => RetOk S Φ S' .non, rt := RetOk S Φ, er := ErOk S Ψ } (gstart N ds) S) :
    CalG P wd K mg base x st (k + 1) ps sp := by
  obtain ⟨f, fd, F, hm⟩ := F.ex
  refine ⟨f, fd, ?_, hm, F, binds_of F hbind⟩
  obtain ⟨_, _, _, _, _, _, _, cdv, _, _, e, lk, hcd, _, _⟩ := F.ex
  subst e
  refine fn_ofG lk hcd Sc (fun vs H Q E h => ?_) fun A outer s H vs Q E hG hr hs => ?_
  · obtain ⟨w, S, ds, Φ, Ψ, _, _, r, h1, _⟩ := h
    rw [r.length]
    exact len ds S Φ Ψ h1
  · obtain ⟨t, T, jb, hq⟩ := hbody f cdv A outer s H E (by show A.guards = some []; exact hG) hr
    exact ⟨t, jb.pss, body_ok2 jb.sem hq hs⟩
end
/-- how a call by keywords binds -/
theorem kb_of {K : PySem.W.Frag} {x : Str} {st : Stmt} {ps : List Str} {f : Addr} {fd : FuncData} (F : FunS K x st f fd) (n : Nat) (ks : List Str) (g : {α : Type} → List α → List α → List α)
    (rel : ∀ {vs zs : List V} {us ws : List Value}, Vals vs us → Vals zs ws → Vals (g vs zs) (g us ws))
    (h : ∀ (kV doc pm : Value) (an : Option Addr) (cdv ct : Value) (us ws : List Value), us.length = n → ws.length = ks.length → bindArgs (PySem.W.fnOf x x (defArgs st) (defBody st) (defScope st) .none kV doc pm an cdv ct) ⟨us, ks.zip ws⟩ = pure (ps.zip (g us ws))) : KBn K fd ps n ks (fun us ws => g us ws) (fun vs zs => g vs zs) := by
  obtain ⟨oc, od, dV, kV, doc, pm, an, cdv, ct, osl, e, lk, hcd, hD, hK⟩ := F.ex
  subst e
  rcases hD with ⟨_, rfl⟩ | ⟨e, _⟩
  · exact ⟨fun s us ws _ l1 l2 => .of_eq (h kV doc pm an cdv ct us ws l1 l2), fun r1 r2 => rel r1 r2⟩
  · exact absurd rfl e
section
variable {X : Cx} {W : WX} {e : Expr} {es : List Expr} {pos p : Pos} {tl tk' : TA} {Tl Tk : TL} {k n : Nat} {ps ks : List Str} {sp : DSpec} {x : Str} {st : Stmt} {kws : List Keyword}
theorem je_callCG (c : CalG X.prog X.w X.K X.mg X.base x st k ps sp) (gd : X.A.guards = some []) (hr : Room k X.A) (hg : Gl X x) (tk : Takes X W) (ha : JA X W (e :: es) tl Tl) (hdb : (x == ("__debug__" : Str)) = false := by decide)
    (he : starEach (e :: es) X.env = (false, eval e X.env) :: starEach es X.env := by rfl) (hpl : (backTo pos (starEach es X.env)).any (·.1) = false := by rfl) : JE X W (.Call (.Name x p) (e :: es) [] pos) (tCallS (spOf X.K sp) (WE W) tl) (dCall sp Tl) := by
  obtain ⟨f, fd, F, hm, hk, hb⟩ := c.ex
  exact je_callG F gd hr hg hm hk.kp hb tk ha hdb he hpl
theorem js_raiseC {m : Str} {C : Addr} {j : Nat} {p2 pos' : Pos} (c : ExcF X.K X.mg x C) (hc : X.calm = true) (tk : Takes X W) (hg : Gl X x) (hdb : (x == ("__debug__" : Str)) = false := by decide) :
    JS X W (.Raise (some (.Call (.Name x p) [.Constant (.str m) j p2] [] pos')) none pos) (fun _ σ H => (fun (_ : L2.St) (H : Hp) (Q : XK) => Q (.ref C) none H) σ H fun cls d H' => W cls d σ H') (sRaise C) := js_raise hc tk c.q c.g c.k c.b c.t hg hdb
/-- keywords -/
structure JK (X : Cx) (W : WX) (kws : List Keyword) (t : TA) (T : TL) : Prop where
  pk : PK X kws t
  sem : SemA X.K W t T
theorem jk_nil : JK X W [] tNil lNil := ⟨pk_nil, (ja_nil (X := X)).sem⟩
theorem jk_cons {nm : Option Str} {kpos : Pos} {te : TE} {Te : TD} (ha : JE X W e te Te) (hr : JK X W kws tl Tl) : JK X W (⟨nm, e, kpos⟩ :: kws) (tCons te tl) (lCons Te Tl) := ⟨pk_cons ha.pe hr.pk, fun Γ S Φ Ψ σ w g sl h hx Q q =>
  ha.sem Γ S _ Ψ σ w g sl h hx _ fun v d w1 S1 e1 g1 r1 h1 => hr.sem Γ S1 _ Ψ σ w1 g1 (sl.ext e1) h1 (hx.ext e1) _ fun vs ds w2 S2 e2 g2 r2 h2 => q _ _ w2 S2 (e1.trans e2) g2 (.cons (e2.rp r1) r2) h2⟩
def tCallKS (n m : Nat) (sp : Sp) (gV : List V → List V → List V) (E : L2.St → XK) (t tk : TA) : TE := fun σ H Q => t σ H fun vs H1 => tk σ H1 fun zs H2 => vs.length = n ∧ zs.length = m ∧ sp (gV vs zs) H2 Q (E σ)
def dCallK (n m : Nat) (sp : DSpec) (g : List D → List D → List D) (T Tk : TL) : TD := fun Γ S Φ Ψ => T Γ S (fun S1 ds => Tk Γ S1 (fun S2 es => ds.length = n ∧ es.length = m ∧ sp (g ds es) S2 Φ Ψ) Ψ) Ψ
theorem sem_callK {K : PySem.W.Frag} {n m : Nat} {sp : DSpec} {gV : List V → List V → List V} {gD : List D → List D → List D} (hg : ∀ (w : Hs) {vs zs : List V} {ds es : List D}, Ra K w vs ds → Ra K w zs es → Ra K w (gV vs zs) (gD ds es)) (h : SemA K W tl Tl) (h2 : SemA K W tk' Tk) :
    SemE K W (tCallKS n m (spOf K sp) gV (WE W) tl tk') (dCallK n m sp gD Tl Tk) := fun Γ S Φ Ψ σ w g sl hT hx Q q =>
  h Γ S _ Ψ σ w g sl hT hx _ fun vs ds w1 S1 e1 g1 r1 h1 => h2 Γ S1 _ Ψ σ w1 g1 (sl.ext e1) h1 (hx.ext e1) _ fun zs es w2 S2 e2 g2 r2 ⟨l1, l2, h3⟩ =>
    have e12 := e1.trans e2
    ⟨by rw [r1.length]; exact l1, by rw [r2.length]; exact l2, w2, S2, _, Φ, Ψ, rfl, g2, hg w2 (e2.ra r1) r2, h3, q.ext e12, fun cv dx x w' S' e g r hΨ => hx.ext e12 cv dx x w' S' e g r hΨ⟩
/-- the callee's run, by keywords -/
theorem goK {gl : List Value → List Value → List Value} {gV : List V → List V → List V} {s0 : Sp} {f : Addr} {fd : FuncData} {pins : List (Addr × Obj)} {σ : L2.St} {H : Hp} {s : Shared} {Q : VK} {us ws : List Value} {vs zs : List V} (F : FnOkG X.prog X.w X.K X.mg X.base (L2.CX X.prog X.w) k f fd ps s0) (gd : X.A.guards = some []) (room : Room k X.A) (hb : KBn X.K fd ps n ks gl gV) (tk : Takes X W)
    (I : Inv X pins σ H s) (r : Vals vs us) (rz : Vals zs ws) (l1 : vs.length = n) (l2 : zs.length = ks.length) (h : s0 (gV vs zs) H Q (WE W σ)) : wpAny (model X.prog X.w) X.A (call (.ref f) us (ks.zip ws)) (EP X pins σ Q) X.xe s := by
  have bi := hb.to s us ws I.kIn (by rw [← r.length]; exact l1) (by rw [← rz.length]; exact l2)
  refine wpAny_call (codeAny_mono (F.go _ _ s H _ _ _ Q _ gd room I.env0 bi (hb.rel r rz) h) fun rr s2 hq => ?_)
  match rr, hq with
  | .error u, hq => exact passAt tk σ pins H s u s2 I hq
  | .ok (.ret u), hq => exact I.after hq
  | .ok .next, hq => exact False.elim hq
  | .ok .brk, hq => exact False.elim hq
  | .ok .cont, hq => exact False.elim hq
theorem je_callK0 {g : {α : Type} → List α → List α → List α} (c : CalG X.prog X.w X.K X.mg X.base x st k ps sp) (gd : X.A.guards = some []) (hr : Room k X.A) (hg : Gl X x) (tk : Takes X W) (hb : ∀ f fd, FunS X.K x st f fd → KBn X.K fd ps 0 ks (fun us ws => g us ws) (fun vs zs => g vs zs))
    (rel : ∀ (w : Hs) {vs zs : List V} {ds es : List D}, Ra X.K w vs ds → Ra X.K w zs es → Ra X.K w (g vs zs) (g ds es)) (hkw : JK X W kws tk' Tk)
    (hall : (backToKw pos (keywordEach kws X.env)).all (·.1.isSome) = true := by rfl) (hks : (backToKw pos (keywordEach kws X.env)).filterMap (·.1) = ks := by rfl) (hdb : (x == ("__debug__" : Str)) = false := by decide)
    (hpl : ((backTo pos (starEach [] X.env)).any (·.1) || (backToKw pos (keywordEach kws X.env)).any (·.1.isNone)) = false := by rfl) :
    JE X W (.Call (.Name x p) [] kws pos) (tCallKS 0 ks.length (spOf X.K sp) (fun vs zs => g vs zs) (WE W) tNil tk') (dCallK 0 ks.length sp (fun ds es => g ds es) lNil Tk) := by
  obtain ⟨f, fd, F, hm, hk, _⟩ := c.ex
  refine ⟨⟨fun pins s σ H Q I h => wpAny_Call_Name_kw (ld_glob I hg hm (PySem.W.callWith_KW0 (h₀ := X.base) I.ok.mod.kin hk.kp hall ?_ hpl) hdb)⟩, sem_callK rel (ja_nil (X := X)).sem hkw.sem⟩
  refine thn (hkw.pk.run pos pins s σ H _ I h) fun ws s2 ⟨zs, H2, I2, rz, l1, l2, q2⟩ => ?_
  rw [hks]
  exact ⟨I2.kIn, goK F gd hr (hb f fd hk) tk I2 .nil rz l1 l2 q2⟩
end
end DL
namespace DL
open PySem PySem.Spec PyProof.Rows L2
section
variable {X : Cx} {W : WX} {a b c : Expr} {pos : Pos} {tl : TA} {Tl : TL}
def sPar3 (i j l : Nat) (T : TL) : TSd := fun D Γ S => T Γ S (fun S1 ds => ∃ x y z, ds = [x, y, z] ∧ D.nx (((Γ.set i (some x)).set j (some y)).set l (some z)) S1) D.er
theorem js_par3 (i j l : Nat) {x y z : Str} {px py pz pt : Pos} {kt k2 pt2} (hc : X.calm = true) (hN : X.N.Nodup) (ha : JA X W [a, b, c] tl Tl) (hij : i ≠ j := by decide) (hil : i ≠ l := by decide) (hjl : j ≠ l := by decide) (hi : X.N[i]? = some x := by rfl) (hj : X.N[j]? = some y := by rfl) (hl : X.N[l]? = some z := by rfl)
    (hx : X.env.scope.names.lookup x = some .local := by rfl) (hy : X.env.scope.names.lookup y = some .local := by rfl) (hz : X.env.scope.names.lookup z = some .local := by rfl)
    (hw : swappedStores [.Tuple [.Name x px, .Name y py, .Name z pz] kt pt] (.Tuple [a, b, c] k2 pt2) X.env = pure (some [x, y, z]) := by rfl)
    (hsw : swapsWithSole [.Tuple [.Name x px, .Name y py, .Name z pz] kt pt] (.Tuple [a, b, c] k2 pt2) pos.line X.env = pure false := by rfl) :
    JS X W (.Assign [.Tuple [.Name x px, .Name y py, .Name z pz] kt pt] (.Tuple [a, b, c] k2 pt2) pos) (tPar3 i j l tl) (sPar3 i j l Tl) :=
  ⟨ps_par3 hc hN hi hj hl hij hil hjl hx hy hz ha.pa hw hsw, fun D' Γ S σ w D g sl hT r =>
    ha.sem Γ S _ _ σ w g sl hT (r.er σ) _ fun vs ds w1 S1 e1 g1 r1 ⟨x, y, z, e, h1⟩ => by
      subst e
      cases r1 with
      | cons ra rb =>
        obtain ⟨v2, v3, rfl, rc, rd⟩ := two_of rb
        exact ⟨_, _, _, rfl, r.nx _ _ w1 S1 e1 g1 ((((sl.ext e1).set ra i).set rc j).set rd l) h1⟩⟩
end
def pick {α : Type} (perm : List Nat) (as es : List α) : List α := perm.filterMap fun i => (as ++ es)[i]?
theorem pick_vals {vs zs : List V} {us ws : List Value} (h : Vals vs us) (h2 : Vals zs ws) : ∀ perm : List Nat, Vals (pick perm vs zs) (pick perm us ws)
  | [] => .nil
  | i :: r => by
    have ih := pick_vals h h2 r
    have ap := Vals.append h h2
    unfold pick at ih ⊢
    rw [List.filterMap_cons, List.filterMap_cons]
    cases e : (vs ++ zs)[i]? with
    | none => rw [ap.none_of e]; exact ih
    | some v =>
      obtain ⟨u, e2, r2⟩ := ap.get e
      rw [e2]
      exact .cons r2 ih
theorem pick_ra {K : PySem.W.Frag} {w : Hs} {vs zs : List V} {ds es : List D} (h : Ra K w vs ds) (h2 : Ra K w zs es) : ∀ perm : List Nat, Ra K w (pick perm vs zs) (pick perm ds es)
  | [] => .nil
  | i :: r => by
    have ih := pick_ra h h2 r
    have ap := RpA.append h h2
    unfold pick at ih ⊢
    rw [List.filterMap_cons, List.filterMap_cons]
    cases e : (vs ++ zs)[i]? with
    | none =>
      have e2 : (ds ++ es)[i]? = none := by
        have h1 := List.getElem?_eq_none_iff.mp e
        rw [ap.length] at h1
        exact List.getElem?_eq_none h1
      rw [e2]; exact ih
    | some v =>
      obtain ⟨u, e2, r2⟩ := ap.getV e
      rw [e2]
      exact .cons r2 ih
/-- an item by an open place: all items will do -/
theorem ix_all {α : Type} {xs : List α} {i : Int} (h0 : 0 ≤ i) (h1 : i < xs.length) : ∃ x, atI xs i = some x ∧ x ∈ xs := by
  refine ⟨xs[i.toNat]'(by omega), ?_, List.getElem_mem _⟩
  have e : ixN xs.length i = some i.toNat := by
    unfold ixN
    rw [if_pos h0, if_pos h1]
  unfold atI
  rw [e]
  exact List.getElem?_eq_getElem (by omega)
theorem lowA_ints (n : Nat) : ∀ xs : List Int, lowA n (xs.map D.int) = true
  | [] => by simp [lowA]
  | x :: xs => by rw [List.map_cons, lowA, lowA_ints n xs, D.low] <;> rfl
theorem lowA_map {α : Type} (n : Nat) (f : α → D) (h : ∀ x, (f x).low n = true) : ∀ xs : List α, lowA n (xs.map f) = true
  | [] => by simp [lowA]
  | x :: xs => by rw [List.map_cons, lowA, lowA_map n f h xs, h] <;> rfl
theorem get_app {S T : Sto} {h : Nat} {c : Cell} (e : S[h]? = some c) : (S ++ T)[h]? = some c := by
  rw [List.getElem?_append_left (List.getElem?_eq_some_iff.mp e).1]
  exact e
theorem get_at {S T : Sto} {c : Cell} : (S ++ c :: T)[S.length]? = some c := by
  rw [List.getElem?_append_right (Nat.le_refl _), Nat.sub_self] <;> rfl
theorem set_app {S T : Sto} {h : Nat} {c : Cell} (e : h < S.length) : (S ++ T).set h c = S.set h c ++ T := List.set_append_left h c e
theorem set_at {S T : Sto} {b c : Cell} : (S ++ b :: T).set S.length c = S ++ c :: T := by
  rw [List.set_append_right _ _ (Nat.le_refl _), Nat.sub_self] <;> rfl
def FdC (n : Nat) (c : Cell) : Prop := ∃ a b k : Int, c = .lst [.int a, .int b, .int k] ∧ 0 ≤ a ∧ 0 ≤ b ∧ b < 2 ^ 200 ∧ 0 ≤ k ∧ k ≤ n
def FdAt (S : Sto) (h : Nat) (n : Nat) : Prop := ∃ c, S[h]? = some c ∧ FdC n c
/-- S' is S but for the feed at h -/
def Fs (h n : Nat) (S S' : Sto) : Prop := ∃ c, FdC n c ∧ S' = S.set h c
theorem FdC.mono {n m : Nat} {c : Cell} (h : FdC n c) (l : n ≤ m) : FdC m c := by
  obtain ⟨a, b, k, e, h1, h2, h3, h4, h5⟩ := h
  exact ⟨a, b, k, e, h1, h2, h3, h4, by omega⟩
theorem FdAt.mono {S : Sto} {h n m : Nat} (f : FdAt S h n) (l : n ≤ m) : FdAt S h m := let ⟨c, e, q⟩ := f; ⟨c, e, q.mono l⟩
theorem FdAt.lt {S : Sto} {h n : Nat} (f : FdAt S h n) : h < S.length := let ⟨_, e, _⟩ := f; (List.getElem?_eq_some_iff.mp e).1
theorem Fs.mono {h n m : Nat} {S S' : Sto} (f : Fs h n S S') (l : n ≤ m) : Fs h m S S' := let ⟨c, q, e⟩ := f; ⟨c, q.mono l, e⟩
theorem Fs.at {h n : Nat} {S S' : Sto} (f : Fs h n S S') (hl : h < S.length) : FdAt S' h n := by
  obtain ⟨c, q, rfl⟩ := f
  exact ⟨c, by rw [List.getElem?_set_self hl], q⟩
theorem Fs.trans {h n m : Nat} {S S1 S2 : Sto} (a : Fs h n S S1) (b : Fs h m S1 S2) : Fs h m S S2 := by
  obtain ⟨c, _, rfl⟩ := a
  obtain ⟨c2, q, rfl⟩ := b
  exact ⟨c2, q, by rw [List.set_set]⟩
theorem Fs.len {h n : Nat} {S S' : Sto} (f : Fs h n S S') : S'.length = S.length := by
  obtain ⟨c, _, rfl⟩ := f
  rw [List.length_set]
/-- cells behind it stay -/
theorem Fs.app {h n : Nat} {S T S' : Sto} (f : Fs h n (S ++ T) S') (hl : h < S.length) : ∃ S1, Fs h n S S1 ∧ S' = S1 ++ T := by
  obtain ⟨c, q, rfl⟩ := f
  exact ⟨S.set h c, ⟨c, q, rfl⟩, set_app hl⟩
theorem FdAt.app {S T : Sto} {h n : Nat} (f : FdAt S h n) : FdAt (S ++ T) h n := let ⟨c, e, q⟩ := f; ⟨c, get_app e, q⟩
theorem Fs.get {h n i : Nat} {S S' : Sto} {c : Cell} (f : Fs h n S S') (e : S[i]? = some c) (hi : h ≠ i) : S'[i]? = some c := by
  obtain ⟨c2, _, rfl⟩ := f
  rw [List.getElem?_set_ne hi]
  exact e
/-- a def that draws: behind it the feed is a feed, by at most n draws more -/
theorem cut_feed {h n : Nat} {S S1 cs : Sto} (f : Fs h n S S1) : Cut S S1 (S1 ++ cs) := by
  refine ⟨by rw [f.len]; exact Nat.le_refl _, List.prefix_append _ _, fun i c e => ?_⟩
  obtain ⟨c2, ⟨a, b, k, ec, _⟩, rfl⟩ := f
  by_cases hi : h = i
  · subst hi
    by_cases hl : h < S.length
    · rw [List.getElem?_set_self hl] at e
      cases e
      subst ec
      exact .inr (by simp [Cell.low, lowA, D.low])
    · rw [List.getElem?_eq_none (by rw [List.length_set]; omega)] at e
      cases e
  · rw [List.getElem?_set_ne hi] at e
    exact .inl e
theorem ret_feed {h n : Nat} {S S1 cs : Sto} {Φ : KD} {d : D} (f : Fs h n S S1) (hl : d.low S1.length = true) (q : Φ S1 d) : RetOk S Φ (S1 ++ cs) d := .inr ⟨S1, cut_feed f, hl, q⟩
end DL
namespace DL
open PySem PySem.Spec PyProof.Rows L2
def fzLD : List D → Sto → (Sto → List D → Prop) → Prop
  | [], S, Φ => Φ S []
  | d :: ds, S, Φ => fzD d S fun S1 d' => fzLD ds S1 fun S2 ds' => Φ S2 (d' :: ds')
def fzD2 (d : D) (S : Sto) (Φ : KD) : Prop := match d with
  | .own h => ∃ ds, S[h]? = some (.lst ds) ∧ fzLD ds (S.set h .gone) fun S' ds' => Φ S' (.lst ds')
  | d => Φ S d
def dFz2 (T : TD) : TD := fun Γ S Φ Ψ => T Γ S (fun S1 d => fzD2 d S1 Φ) Ψ
section
variable {S : Sto} {Φ : KD} {i j : Int} {ds es : List D} {k : Bool}
theorem ex1 {α : Type} {a : α} {P : α → Prop} : (∃ x, [a] = [x] ∧ P x) ↔ P a := ⟨fun ⟨x, e, h⟩ => by cases e; exact h, fun h => ⟨a, rfl, h⟩⟩
theorem ex2 {α : Type} {a b : α} {P : α → α → Prop} : (∃ x y, [a, b] = [x, y] ∧ P x y) ↔ P a b := ⟨fun ⟨x, y, e, h⟩ => by cases e; exact h, fun h => ⟨a, b, rfl, h⟩⟩
theorem ex3 {α : Type} {a b c : α} {P : α → α → α → Prop} : (∃ x y z, [a, b, c] = [x, y, z] ∧ P x y z) ↔ P a b c := ⟨fun ⟨x, y, z, e, h⟩ => by cases e; exact h, fun h => ⟨a, b, c, rfl, h⟩⟩
theorem exB {b : Bool} {P : Bool → Prop} : (∃ k, D.bl b = .bl k ∧ P k) ↔ P b := ⟨fun ⟨x, e, h⟩ => by cases e; exact h, fun h => ⟨b, rfl, h⟩⟩
theorem exI {b : Int} {P : Int → Prop} : (∃ k, D.int b = .int k ∧ P k) ↔ P b := ⟨fun ⟨x, e, h⟩ => by cases e; exact h, fun h => ⟨b, rfl, h⟩⟩
theorem exI1 {b : Int} {P : Int → Prop} : (∃ k, [D.int b] = [.int k] ∧ P k) ↔ P b := ⟨fun ⟨x, e, h⟩ => by cases e; exact h, fun h => ⟨b, rfl, h⟩⟩
theorem exI2 {a b : Int} {P : Int → Int → Prop} : (∃ i j, [D.int a, D.int b] = [.int i, .int j] ∧ P i j) ↔ P a b := ⟨fun ⟨x, y, e, h⟩ => by cases e; exact h, fun h => ⟨a, b, rfl, h⟩⟩
theorem exS {α : Type} {a : α} {P : α → Prop} : (∃ d, some a = some d ∧ P d) ↔ P a := ⟨fun ⟨x, e, h⟩ => by cases e; exact h, fun h => ⟨a, rfl, h⟩⟩
theorem exSS {α : Type} {a : α} {P : α → Prop} : (∃ d, some (some a) = some (some d) ∧ P d) ↔ P a := ⟨fun ⟨x, e, h⟩ => by cases e; exact h, fun h => ⟨a, rfl, h⟩⟩
theorem exT {ts : List D} {P : List D → Prop} : (∃ ds, D.tup ts = .tup ds ∧ P ds) ↔ P ts := ⟨fun ⟨x, e, h⟩ => by cases e; exact h, fun h => ⟨ts, rfl, h⟩⟩
theorem exC {α : Type} {a : α} {l : List α} {P : α → List α → Prop} : (∃ d r, a :: l = d :: r ∧ P d r) ↔ P a l := ⟨fun ⟨x, y, e, h⟩ => by cases e; exact h, fun h => ⟨a, l, rfl, h⟩⟩
theorem exL {a : List D} {P : List D → Prop} : (∃ d, some (Cell.lst a) = some (.lst d) ∧ P d) ↔ P a := ⟨fun ⟨x, e, h⟩ => by cases e; exact h, fun h => ⟨a, rfl, h⟩⟩
theorem exAs {a : List D} {P : List D → Prop} : (∃ xs, some a = some xs ∧ P xs) ↔ P a := ⟨fun ⟨x, e, h⟩ => by cases e; exact h, fun h => ⟨a, rfl, h⟩⟩
theorem dAdd_i : dAdd (.int i) (.int j) S Φ = Φ S (.int (i + j)) := rfl
theorem dAdd_l : dAdd (.lst ds) (.lst es) S Φ = (ds.length + es.length ≤ sizeLine ∧ Φ S (.lst (ds ++ es))) := by
  show (∃ xs ys, some ds = some xs ∧ some es = some ys ∧ xs.length + ys.length ≤ sizeLine ∧ Φ S (.lst (xs ++ ys))) = _
  exact propext ⟨fun ⟨_, _, e1, e2, h⟩ => by cases e1; cases e2; exact h, fun h => ⟨_, _, rfl, rfl, h⟩⟩
theorem dSub_i : dSub (.int i) (.int j) S Φ = Φ S (.int (i - j)) := rfl
theorem dMul_i : dMul (.int i) (.int j) S Φ = (CMulA i j ∧ Φ S (.int (i * j))) := rfl
theorem dMul_l : dMul (.lst ds) (.int j) S Φ = (-(2 ^ 63) ≤ j ∧ j < 2 ^ 63 ∧ ds.length * j.toNat ≤ sizeLine ∧ Φ S (.lst ((List.replicate j.toNat ds).flatten))) := by
  show (∃ xs, some ds = some xs ∧ _) = _
  exact propext exAs
theorem dMod_i : dMod (.int i) (.int j) S Φ = (0 < j ∧ Φ S (.int (i % j))) := rfl
theorem dDiv_i : dDiv (.int i) (.int j) S Φ = (CDivW i j ∧ Φ S (.int (i / j))) := rfl
theorem dPow_i : dPow (.int i) (.int j) S Φ = (CPowW i j ∧ Φ S (.int (i ^ j.toNat))) := rfl
theorem dLt_i : dLt (.int i) (.int j) S Φ = Φ S (.bl (decide (i < j))) := rfl
theorem dLe_i : dLe (.int i) (.int j) S Φ = Φ S (.bl (decide (i ≤ j))) := rfl
theorem dGt_i : dGt (.int i) (.int j) S Φ = Φ S (.bl (decide (j < i))) := rfl
theorem dGe_i : dGe (.int i) (.int j) S Φ = Φ S (.bl (decide (j ≤ i))) := rfl
theorem uNeg_i : uNeg (.int i) S Φ = Φ S (.int (-i)) := rfl
theorem cMax2_i : cMax2 [.int i, .int j] S Φ = Φ S (.int (if j > i then j else i)) := rfl
theorem cMin2_i : cMin2 [.int i, .int j] S Φ = Φ S (.int (if j < i then j else i)) := rfl
theorem cAbs_i : cAbs [.int i] S Φ = Φ S (.int (if i < 0 then -i else i)) := rfl
theorem cInt_i : cInt [.int i] S Φ = Φ S (.int i) := rfl
theorem cInt_b : cInt [.bl k] S Φ = Φ S (.int (if k then 1 else 0)) := rfl
theorem cLen_l : cLen [.lst ds] S Φ = Φ S (.int ds.length) := by
  show (∃ xs, some ds = some xs ∧ Φ S (.int xs.length)) = _
  exact propext exAs
theorem cLen_q : cLen [.sq ds] S Φ = Φ S (.int ds.length) := by
  show (∃ xs, some ds = some xs ∧ Φ S (.int xs.length)) = _
  exact propext exAs
theorem cLen_t : cLen [.tup ds] S Φ = Φ S (.int ds.length) := by
  show (∃ xs, some ds = some xs ∧ Φ S (.int xs.length)) = _
  exact propext exAs
theorem cList_l : cList [.lst ds] S Φ = Φ S (.lst ds) := propext exAs
theorem cList_q : cList [.sq ds] S Φ = Φ S (.lst ds) := propext exAs
theorem cList_t : cList [.tup ds] S Φ = Φ S (.lst ds) := propext exAs
theorem cListO_l : cListO [.lst ds] S Φ = Φ (S ++ [.lst ds]) (.own S.length) := propext exAs
theorem cListO_t : cListO [.tup ds] S Φ = Φ (S ++ [.lst ds]) (.own S.length) := propext exAs
theorem dIx_l : dIx (.lst ds) (.int i) S Φ = ∃ d, atI ds i = some d ∧ Φ S d := by
  show (∃ es d, some ds = some es ∧ atI es i = some d ∧ Φ S d) = _
  exact propext ⟨fun ⟨_, d, e, h⟩ => by cases e; exact ⟨d, h⟩, fun ⟨d, h⟩ => ⟨_, d, rfl, h⟩⟩
theorem dIx_q : dIx (.sq ds) (.int i) S Φ = ∃ d, atI ds i = some d ∧ Φ S d := by
  show (∃ es d, some ds = some es ∧ atI es i = some d ∧ Φ S d) = _
  exact propext ⟨fun ⟨_, d, e, h⟩ => by cases e; exact ⟨d, h⟩, fun ⟨d, h⟩ => ⟨_, d, rfl, h⟩⟩
theorem dIx_t : dIx (.tup ds) (.int i) S Φ = ∃ d, atI ds i = some d ∧ Φ S d := by
  show (∃ es d, some ds = some es ∧ atI es i = some d ∧ Φ S d) = _
  exact propext ⟨fun ⟨_, d, e, h⟩ => by cases e; exact ⟨d, h⟩, fun ⟨d, h⟩ => ⟨_, d, rfl, h⟩⟩
theorem dIx_o {h : Nat} : dIx (.own h) (.int i) S Φ = ∃ ds d, S[h]? = some (.lst ds) ∧ atI ds i = some d ∧ Φ S d := by
  show (∃ es d, asS S (.own h) = some es ∧ atI es i = some d ∧ Φ S d) = _
  refine propext ⟨fun ⟨es, d, e, q⟩ => ?_, fun ⟨es, d, e, q⟩ => ⟨es, d, ?_, q⟩⟩
  · have e : (match S[h]? with | some (.lst ds) => some ds | _ => none) = some es := e
    split at e
    · cases e; exact ⟨es, d, by assumption, q⟩
    · cases e
  · show (match S[h]? with | some (.lst ds) => some ds | _ => none) = some es
    rw [e]
theorem dSlL_l {lo hi : Option Int} : dSlL (.lst ds) lo hi S Φ = Φ S (.lst (cutD ds lo hi)) := propext exAs
theorem dSlL_q {lo hi : Option Int} : dSlL (.sq ds) lo hi S Φ = Φ S (.lst (cutD ds lo hi)) := propext exAs
theorem asQ_l : asQ S (.lst ds) = some ds := rfl
theorem asL_l : asL S (.lst ds) = some ds := rfl
theorem asL_at' {h : Nat} (e : S[h]? = some (.lst ds)) : asL S (.own h) = some ds := by
  show (match S[h]? with | some (.lst ds) => some ds | _ => none) = some ds
  rw [e]
theorem asQ_at' {h : Nat} (e : S[h]? = some (.lst ds)) : asQ S (.own h) = some ds := by
  show (match S[h]? with | some (.lst ds) => some ds | _ => none) = some ds
  rw [e]
theorem cIsi_of {d : D} {a n : String} (e : tyOf S d = some a) (h : n ∈ tyN := by decide) : cIsi [d, .ty n] S Φ = Φ S (.bl (isTyB a n)) := by
  show (∃ a, tyOf S d = some a ∧ n ∈ tyN ∧ Φ S (.bl (isTyB a n))) = _
  rw [e]
  exact propext ⟨fun ⟨_, e, _, z⟩ => by cases e; exact z, fun z => ⟨_, rfl, h, z⟩⟩
theorem isi_non_int  : cIsi [.non, .ty "int"] S Φ = Φ S (.bl false) := cIsi_of (a := "NoneType") rfl
theorem isi_non_bool  : cIsi [.non, .ty "bool"] S Φ = Φ S (.bl false) := cIsi_of (a := "NoneType") rfl
theorem isi_non_str  : cIsi [.non, .ty "str"] S Φ = Φ S (.bl false) := cIsi_of (a := "NoneType") rfl
theorem isi_non_list  : cIsi [.non, .ty "list"] S Φ = Φ S (.bl false) := cIsi_of (a := "NoneType") rfl
theorem isi_non_tuple  : cIsi [.non, .ty "tuple"] S Φ = Φ S (.bl false) := cIsi_of (a := "NoneType") rfl
theorem isi_non_dict  : cIsi [.non, .ty "dict"] S Φ = Φ S (.bl false) := cIsi_of (a := "NoneType") rfl
theorem isi_bl_int {b : Bool} : cIsi [.bl b, .ty "int"] S Φ = Φ S (.bl true) := cIsi_of (a := "bool") rfl
theorem isi_bl_bool {b : Bool} : cIsi [.bl b, .ty "bool"] S Φ = Φ S (.bl true) := cIsi_of (a := "bool") rfl
theorem isi_bl_str {b : Bool} : cIsi [.bl b, .ty "str"] S Φ = Φ S (.bl false) := cIsi_of (a := "bool") rfl
theorem isi_bl_list {b : Bool} : cIsi [.bl b, .ty "list"] S Φ = Φ S (.bl false) := cIsi_of (a := "bool") rfl
theorem isi_bl_tuple {b : Bool} : cIsi [.bl b, .ty "tuple"] S Φ = Φ S (.bl false) := cIsi_of (a := "bool") rfl
theorem isi_bl_dict {b : Bool} : cIsi [.bl b, .ty "dict"] S Φ = Φ S (.bl false) := cIsi_of (a := "bool") rfl
theorem isi_int_int  : cIsi [.int i, .ty "int"] S Φ = Φ S (.bl true) := cIsi_of (a := "int") rfl
theorem isi_int_bool  : cIsi [.int i, .ty "bool"] S Φ = Φ S (.bl false) := cIsi_of (a := "int") rfl
theorem isi_int_str  : cIsi [.int i, .ty "str"] S Φ = Φ S (.bl false) := cIsi_of (a := "int") rfl
theorem isi_int_list  : cIsi [.int i, .ty "list"] S Φ = Φ S (.bl false) := cIsi_of (a := "int") rfl
theorem isi_int_tuple  : cIsi [.int i, .ty "tuple"] S Φ = Φ S (.bl false) := cIsi_of (a := "int") rfl
theorem isi_int_dict  : cIsi [.int i, .ty "dict"] S Φ = Φ S (.bl false) := cIsi_of (a := "int") rfl
theorem isi_str_int {z : Str} : cIsi [.str z, .ty "int"] S Φ = Φ S (.bl false) := cIsi_of (a := "str") rfl
theorem isi_str_bool {z : Str} : cIsi [.str z, .ty "bool"] S Φ = Φ S (.bl false) := cIsi_of (a := "str") rfl
theorem isi_str_str {z : Str} : cIsi [.str z, .ty "str"] S Φ = Φ S (.bl true) := cIsi_of (a := "str") rfl
theorem isi_str_list {z : Str} : cIsi [.str z, .ty "list"] S Φ = Φ S (.bl false) := cIsi_of (a := "str") rfl
theorem isi_str_tuple {z : Str} : cIsi [.str z, .ty "tuple"] S Φ = Φ S (.bl false) := cIsi_of (a := "str") rfl
theorem isi_str_dict {z : Str} : cIsi [.str z, .ty "dict"] S Φ = Φ S (.bl false) := cIsi_of (a := "str") rfl
theorem isi_lst_int  : cIsi [.lst ds, .ty "int"] S Φ = Φ S (.bl false) := cIsi_of (a := "list") rfl
theorem isi_lst_bool  : cIsi [.lst ds, .ty "bool"] S Φ = Φ S (.bl false) := cIsi_of (a := "list") rfl
theorem isi_lst_str  : cIsi [.lst ds, .ty "str"] S Φ = Φ S (.bl false) := cIsi_of (a := "list") rfl
theorem isi_lst_list  : cIsi [.lst ds, .ty "list"] S Φ = Φ S (.bl true) := cIsi_of (a := "list") rfl
theorem isi_lst_tuple  : cIsi [.lst ds, .ty "tuple"] S Φ = Φ S (.bl false) := cIsi_of (a := "list") rfl
theorem isi_lst_dict  : cIsi [.lst ds, .ty "dict"] S Φ = Φ S (.bl false) := cIsi_of (a := "list") rfl
theorem isi_sq_int  : cIsi [.sq ds, .ty "int"] S Φ = Φ S (.bl false) := cIsi_of (a := "list") rfl
theorem isi_sq_bool  : cIsi [.sq ds, .ty "bool"] S Φ = Φ S (.bl false) := cIsi_of (a := "list") rfl
theorem isi_sq_str  : cIsi [.sq ds, .ty "str"] S Φ = Φ S (.bl false) := cIsi_of (a := "list") rfl
theorem isi_sq_list  : cIsi [.sq ds, .ty "list"] S Φ = Φ S (.bl true) := cIsi_of (a := "list") rfl
theorem isi_sq_tuple  : cIsi [.sq ds, .ty "tuple"] S Φ = Φ S (.bl false) := cIsi_of (a := "list") rfl
theorem isi_sq_dict  : cIsi [.sq ds, .ty "dict"] S Φ = Φ S (.bl false) := cIsi_of (a := "list") rfl
theorem isi_tup_int  : cIsi [.tup ds, .ty "int"] S Φ = Φ S (.bl false) := cIsi_of (a := "tuple") rfl
theorem isi_tup_bool  : cIsi [.tup ds, .ty "bool"] S Φ = Φ S (.bl false) := cIsi_of (a := "tuple") rfl
theorem isi_tup_str  : cIsi [.tup ds, .ty "str"] S Φ = Φ S (.bl false) := cIsi_of (a := "tuple") rfl
theorem isi_tup_list  : cIsi [.tup ds, .ty "list"] S Φ = Φ S (.bl false) := cIsi_of (a := "tuple") rfl
theorem isi_tup_tuple  : cIsi [.tup ds, .ty "tuple"] S Φ = Φ S (.bl true) := cIsi_of (a := "tuple") rfl
theorem isi_tup_dict  : cIsi [.tup ds, .ty "dict"] S Φ = Φ S (.bl false) := cIsi_of (a := "tuple") rfl
theorem isi_dic_int {kv : List (Key × D)} : cIsi [.dic kv, .ty "int"] S Φ = Φ S (.bl false) := cIsi_of (a := "dict") rfl
theorem isi_dic_bool {kv : List (Key × D)} : cIsi [.dic kv, .ty "bool"] S Φ = Φ S (.bl false) := cIsi_of (a := "dict") rfl
theorem isi_dic_str {kv : List (Key × D)} : cIsi [.dic kv, .ty "str"] S Φ = Φ S (.bl false) := cIsi_of (a := "dict") rfl
theorem isi_dic_list {kv : List (Key × D)} : cIsi [.dic kv, .ty "list"] S Φ = Φ S (.bl false) := cIsi_of (a := "dict") rfl
theorem isi_dic_tuple {kv : List (Key × D)} : cIsi [.dic kv, .ty "tuple"] S Φ = Φ S (.bl false) := cIsi_of (a := "dict") rfl
theorem isi_dic_dict {kv : List (Key × D)} : cIsi [.dic kv, .ty "dict"] S Φ = Φ S (.bl true) := cIsi_of (a := "dict") rfl
theorem at_0 {α : Type} {a : α} {l : List α} : atI (a :: l) 0 = some a := by
  unfold atI ixN
  rw [if_pos (by decide), if_pos (by rw [List.length_cons]; omega)]
  rfl
theorem at_nat {α : Type} {l : List α} {n : Nat} : atI l (n : Int) = l[n]? := by
  unfold atI ixN
  rw [if_pos (by omega)]
  by_cases h : n < l.length
  · rw [if_pos (by omega)]; rfl
  · rw [if_neg (by omega), List.getElem?_eq_none (by omega)] <;> rfl
theorem dIx_p {p : D → Prop} (h0 : 0 ≤ i) (h1 : i < ds.length) (hp : ∀ d ∈ ds, p d) (k : ∀ d, p d → Φ S d) : dIx (.lst ds) (.int i) S Φ := by
  rw [dIx_l]
  obtain ⟨x, e, m⟩ := ix_all h0 h1
  exact ⟨x, e, k x (hp x m)⟩
end
theorem strOk_lit {s : String} : PyData.strOk (Str.ofString s) = true := by
  unfold PyData.strOk
  rw [Str.ofString_eq_toList, List.all_toArray, List.all_eq_true]
  intro x hx
  obtain ⟨c, _, rfl⟩ := List.mem_map.mp hx
  have h : UInt32.isValidChar c.val := c.valid
  simp only [UInt32.isValidChar, Nat.isValidChar] at h
  rw [decide_eq_true_eq]
  show c.val.toNat < _
  omega
theorem strOk_app {a b : Str} (h : PyData.strOk a = true) (h2 : PyData.strOk b = true) : PyData.strOk (a ++ b) = true := by
  unfold PyData.strOk at h h2 ⊢
  show (a.cps ++ b.cps).all _ = true
  rw [Array.all_append, h, h2]
  rfl
theorem strOk_from : ∀ {ts : List Str} {k : Nat} {acc : Str}, PyData.strOk acc = true → (∀ t ∈ ts, PyData.strOk t = true) → PyData.strOk (textFrom k acc ts) = true
  | [], _, _, h, _ => h
  | t :: ts, k, acc, h, h2 => strOk_from (ts := ts) (k := k + 1) (acc := acc ++ (if k > 0 then ", " else "" : String) ++ t) (strOk_app (strOk_app h strOk_lit) (h2 t List.mem_cons_self)) fun u hu => h2 u (List.mem_cons_of_mem _ hu)
theorem strOk_listText {ts : List Str} (h : ∀ t ∈ ts, PyData.strOk t = true) : PyData.strOk (listText ts) = true := strOk_app (strOk_from strOk_lit h) strOk_lit
theorem len_app (a b : Str) : (a ++ b).length = a.length + b.length := strLen_append a b
theorem from_le {m : Nat} : ∀ {ts : List Str} {k : Nat} {acc : Str}, (∀ t ∈ ts, t.length ≤ m) → (textFrom k acc ts).length ≤ acc.length + ts.length * (m + 2)
  | [], _, acc, _ => by show acc.length ≤ _; omega
  | t :: ts, k, acc, h => by
    have ih := from_le (m := m) (ts := ts) (k := k + 1) (acc := acc ++ (if k > 0 then ", " else "" : String) ++ t) fun u hu => h u (List.mem_cons_of_mem _ hu)
    have h1 := h t List.mem_cons_self
    have e : (Str.ofString (if k > 0 then ", " else "")).length ≤ 2 := by
      split
      · rw [PySem.ofString_length]; decide
      · rw [PySem.ofString_length]; decide
    rw [len_app, len_app] at ih
    show (textFrom (k + 1) _ ts).length ≤ _
    rw [List.length_cons, Nat.succ_mul]
    omega
theorem listText_le {m : Nat} {ts : List Str} (h : ∀ t ∈ ts, t.length ≤ m) : (listText ts).length ≤ 2 + ts.length * (m + 2) := by
  unfold listText
  rw [len_app]
  have h1 := from_le (m := m) (k := 0) (acc := "[") h
  have e1 : (Str.ofString "[").length = 1 := by rw [PySem.ofString_length] <;> rfl
  have e2 : (Str.ofString "]").length = 1 := by rw [PySem.ofString_length] <;> rfl
  omega
/-- data of a depth and of a text within bounds -/
structure Fit (n m : Nat) (p : PyData) : Prop where
  can : p.canLay0 = true
  show_ : p.showable = true
  plain : p.hasDict = false
  deep : p.depth ≤ n
  text : PyData.strOk p.shown = true
  len : p.shown.length ≤ m
theorem Fit.mono {n m n' m' : Nat} {p : PyData} (h : Fit n m p) (a : n ≤ n') (b : m ≤ m') : Fit n' m' p := ⟨h.can, h.show_, h.plain, Nat.le_trans h.deep a, h.text, Nat.le_trans h.len b⟩
theorem shownAll_mem {t : Str} : ∀ {ps : List PyData}, t ∈ PyData.shownAll ps → ∃ p ∈ ps, p.shown = t
  | [], h => by rw [PyData.shownAll] at h; cases h
  | p :: ps, h => by
    rw [PyData.shownAll] at h
    rcases List.mem_cons.mp h with e | h
    · exact ⟨p, List.mem_cons_self, e.symm⟩
    · obtain ⟨q, hq, e⟩ := shownAll_mem h
      exact ⟨q, List.mem_cons_of_mem _ hq, e⟩
theorem shownAll_len : ∀ ps : List PyData, (PyData.shownAll ps).length = ps.length
  | [] => by rw [PyData.shownAll] <;> rfl
  | p :: ps => by rw [PyData.shownAll, List.length_cons, List.length_cons, shownAll_len ps]
theorem fits_all {n m : Nat} : ∀ {ps : List PyData}, (∀ p ∈ ps, Fit n m p) → PyData.canLayAll0 ps = true ∧ PyData.showableAll ps = true ∧ PyData.hasDictAll ps = false ∧ PyData.depthAll ps ≤ n
  | [], _ => by simp [PyData.canLayAll0, PyData.showableAll, PyData.hasDictAll, PyData.depthAll]
  | p :: ps, h => by
    obtain ⟨a, b, c, d⟩ := fits_all (n := n) (m := m) (ps := ps) fun q hq => h q (List.mem_cons_of_mem _ hq)
    have f := h p List.mem_cons_self
    rw [PyData.canLayAll0, PyData.showableAll, PyData.hasDictAll, PyData.depthAll, f.can, f.show_, f.plain, a, b, c]
    exact ⟨rfl, rfl, rfl, Nat.max_le.mpr ⟨f.deep, d⟩⟩
theorem fit_list {n m l : Nat} {ps : List PyData} (h : ∀ p ∈ ps, Fit n m p) (hl : ps.length ≤ l) : Fit (n + 1) (2 + l * (m + 2)) (.list ps) := by
  obtain ⟨a, b, c, d⟩ := fits_all h
  refine ⟨by rw [PyData.canLay0]; exact a, by rw [PyData.showable]; exact b, by rw [PyData.hasDict]; exact c, by rw [PyData.depth]; omega, ?_, ?_⟩
  · rw [PyData.shown]
    exact strOk_listText fun t ht => by
      obtain ⟨p, hp, rfl⟩ := shownAll_mem ht
      exact (h p hp).text
  · rw [PyData.shown]
    have := listText_le (m := m) (ts := PyData.shownAll ps) fun t ht => by
      obtain ⟨p, hp, rfl⟩ := shownAll_mem ht
      exact (h p hp).len
    rw [shownAll_len] at this
    have h2 : ps.length * (m + 2) ≤ l * (m + 2) := Nat.mul_le_mul_right _ hl
    omega
theorem fit_int {i : Int} {k : Nat} (h : i.natAbs < 10 ^ k) (h0 : 0 < k := by decide) (hk : k ≤ 500 := by decide) : Fit 0 (k + 1) (.int i) := by
  have h1 : i.natAbs.log2 < 1920 := by
    refine PySem.Flt.log2_lt_of (by decide : 0 < 1920) (Nat.lt_of_lt_of_le h (Nat.le_trans (Nat.pow_le_pow_right (by decide) hk) (by decide +kernel)))
  refine ⟨by rw [PyData.canLay0], by rw [PyData.showable, decide_eq_true h1], by rw [PyData.hasDict], by rw [PyData.depth] <;> omega, by rw [PyData.shown]; exact strOk_lit, ?_⟩
  rw [PyData.shown, PySem.ofString_length]
  exact int_text_length_le10 h0 h
theorem Fit.shw {n m : Nat} {p : PyData} (h : Fit n m p) (hn : n ≤ 60 := by decide) (hm : m ≤ sizeLine := by decide) : Shw p := ⟨h.show_, h.plain, Nat.le_trans h.deep hn, Nat.le_trans h.len hm⟩
theorem Fit.shaped {n m : Nat} {p : PyData} (h : Fit n m p) (hn : n ≤ 64 := by decide) : SeqAt.shaped p = true := by
  unfold SeqAt.shaped
  rw [h.can, Bool.true_and, decide_eq_true_eq]
  exact Nat.le_trans h.deep hn
/-- repr(x), an x that is read as p -/
theorem cRepr_at {S : Sto} {Φ : KD} {d : D} {a : String} {n m : Nat} {p : PyData} (e : tyOf S d = some a) (ha : a = "list" ∨ a = "tuple") (r : PyR S d p) (f : Fit n m p) (h : Φ S (.str p.shown)) (hn : n ≤ 60 := by decide) (hm : m ≤ sizeLine := by decide) : cRepr [d] S Φ := ⟨⟨a, e, ha⟩, p, r, f.shw hn hm, h⟩
theorem eq_same {S : Sto} {Φ : KD} {d e : D} {n m : Nat} {p : PyData} (r : PyR S d p) (r2 : PyR S e p) (f : Fit n m p) (h : Φ S (.bl true)) (hn : n ≤ 64 := by decide) : dEq d e S Φ := ⟨p, p, r, r2, f.shaped hn, f.shaped hn, by rw [SeqAt.eqv_refl p f.can]; exact h⟩
abbrev rowD (r : List Int) : D := .lst (r.map D.int)
abbrev rowP (r : List Int) : PyData := .list (r.map PyData.int)
abbrev tabD (t : List (List Int)) : D := .lst (t.map rowD)
abbrev tabP (t : List (List Int)) : PyData := .list (t.map rowP)
theorem pyra_map {α : Type} {S : Sto} {f : α → D} {g : α → PyData} (h : ∀ x, PyR S (f x) (g x)) : ∀ xs : List α, PyRA S (xs.map f) (xs.map g)
  | [] => .nil
  | x :: xs => .cons (h x) (pyra_map h xs)
theorem pyr_row {S : Sto} (r : List Int) : PyR S (rowD r) (rowP r) := .lst (pyra_map PyR.int r)
theorem pyr_tab {S : Sto} (t : List (List Int)) : PyR S (tabD t) (tabP t) := .lst (pyra_map pyr_row t)
theorem fit_row {r : List Int} {k l : Nat} (h : ∀ i ∈ r, i.natAbs < 10 ^ k) (hl : r.length ≤ l) (h0 : 0 < k := by decide) (hk : k ≤ 500 := by decide) : Fit 1 (2 + l * (k + 3)) (rowP r) := by
  refine fit_list (n := 0) (m := k + 1) (fun p hp => ?_) (by rw [List.length_map]; exact hl)
  obtain ⟨i, hi, rfl⟩ := List.mem_map.mp hp
  exact fit_int (h i hi) h0 hk
theorem fit_tab {t : List (List Int)} {k l n : Nat} (h : ∀ r ∈ t, ∀ i ∈ r, i.natAbs < 10 ^ k) (hl : ∀ r ∈ t, r.length ≤ l) (hn : t.length ≤ n) (h0 : 0 < k := by decide) (hk : k ≤ 500 := by decide) : Fit 2 (2 + n * (2 + l * (k + 3) + 2)) (tabP t) := by
  refine fit_list (n := 1) (m := 2 + l * (k + 3)) (fun p hp => ?_) (by rw [List.length_map]; exact hn)
  obtain ⟨r, hr, rfl⟩ := List.mem_map.mp hp
  exact fit_row (h r hr) (hl r hr) h0 hk
end DL
namespace DL
open PySem PySem.Spec PyProof.Rows L2
def forP (src : Src) (G : TGd) (B : TSd) : TSd := fun D Γ S1 => ∃ (P : Nat → Gam → Sto → Prop) (n : Nat), P 0 Γ S1 ∧
  (∀ i Γ' S', i ≤ n → P i Γ' S' → ∃ ds, src S' = some ds ∧ ds.length = n) ∧
  (∀ i Γ' S' ds d, P i Γ' S' → src S' = some ds → ds[i]? = some d → G d Γ' S' fun Γ2 S2 => B { D with nx := P (i + 1), ct := P (i + 1), bk := D.nx } Γ2 S2) ∧
  (∀ Γ' S', P n Γ' S' → D.nx Γ' S')
/-- marks: where ways meet again -/
def dJ (T : TD) : TD := T
def sJ (T : TSd) : TSd := T
theorem joinD {T : TD} {Γ : Gam} {S : Sto} {Φ : KD} {Ψ : KX} (J : KD) (h : ∀ S' d, J S' d → Φ S' d) (k : ∀ Φ' : KD, (∀ S' d, J S' d → Φ' S' d) → T Γ S Φ' Ψ) : dJ T Γ S Φ Ψ := k Φ h
theorem dJ_e {T : TD} {Γ : Gam} {S : Sto} {Φ : KD} {Ψ : KX} : dJ T Γ S Φ Ψ = T Γ S Φ Ψ := rfl
theorem sJ_e {T : TSd} {Γ : Gam} {S : Sto} {E : EdD} : sJ T E Γ S = T E Γ S := rfl
def lcP (src : Src) (G : TGd) (C : TB) (Te : TD) (vs : List Nat) (Fin : List D → Sto → KD → Prop) (Γ : Gam) (S1 : Sto) (Φ : KD) : Prop := ∃ (P : Nat → List D → Sto → Prop) (n : Nat), n ≤ sizeLine ∧ P 0 [] S1 ∧
  (∀ i acc S', i ≤ n → P i acc S' → ∃ ds, src S' = some ds ∧ ds.length = n) ∧
  (∀ i acc S' ds d, P i acc S' → src S' = some ds → ds[i]? = some d → G d (gwipe Γ vs) S' fun Γ2 S2 => C Γ2 S2 (fun S3 k => if k = true then Te Γ2 S3 (fun S4 y => P (i + 1) (acc ++ [y]) S4) (fun _ _ => False) else P (i + 1) acc S3) (fun _ _ => False)) ∧
  (∀ acc S', P n acc S' → Fin acc S' Φ)
section
variable {Γ : Gam} {S : Sto} {Φ : KD} {Ψ : KX}
theorem sNext_e {E : EdD} : sNext E Γ S = (E.nx Γ S) := rfl
theorem sSeq_e {E : EdD} {T U : TSd} : sSeq T U E Γ S = (T { E with nx := U E } Γ S) := rfl
theorem sBrk_e {E : EdD} : sBrk E Γ S = (E.bk Γ S) := rfl
theorem sCnt_e {E : EdD} : sCnt E Γ S = (E.ct Γ S) := rfl
theorem sDrop_e {E : EdD} {T : TD} : sDrop T E Γ S = (T Γ S (fun S1 _ => E.nx Γ S1) E.er) := rfl
theorem sRet_e {E : EdD} {T : TD} : sRet T E Γ S = (T Γ S E.rt E.er) := rfl
theorem sRetN_e {E : EdD} : sRetN E Γ S = (E.rt S .non) := rfl
theorem sIf_e {E : EdD} {C : TB} {T U : TSd} : sIf C T U E Γ S = (C Γ S (fun S1 k => if k = true then T E Γ S1 else U E Γ S1) E.er) := rfl
theorem sAsg_e {E : EdD} {T : TD} {G : TGd} : sAsg T G E Γ S = (T Γ S (fun S1 d => G d Γ S1 E.nx) E.er) := rfl
theorem sPar_e {E : EdD} {i j : Nat} {T : TL} : sPar i j T E Γ S = (T Γ S (fun S1 ds => ∃ x y, ds = [x, y] ∧ E.nx ((Γ.set i (some x)).set j (some y)) S1) E.er) := rfl
theorem sPar3_e {E : EdD} {i j l : Nat} {T : TL} : sPar3 i j l T E Γ S = (T Γ S (fun S1 ds => ∃ x y z, ds = [x, y, z] ∧ E.nx (((Γ.set i (some x)).set j (some y)).set l (some z)) S1) E.er) := rfl
theorem sAug_e {E : EdD} {i : Nat} {T : TD} {f : D → D → Sto → KD → Prop} : sAug i T f E Γ S = (∃ d, Γ[i]? = some (some d) ∧ T Γ S (fun S1 y => f d y S1 fun S2 z => E.nx (Γ.set i (some z)) S2) E.er) := rfl
theorem sRaise_e {E : EdD} {C : Addr} : sRaise C E Γ S = (E.er S ⟨C, []⟩) := rfl
theorem nmG_e {i : Nat} {d : D} {P : Gam → Sto → Prop} : nmG i d Γ S P = (P (Γ.set i (some d)) S) := rfl
theorem tupG_e {n : Nat} {T : TGs'} {d : D} {P : Gam → Sto → Prop} : tupG n T d Γ S P = (∃ ds, d = .tup ds ∧ ds.length = n ∧ T ds Γ S P) := rfl
theorem gsNil_e {ds : List D} {P : Gam → Sto → Prop} : gsNil ds Γ S P = (ds = [] ∧ P Γ S) := rfl
theorem gsCons_e {ds : List D} {T : TGd} {U : TGs'} {P : Gam → Sto → Prop} : gsCons T U ds Γ S P = (∃ d r, ds = d :: r ∧ T d Γ S fun Γ' S' => U r Γ' S' P) := rfl
theorem subG_e {f : D → D → D → Sto → (Sto → Prop) → Prop} {To Ti : TD} {d : D} {P : Gam → Sto → Prop} : subG f To Ti d Γ S P = (To Γ S (fun S1 o => Ti Γ S1 (fun S2 i => f o i d S2 fun S3 => P Γ S3) fun _ _ => False) fun _ _ => False) := rfl
theorem dVar_e {i : Nat} : dVar i Γ S Φ Ψ = (∃ d, Γ[i]? = some (some d) ∧ Φ S d) := rfl
theorem dC_e {d : D} : dC d Γ S Φ Ψ = (Φ S d) := rfl
theorem dOp_e {f : D → D → Sto → KD → Prop} {A B : TD} : dOp f A B Γ S Φ Ψ = (A Γ S (fun S1 x => B Γ S1 (fun S2 y => f x y S2 Φ) Ψ) Ψ) := rfl
theorem dUn_e {f : D → Sto → KD → Prop} {A : TD} : dUn f A Γ S Φ Ψ = (A Γ S (fun S1 d => f d S1 Φ) Ψ) := rfl
theorem dChain_e {f g : D → D → Sto → KD → Prop} {A B C : TD} : dChain f g A B C Γ S Φ Ψ = (A Γ S (fun S1 x => B Γ S1 (fun S2 y => f x y S2 fun S3 z => ∃ k, z = .bl k ∧ (if k = true then C Γ S3 (fun S4 u => g y u S4 Φ) Ψ else Φ S3 (.bl false))) Ψ) Ψ) := rfl
theorem bOf_e {A : TD} {Φ : Sto → Bool → Prop} : bOf A Γ S Φ Ψ = (A Γ S (fun S1 d => ∃ k, d = .bl k ∧ Φ S1 k) Ψ) := rfl
theorem bAnd_e {A B : TB} {Φ : Sto → Bool → Prop} : bAnd A B Γ S Φ Ψ = (A Γ S (fun S1 k => if k = true then B Γ S1 Φ Ψ else Φ S1 false) Ψ) := rfl
theorem bOr_e {A B : TB} {Φ : Sto → Bool → Prop} : bOr A B Γ S Φ Ψ = (A Γ S (fun S1 k => if k = true then Φ S1 true else B Γ S1 Φ Ψ) Ψ) := rfl
theorem bNot_e {A : TB} {Φ : Sto → Bool → Prop} : bNot A Γ S Φ Ψ = (A Γ S (fun S1 k => Φ S1 (!k)) Ψ) := rfl
theorem bYes_e {Φ : Sto → Bool → Prop} : bYes Γ S Φ Ψ = (Φ S true) := rfl
theorem dAnd_e {A B : TD} : dAnd A B Γ S Φ Ψ = (A Γ S (fun S1 x => ∃ k, x = .bl k ∧ if k = true then B Γ S1 Φ Ψ else Φ S1 (.bl false)) Ψ) := rfl
theorem dOr_e {A B : TD} : dOr A B Γ S Φ Ψ = (A Γ S (fun S1 x => ∃ k, x = .bl k ∧ if k = true then Φ S1 (.bl true) else B Γ S1 Φ Ψ) Ψ) := rfl
theorem dNot_e {A : TD} : dNot A Γ S Φ Ψ = (A Γ S (fun S1 x => ∃ k, x = .bl k ∧ Φ S1 (.bl (!k))) Ψ) := rfl
theorem dIf_e {C : TB} {A B : TD} : dIf C A B Γ S Φ Ψ = (C Γ S (fun S1 k => if k = true then A Γ S1 Φ Ψ else B Γ S1 Φ Ψ) Ψ) := rfl
theorem lNil_e {Φ : Sto → List D → Prop} : lNil Γ S Φ Ψ = (Φ S []) := rfl
theorem lCons_e {T : TD} {U : TL} {Φ : Sto → List D → Prop} : lCons T U Γ S Φ Ψ = (T Γ S (fun S1 x => U Γ S1 (fun S2 xs => Φ S2 (x :: xs)) Ψ) Ψ) := rfl
theorem dLst_e {T : TL} : dLst T Γ S Φ Ψ = (T Γ S (fun S1 ds => ds.length ≤ sizeLine ∧ Φ S1 (.lst ds)) Ψ) := rfl
theorem dLstO_e {T : TL} : dLstO T Γ S Φ Ψ = (T Γ S (fun S1 ds => ds.length ≤ sizeLine ∧ Φ (S1 ++ [.lst ds]) (.own S1.length)) Ψ) := rfl
theorem dTup_e {T : TL} : dTup T Γ S Φ Ψ = (T Γ S (fun S1 ds => ds.length ≤ sizeLine ∧ Φ S1 (.tup ds)) Ψ) := rfl
theorem dCB_e {f : List D → Sto → KD → Prop} {T : TL} : dCB f T Γ S Φ Ψ = (T Γ S (fun S1 ds => f ds S1 Φ) Ψ) := rfl
theorem dCall_e {sp : DSpec} {T : TL} : dCall sp T Γ S Φ Ψ = (T Γ S (fun S1 ds => sp ds S1 Φ Ψ) Ψ) := rfl
theorem dCallK_e {n m : Nat} {sp : DSpec} {g : List D → List D → List D} {T U : TL} : dCallK n m sp g T U Γ S Φ Ψ = (T Γ S (fun S1 ds => U Γ S1 (fun S2 es => ds.length = n ∧ es.length = m ∧ sp (g ds es) S2 Φ Ψ) Ψ) Ψ) := rfl
theorem oNone_e {Φ : Sto → Option Int → Prop} : oNone Γ S Φ Ψ = (Φ S none) := rfl
theorem oSome_e {T : TD} {Φ : Sto → Option Int → Prop} : oSome T Γ S Φ Ψ = (T Γ S (fun S1 d => ∃ i, d = .int i ∧ Φ S1 (some i)) Ψ) := rfl
theorem dSl_e {f : D → Option Int → Option Int → Sto → KD → Prop} {T : TD} {A B : TOd} : dSl f T A B Γ S Φ Ψ = (T Γ S (fun S1 d => A Γ S1 (fun S2 lo => B Γ S2 (fun S3 hi => f d lo hi S3 Φ) Ψ) Ψ) Ψ) := rfl
theorem dBM_e {f : D → List D → Sto → KD → Prop} {T : TD} {U : TL} : dBM f T U Γ S Φ Ψ = (T Γ S (fun S1 d => isLst S1 d ∧ U Γ S1 (fun S2 ds => f d ds S2 Φ) Ψ) Ψ) := rfl
theorem dBM0_e {f : D → List D → Sto → KD → Prop} {T : TD} : dBM0 f T Γ S Φ Ψ = (T Γ S (fun S1 d => isLst S1 d ∧ f d [] S1 Φ) Ψ) := rfl
theorem dFz_e {T : TD} : dFz T Γ S Φ Ψ = (T Γ S (fun S1 d => fzD d S1 Φ) Ψ) := rfl
theorem dFz2_e {T : TD} : dFz2 T Γ S Φ Ψ = (T Γ S (fun S1 d => fzD2 d S1 Φ) Ψ) := rfl
theorem iSeq_e {T : TD} {Φ : Sto → Src → Prop} : iSeq T Γ S Φ Ψ = (T Γ S (fun S1 d => (∃ ds, asQ S1 d = some ds) ∧ Φ S1 (fun S' => asQ S' d)) Ψ) := rfl
theorem iTupD_e {T : TD} {Φ : Sto → Src → Prop} : iTupD T Γ S Φ Ψ = (T Γ S (fun S1 d => ∃ ds, d = .tup ds ∧ Φ S1 (fun _ => some ds)) Ψ) := rfl
theorem iRg1_e {T : TL} {Φ : Sto → Src → Prop} : iRg1 T Γ S Φ Ψ = (T Γ S (fun S1 ds => ∃ j, ds = [.int j] ∧ -(2 ^ 62) ≤ j ∧ j < 2 ^ 62 ∧ Φ S1 (fun _ => some (rngD 0 j.toNat))) Ψ) := rfl
theorem iRg2_e {T : TL} {Φ : Sto → Src → Prop} : iRg2 T Γ S Φ Ψ = (T Γ S (fun S1 ds => ∃ i j, ds = [.int i, .int j] ∧ (-(2 ^ 62) ≤ i ∧ i < 2 ^ 62 ∧ -(2 ^ 62) ≤ j ∧ j < 2 ^ 62) ∧ Φ S1 (fun _ => some (rngD i (j - i).toNat))) Ψ) := rfl
theorem iZipD_e {T : TL} {Φ : Sto → Src → Prop} : iZipD T Γ S Φ Ψ = (T Γ S (fun S1 ds => ∃ d e, ds = [d, e] ∧ (∃ xs, asQ S1 d = some xs) ∧ (∃ ys, asQ S1 e = some ys) ∧ Φ S1 (fun S' => (asQ S' d).bind fun xs => (asQ S' e).map fun ys => zipD xs ys)) Ψ) := rfl
theorem iEnumD_e {T : TL} {Φ : Sto → Src → Prop} : iEnumD T Γ S Φ Ψ = (T Γ S (fun S1 ds => ∃ d, ds = [d] ∧ (∃ xs, asQ S1 d = some xs) ∧ Φ S1 (fun S' => (asQ S' d).map enumD)) Ψ) := rfl
theorem sFor_e {E : EdD} {I : TId} {G : TGd} {B : TSd} : sFor I G B E Γ S = (I Γ S (fun S1 src => forP src G B E Γ S1) E.er) := rfl
theorem dLc_e {I : TId} {G : TGd} {C : TB} {T : TD} {vs : List Nat} {Fin : List D → Sto → KD → Prop} : dLc I G C T vs Fin Γ S Φ Ψ = (I Γ S (fun S1 src => lcP src G C T vs Fin Γ S1 Φ) Ψ) := rfl
theorem finF_e {acc : List D} : finF acc S Φ = (Φ S (.lst acc)) := rfl
theorem finO_e {acc : List D} : finO acc S Φ = (Φ (S ++ [.lst acc]) (.own S.length)) := rfl
theorem fzD_l {ds : List D} : fzD (.lst ds) S Φ = (Φ S (.lst ds)) := rfl
theorem fzD_i {i : Int} : fzD (.int i) S Φ = (Φ S (.int i)) := rfl
theorem fzD_o {h : Nat} : fzD (.own h) S Φ = (∃ ds, S[h]? = some (.lst ds) ∧ Φ (S.set h .gone) (.lst ds)) := rfl
theorem fzD2_o {h : Nat} : fzD2 (.own h) S Φ = (∃ ds, S[h]? = some (.lst ds) ∧ fzLD ds (S.set h .gone) fun S' ds' => Φ S' (.lst ds')) := rfl
theorem dSetO_e {h : Nat} {k : Int} {v : D} {P : Sto → Prop} : dSetO (.own h) (.int k) v S P = (∃ ds, S[h]? = some (.lst ds) ∧ ∃ j, ixN ds.length k = some j ∧ P (S.set h (.lst (ds.set j v)))) := propext ⟨fun ⟨a, b, c, d⟩ => ⟨a, c, b, d⟩, fun ⟨a, c, b, d⟩ => ⟨a, b, c, d⟩⟩
theorem mAppend_e {h : Nat} {y : D} : mAppend (.own h) [y] S Φ = (∃ xs, S[h]? = some (.lst xs) ∧ xs.length < sizeLine ∧ Φ (S.set h (.lst (xs ++ [y]))) .non) := rfl
theorem mClear_e {h : Nat} : mClear (.own h) [] S Φ = (∃ xs, S[h]? = some (.lst xs) ∧ Φ (S.set h (.lst [])) .non) := rfl
theorem mReverse_e {h : Nat} : mReverse (.own h) [] S Φ = (∃ xs, S[h]? = some (.lst xs) ∧ Φ (S.set h (.lst xs.reverse)) .non) := rfl
end
section
variable {Γ : Gam} {S : Sto} {Φ : KD} {G : TGd} {B : TSd} {E : EdD} {C : TB} {Te : TD} {vs : List Nat} {Fin : List D → Sto → KD → Prop}
theorem for_l {ds : List D} (P : Nat → Gam → Sto → Prop) (h0 : P 0 Γ S) (hs : ∀ i Γ' S' (hi : i < ds.length), P i Γ' S' → G ds[i] Γ' S' fun Γ2 S2 => B { E with nx := P (i + 1), ct := P (i + 1), bk := E.nx } Γ2 S2) (hd : ∀ Γ' S', P ds.length Γ' S' → E.nx Γ' S') : forP (fun _ => some ds) G B E Γ S :=
  ⟨P, ds.length, h0, fun _ _ _ _ _ => ⟨ds, rfl, rfl⟩, fun i Γ' S' es d hp e hd => by
    cases e
    obtain ⟨hi, rfl⟩ := List.getElem?_eq_some_iff.mp hd
    exact hs i Γ' S' hi hp, hd⟩
theorem for_s {src : Src} {ds : List D} (P : Nat → Gam → Sto → Prop) (h0 : P 0 Γ S) (hl : ∀ i Γ' S', P i Γ' S' → src S' = some ds) (hs : ∀ i Γ' S' (hi : i < ds.length), P i Γ' S' → G ds[i] Γ' S' fun Γ2 S2 => B { E with nx := P (i + 1), ct := P (i + 1), bk := E.nx } Γ2 S2) (hd : ∀ Γ' S', P ds.length Γ' S' → E.nx Γ' S') : forP src G B E Γ S :=
  ⟨P, ds.length, h0, fun i Γ' S' _ hp => ⟨ds, hl i Γ' S' hp, rfl⟩, fun i Γ' S' es d hp e hd => by
    rw [hl i Γ' S' hp] at e
    cases e
    obtain ⟨hi, rfl⟩ := List.getElem?_eq_some_iff.mp hd
    exact hs i Γ' S' hi hp, hd⟩
theorem rng_len (lo : Int) (n : Nat) : (rngD lo n).length = n := by simp [rngD]
theorem rng_get {lo : Int} {n i : Nat} {d : D} (h : (rngD lo n)[i]? = some d) : i < n ∧ d = .int (lo + i) := by
  obtain ⟨hi, e⟩ := List.getElem?_eq_some_iff.mp h
  rw [rng_len] at hi
  refine ⟨hi, ?_⟩
  rw [← e]
  simp [rngD]
theorem for_r {lo : Int} {n : Nat} (P : Nat → Gam → Sto → Prop) (h0 : P 0 Γ S) (hs : ∀ (i : Nat) Γ' S', i < n → P i Γ' S' → G (.int (lo + (i : Int))) Γ' S' fun Γ2 S2 => B { E with nx := P (i + 1), ct := P (i + 1), bk := E.nx } Γ2 S2) (hd : ∀ Γ' S', P n Γ' S' → E.nx Γ' S') : forP (fun _ => some (rngD lo n)) G B E Γ S :=
  ⟨P, n, h0, fun _ _ _ _ _ => ⟨_, rfl, rng_len _ _⟩, fun i Γ' S' es d hp e hd => by
    cases e
    obtain ⟨hi, rfl⟩ := rng_get hd
    exact hs i Γ' S' hi hp, hd⟩
theorem for_r0 {n : Nat} (P : Nat → Gam → Sto → Prop) (h0 : P 0 Γ S) (hs : ∀ (i : Nat) Γ' S', i < n → P i Γ' S' → G (.int (i : Int)) Γ' S' fun Γ2 S2 => B { E with nx := P (i + 1), ct := P (i + 1), bk := E.nx } Γ2 S2) (hd : ∀ Γ' S', P n Γ' S' → E.nx Γ' S') : forP (fun _ => some (rngD 0 n)) G B E Γ S :=
  for_r P h0 (fun i Γ' S' hi hp => by rw [Int.zero_add]; exact hs i Γ' S' hi hp) hd
theorem lc_r0 {n : Nat} (P : Nat → List D → Sto → Prop) (hl : n ≤ sizeLine) (h0 : P 0 [] S) (hs : ∀ (i : Nat) acc S', i < n → P i acc S' → G (.int (i : Int)) (gwipe Γ vs) S' fun Γ2 S2 => C Γ2 S2 (fun S3 k => if k = true then Te Γ2 S3 (fun S4 y => P (i + 1) (acc ++ [y]) S4) (fun _ _ => False) else P (i + 1) acc S3) (fun _ _ => False))
    (hd : ∀ acc S', P n acc S' → Fin acc S' Φ) : lcP (fun _ => some (rngD 0 n)) G C Te vs Fin Γ S Φ :=
  ⟨P, n, hl, h0, fun _ _ _ _ _ => ⟨_, rfl, rng_len _ _⟩, fun i acc S' es d hp e hd => by
    cases e
    obtain ⟨hi, rfl⟩ := rng_get hd
    rw [Int.zero_add]
    exact hs i acc S' hi hp, hd⟩
theorem dIx_o' {h : Nat} {i : Int} {S : Sto} {Φ : KD} : dIx (.own h) (.int i) S Φ = (∃ ds, S[h]? = some (.lst ds) ∧ ∃ d, atI ds i = some d ∧ Φ S d) := by
  rw [dIx_o]
  exact propext ⟨fun ⟨a, b, c, d⟩ => ⟨a, c, b, d⟩, fun ⟨a, c, b, d⟩ => ⟨a, b, c, d⟩⟩
theorem at_1 {α : Type} {a b : α} {l : List α} : atI (a :: b :: l) 1 = some b := at_nat (n := 1)
theorem at_2 {α : Type} {a b c : α} {l : List α} : atI (a :: b :: c :: l) 2 = some c := at_nat (n := 2)
theorem at_3 {α : Type} {a b c d : α} {l : List α} : atI (a :: b :: c :: d :: l) 3 = some d := at_nat (n := 3)
theorem at_4 {α : Type} {a b c d e : α} {l : List α} : atI (a :: b :: c :: d :: e :: l) 4 = some e := at_nat (n := 4)
theorem Fs.last {S S' : Sto} {h n : Nat} {x : Cell} (f : Fs h n (S ++ [x]) S') (hl : h < S.length) : S'[S.length]? = some x ∧ ∀ y, Fs h n (S ++ [y]) (S'.set S.length y) := by
  obtain ⟨c, q, rfl⟩ := f
  rw [set_app hl]
  have e : S.length = (S.set h c).length := by rw [List.length_set]
  refine ⟨by rw [e]; exact get_at, fun y => ⟨c, q, ?_⟩⟩
  rw [set_app hl]
  conv => lhs; rw [e]
  exact set_at
theorem Fs.cell {S S' : Sto} {h n : Nat} (f : Fs h n S S') (x : Cell) (hl : h < S.length) : Fs h n (S ++ [x]) (S' ++ [x]) := by
  obtain ⟨c, q, rfl⟩ := f
  exact ⟨c, q, (set_app hl).symm⟩
theorem isLst_at {S : Sto} {h : Nat} {ds : List D} (e : S[h]? = some (.lst ds)) : isLst S (.own h) := ⟨ds, asL_at' e⟩
theorem isLst_l {S : Sto} {ds : List D} : isLst S (.lst ds) = True := propext ⟨fun _ => trivial, fun _ => ⟨ds, rfl⟩⟩
theorem ix_nat {n i : Nat} (h : i < n) : ixN n (i : Int) = some i := by
  unfold ixN
  rw [if_pos (by omega), if_pos (by omega)]
  rfl
theorem ix30 : ixN 3 0 = some 0 := ix_nat (i := 0) (by decide)
theorem ix31 : ixN 3 1 = some 1 := ix_nat (i := 1) (by decide)
theorem ix32 : ixN 3 2 = some 2 := ix_nat (i := 2) (by decide)
theorem cpw {i j : Int} (h0 : 0 ≤ j) (h1 : j ≤ 1000) (h : i.natAbs < 2 ^ 250) : CPowW i j := ⟨h0, h1, Nat.lt_of_lt_of_le h (Nat.pow_le_pow_right (by decide) (by decide))⟩
theorem cdw {i j : Int} (h0 : 0 < j) (h : j.natAbs < 2 ^ 250) : CDivW i j :=
  ⟨h0, PySem.Flt.log2_lt_of (by decide) (Nat.lt_of_lt_of_le h (Nat.pow_le_pow_right (by decide) (by decide)))⟩
theorem cmr {i j : Int} (h0 : -(2 ^ 64) < j) (h : j < 2 ^ 64) : CMulA i j := .inl (.inr ⟨h0, h⟩)
theorem cml {i j : Int} (h0 : -(2 ^ 64) < i) (h : i < 2 ^ 64) : CMulA i j := .inl (.inl ⟨h0, h⟩)
theorem small {n : Nat} (h : n ≤ 1000000 := by decide) : n ≤ sizeLine := Nat.le_trans h (by decide)
theorem exAny {α : Type} {a : α} : (∃ x, some a = some x) = True := propext ⟨fun _ => trivial, fun _ => ⟨a, rfl⟩⟩
theorem cut_to {α : Type} {xs : List α} {j : Nat} : cutD xs none (some (j : Int)) = xs.take j := by
  unfold cutD
  rw [HT.sIx_none, HT.sIx_nat, List.drop_zero, Nat.sub_zero]
  by_cases h : j ≤ xs.length
  · rw [Nat.min_eq_left h]
  · rw [Nat.min_eq_right (by omega), List.take_length, List.take_of_length_le (by omega)]
theorem cut_from {α : Type} {xs : List α} {j : Nat} : cutD xs (some (j : Int)) none = xs.drop j := by
  unfold cutD
  rw [HT.sIx_none, HT.sIx_nat, List.take_of_length_le (by rw [List.length_drop]; exact Nat.le_refl _)]
  by_cases h : j ≤ xs.length
  · rw [Nat.min_eq_left h]
  · rw [Nat.min_eq_right (by omega), List.drop_of_length_le (by omega), List.drop_of_length_le (by omega)]
theorem rep_0 : List.replicate 0 (none : Option D) = [] := rfl
theorem rep_s {n : Nat} : List.replicate (n + 1) (none : Option D) = none :: List.replicate n none := rfl
end
end DL
namespace DL
open PySem PySem.Spec PyProof.Rows L2
section
variable {S T : Sto} {Φ : KD} {i j : Int} {d e : D} {xs ys : List D}
theorem asL_cases (h : asL S d = some xs) : d = .lst xs ∨ ∃ n, d = .own n ∧ S[n]? = some (.lst xs) := by
  cases d with
  | lst ds => cases h; exact .inl rfl
  | own n =>
    have h : (match S[n]? with | some (.lst ds) => some ds | _ => none) = some xs := h
    split at h
    · cases h; exact .inr ⟨n, rfl, by assumption⟩
    · cases h
  | _ => cases h
theorem asL_app (h : asL S d = some xs) : asL (S ++ T) d = some xs := by
  rcases asL_cases h with rfl | ⟨n, rfl, e⟩
  · rfl
  · exact asL_at' (get_app e)
theorem asQ_L (h : asL S d = some xs) : asQ S d = some xs := by
  rcases asL_cases h with rfl | ⟨n, rfl, e⟩
  · rfl
  · exact asQ_at' e
theorem asS_L (h : asL S d = some xs) : asS S d = some xs := by
  rcases asL_cases h with rfl | ⟨n, rfl, e⟩
  · rfl
  · exact asQ_at' e
theorem tyOf_L (h : asL S d = some xs) : tyOf S d = some "list" := by
  rcases asL_cases h with rfl | ⟨n, rfl, e⟩
  · rfl
  · show (match S[n]? with | some (.lst _) => some "list" | _ => none) = some "list"
    rw [e]
theorem cLen_L (h : asL S d = some xs) : cLen [d] S Φ = Φ S (.int xs.length) := by
  rcases asL_cases h with rfl | ⟨n, rfl, e⟩
  · exact cLen_l
  · show (∃ ys, asS S (.own n) = some ys ∧ Φ S (.int ys.length)) = _
    rw [asS_L h]
    exact propext exAs
theorem cListO_L (h : asL S d = some xs) : cListO [d] S Φ = Φ (S ++ [.lst xs]) (.own S.length) := by
  show (∃ ys, asS S d = some ys ∧ Φ (S ++ [.lst ys]) (.own S.length)) = _
  rw [asS_L h]
  exact propext exAs
theorem dSlL_L {lo hi : Option Int} (h : asL S d = some xs) : dSlL d lo hi S Φ = Φ S (.lst (cutD xs lo hi)) := by
  show (∃ ds, asQ S d = some ds ∧ Φ S (.lst (cutD ds lo hi))) = _
  rw [asQ_L h]
  exact propext exAs
theorem dIx_L (h : asL S d = some xs) : dIx d (.int i) S Φ = ∃ x, atI xs i = some x ∧ Φ S x := by
  rcases asL_cases h with rfl | ⟨n, rfl, e⟩
  · exact dIx_l
  · rw [dIx_o', e]
    exact propext exL
theorem dAdd_L (h : asL S d = some xs) (h2 : asL S e = some ys) : dAdd d e S Φ = (xs.length + ys.length ≤ sizeLine ∧ Φ S (.lst (xs ++ ys))) := by
  have w : dAdd d e S Φ = ∃ us vs, asL S d = some us ∧ asL S e = some vs ∧ us.length + vs.length ≤ sizeLine ∧ Φ S (.lst (us ++ vs)) := by
    rcases asL_cases h with rfl | ⟨n, rfl, e1⟩ <;> rcases asL_cases h2 with rfl | ⟨m, rfl, e2⟩ <;> rfl
  rw [w, h, h2]
  exact propext ⟨fun ⟨_, _, e1, e2, q⟩ => by cases e1; cases e2; exact q, fun q => ⟨_, _, rfl, rfl, q⟩⟩
theorem dEq_i : dEq (.int i) (.int j) S Φ = Φ S (.bl (i == j)) := propext
  ⟨fun ⟨p, q, h1, h2, _, _, h⟩ => by cases h1; cases h2; simpa [PyData.eqv] using h, fun h => ⟨_, _, .int i, .int j, by simp [SeqAt.shaped, PyData.canLay0, PyData.depth], by simp [SeqAt.shaped, PyData.canLay0, PyData.depth], by simpa [PyData.eqv] using h⟩⟩
end
section
variable {Γ : Gam} {S : Sto} {Φ : KD} {G : TGd} {C : TB} {Te : TD} {vs : List Nat} {Fin : List D → Sto → KD → Prop} {src : Src}
theorem lc_s {ds : List D} (P : Nat → List D → Sto → Prop) (hl : ds.length ≤ sizeLine) (h0 : P 0 [] S) (hsrc : ∀ i acc S', P i acc S' → src S' = some ds) (hs : ∀ i acc S' (hi : i < ds.length), P i acc S' → G ds[i] (gwipe Γ vs) S' fun Γ2 S2 => C Γ2 S2 (fun S3 k => if k = true then Te Γ2 S3 (fun S4 y => P (i + 1) (acc ++ [y]) S4) (fun _ _ => False) else P (i + 1) acc S3) (fun _ _ => False))
    (hd : ∀ acc S', P ds.length acc S' → Fin acc S' Φ) : lcP src G C Te vs Fin Γ S Φ :=
  ⟨P, ds.length, hl, h0, fun i acc S' _ hp => ⟨ds, hsrc i acc S' hp, rfl⟩, fun i acc S' es d hp e hd => by
    rw [hsrc i acc S' hp] at e
    cases e
    obtain ⟨hi, rfl⟩ := List.getElem?_eq_some_iff.mp hd
    exact hs i acc S' hi hp, hd⟩
theorem lc_mapS {α : Type} (xs : List α) (f g : α → D) (hsrc : src S = some (xs.map f)) (hl : xs.length ≤ sizeLine) (hs : ∀ x ∈ xs, ∀ R : KD, R S (g x) → G (f x) (gwipe Γ vs) S fun Γ2 S2 => Te Γ2 S2 R (fun _ _ => False)) (hd : Fin (xs.map g) S Φ) : lcP src G bYes Te vs Fin Γ S Φ := by
  refine lc_s (ds := xs.map f) (fun i acc S' => S' = S ∧ acc = (xs.map g).take i) (by rw [List.length_map]; exact hl) ⟨rfl, by simp⟩ (fun i acc S' hp => by rw [hp.1]; exact hsrc) (fun i acc S' hi hp => ?_) fun acc S' hp => ?_
  · obtain ⟨rfl, rfl⟩ := hp
    have hi2 : i < xs.length := by rw [List.length_map] at hi; exact hi
    rw [List.getElem_map]
    refine hs _ (List.getElem_mem hi2) _ ⟨rfl, ?_⟩
    have hi3 : i < (xs.map g).length := by rw [List.length_map]; exact hi2
    rw [List.take_add_one, List.getElem?_eq_getElem hi3, List.getElem_map]
    rfl
  · obtain ⟨rfl, rfl⟩ := hp
    rw [List.length_map, List.take_of_length_le (by rw [List.length_map]; exact Nat.le_refl _)]
    exact hd
theorem lc_idS (ds : List D) (g : D → D) (hsrc : src S = some ds) (hl : ds.length ≤ sizeLine) (hs : ∀ x ∈ ds, ∀ R : KD, R S (g x) → G x (gwipe Γ vs) S fun Γ2 S2 => Te Γ2 S2 R (fun _ _ => False)) (hd : Fin (ds.map g) S Φ) : lcP src G bYes Te vs Fin Γ S Φ :=
  lc_mapS ds id g (by rw [List.map_id]; exact hsrc) hl hs hd
end
theorem all_true {α : Type} (xs : List α) : (xs.map fun _ => true).all id = true := by
  rw [List.all_eq_true]
  intro x hx
  obtain ⟨_, _, rfl⟩ := List.mem_map.mp hx
  rfl
/-- rows of a table, read by the cells -/
inductive RowsS (S : Sto) : List D → List (List Int) → Prop
  | nil : RowsS S [] []
  | cons {d : D} {ds : List D} {r : List Int} {t : List (List Int)} : asL S d = some (r.map D.int) → RowsS S ds t → RowsS S (d :: ds) (r :: t)
def TabS (S : Sto) (d : D) (t : List (List Int)) : Prop := ∃ ds, asL S d = some ds ∧ RowsS S ds t
namespace RowsS
variable {S T : Sto} {ds es : List D} {t u : List (List Int)}
theorem len (h : RowsS S ds t) : ds.length = t.length := by
  induction h with
  | nil => rfl
  | cons _ _ ih => rw [List.length_cons, List.length_cons, ih]
theorem app (h : RowsS S ds t) : RowsS (S ++ T) ds t := by
  induction h with
  | nil => exact .nil
  | cons a _ ih => exact .cons (asL_app a) ih
theorem cat (h : RowsS S ds t) (h2 : RowsS S es u) : RowsS S (ds ++ es) (t ++ u) := by
  induction h with
  | nil => exact h2
  | cons a _ ih => exact .cons a ih
theorem take (h : RowsS S ds t) : ∀ n, RowsS S (ds.take n) (t.take n) := by
  induction h with
  | nil => intro n; rw [List.take_nil, List.take_nil]; exact .nil
  | cons a _ ih =>
    intro n
    cases n with
    | zero => exact .nil
    | succ n => exact .cons a (ih n)
theorem drop (h : RowsS S ds t) : ∀ n, RowsS S (ds.drop n) (t.drop n) := by
  induction h with
  | nil => intro n; rw [List.drop_nil, List.drop_nil]; exact .nil
  | cons a b ih =>
    intro n
    cases n with
    | zero => exact .cons a b
    | succ n => exact ih n
theorem get (h : RowsS S ds t) : ∀ {i : Nat} (hi : i < t.length) (hd : i < ds.length), asL S ds[i] = some ((t[i]).map D.int) := by
  induction h with
  | nil => intro i hi; exact absurd hi (by simp)
  | cons a b ih =>
    intro i hi hd
    cases i with
    | zero => exact a
    | succ i => exact ih (by simpa using hi) (by simpa using hd)
theorem mem (h : RowsS S ds t) {d : D} (hd : d ∈ ds) : ∃ r ∈ t, asL S d = some (r.map D.int) := by
  induction h with
  | nil => cases hd
  | cons a _ ih =>
    rcases List.mem_cons.mp hd with rfl | hd
    · exact ⟨_, List.mem_cons_self, a⟩
    · obtain ⟨r, hr, e⟩ := ih hd
      exact ⟨r, List.mem_cons_of_mem _ hr, e⟩
theorem pyr (h : RowsS S ds t) : PyRA S ds (t.map rowP) := by
  induction h with
  | nil => exact .nil
  | cons a _ ih =>
    refine .cons ?_ ih
    rcases asL_cases a with rfl | ⟨n, rfl, e⟩
    · exact pyr_row _
    · exact .own e (pyra_map PyR.int _)
end RowsS
theorem rows_map {S : Sto} : ∀ t : List (List Int), RowsS S (t.map rowD) t
  | [] => .nil
  | _ :: t => .cons rfl (rows_map t)
theorem tabS_l {S : Sto} (t : List (List Int)) : TabS S (tabD t) t := ⟨_, rfl, rows_map t⟩
theorem TabS.pyr {S : Sto} {d : D} {t : List (List Int)} (h : TabS S d t) : PyR S d (tabP t) := by
  obtain ⟨ds, e, r⟩ := h
  rcases asL_cases e with rfl | ⟨n, rfl, e'⟩
  · exact .lst r.pyr
  · exact .own e' r.pyr
theorem TabS.app {S T : Sto} {d : D} {t : List (List Int)} (h : TabS S d t) : TabS (S ++ T) d t := let ⟨ds, e, r⟩ := h; ⟨ds, asL_app e, r.app⟩
theorem TabS.ty {S : Sto} {d : D} {t : List (List Int)} (h : TabS S d t) : tyOf S d = some "list" := let ⟨_, e, _⟩ := h; tyOf_L e
end DL
namespace DL
open PySem PySem.Spec PyProof.Rows L2
/-- an instance, frozen or a cell -/
def asI (S : Sto) : D → Option (Addr × List (Str × D))
  | .ins C fs => some (C, fs)
  | .own h => match S[h]? with
    | some (.ins C fs) => some (C, fs)
    | _ => none
  | _ => none
section
variable {K : PySem.W.Frag} {w : Hs} {S : Sto}
variable {F : Hp} {al : List Addr}
/-- an attribute written -/
def putD (f : Str) (d : D) : List (Str × D) → List (Str × D)
  | [] => [(f, d)]
  | (g, x) :: r => if g = f then (g, d) :: r else (g, x) :: putD f d r
end
section
variable {X : Cx} {W : WX} {o e : Expr} {es : List Expr} {f m x : Str} {pos apos p : Pos} {to te : TE} {To Te : TD} {tl tk' : TA} {Tl Tk : TL} {C : Addr} {k : Nat} {sp : DSpec}
/-- o.f, o an instance of the class at C -/
def dFld (C : Addr) (f : Str) (T : TD) : TD := fun Γ S Φ Ψ => T Γ S (fun S1 d => ∃ fs, asI S1 d = some (C, fs) ∧ ∃ y, fs.lookup f = some y ∧ Φ S1 y) Ψ
/-- o.f, a constant of o's class: by a table of classes -/
def dConI (tab : List (Addr × D)) (f : Str) (T : TD) : TD := fun Γ S Φ Ψ => T Γ S (fun S1 d => ∃ C fs, asI S1 d = some (C, fs) ∧ fs.lookup f = none ∧ ∃ y, (C, y) ∈ tab ∧ Φ S1 y) Ψ
def dCVal (tab : List (Addr × D)) (f : Str) (T : TD) : TD := fun Γ S Φ Ψ => T Γ S (fun S1 d => ∃ C, d = .obj C ∧ ∃ y, (C, y) ∈ tab ∧ Φ S1 y) Ψ
/-- o.f = e, o a cell -/
def sFldS (C : Addr) (f : Str) (To Te : TD) : TSd := fun D Γ S => Te Γ S (fun S1 y => To Γ S1 (fun S2 d => ∃ h fs, d = .own h ∧ S2[h]? = some (.ins C fs) ∧ fs.length < 1000 ∧ D.nx Γ (S2.set h (.ins C (putD f y fs)))) D.er) D.er
end
end DL
namespace DL
open PySem PySem.Spec PyProof.Rows L2
abbrev TA2 := L2.St → Hp → (List V → List V → Hp → Prop) → Prop
abbrev TL2 := Gam → Sto → (Sto → List D → List D → Prop) → KX → Prop
def t2 (t tk : TA) (n : Nat) : TA2 := fun σ H Q => t σ H fun vs H1 => tk σ H1 fun zs H2 => zs.length = n ∧ Q vs zs H2
def d2 (T Tk : TL) (n : Nat) : TL2 := fun Γ S Φ Ψ => T Γ S (fun S1 ds => Tk Γ S1 (fun S2 es => es.length = n ∧ Φ S2 ds es) Ψ) Ψ
def dLone (T : TD) (Tk : TL) (n : Nat) : TL2 := fun Γ S Φ Ψ => T Γ S (fun S1 d => Tk Γ S1 (fun S2 es => es.length = n ∧ ∃ ds, asS S2 d = some ds ∧ Φ S2 ds es) Ψ) Ψ
def lStar (T : TD) (U : TL) : TL := fun Γ S Φ Ψ => T Γ S (fun S1 d => ∃ ds, asS S1 d = some ds ∧ U Γ S1 (fun S2 xs => Φ S2 (ds ++ xs)) Ψ) Ψ
abbrev DSpK := List D → List D → Sto → KD → KX → Prop
/-- a def's promise, called with n values: the parameters' places in values, defaults, keywords; with a star parameter behind a values -/
def pkP (n : Nat) (perm : List Nat) (md : List D) (sp : DSpec) : DSpK := fun ds es S Φ Ψ => ds.length = n ∧ sp (pick perm (ds ++ md) es) S Φ Ψ
def pkS (b : Bool) (a : Nat) (perm : List Nat) (md : List D) (sp : DSpec) : DSpK := fun ds es S Φ Ψ => (ds.take a).length = a ∧ (b = false → ds.drop a = []) ∧ (ds.drop a).length ≤ sizeLine ∧ sp (pick perm (ds.take a ++ md) es ++ [.tup (ds.drop a)]) S Φ Ψ
end DL
namespace DL
open PySem PySem.Spec PyProof.Rows L2
def dCallA (sp : DSpK) (T : TL2) : TD := fun Γ S Φ Ψ => T Γ S (fun S1 ds es => sp ds es S1 Φ Ψ) Ψ
def dMakeA (C : Addr) (sp : DSpK) (T : TL2) : TD := fun Γ S Φ Ψ => T Γ S (fun S1 ds es => sp (.own S1.length :: ds) es (S1 ++ [.ins C []]) (fun S2 d => d = .non ∧ Φ S2 (.own S1.length)) Ψ) Ψ
def dMethA (C : Addr) (m : Str) (sp : DSpK) (To : TD) (T : TL2) : TD := fun Γ S Φ Ψ => To Γ S (fun S1 d => ∃ fs, asI S1 d = some (C, fs) ∧ fs.lookup m = none ∧ T Γ S1 (fun S2 ds es => sp (d :: ds) es S2 Φ Ψ) Ψ) Ψ
def dCMethA (C : Addr) (sp : DSpK) (To : TD) (T : TL2) : TD := fun Γ S Φ Ψ => To Γ S (fun S1 d => d = .obj C ∧ T Γ S1 (fun S2 ds es => sp (.obj C :: ds) es S2 Φ Ψ) Ψ) Ψ
def dPropA (C : Addr) (sp : DSpK) (To : TD) : TD := fun Γ S Φ Ψ => To Γ S (fun S1 d => ∃ fs, asI S1 d = some (C, fs) ∧ sp [d] [] S1 Φ (fun _ _ => False)) Ψ
def dMakeV (i : Nat) (C : Addr) (sp : DSpK) (T : TL2) : TD := fun Γ S Φ Ψ => Γ[i]? = some (some (.obj C)) ∧ dMakeA C sp T Γ S Φ Ψ
def fzID (d : D) (S : Sto) (Φ : KD) : Prop := match d with
  | .own h => ∃ C fs, S[h]? = some (.ins C fs) ∧ Φ (S.set h .gone) (.ins C fs)
  | d => Φ S d
def dFzI (T : TD) : TD := fun Γ S Φ Ψ => T Γ S (fun S1 d => fzID d S1 Φ) Ψ
end DL
namespace DL
open PySem PySem.Spec PyProof.Rows L2
abbrev FaX : Type := PySem.W.Frag → Bool
def obsX (fa : List FaX) (fn : List He5.DefA) (K : PySem.W.Frag) : He.AlD := ((fa.all fun f => f K) && fn.all fun d => d.ok K, fn.map fun d => He5.fnA K (d.at_ K))
def SaysX (fa : List FaX) (fn : List He5.DefA) (K : PySem.W.Frag) : Prop := obsX fa fn K = He5.valA fn
def obsXG (n : Nat) (fa : List FaX) (fn : List He5.DefA) (g : Addr → Option Obj) : He.AlD := obsX fa fn (He.frG g (He5.asA g n))
def hookX (n : Nat) (fa : List FaX) (fn : List He5.DefA) : PySem.W.Hook where
  α := He.AlD
  obs := fun s => obsXG n fa fn s.heap.get?
  val := fun _ => He5.valA fn
  says := fun _ h => ∃ K : PySem.W.Frag, K.In h ∧ SaysX fa fn K
  of := fun _ _ e => ⟨_, He.frG_in, e⟩
  keeps := fun _ _ _ ⟨K, hK, c⟩ k => ⟨K, PySem.W.Frag.In.keeps hK k, c⟩
theorem obsXG_eq {n : Nat} {fa : List FaX} {fn : List He5.DefA} {g : Addr → Option Obj} {s : Shared} (h : ∀ a, g a = s.heap.get? a) : obsXG n fa fn g = (hookX n fa fn).obs s := by
  have e : g = s.heap.get? := funext h
  rw [e] <;> rfl
section
variable {fa : List FaX} {fn : List He5.DefA} {K : PySem.W.Frag}
theorem SaysX.all (c : SaysX fa fn K) : (fa.all fun f => f K) = true ∧ (fn.all fun d => d.ok K) = true := by
  have c1 : ((fa.all fun f => f K) && fn.all fun d => d.ok K) = true := congrArg (fun z : He.AlD => z.1) c
  exact Bool.and_eq_true_iff.mp c1
theorem SaysX.fact (c : SaysX fa fn K) (i : Nat) {f : FaX} (h : fa[i]? = some f := by rfl) : f K = true := List.all_eq_true.mp c.all.1 f (List.mem_of_getElem? h)
theorem SaysX.def_ (c : SaysX fa fn K) (i : Nat) {d : He5.DefA} (h : fn[i]? = some d := by rfl) : ∃ fd, FunD K d.name d.qual d.params d.body d.scope (d.dvs K) (d.kws K) (d.at_ K) fd := by
  have e : fn.map (fun d => He5.fnA K (d.at_ K)) = fn.map He5.DefA.val := congrArg (fun z : He.AlD => z.2) c
  have e2 : (fn.map fun d => He5.fnA K (d.at_ K))[i]? = (fn.map He5.DefA.val)[i]? := by rw [e]
  rw [List.getElem?_map, List.getElem?_map, h] at e2
  exact He5.DefA.funD (Option.some.inj e2) (List.all_eq_true.mp c.all.2 d (List.mem_of_getElem? h))
end
end DL
namespace DL
open PySem PySem.Spec PyProof.Rows L2
/-- a, b, .. = a list of that length -/
def lstG (n : Nat) (T : TGs') : TGd := fun d Γ S P => ∃ ds, asQ S d = some ds ∧ ds.length = n ∧ T ds Γ S P
section
variable {Γ : Gam} {S : Sto} {Φ : KD} {Ψ : KX}
theorem lstG_e {n : Nat} {T : TGs'} {d : D} {P : Gam → Sto → Prop} : lstG n T d Γ S P = (∃ ds, asQ S d = some ds ∧ ds.length = n ∧ T ds Γ S P) := rfl
theorem d2_e {T Tk : TL} {n : Nat} {Φ : Sto → List D → List D → Prop} : d2 T Tk n Γ S Φ Ψ = (T Γ S (fun S1 ds => Tk Γ S1 (fun S2 es => es.length = n ∧ Φ S2 ds es) Ψ) Ψ) := rfl
theorem dLone_e {T : TD} {Tk : TL} {n : Nat} {Φ : Sto → List D → List D → Prop} : dLone T Tk n Γ S Φ Ψ = (T Γ S (fun S1 d => Tk Γ S1 (fun S2 es => es.length = n ∧ ∃ ds, asS S2 d = some ds ∧ Φ S2 ds es) Ψ) Ψ) := rfl
theorem lStar_e {T : TD} {U : TL} {Φ : Sto → List D → Prop} : lStar T U Γ S Φ Ψ = (T Γ S (fun S1 d => ∃ ds, asS S1 d = some ds ∧ U Γ S1 (fun S2 xs => Φ S2 (ds ++ xs)) Ψ) Ψ) := rfl
theorem dCallA_e {sp : DSpK} {T : TL2} : dCallA sp T Γ S Φ Ψ = (T Γ S (fun S1 ds es => sp ds es S1 Φ Ψ) Ψ) := rfl
theorem dMakeA_e {C : Addr} {sp : DSpK} {T : TL2} : dMakeA C sp T Γ S Φ Ψ = (T Γ S (fun S1 ds es => sp (.own S1.length :: ds) es (S1 ++ [.ins C []]) (fun S2 d => d = .non ∧ Φ S2 (.own S1.length)) Ψ) Ψ) := rfl
theorem dMakeV_e {i : Nat} {C : Addr} {sp : DSpK} {T : TL2} : dMakeV i C sp T Γ S Φ Ψ = (Γ[i]? = some (some (.obj C)) ∧ dMakeA C sp T Γ S Φ Ψ) := rfl
theorem dMethA_e {C : Addr} {m : Str} {sp : DSpK} {To : TD} {T : TL2} : dMethA C m sp To T Γ S Φ Ψ = (To Γ S (fun S1 d => ∃ fs, asI S1 d = some (C, fs) ∧ fs.lookup m = none ∧ T Γ S1 (fun S2 ds es => sp (d :: ds) es S2 Φ Ψ) Ψ) Ψ) := rfl
theorem dCMethA_e {C : Addr} {sp : DSpK} {To : TD} {T : TL2} : dCMethA C sp To T Γ S Φ Ψ = (To Γ S (fun S1 d => d = .obj C ∧ T Γ S1 (fun S2 ds es => sp (.obj C :: ds) es S2 Φ Ψ) Ψ) Ψ) := rfl
theorem dPropA_e {C : Addr} {sp : DSpK} {To : TD} : dPropA C sp To Γ S Φ Ψ = (To Γ S (fun S1 d => ∃ fs, asI S1 d = some (C, fs) ∧ sp [d] [] S1 Φ (fun _ _ => False)) Ψ) := rfl
theorem dFld_e {C : Addr} {f : Str} {T : TD} : dFld C f T Γ S Φ Ψ = (T Γ S (fun S1 d => ∃ fs, asI S1 d = some (C, fs) ∧ ∃ y, fs.lookup f = some y ∧ Φ S1 y) Ψ) := rfl
theorem sFldS_e {E : EdD} {C : Addr} {f : Str} {To Te : TD} : sFldS C f To Te E Γ S = (Te Γ S (fun S1 y => To Γ S1 (fun S2 d => ∃ h fs, d = .own h ∧ S2[h]? = some (.ins C fs) ∧ fs.length < 1000 ∧ E.nx Γ (S2.set h (.ins C (putD f y fs)))) E.er) E.er) := rfl
theorem dFzI_e {T : TD} : dFzI T Γ S Φ Ψ = (T Γ S (fun S1 d => fzID d S1 Φ) Ψ) := rfl
theorem fzID_o {h : Nat} : fzID (.own h) S Φ = (∃ C fs, S[h]? = some (.ins C fs) ∧ Φ (S.set h .gone) (.ins C fs)) := rfl
theorem pkP_e {n : Nat} {perm : List Nat} {md ds es : List D} {sp : DSpec} : pkP n perm md sp ds es S Φ Ψ = (ds.length = n ∧ sp (pick perm (ds ++ md) es) S Φ Ψ) := rfl
theorem pkS_e {b : Bool} {a : Nat} {perm : List Nat} {md ds es : List D} {sp : DSpec} : pkS b a perm md sp ds es S Φ Ψ = ((ds.take a).length = a ∧ (b = false → ds.drop a = []) ∧ (ds.drop a).length ≤ sizeLine ∧ sp (pick perm (ds.take a ++ md) es ++ [.tup (ds.drop a)]) S Φ Ψ) := rfl
theorem asI_i {C : Addr} {fs : List (Str × D)} : asI S (.ins C fs) = some (C, fs) := rfl
end
end DL
namespace DL
open PySem PySem.Spec PyProof.Rows L2
/-- try: e / except c as n: y = n; all that e raises is of the classes Cs -/
def sKeep (Cs : List Addr) (i j : Nat) (T : TD) : TSd := fun E Γ S => T Γ S (fun S1 _ => E.nx Γ S1) (fun S1 x => x.cls ∈ Cs ∧ i < Γ.length ∧ E.nx (((Γ.set i (some (.exc x.cls x.fs))).set j (some (.exc x.cls x.fs))).set i none) S1)
end DL
namespace DL
open PySem PySem.Spec PyProof.Rows L2
/-- C() -/
def dMk0 (C : Addr) : TD := fun _ S Φ _ => Φ (S ++ [.ins C []]) (.own S.length)
end DL
namespace DL
open PySem PySem.Spec PyProof.Rows L2
def dSlS (d : D) (lo hi : Option Int) (S : Sto) (Φ : KD) : Prop := ∃ z, d = .str z ∧ z.length ≤ sizeLine ∧ Φ S (.str (cutS z lo hi))
/-- tuple(x), x a list -/
def cTup (ds : List D) (S : Sto) (Φ : KD) : Prop := match ds with
  | [d] => ∃ xs, asQ S d = some xs ∧ Φ S (.tup xs)
  | _ => False
end DL
namespace DL
open PySem PySem.Spec PyProof.Rows L2
section
variable {Γ : Gam} {S : Sto} {Φ : KD} {Ψ : KX}
theorem dMk0_e {C : Addr} : dMk0 C Γ S Φ Ψ = Φ (S ++ [.ins C []]) (.own S.length) := rfl
theorem sKeep_e {E : EdD} {Cs : List Addr} {i j : Nat} {T : TD} : sKeep Cs i j T E Γ S = T Γ S (fun S1 _ => E.nx Γ S1) (fun S1 x => x.cls ∈ Cs ∧ i < Γ.length ∧ E.nx (((Γ.set i (some (.exc x.cls x.fs))).set j (some (.exc x.cls x.fs))).set i none) S1) := rfl
theorem dCVal_e {tab : List (Addr × D)} {f : Str} {T : TD} : dCVal tab f T Γ S Φ Ψ = T Γ S (fun S1 d => ∃ C, d = .obj C ∧ ∃ y, (C, y) ∈ tab ∧ Φ S1 y) Ψ := rfl
theorem dConI_e {tab : List (Addr × D)} {f : Str} {T : TD} : dConI tab f T Γ S Φ Ψ = T Γ S (fun S1 d => ∃ C fs, asI S1 d = some (C, fs) ∧ fs.lookup f = none ∧ ∃ y, (C, y) ∈ tab ∧ Φ S1 y) Ψ := rfl
theorem cLen_s {z : Str} : cLen [.str z] S Φ = (z.length ≤ sizeLine ∧ Φ S (.int z.length)) := rfl
theorem dIx_s {z : Str} {i : Int} : dIx (.str z) (.int i) S Φ = (z.length ≤ sizeLine ∧ ∃ c, atI z.cps.toList i = some c ∧ Φ S (.str ⟨#[c]⟩)) := rfl
theorem dSlS_s {z : Str} {lo hi : Option Int} : dSlS (.str z) lo hi S Φ = (z.length ≤ sizeLine ∧ Φ S (.str (cutS z lo hi))) := propext ⟨fun ⟨_, e, h1, h2⟩ => by cases e; exact ⟨h1, h2⟩, fun h => ⟨z, rfl, h.1, h.2⟩⟩
theorem dAdd_s {a b : Str} : dAdd (.str a) (.str b) S Φ = (a.length + b.length ≤ sizeLine ∧ Φ S (.str (a ++ b))) := rfl
theorem cTup_l {ds : List D} : cTup [.lst ds] S Φ = Φ S (.tup ds) := propext ⟨fun ⟨_, e, h⟩ => by cases e; exact h, fun h => ⟨ds, rfl, h⟩⟩
end
end DL
namespace DL
open PySem PySem.Spec PyProof.Rows L2
section
variable {X : Cx} {W : WX} {o e : Expr} {to te : TE} {To Te : TD}
def dM1 (f : D → List D → Sto → KD → Prop) (To Te : TD) : TD := fun Γ S Φ Ψ => To Γ S (fun S1 d => (∃ a, d = .str a) ∧ Te Γ S1 (fun S2 y => f d [y] S2 Φ) Ψ) Ψ
def mSplit (d : D) (ds : List D) (S : Sto) (Φ : KD) : Prop := ∃ a b, d = .str a ∧ ds = [.str b] ∧ (b.length == 0) = false ∧ a.length + 2 ≤ sizeLine ∧ Φ S (.lst ((Txt.split a b).map D.str))
def cIntS (ds : List D) (S : Sto) (Φ : KD) : Prop := ∃ a n, ds = [.str a] ∧ PySem.intText? a = some n ∧ a.length ≤ 640 ∧ Φ S (.int n)
def cStrI (ds : List D) (S : Sto) (Φ : KD) : Prop := ∃ i : Int, ds = [.int i] ∧ i.natAbs.log2 < 1920 ∧ Φ S (.str (toString i))
def dSign (neg : Bool) (x y : D) (S : Sto) (Φ : KD) : Prop := ∃ (c : Nat) (z : Str), x = .str ⟨#[c]⟩ ∧ y = .str z ∧ Φ S (.bl (if neg then !decide (c ∈ z.cps.toList) else decide (c ∈ z.cps.toList)))
def signsD (z : Str) : List D := z.cps.toList.map fun c => D.str ⟨#[c]⟩
def iStrD (T : TD) : TId := fun Γ S Φ Ψ => T Γ S (fun S1 d => ∃ z, d = .str z ∧ Φ S1 (fun _ => some (signsD z))) Ψ
end
end DL
namespace DL
open PySem PySem.Spec PyProof.Rows L2
def sRaiseI (C : Addr) (f : Str) (T : TD) : TSd := fun D Γ S => T Γ S (fun S1 d => D.er S1 ⟨C, [(f, d)]⟩) D.er
end DL
namespace DL
open PySem PySem.Spec PyProof.Rows L2
section
variable {X : Cx} {W : WX} {e : Expr} {te : TE} {Te : TD} {f : Str} {pos : Pos}
/-- x.f, x a kept exception of one of the classes Cs -/
def dXFld (Cs : List Addr) (f : Str) (T : TD) : TD := fun Γ S Φ Ψ => T Γ S (fun S1 d => ∃ D fs y, d = .exc D fs ∧ D ∈ Cs ∧ fs.lookup f = some y ∧ Φ S1 y) Ψ
end
end DL
namespace DL
open PySem PySem.Spec PyProof.Rows L2
theorem sRaiseI_e {C : Addr} {f : Str} {T : TD} {D : EdD} {Γ : Gam} {S : Sto} : sRaiseI C f T D Γ S = T Γ S (fun S1 d => D.er S1 ⟨C, [(f, d)]⟩) D.er := rfl
end DL
namespace DL
open PySem PySem.Spec PyProof.Rows L2
theorem RpA.dropLast {K : PySem.W.Frag} {F : Hp} {al : List Addr} {vs : List V} {ds : List D} (r : RpA K F al vs ds) : RpA K F al vs.dropLast ds.dropLast := by
  rw [List.dropLast_eq_take, List.dropLast_eq_take, r.length]
  exact r.take _
def mPop (d : D) (ds : List D) (S : Sto) (Φ : KD) : Prop := ∃ h xs y, d = .own h ∧ ds = [] ∧ S[h]? = some (.lst xs) ∧ xs[xs.length - 1]? = some y ∧ Φ (S.set h (.lst xs.dropLast)) y
section
variable {X : Cx} {W : WX} {o e : Expr} {to te : TE} {To Te : TD}
def dM0 (f : D → List D → Sto → KD → Prop) (To : TD) : TD := fun Γ S Φ Ψ => To Γ S (fun S1 d => (∃ a, d = .str a) ∧ f d [] S1 Φ) Ψ
def mUpper (d : D) (ds : List D) (S : Sto) (Φ : KD) : Prop := ∃ a, d = .str a ∧ ds = [] ∧ a.length ≤ 5592405 ∧ Φ S (.str (Txt.upper a))
def dRev (T : TD) : TD := fun Γ S Φ Ψ => T Γ S (fun S1 d => ∃ ds, asQ S1 d = some ds ∧ Φ S1 (.lst ds.reverse)) Ψ
end
/-- a new list in a cell -/
def dAddO (x y : D) (S : Sto) (Φ : KD) : Prop := ∃ xs ys, asL S x = some xs ∧ asL S y = some ys ∧ xs.length + ys.length ≤ sizeLine ∧ Φ (S ++ [.lst (xs ++ ys)]) (.own S.length)
def plainD : D → D → Bool
  | .str _, .str _ | .int _, .int _ | .non, .non | .int _, .non | .non, .int _ | .str _, .non | .non, .str _ | .int _, .str _ | .str _, .int _ | .bl _, .bl _ => true
  | _, _ => false
def dEqF (x y : D) (S : Sto) (Φ : KD) : Prop := plainD x y = true ∧ Φ S (.bl (eqD x y))
def dNeF (x y : D) (S : Sto) (Φ : KD) : Prop := plainD x y = true ∧ Φ S (.bl (!eqD x y))
theorem opd_eqF {K : PySem.W.Frag} : OpD K rEq dEqF := fun w S x y u v Φ Q g r1 r2 ⟨hp, h⟩ q => by
  cases u <;> cases v <;> first | (exact absurd hp Bool.false_ne_true) | (cases r1; cases r2; exact ⟨by rfl, by
    first | (rw [dec_str]; exact q _ _ w S (Ext.refl w) g (.bl _) h) | (rw [dec_int]; exact q _ _ w S (Ext.refl w) g (.bl _) h) | (rw [dec_bl]; exact q _ _ w S (Ext.refl w) g (.bl _) h) | (simp only [decide_true, decide_false, reduceCtorEq]; exact q _ _ w S (Ext.refl w) g (.bl _) h)⟩)
theorem opd_neF {K : PySem.W.Frag} : OpD K rNe dNeF := fun w S x y u v Φ Q g r1 r2 ⟨hp, h⟩ q => by
  cases u <;> cases v <;> first | (exact absurd hp Bool.false_ne_true) | (cases r1; cases r2; exact ⟨by rfl, by
    first | (rw [dec_str]; exact q _ _ w S (Ext.refl w) g (.bl _) h) | (rw [dec_int]; exact q _ _ w S (Ext.refl w) g (.bl _) h) | (rw [dec_bl]; exact q _ _ w S (Ext.refl w) g (.bl _) h) | (simp only [decide_true, decide_false, reduceCtorEq]; exact q _ _ w S (Ext.refl w) g (.bl _) h)⟩)
section
variable {Γ : Gam} {S : Sto} {Φ : KD} {Ψ : KX}
theorem dM1_e {f : D → List D → Sto → KD → Prop} {To Te : TD} : dM1 f To Te Γ S Φ Ψ = To Γ S (fun S1 d => (∃ a, d = .str a) ∧ Te Γ S1 (fun S2 y => f d [y] S2 Φ) Ψ) Ψ := rfl
theorem dM0_e {f : D → List D → Sto → KD → Prop} {To : TD} : dM0 f To Γ S Φ Ψ = To Γ S (fun S1 d => (∃ a, d = .str a) ∧ f d [] S1 Φ) Ψ := rfl
theorem dRev_e {T : TD} : dRev T Γ S Φ Ψ = T Γ S (fun S1 d => ∃ ds, asQ S1 d = some ds ∧ Φ S1 (.lst ds.reverse)) Ψ := rfl
theorem mSplit_s {a b : Str} : mSplit (.str a) [.str b] S Φ = ((b.length == 0) = false ∧ a.length + 2 ≤ sizeLine ∧ Φ S (.lst ((Txt.split a b).map D.str))) := propext ⟨fun ⟨_, _, e1, e2, h⟩ => by cases e1; cases e2; exact h, fun h => ⟨a, b, rfl, rfl, h⟩⟩
theorem mUpper_s {a : Str} : mUpper (.str a) [] S Φ = (a.length ≤ 5592405 ∧ Φ S (.str (Txt.upper a))) := propext ⟨fun ⟨_, e1, _, h⟩ => by cases e1; exact h, fun h => ⟨a, rfl, rfl, h⟩⟩
theorem exZ {a : Str} {P : Str → Prop} : (∃ z, D.str a = .str z ∧ P z) ↔ P a := ⟨fun ⟨_, e, h⟩ => by cases e; exact h, fun h => ⟨a, rfl, h⟩⟩
theorem exStr {a : Str} : (∃ z, D.str a = .str z) = True := eq_true ⟨a, rfl⟩
theorem cStrI_i {i : Int} : cStrI [.int i] S Φ = (i.natAbs.log2 < 1920 ∧ Φ S (.str (toString i))) := propext ⟨fun ⟨_, e, h⟩ => by cases e; exact h, fun h => ⟨i, rfl, h⟩⟩
theorem cIntS_s {a : Str} : cIntS [.str a] S Φ = (∃ n, PySem.intText? a = some n ∧ a.length ≤ 640 ∧ Φ S (.int n)) := propext ⟨fun ⟨_, n, e, h⟩ => by cases e; exact ⟨n, h⟩, fun ⟨n, h⟩ => ⟨a, n, rfl, h⟩⟩
theorem iStrD_e {T : TD} {Ω : Sto → (Sto → Option (List D)) → Prop} : iStrD T Γ S Ω Ψ = T Γ S (fun S1 d => ∃ z, d = .str z ∧ Ω S1 (fun _ => some (signsD z))) Ψ := rfl
theorem dEqF_s {a b : Str} : dEqF (.str a) (.str b) S Φ = Φ S (.bl (a == b)) := propext ⟨fun h => h.2, fun h => ⟨rfl, h⟩⟩
theorem dNeF_s {a b : Str} : dNeF (.str a) (.str b) S Φ = Φ S (.bl (!(a == b))) := propext ⟨fun h => h.2, fun h => ⟨rfl, h⟩⟩
theorem dEqF_i {a b : Int} : dEqF (.int a) (.int b) S Φ = Φ S (.bl (a == b)) := propext ⟨fun h => h.2, fun h => ⟨rfl, h⟩⟩
theorem dNeF_i {a b : Int} : dNeF (.int a) (.int b) S Φ = Φ S (.bl (!(a == b))) := propext ⟨fun h => h.2, fun h => ⟨rfl, h⟩⟩
theorem dXFld_e {Cs : List Addr} {f : Str} {T : TD} : dXFld Cs f T Γ S Φ Ψ = T Γ S (fun S1 d => ∃ D fs y, d = .exc D fs ∧ D ∈ Cs ∧ fs.lookup f = some y ∧ Φ S1 y) Ψ := rfl
theorem mPop_e {h : Nat} : mPop (.own h) [] S Φ = (∃ xs y, S[h]? = some (.lst xs) ∧ xs[xs.length - 1]? = some y ∧ Φ (S.set h (.lst xs.dropLast)) y) := propext ⟨fun ⟨_, xs, y, e, _, h⟩ => by cases e; exact ⟨xs, y, h⟩, fun ⟨xs, y, h'⟩ => ⟨h, xs, y, rfl, rfl, h'⟩⟩
theorem dAddO_l {ds es : List D} : dAddO (.lst ds) (.lst es) S Φ = (ds.length + es.length ≤ sizeLine ∧ Φ (S ++ [.lst (ds ++ es)]) (.own S.length)) := propext ⟨fun ⟨_, _, e1, e2, h⟩ => by cases e1; cases e2; exact h, fun h => ⟨ds, es, rfl, rfl, h⟩⟩
theorem dAddO_o {h : Nat} {es : List D} : dAddO (.own h) (.lst es) S Φ = (∃ ds, S[h]? = some (.lst ds) ∧ ds.length + es.length ≤ sizeLine ∧ Φ (S ++ [.lst (ds ++ es)]) (.own S.length)) := propext ⟨fun ⟨ds, _, e1, e2, h⟩ => by cases e2; exact ⟨ds, asL_own e1, h⟩, fun ⟨ds, e, h'⟩ => ⟨ds, es, asL_at' e, rfl, h'⟩⟩
theorem dSign_s {neg : Bool} {c : Nat} {z : Str} : dSign neg (.str ⟨#[c]⟩) (.str z) S Φ = Φ S (.bl (if neg then !decide (c ∈ z.cps.toList) else decide (c ∈ z.cps.toList))) := propext ⟨fun ⟨_, _, e1, e2, h⟩ => by cases e1; cases e2; exact h, fun h => ⟨c, z, rfl, rfl, h⟩⟩
end
end DL
namespace DL
open PySem PySem.Spec PyProof.Rows L2
section
variable {Γ : Gam} {S : Sto} {Φ : KD} {Ψ : KX} {P : Gam → Sto → Prop}
theorem dv0 {d : D} : dVar 0 (some d :: Γ) S Φ Ψ = Φ S d := propext ⟨fun ⟨_, e, h⟩ => by cases e; exact h, fun h => ⟨d, rfl, h⟩⟩
theorem nm0 {o : Option D} {d : D} : nmG 0 d (o :: Γ) S P = P (some d :: Γ) S := rfl
theorem dv1 {a0 : Option D} {d : D} : dVar 1 (a0 :: some d :: Γ) S Φ Ψ = Φ S d := propext ⟨fun ⟨_, e, h⟩ => by cases e; exact h, fun h => ⟨d, rfl, h⟩⟩
theorem nm1 {a0 : Option D} {o : Option D} {d : D} : nmG 1 d (a0 :: o :: Γ) S P = P (a0 :: some d :: Γ) S := rfl
theorem dv2 {a0 a1 : Option D} {d : D} : dVar 2 (a0 :: a1 :: some d :: Γ) S Φ Ψ = Φ S d := propext ⟨fun ⟨_, e, h⟩ => by cases e; exact h, fun h => ⟨d, rfl, h⟩⟩
theorem nm2 {a0 a1 : Option D} {o : Option D} {d : D} : nmG 2 d (a0 :: a1 :: o :: Γ) S P = P (a0 :: a1 :: some d :: Γ) S := rfl
theorem dv3 {a0 a1 a2 : Option D} {d : D} : dVar 3 (a0 :: a1 :: a2 :: some d :: Γ) S Φ Ψ = Φ S d := propext ⟨fun ⟨_, e, h⟩ => by cases e; exact h, fun h => ⟨d, rfl, h⟩⟩
theorem nm3 {a0 a1 a2 : Option D} {o : Option D} {d : D} : nmG 3 d (a0 :: a1 :: a2 :: o :: Γ) S P = P (a0 :: a1 :: a2 :: some d :: Γ) S := rfl
theorem dv4 {a0 a1 a2 a3 : Option D} {d : D} : dVar 4 (a0 :: a1 :: a2 :: a3 :: some d :: Γ) S Φ Ψ = Φ S d := propext ⟨fun ⟨_, e, h⟩ => by cases e; exact h, fun h => ⟨d, rfl, h⟩⟩
theorem nm4 {a0 a1 a2 a3 : Option D} {o : Option D} {d : D} : nmG 4 d (a0 :: a1 :: a2 :: a3 :: o :: Γ) S P = P (a0 :: a1 :: a2 :: a3 :: some d :: Γ) S := rfl
theorem dv5 {a0 a1 a2 a3 a4 : Option D} {d : D} : dVar 5 (a0 :: a1 :: a2 :: a3 :: a4 :: some d :: Γ) S Φ Ψ = Φ S d := propext ⟨fun ⟨_, e, h⟩ => by cases e; exact h, fun h => ⟨d, rfl, h⟩⟩
theorem nm5 {a0 a1 a2 a3 a4 : Option D} {o : Option D} {d : D} : nmG 5 d (a0 :: a1 :: a2 :: a3 :: a4 :: o :: Γ) S P = P (a0 :: a1 :: a2 :: a3 :: a4 :: some d :: Γ) S := rfl
theorem dv6 {a0 a1 a2 a3 a4 a5 : Option D} {d : D} : dVar 6 (a0 :: a1 :: a2 :: a3 :: a4 :: a5 :: some d :: Γ) S Φ Ψ = Φ S d := propext ⟨fun ⟨_, e, h⟩ => by cases e; exact h, fun h => ⟨d, rfl, h⟩⟩
theorem nm6 {a0 a1 a2 a3 a4 a5 : Option D} {o : Option D} {d : D} : nmG 6 d (a0 :: a1 :: a2 :: a3 :: a4 :: a5 :: o :: Γ) S P = P (a0 :: a1 :: a2 :: a3 :: a4 :: a5 :: some d :: Γ) S := rfl
theorem dv7 {a0 a1 a2 a3 a4 a5 a6 : Option D} {d : D} : dVar 7 (a0 :: a1 :: a2 :: a3 :: a4 :: a5 :: a6 :: some d :: Γ) S Φ Ψ = Φ S d := propext ⟨fun ⟨_, e, h⟩ => by cases e; exact h, fun h => ⟨d, rfl, h⟩⟩
theorem nm7 {a0 a1 a2 a3 a4 a5 a6 : Option D} {o : Option D} {d : D} : nmG 7 d (a0 :: a1 :: a2 :: a3 :: a4 :: a5 :: a6 :: o :: Γ) S P = P (a0 :: a1 :: a2 :: a3 :: a4 :: a5 :: a6 :: some d :: Γ) S := rfl
theorem dv8 {a0 a1 a2 a3 a4 a5 a6 a7 : Option D} {d : D} : dVar 8 (a0 :: a1 :: a2 :: a3 :: a4 :: a5 :: a6 :: a7 :: some d :: Γ) S Φ Ψ = Φ S d := propext ⟨fun ⟨_, e, h⟩ => by cases e; exact h, fun h => ⟨d, rfl, h⟩⟩
theorem nm8 {a0 a1 a2 a3 a4 a5 a6 a7 : Option D} {o : Option D} {d : D} : nmG 8 d (a0 :: a1 :: a2 :: a3 :: a4 :: a5 :: a6 :: a7 :: o :: Γ) S P = P (a0 :: a1 :: a2 :: a3 :: a4 :: a5 :: a6 :: a7 :: some d :: Γ) S := rfl
theorem dv9 {a0 a1 a2 a3 a4 a5 a6 a7 a8 : Option D} {d : D} : dVar 9 (a0 :: a1 :: a2 :: a3 :: a4 :: a5 :: a6 :: a7 :: a8 :: some d :: Γ) S Φ Ψ = Φ S d := propext ⟨fun ⟨_, e, h⟩ => by cases e; exact h, fun h => ⟨d, rfl, h⟩⟩
theorem nm9 {a0 a1 a2 a3 a4 a5 a6 a7 a8 : Option D} {o : Option D} {d : D} : nmG 9 d (a0 :: a1 :: a2 :: a3 :: a4 :: a5 :: a6 :: a7 :: a8 :: o :: Γ) S P = P (a0 :: a1 :: a2 :: a3 :: a4 :: a5 :: a6 :: a7 :: a8 :: some d :: Γ) S := rfl
theorem dv10 {a0 a1 a2 a3 a4 a5 a6 a7 a8 a9 : Option D} {d : D} : dVar 10 (a0 :: a1 :: a2 :: a3 :: a4 :: a5 :: a6 :: a7 :: a8 :: a9 :: some d :: Γ) S Φ Ψ = Φ S d := propext ⟨fun ⟨_, e, h⟩ => by cases e; exact h, fun h => ⟨d, rfl, h⟩⟩
theorem nm10 {a0 a1 a2 a3 a4 a5 a6 a7 a8 a9 : Option D} {o : Option D} {d : D} : nmG 10 d (a0 :: a1 :: a2 :: a3 :: a4 :: a5 :: a6 :: a7 :: a8 :: a9 :: o :: Γ) S P = P (a0 :: a1 :: a2 :: a3 :: a4 :: a5 :: a6 :: a7 :: a8 :: a9 :: some d :: Γ) S := rfl
theorem dv11 {a0 a1 a2 a3 a4 a5 a6 a7 a8 a9 a10 : Option D} {d : D} : dVar 11 (a0 :: a1 :: a2 :: a3 :: a4 :: a5 :: a6 :: a7 :: a8 :: a9 :: a10 :: some d :: Γ) S Φ Ψ = Φ S d := propext ⟨fun ⟨_, e, h⟩ => by cases e; exact h, fun h => ⟨d, rfl, h⟩⟩
theorem nm11 {a0 a1 a2 a3 a4 a5 a6 a7 a8 a9 a10 : Option D} {o : Option D} {d : D} : nmG 11 d (a0 :: a1 :: a2 :: a3 :: a4 :: a5 :: a6 :: a7 :: a8 :: a9 :: a10 :: o :: Γ) S P = P (a0 :: a1 :: a2 :: a3 :: a4 :: a5 :: a6 :: a7 :: a8 :: a9 :: a10 :: some d :: Γ) S := rfl
theorem dv12 {a0 a1 a2 a3 a4 a5 a6 a7 a8 a9 a10 a11 : Option D} {d : D} : dVar 12 (a0 :: a1 :: a2 :: a3 :: a4 :: a5 :: a6 :: a7 :: a8 :: a9 :: a10 :: a11 :: some d :: Γ) S Φ Ψ = Φ S d := propext ⟨fun ⟨_, e, h⟩ => by cases e; exact h, fun h => ⟨d, rfl, h⟩⟩
theorem nm12 {a0 a1 a2 a3 a4 a5 a6 a7 a8 a9 a10 a11 : Option D} {o : Option D} {d : D} : nmG 12 d (a0 :: a1 :: a2 :: a3 :: a4 :: a5 :: a6 :: a7 :: a8 :: a9 :: a10 :: a11 :: o :: Γ) S P = P (a0 :: a1 :: a2 :: a3 :: a4 :: a5 :: a6 :: a7 :: a8 :: a9 :: a10 :: a11 :: some d :: Γ) S := rfl
theorem dv13 {a0 a1 a2 a3 a4 a5 a6 a7 a8 a9 a10 a11 a12 : Option D} {d : D} : dVar 13 (a0 :: a1 :: a2 :: a3 :: a4 :: a5 :: a6 :: a7 :: a8 :: a9 :: a10 :: a11 :: a12 :: some d :: Γ) S Φ Ψ = Φ S d := propext ⟨fun ⟨_, e, h⟩ => by cases e; exact h, fun h => ⟨d, rfl, h⟩⟩
theorem nm13 {a0 a1 a2 a3 a4 a5 a6 a7 a8 a9 a10 a11 a12 : Option D} {o : Option D} {d : D} : nmG 13 d (a0 :: a1 :: a2 :: a3 :: a4 :: a5 :: a6 :: a7 :: a8 :: a9 :: a10 :: a11 :: a12 :: o :: Γ) S P = P (a0 :: a1 :: a2 :: a3 :: a4 :: a5 :: a6 :: a7 :: a8 :: a9 :: a10 :: a11 :: a12 :: some d :: Γ) S := rfl
theorem dv14 {a0 a1 a2 a3 a4 a5 a6 a7 a8 a9 a10 a11 a12 a13 : Option D} {d : D} : dVar 14 (a0 :: a1 :: a2 :: a3 :: a4 :: a5 :: a6 :: a7 :: a8 :: a9 :: a10 :: a11 :: a12 :: a13 :: some d :: Γ) S Φ Ψ = Φ S d := propext ⟨fun ⟨_, e, h⟩ => by cases e; exact h, fun h => ⟨d, rfl, h⟩⟩
theorem nm14 {a0 a1 a2 a3 a4 a5 a6 a7 a8 a9 a10 a11 a12 a13 : Option D} {o : Option D} {d : D} : nmG 14 d (a0 :: a1 :: a2 :: a3 :: a4 :: a5 :: a6 :: a7 :: a8 :: a9 :: a10 :: a11 :: a12 :: a13 :: o :: Γ) S P = P (a0 :: a1 :: a2 :: a3 :: a4 :: a5 :: a6 :: a7 :: a8 :: a9 :: a10 :: a11 :: a12 :: a13 :: some d :: Γ) S := rfl
theorem dv15 {a0 a1 a2 a3 a4 a5 a6 a7 a8 a9 a10 a11 a12 a13 a14 : Option D} {d : D} : dVar 15 (a0 :: a1 :: a2 :: a3 :: a4 :: a5 :: a6 :: a7 :: a8 :: a9 :: a10 :: a11 :: a12 :: a13 :: a14 :: some d :: Γ) S Φ Ψ = Φ S d := propext ⟨fun ⟨_, e, h⟩ => by cases e; exact h, fun h => ⟨d, rfl, h⟩⟩
theorem nm15 {a0 a1 a2 a3 a4 a5 a6 a7 a8 a9 a10 a11 a12 a13 a14 : Option D} {o : Option D} {d : D} : nmG 15 d (a0 :: a1 :: a2 :: a3 :: a4 :: a5 :: a6 :: a7 :: a8 :: a9 :: a10 :: a11 :: a12 :: a13 :: a14 :: o :: Γ) S P = P (a0 :: a1 :: a2 :: a3 :: a4 :: a5 :: a6 :: a7 :: a8 :: a9 :: a10 :: a11 :: a12 :: a13 :: a14 :: some d :: Γ) S := rfl
theorem dv16 {a0 a1 a2 a3 a4 a5 a6 a7 a8 a9 a10 a11 a12 a13 a14 a15 : Option D} {d : D} : dVar 16 (a0 :: a1 :: a2 :: a3 :: a4 :: a5 :: a6 :: a7 :: a8 :: a9 :: a10 :: a11 :: a12 :: a13 :: a14 :: a15 :: some d :: Γ) S Φ Ψ = Φ S d := propext ⟨fun ⟨_, e, h⟩ => by cases e; exact h, fun h => ⟨d, rfl, h⟩⟩
theorem nm16 {a0 a1 a2 a3 a4 a5 a6 a7 a8 a9 a10 a11 a12 a13 a14 a15 : Option D} {o : Option D} {d : D} : nmG 16 d (a0 :: a1 :: a2 :: a3 :: a4 :: a5 :: a6 :: a7 :: a8 :: a9 :: a10 :: a11 :: a12 :: a13 :: a14 :: a15 :: o :: Γ) S P = P (a0 :: a1 :: a2 :: a3 :: a4 :: a5 :: a6 :: a7 :: a8 :: a9 :: a10 :: a11 :: a12 :: a13 :: a14 :: a15 :: some d :: Γ) S := rfl
theorem dv17 {a0 a1 a2 a3 a4 a5 a6 a7 a8 a9 a10 a11 a12 a13 a14 a15 a16 : Option D} {d : D} : dVar 17 (a0 :: a1 :: a2 :: a3 :: a4 :: a5 :: a6 :: a7 :: a8 :: a9 :: a10 :: a11 :: a12 :: a13 :: a14 :: a15 :: a16 :: some d :: Γ) S Φ Ψ = Φ S d := propext ⟨fun ⟨_, e, h⟩ => by cases e; exact h, fun h => ⟨d, rfl, h⟩⟩
theorem nm17 {a0 a1 a2 a3 a4 a5 a6 a7 a8 a9 a10 a11 a12 a13 a14 a15 a16 : Option D} {o : Option D} {d : D} : nmG 17 d (a0 :: a1 :: a2 :: a3 :: a4 :: a5 :: a6 :: a7 :: a8 :: a9 :: a10 :: a11 :: a12 :: a13 :: a14 :: a15 :: a16 :: o :: Γ) S P = P (a0 :: a1 :: a2 :: a3 :: a4 :: a5 :: a6 :: a7 :: a8 :: a9 :: a10 :: a11 :: a12 :: a13 :: a14 :: a15 :: a16 :: some d :: Γ) S := rfl
theorem dv18 {a0 a1 a2 a3 a4 a5 a6 a7 a8 a9 a10 a11 a12 a13 a14 a15 a16 a17 : Option D} {d : D} : dVar 18 (a0 :: a1 :: a2 :: a3 :: a4 :: a5 :: a6 :: a7 :: a8 :: a9 :: a10 :: a11 :: a12 :: a13 :: a14 :: a15 :: a16 :: a17 :: some d :: Γ) S Φ Ψ = Φ S d := propext ⟨fun ⟨_, e, h⟩ => by cases e; exact h, fun h => ⟨d, rfl, h⟩⟩
theorem nm18 {a0 a1 a2 a3 a4 a5 a6 a7 a8 a9 a10 a11 a12 a13 a14 a15 a16 a17 : Option D} {o : Option D} {d : D} : nmG 18 d (a0 :: a1 :: a2 :: a3 :: a4 :: a5 :: a6 :: a7 :: a8 :: a9 :: a10 :: a11 :: a12 :: a13 :: a14 :: a15 :: a16 :: a17 :: o :: Γ) S P = P (a0 :: a1 :: a2 :: a3 :: a4 :: a5 :: a6 :: a7 :: a8 :: a9 :: a10 :: a11 :: a12 :: a13 :: a14 :: a15 :: a16 :: a17 :: some d :: Γ) S := rfl
theorem dv19 {a0 a1 a2 a3 a4 a5 a6 a7 a8 a9 a10 a11 a12 a13 a14 a15 a16 a17 a18 : Option D} {d : D} : dVar 19 (a0 :: a1 :: a2 :: a3 :: a4 :: a5 :: a6 :: a7 :: a8 :: a9 :: a10 :: a11 :: a12 :: a13 :: a14 :: a15 :: a16 :: a17 :: a18 :: some d :: Γ) S Φ Ψ = Φ S d := propext ⟨fun ⟨_, e, h⟩ => by cases e; exact h, fun h => ⟨d, rfl, h⟩⟩
theorem nm19 {a0 a1 a2 a3 a4 a5 a6 a7 a8 a9 a10 a11 a12 a13 a14 a15 a16 a17 a18 : Option D} {o : Option D} {d : D} : nmG 19 d (a0 :: a1 :: a2 :: a3 :: a4 :: a5 :: a6 :: a7 :: a8 :: a9 :: a10 :: a11 :: a12 :: a13 :: a14 :: a15 :: a16 :: a17 :: a18 :: o :: Γ) S P = P (a0 :: a1 :: a2 :: a3 :: a4 :: a5 :: a6 :: a7 :: a8 :: a9 :: a10 :: a11 :: a12 :: a13 :: a14 :: a15 :: a16 :: a17 :: a18 :: some d :: Γ) S := rfl
theorem dv20 {a0 a1 a2 a3 a4 a5 a6 a7 a8 a9 a10 a11 a12 a13 a14 a15 a16 a17 a18 a19 : Option D} {d : D} : dVar 20 (a0 :: a1 :: a2 :: a3 :: a4 :: a5 :: a6 :: a7 :: a8 :: a9 :: a10 :: a11 :: a12 :: a13 :: a14 :: a15 :: a16 :: a17 :: a18 :: a19 :: some d :: Γ) S Φ Ψ = Φ S d := propext ⟨fun ⟨_, e, h⟩ => by cases e; exact h, fun h => ⟨d, rfl, h⟩⟩
theorem nm20 {a0 a1 a2 a3 a4 a5 a6 a7 a8 a9 a10 a11 a12 a13 a14 a15 a16 a17 a18 a19 : Option D} {o : Option D} {d : D} : nmG 20 d (a0 :: a1 :: a2 :: a3 :: a4 :: a5 :: a6 :: a7 :: a8 :: a9 :: a10 :: a11 :: a12 :: a13 :: a14 :: a15 :: a16 :: a17 :: a18 :: a19 :: o :: Γ) S P = P (a0 :: a1 :: a2 :: a3 :: a4 :: a5 :: a6 :: a7 :: a8 :: a9 :: a10 :: a11 :: a12 :: a13 :: a14 :: a15 :: a16 :: a17 :: a18 :: a19 :: some d :: Γ) S := rfl
theorem dv21 {a0 a1 a2 a3 a4 a5 a6 a7 a8 a9 a10 a11 a12 a13 a14 a15 a16 a17 a18 a19 a20 : Option D} {d : D} : dVar 21 (a0 :: a1 :: a2 :: a3 :: a4 :: a5 :: a6 :: a7 :: a8 :: a9 :: a10 :: a11 :: a12 :: a13 :: a14 :: a15 :: a16 :: a17 :: a18 :: a19 :: a20 :: some d :: Γ) S Φ Ψ = Φ S d := propext ⟨fun ⟨_, e, h⟩ => by cases e; exact h, fun h => ⟨d, rfl, h⟩⟩
theorem nm21 {a0 a1 a2 a3 a4 a5 a6 a7 a8 a9 a10 a11 a12 a13 a14 a15 a16 a17 a18 a19 a20 : Option D} {o : Option D} {d : D} : nmG 21 d (a0 :: a1 :: a2 :: a3 :: a4 :: a5 :: a6 :: a7 :: a8 :: a9 :: a10 :: a11 :: a12 :: a13 :: a14 :: a15 :: a16 :: a17 :: a18 :: a19 :: a20 :: o :: Γ) S P = P (a0 :: a1 :: a2 :: a3 :: a4 :: a5 :: a6 :: a7 :: a8 :: a9 :: a10 :: a11 :: a12 :: a13 :: a14 :: a15 :: a16 :: a17 :: a18 :: a19 :: a20 :: some d :: Γ) S := rfl
theorem dv22 {a0 a1 a2 a3 a4 a5 a6 a7 a8 a9 a10 a11 a12 a13 a14 a15 a16 a17 a18 a19 a20 a21 : Option D} {d : D} : dVar 22 (a0 :: a1 :: a2 :: a3 :: a4 :: a5 :: a6 :: a7 :: a8 :: a9 :: a10 :: a11 :: a12 :: a13 :: a14 :: a15 :: a16 :: a17 :: a18 :: a19 :: a20 :: a21 :: some d :: Γ) S Φ Ψ = Φ S d := propext ⟨fun ⟨_, e, h⟩ => by cases e; exact h, fun h => ⟨d, rfl, h⟩⟩
theorem nm22 {a0 a1 a2 a3 a4 a5 a6 a7 a8 a9 a10 a11 a12 a13 a14 a15 a16 a17 a18 a19 a20 a21 : Option D} {o : Option D} {d : D} : nmG 22 d (a0 :: a1 :: a2 :: a3 :: a4 :: a5 :: a6 :: a7 :: a8 :: a9 :: a10 :: a11 :: a12 :: a13 :: a14 :: a15 :: a16 :: a17 :: a18 :: a19 :: a20 :: a21 :: o :: Γ) S P = P (a0 :: a1 :: a2 :: a3 :: a4 :: a5 :: a6 :: a7 :: a8 :: a9 :: a10 :: a11 :: a12 :: a13 :: a14 :: a15 :: a16 :: a17 :: a18 :: a19 :: a20 :: a21 :: some d :: Γ) S := rfl
theorem dv23 {a0 a1 a2 a3 a4 a5 a6 a7 a8 a9 a10 a11 a12 a13 a14 a15 a16 a17 a18 a19 a20 a21 a22 : Option D} {d : D} : dVar 23 (a0 :: a1 :: a2 :: a3 :: a4 :: a5 :: a6 :: a7 :: a8 :: a9 :: a10 :: a11 :: a12 :: a13 :: a14 :: a15 :: a16 :: a17 :: a18 :: a19 :: a20 :: a21 :: a22 :: some d :: Γ) S Φ Ψ = Φ S d := propext ⟨fun ⟨_, e, h⟩ => by cases e; exact h, fun h => ⟨d, rfl, h⟩⟩
theorem nm23 {a0 a1 a2 a3 a4 a5 a6 a7 a8 a9 a10 a11 a12 a13 a14 a15 a16 a17 a18 a19 a20 a21 a22 : Option D} {o : Option D} {d : D} : nmG 23 d (a0 :: a1 :: a2 :: a3 :: a4 :: a5 :: a6 :: a7 :: a8 :: a9 :: a10 :: a11 :: a12 :: a13 :: a14 :: a15 :: a16 :: a17 :: a18 :: a19 :: a20 :: a21 :: a22 :: o :: Γ) S P = P (a0 :: a1 :: a2 :: a3 :: a4 :: a5 :: a6 :: a7 :: a8 :: a9 :: a10 :: a11 :: a12 :: a13 :: a14 :: a15 :: a16 :: a17 :: a18 :: a19 :: a20 :: a21 :: a22 :: some d :: Γ) S := rfl
theorem dv24 {a0 a1 a2 a3 a4 a5 a6 a7 a8 a9 a10 a11 a12 a13 a14 a15 a16 a17 a18 a19 a20 a21 a22 a23 : Option D} {d : D} : dVar 24 (a0 :: a1 :: a2 :: a3 :: a4 :: a5 :: a6 :: a7 :: a8 :: a9 :: a10 :: a11 :: a12 :: a13 :: a14 :: a15 :: a16 :: a17 :: a18 :: a19 :: a20 :: a21 :: a22 :: a23 :: some d :: Γ) S Φ Ψ = Φ S d := propext ⟨fun ⟨_, e, h⟩ => by cases e; exact h, fun h => ⟨d, rfl, h⟩⟩
theorem nm24 {a0 a1 a2 a3 a4 a5 a6 a7 a8 a9 a10 a11 a12 a13 a14 a15 a16 a17 a18 a19 a20 a21 a22 a23 : Option D} {o : Option D} {d : D} : nmG 24 d (a0 :: a1 :: a2 :: a3 :: a4 :: a5 :: a6 :: a7 :: a8 :: a9 :: a10 :: a11 :: a12 :: a13 :: a14 :: a15 :: a16 :: a17 :: a18 :: a19 :: a20 :: a21 :: a22 :: a23 :: o :: Γ) S P = P (a0 :: a1 :: a2 :: a3 :: a4 :: a5 :: a6 :: a7 :: a8 :: a9 :: a10 :: a11 :: a12 :: a13 :: a14 :: a15 :: a16 :: a17 :: a18 :: a19 :: a20 :: a21 :: a22 :: a23 :: some d :: Γ) S := rfl
theorem dv25 {a0 a1 a2 a3 a4 a5 a6 a7 a8 a9 a10 a11 a12 a13 a14 a15 a16 a17 a18 a19 a20 a21 a22 a23 a24 : Option D} {d : D} : dVar 25 (a0 :: a1 :: a2 :: a3 :: a4 :: a5 :: a6 :: a7 :: a8 :: a9 :: a10 :: a11 :: a12 :: a13 :: a14 :: a15 :: a16 :: a17 :: a18 :: a19 :: a20 :: a21 :: a22 :: a23 :: a24 :: some d :: Γ) S Φ Ψ = Φ S d := propext ⟨fun ⟨_, e, h⟩ => by cases e; exact h, fun h => ⟨d, rfl, h⟩⟩
theorem nm25 {a0 a1 a2 a3 a4 a5 a6 a7 a8 a9 a10 a11 a12 a13 a14 a15 a16 a17 a18 a19 a20 a21 a22 a23 a24 : Option D} {o : Option D} {d : D} : nmG 25 d (a0 :: a1 :: a2 :: a3 :: a4 :: a5 :: a6 :: a7 :: a8 :: a9 :: a10 :: a11 :: a12 :: a13 :: a14 :: a15 :: a16 :: a17 :: a18 :: a19 :: a20 :: a21 :: a22 :: a23 :: a24 :: o :: Γ) S P = P (a0 :: a1 :: a2 :: a3 :: a4 :: a5 :: a6 :: a7 :: a8 :: a9 :: a10 :: a11 :: a12 :: a13 :: a14 :: a15 :: a16 :: a17 :: a18 :: a19 :: a20 :: a21 :: a22 :: a23 :: a24 :: some d :: Γ) S := rfl
theorem dv26 {a0 a1 a2 a3 a4 a5 a6 a7 a8 a9 a10 a11 a12 a13 a14 a15 a16 a17 a18 a19 a20 a21 a22 a23 a24 a25 : Option D} {d : D} : dVar 26 (a0 :: a1 :: a2 :: a3 :: a4 :: a5 :: a6 :: a7 :: a8 :: a9 :: a10 :: a11 :: a12 :: a13 :: a14 :: a15 :: a16 :: a17 :: a18 :: a19 :: a20 :: a21 :: a22 :: a23 :: a24 :: a25 :: some d :: Γ) S Φ Ψ = Φ S d := propext ⟨fun ⟨_, e, h⟩ => by cases e; exact h, fun h => ⟨d, rfl, h⟩⟩
theorem nm26 {a0 a1 a2 a3 a4 a5 a6 a7 a8 a9 a10 a11 a12 a13 a14 a15 a16 a17 a18 a19 a20 a21 a22 a23 a24 a25 : Option D} {o : Option D} {d : D} : nmG 26 d (a0 :: a1 :: a2 :: a3 :: a4 :: a5 :: a6 :: a7 :: a8 :: a9 :: a10 :: a11 :: a12 :: a13 :: a14 :: a15 :: a16 :: a17 :: a18 :: a19 :: a20 :: a21 :: a22 :: a23 :: a24 :: a25 :: o :: Γ) S P = P (a0 :: a1 :: a2 :: a3 :: a4 :: a5 :: a6 :: a7 :: a8 :: a9 :: a10 :: a11 :: a12 :: a13 :: a14 :: a15 :: a16 :: a17 :: a18 :: a19 :: a20 :: a21 :: a22 :: a23 :: a24 :: a25 :: some d :: Γ) S := rfl
theorem dv27 {a0 a1 a2 a3 a4 a5 a6 a7 a8 a9 a10 a11 a12 a13 a14 a15 a16 a17 a18 a19 a20 a21 a22 a23 a24 a25 a26 : Option D} {d : D} : dVar 27 (a0 :: a1 :: a2 :: a3 :: a4 :: a5 :: a6 :: a7 :: a8 :: a9 :: a10 :: a11 :: a12 :: a13 :: a14 :: a15 :: a16 :: a17 :: a18 :: a19 :: a20 :: a21 :: a22 :: a23 :: a24 :: a25 :: a26 :: some d :: Γ) S Φ Ψ = Φ S d := propext ⟨fun ⟨_, e, h⟩ => by cases e; exact h, fun h => ⟨d, rfl, h⟩⟩
theorem nm27 {a0 a1 a2 a3 a4 a5 a6 a7 a8 a9 a10 a11 a12 a13 a14 a15 a16 a17 a18 a19 a20 a21 a22 a23 a24 a25 a26 : Option D} {o : Option D} {d : D} : nmG 27 d (a0 :: a1 :: a2 :: a3 :: a4 :: a5 :: a6 :: a7 :: a8 :: a9 :: a10 :: a11 :: a12 :: a13 :: a14 :: a15 :: a16 :: a17 :: a18 :: a19 :: a20 :: a21 :: a22 :: a23 :: a24 :: a25 :: a26 :: o :: Γ) S P = P (a0 :: a1 :: a2 :: a3 :: a4 :: a5 :: a6 :: a7 :: a8 :: a9 :: a10 :: a11 :: a12 :: a13 :: a14 :: a15 :: a16 :: a17 :: a18 :: a19 :: a20 :: a21 :: a22 :: a23 :: a24 :: a25 :: a26 :: some d :: Γ) S := rfl
theorem dv28 {a0 a1 a2 a3 a4 a5 a6 a7 a8 a9 a10 a11 a12 a13 a14 a15 a16 a17 a18 a19 a20 a21 a22 a23 a24 a25 a26 a27 : Option D} {d : D} : dVar 28 (a0 :: a1 :: a2 :: a3 :: a4 :: a5 :: a6 :: a7 :: a8 :: a9 :: a10 :: a11 :: a12 :: a13 :: a14 :: a15 :: a16 :: a17 :: a18 :: a19 :: a20 :: a21 :: a22 :: a23 :: a24 :: a25 :: a26 :: a27 :: some d :: Γ) S Φ Ψ = Φ S d := propext ⟨fun ⟨_, e, h⟩ => by cases e; exact h, fun h => ⟨d, rfl, h⟩⟩
theorem nm28 {a0 a1 a2 a3 a4 a5 a6 a7 a8 a9 a10 a11 a12 a13 a14 a15 a16 a17 a18 a19 a20 a21 a22 a23 a24 a25 a26 a27 : Option D} {o : Option D} {d : D} : nmG 28 d (a0 :: a1 :: a2 :: a3 :: a4 :: a5 :: a6 :: a7 :: a8 :: a9 :: a10 :: a11 :: a12 :: a13 :: a14 :: a15 :: a16 :: a17 :: a18 :: a19 :: a20 :: a21 :: a22 :: a23 :: a24 :: a25 :: a26 :: a27 :: o :: Γ) S P = P (a0 :: a1 :: a2 :: a3 :: a4 :: a5 :: a6 :: a7 :: a8 :: a9 :: a10 :: a11 :: a12 :: a13 :: a14 :: a15 :: a16 :: a17 :: a18 :: a19 :: a20 :: a21 :: a22 :: a23 :: a24 :: a25 :: a26 :: a27 :: some d :: Γ) S := rfl
theorem dv29 {a0 a1 a2 a3 a4 a5 a6 a7 a8 a9 a10 a11 a12 a13 a14 a15 a16 a17 a18 a19 a20 a21 a22 a23 a24 a25 a26 a27 a28 : Option D} {d : D} : dVar 29 (a0 :: a1 :: a2 :: a3 :: a4 :: a5 :: a6 :: a7 :: a8 :: a9 :: a10 :: a11 :: a12 :: a13 :: a14 :: a15 :: a16 :: a17 :: a18 :: a19 :: a20 :: a21 :: a22 :: a23 :: a24 :: a25 :: a26 :: a27 :: a28 :: some d :: Γ) S Φ Ψ = Φ S d := propext ⟨fun ⟨_, e, h⟩ => by cases e; exact h, fun h => ⟨d, rfl, h⟩⟩
theorem nm29 {a0 a1 a2 a3 a4 a5 a6 a7 a8 a9 a10 a11 a12 a13 a14 a15 a16 a17 a18 a19 a20 a21 a22 a23 a24 a25 a26 a27 a28 : Option D} {o : Option D} {d : D} : nmG 29 d (a0 :: a1 :: a2 :: a3 :: a4 :: a5 :: a6 :: a7 :: a8 :: a9 :: a10 :: a11 :: a12 :: a13 :: a14 :: a15 :: a16 :: a17 :: a18 :: a19 :: a20 :: a21 :: a22 :: a23 :: a24 :: a25 :: a26 :: a27 :: a28 :: o :: Γ) S P = P (a0 :: a1 :: a2 :: a3 :: a4 :: a5 :: a6 :: a7 :: a8 :: a9 :: a10 :: a11 :: a12 :: a13 :: a14 :: a15 :: a16 :: a17 :: a18 :: a19 :: a20 :: a21 :: a22 :: a23 :: a24 :: a25 :: a26 :: a27 :: a28 :: some d :: Γ) S := rfl
theorem dv30 {a0 a1 a2 a3 a4 a5 a6 a7 a8 a9 a10 a11 a12 a13 a14 a15 a16 a17 a18 a19 a20 a21 a22 a23 a24 a25 a26 a27 a28 a29 : Option D} {d : D} : dVar 30 (a0 :: a1 :: a2 :: a3 :: a4 :: a5 :: a6 :: a7 :: a8 :: a9 :: a10 :: a11 :: a12 :: a13 :: a14 :: a15 :: a16 :: a17 :: a18 :: a19 :: a20 :: a21 :: a22 :: a23 :: a24 :: a25 :: a26 :: a27 :: a28 :: a29 :: some d :: Γ) S Φ Ψ = Φ S d := propext ⟨fun ⟨_, e, h⟩ => by cases e; exact h, fun h => ⟨d, rfl, h⟩⟩
theorem nm30 {a0 a1 a2 a3 a4 a5 a6 a7 a8 a9 a10 a11 a12 a13 a14 a15 a16 a17 a18 a19 a20 a21 a22 a23 a24 a25 a26 a27 a28 a29 : Option D} {o : Option D} {d : D} : nmG 30 d (a0 :: a1 :: a2 :: a3 :: a4 :: a5 :: a6 :: a7 :: a8 :: a9 :: a10 :: a11 :: a12 :: a13 :: a14 :: a15 :: a16 :: a17 :: a18 :: a19 :: a20 :: a21 :: a22 :: a23 :: a24 :: a25 :: a26 :: a27 :: a28 :: a29 :: o :: Γ) S P = P (a0 :: a1 :: a2 :: a3 :: a4 :: a5 :: a6 :: a7 :: a8 :: a9 :: a10 :: a11 :: a12 :: a13 :: a14 :: a15 :: a16 :: a17 :: a18 :: a19 :: a20 :: a21 :: a22 :: a23 :: a24 :: a25 :: a26 :: a27 :: a28 :: a29 :: some d :: Γ) S := rfl
theorem dv31 {a0 a1 a2 a3 a4 a5 a6 a7 a8 a9 a10 a11 a12 a13 a14 a15 a16 a17 a18 a19 a20 a21 a22 a23 a24 a25 a26 a27 a28 a29 a30 : Option D} {d : D} : dVar 31 (a0 :: a1 :: a2 :: a3 :: a4 :: a5 :: a6 :: a7 :: a8 :: a9 :: a10 :: a11 :: a12 :: a13 :: a14 :: a15 :: a16 :: a17 :: a18 :: a19 :: a20 :: a21 :: a22 :: a23 :: a24 :: a25 :: a26 :: a27 :: a28 :: a29 :: a30 :: some d :: Γ) S Φ Ψ = Φ S d := propext ⟨fun ⟨_, e, h⟩ => by cases e; exact h, fun h => ⟨d, rfl, h⟩⟩
theorem nm31 {a0 a1 a2 a3 a4 a5 a6 a7 a8 a9 a10 a11 a12 a13 a14 a15 a16 a17 a18 a19 a20 a21 a22 a23 a24 a25 a26 a27 a28 a29 a30 : Option D} {o : Option D} {d : D} : nmG 31 d (a0 :: a1 :: a2 :: a3 :: a4 :: a5 :: a6 :: a7 :: a8 :: a9 :: a10 :: a11 :: a12 :: a13 :: a14 :: a15 :: a16 :: a17 :: a18 :: a19 :: a20 :: a21 :: a22 :: a23 :: a24 :: a25 :: a26 :: a27 :: a28 :: a29 :: a30 :: o :: Γ) S P = P (a0 :: a1 :: a2 :: a3 :: a4 :: a5 :: a6 :: a7 :: a8 :: a9 :: a10 :: a11 :: a12 :: a13 :: a14 :: a15 :: a16 :: a17 :: a18 :: a19 :: a20 :: a21 :: a22 :: a23 :: a24 :: a25 :: a26 :: a27 :: a28 :: a29 :: a30 :: some d :: Γ) S := rfl
theorem dv32 {a0 a1 a2 a3 a4 a5 a6 a7 a8 a9 a10 a11 a12 a13 a14 a15 a16 a17 a18 a19 a20 a21 a22 a23 a24 a25 a26 a27 a28 a29 a30 a31 : Option D} {d : D} : dVar 32 (a0 :: a1 :: a2 :: a3 :: a4 :: a5 :: a6 :: a7 :: a8 :: a9 :: a10 :: a11 :: a12 :: a13 :: a14 :: a15 :: a16 :: a17 :: a18 :: a19 :: a20 :: a21 :: a22 :: a23 :: a24 :: a25 :: a26 :: a27 :: a28 :: a29 :: a30 :: a31 :: some d :: Γ) S Φ Ψ = Φ S d := propext ⟨fun ⟨_, e, h⟩ => by cases e; exact h, fun h => ⟨d, rfl, h⟩⟩
theorem nm32 {a0 a1 a2 a3 a4 a5 a6 a7 a8 a9 a10 a11 a12 a13 a14 a15 a16 a17 a18 a19 a20 a21 a22 a23 a24 a25 a26 a27 a28 a29 a30 a31 : Option D} {o : Option D} {d : D} : nmG 32 d (a0 :: a1 :: a2 :: a3 :: a4 :: a5 :: a6 :: a7 :: a8 :: a9 :: a10 :: a11 :: a12 :: a13 :: a14 :: a15 :: a16 :: a17 :: a18 :: a19 :: a20 :: a21 :: a22 :: a23 :: a24 :: a25 :: a26 :: a27 :: a28 :: a29 :: a30 :: a31 :: o :: Γ) S P = P (a0 :: a1 :: a2 :: a3 :: a4 :: a5 :: a6 :: a7 :: a8 :: a9 :: a10 :: a11 :: a12 :: a13 :: a14 :: a15 :: a16 :: a17 :: a18 :: a19 :: a20 :: a21 :: a22 :: a23 :: a24 :: a25 :: a26 :: a27 :: a28 :: a29 :: a30 :: a31 :: some d :: Γ) S := rfl
theorem dv33 {a0 a1 a2 a3 a4 a5 a6 a7 a8 a9 a10 a11 a12 a13 a14 a15 a16 a17 a18 a19 a20 a21 a22 a23 a24 a25 a26 a27 a28 a29 a30 a31 a32 : Option D} {d : D} : dVar 33 (a0 :: a1 :: a2 :: a3 :: a4 :: a5 :: a6 :: a7 :: a8 :: a9 :: a10 :: a11 :: a12 :: a13 :: a14 :: a15 :: a16 :: a17 :: a18 :: a19 :: a20 :: a21 :: a22 :: a23 :: a24 :: a25 :: a26 :: a27 :: a28 :: a29 :: a30 :: a31 :: a32 :: some d :: Γ) S Φ Ψ = Φ S d := propext ⟨fun ⟨_, e, h⟩ => by cases e; exact h, fun h => ⟨d, rfl, h⟩⟩
theorem nm33 {a0 a1 a2 a3 a4 a5 a6 a7 a8 a9 a10 a11 a12 a13 a14 a15 a16 a17 a18 a19 a20 a21 a22 a23 a24 a25 a26 a27 a28 a29 a30 a31 a32 : Option D} {o : Option D} {d : D} : nmG 33 d (a0 :: a1 :: a2 :: a3 :: a4 :: a5 :: a6 :: a7 :: a8 :: a9 :: a10 :: a11 :: a12 :: a13 :: a14 :: a15 :: a16 :: a17 :: a18 :: a19 :: a20 :: a21 :: a22 :: a23 :: a24 :: a25 :: a26 :: a27 :: a28 :: a29 :: a30 :: a31 :: a32 :: o :: Γ) S P = P (a0 :: a1 :: a2 :: a3 :: a4 :: a5 :: a6 :: a7 :: a8 :: a9 :: a10 :: a11 :: a12 :: a13 :: a14 :: a15 :: a16 :: a17 :: a18 :: a19 :: a20 :: a21 :: a22 :: a23 :: a24 :: a25 :: a26 :: a27 :: a28 :: a29 :: a30 :: a31 :: a32 :: some d :: Γ) S := rfl
theorem dv34 {a0 a1 a2 a3 a4 a5 a6 a7 a8 a9 a10 a11 a12 a13 a14 a15 a16 a17 a18 a19 a20 a21 a22 a23 a24 a25 a26 a27 a28 a29 a30 a31 a32 a33 : Option D} {d : D} : dVar 34 (a0 :: a1 :: a2 :: a3 :: a4 :: a5 :: a6 :: a7 :: a8 :: a9 :: a10 :: a11 :: a12 :: a13 :: a14 :: a15 :: a16 :: a17 :: a18 :: a19 :: a20 :: a21 :: a22 :: a23 :: a24 :: a25 :: a26 :: a27 :: a28 :: a29 :: a30 :: a31 :: a32 :: a33 :: some d :: Γ) S Φ Ψ = Φ S d := propext ⟨fun ⟨_, e, h⟩ => by cases e; exact h, fun h => ⟨d, rfl, h⟩⟩
theorem nm34 {a0 a1 a2 a3 a4 a5 a6 a7 a8 a9 a10 a11 a12 a13 a14 a15 a16 a17 a18 a19 a20 a21 a22 a23 a24 a25 a26 a27 a28 a29 a30 a31 a32 a33 : Option D} {o : Option D} {d : D} : nmG 34 d (a0 :: a1 :: a2 :: a3 :: a4 :: a5 :: a6 :: a7 :: a8 :: a9 :: a10 :: a11 :: a12 :: a13 :: a14 :: a15 :: a16 :: a17 :: a18 :: a19 :: a20 :: a21 :: a22 :: a23 :: a24 :: a25 :: a26 :: a27 :: a28 :: a29 :: a30 :: a31 :: a32 :: a33 :: o :: Γ) S P = P (a0 :: a1 :: a2 :: a3 :: a4 :: a5 :: a6 :: a7 :: a8 :: a9 :: a10 :: a11 :: a12 :: a13 :: a14 :: a15 :: a16 :: a17 :: a18 :: a19 :: a20 :: a21 :: a22 :: a23 :: a24 :: a25 :: a26 :: a27 :: a28 :: a29 :: a30 :: a31 :: a32 :: a33 :: some d :: Γ) S := rfl
theorem dv35 {a0 a1 a2 a3 a4 a5 a6 a7 a8 a9 a10 a11 a12 a13 a14 a15 a16 a17 a18 a19 a20 a21 a22 a23 a24 a25 a26 a27 a28 a29 a30 a31 a32 a33 a34 : Option D} {d : D} : dVar 35 (a0 :: a1 :: a2 :: a3 :: a4 :: a5 :: a6 :: a7 :: a8 :: a9 :: a10 :: a11 :: a12 :: a13 :: a14 :: a15 :: a16 :: a17 :: a18 :: a19 :: a20 :: a21 :: a22 :: a23 :: a24 :: a25 :: a26 :: a27 :: a28 :: a29 :: a30 :: a31 :: a32 :: a33 :: a34 :: some d :: Γ) S Φ Ψ = Φ S d := propext ⟨fun ⟨_, e, h⟩ => by cases e; exact h, fun h => ⟨d, rfl, h⟩⟩
theorem nm35 {a0 a1 a2 a3 a4 a5 a6 a7 a8 a9 a10 a11 a12 a13 a14 a15 a16 a17 a18 a19 a20 a21 a22 a23 a24 a25 a26 a27 a28 a29 a30 a31 a32 a33 a34 : Option D} {o : Option D} {d : D} : nmG 35 d (a0 :: a1 :: a2 :: a3 :: a4 :: a5 :: a6 :: a7 :: a8 :: a9 :: a10 :: a11 :: a12 :: a13 :: a14 :: a15 :: a16 :: a17 :: a18 :: a19 :: a20 :: a21 :: a22 :: a23 :: a24 :: a25 :: a26 :: a27 :: a28 :: a29 :: a30 :: a31 :: a32 :: a33 :: a34 :: o :: Γ) S P = P (a0 :: a1 :: a2 :: a3 :: a4 :: a5 :: a6 :: a7 :: a8 :: a9 :: a10 :: a11 :: a12 :: a13 :: a14 :: a15 :: a16 :: a17 :: a18 :: a19 :: a20 :: a21 :: a22 :: a23 :: a24 :: a25 :: a26 :: a27 :: a28 :: a29 :: a30 :: a31 :: a32 :: a33 :: a34 :: some d :: Γ) S := rfl
theorem dv36 {a0 a1 a2 a3 a4 a5 a6 a7 a8 a9 a10 a11 a12 a13 a14 a15 a16 a17 a18 a19 a20 a21 a22 a23 a24 a25 a26 a27 a28 a29 a30 a31 a32 a33 a34 a35 : Option D} {d : D} : dVar 36 (a0 :: a1 :: a2 :: a3 :: a4 :: a5 :: a6 :: a7 :: a8 :: a9 :: a10 :: a11 :: a12 :: a13 :: a14 :: a15 :: a16 :: a17 :: a18 :: a19 :: a20 :: a21 :: a22 :: a23 :: a24 :: a25 :: a26 :: a27 :: a28 :: a29 :: a30 :: a31 :: a32 :: a33 :: a34 :: a35 :: some d :: Γ) S Φ Ψ = Φ S d := propext ⟨fun ⟨_, e, h⟩ => by cases e; exact h, fun h => ⟨d, rfl, h⟩⟩
theorem nm36 {a0 a1 a2 a3 a4 a5 a6 a7 a8 a9 a10 a11 a12 a13 a14 a15 a16 a17 a18 a19 a20 a21 a22 a23 a24 a25 a26 a27 a28 a29 a30 a31 a32 a33 a34 a35 : Option D} {o : Option D} {d : D} : nmG 36 d (a0 :: a1 :: a2 :: a3 :: a4 :: a5 :: a6 :: a7 :: a8 :: a9 :: a10 :: a11 :: a12 :: a13 :: a14 :: a15 :: a16 :: a17 :: a18 :: a19 :: a20 :: a21 :: a22 :: a23 :: a24 :: a25 :: a26 :: a27 :: a28 :: a29 :: a30 :: a31 :: a32 :: a33 :: a34 :: a35 :: o :: Γ) S P = P (a0 :: a1 :: a2 :: a3 :: a4 :: a5 :: a6 :: a7 :: a8 :: a9 :: a10 :: a11 :: a12 :: a13 :: a14 :: a15 :: a16 :: a17 :: a18 :: a19 :: a20 :: a21 :: a22 :: a23 :: a24 :: a25 :: a26 :: a27 :: a28 :: a29 :: a30 :: a31 :: a32 :: a33 :: a34 :: a35 :: some d :: Γ) S := rfl
theorem dv37 {a0 a1 a2 a3 a4 a5 a6 a7 a8 a9 a10 a11 a12 a13 a14 a15 a16 a17 a18 a19 a20 a21 a22 a23 a24 a25 a26 a27 a28 a29 a30 a31 a32 a33 a34 a35 a36 : Option D} {d : D} : dVar 37 (a0 :: a1 :: a2 :: a3 :: a4 :: a5 :: a6 :: a7 :: a8 :: a9 :: a10 :: a11 :: a12 :: a13 :: a14 :: a15 :: a16 :: a17 :: a18 :: a19 :: a20 :: a21 :: a22 :: a23 :: a24 :: a25 :: a26 :: a27 :: a28 :: a29 :: a30 :: a31 :: a32 :: a33 :: a34 :: a35 :: a36 :: some d :: Γ) S Φ Ψ = Φ S d := propext ⟨fun ⟨_, e, h⟩ => by cases e; exact h, fun h => ⟨d, rfl, h⟩⟩
theorem nm37 {a0 a1 a2 a3 a4 a5 a6 a7 a8 a9 a10 a11 a12 a13 a14 a15 a16 a17 a18 a19 a20 a21 a22 a23 a24 a25 a26 a27 a28 a29 a30 a31 a32 a33 a34 a35 a36 : Option D} {o : Option D} {d : D} : nmG 37 d (a0 :: a1 :: a2 :: a3 :: a4 :: a5 :: a6 :: a7 :: a8 :: a9 :: a10 :: a11 :: a12 :: a13 :: a14 :: a15 :: a16 :: a17 :: a18 :: a19 :: a20 :: a21 :: a22 :: a23 :: a24 :: a25 :: a26 :: a27 :: a28 :: a29 :: a30 :: a31 :: a32 :: a33 :: a34 :: a35 :: a36 :: o :: Γ) S P = P (a0 :: a1 :: a2 :: a3 :: a4 :: a5 :: a6 :: a7 :: a8 :: a9 :: a10 :: a11 :: a12 :: a13 :: a14 :: a15 :: a16 :: a17 :: a18 :: a19 :: a20 :: a21 :: a22 :: a23 :: a24 :: a25 :: a26 :: a27 :: a28 :: a29 :: a30 :: a31 :: a32 :: a33 :: a34 :: a35 :: a36 :: some d :: Γ) S := rfl
theorem dv38 {a0 a1 a2 a3 a4 a5 a6 a7 a8 a9 a10 a11 a12 a13 a14 a15 a16 a17 a18 a19 a20 a21 a22 a23 a24 a25 a26 a27 a28 a29 a30 a31 a32 a33 a34 a35 a36 a37 : Option D} {d : D} : dVar 38 (a0 :: a1 :: a2 :: a3 :: a4 :: a5 :: a6 :: a7 :: a8 :: a9 :: a10 :: a11 :: a12 :: a13 :: a14 :: a15 :: a16 :: a17 :: a18 :: a19 :: a20 :: a21 :: a22 :: a23 :: a24 :: a25 :: a26 :: a27 :: a28 :: a29 :: a30 :: a31 :: a32 :: a33 :: a34 :: a35 :: a36 :: a37 :: some d :: Γ) S Φ Ψ = Φ S d := propext ⟨fun ⟨_, e, h⟩ => by cases e; exact h, fun h => ⟨d, rfl, h⟩⟩
theorem nm38 {a0 a1 a2 a3 a4 a5 a6 a7 a8 a9 a10 a11 a12 a13 a14 a15 a16 a17 a18 a19 a20 a21 a22 a23 a24 a25 a26 a27 a28 a29 a30 a31 a32 a33 a34 a35 a36 a37 : Option D} {o : Option D} {d : D} : nmG 38 d (a0 :: a1 :: a2 :: a3 :: a4 :: a5 :: a6 :: a7 :: a8 :: a9 :: a10 :: a11 :: a12 :: a13 :: a14 :: a15 :: a16 :: a17 :: a18 :: a19 :: a20 :: a21 :: a22 :: a23 :: a24 :: a25 :: a26 :: a27 :: a28 :: a29 :: a30 :: a31 :: a32 :: a33 :: a34 :: a35 :: a36 :: a37 :: o :: Γ) S P = P (a0 :: a1 :: a2 :: a3 :: a4 :: a5 :: a6 :: a7 :: a8 :: a9 :: a10 :: a11 :: a12 :: a13 :: a14 :: a15 :: a16 :: a17 :: a18 :: a19 :: a20 :: a21 :: a22 :: a23 :: a24 :: a25 :: a26 :: a27 :: a28 :: a29 :: a30 :: a31 :: a32 :: a33 :: a34 :: a35 :: a36 :: a37 :: some d :: Γ) S := rfl
theorem dv39 {a0 a1 a2 a3 a4 a5 a6 a7 a8 a9 a10 a11 a12 a13 a14 a15 a16 a17 a18 a19 a20 a21 a22 a23 a24 a25 a26 a27 a28 a29 a30 a31 a32 a33 a34 a35 a36 a37 a38 : Option D} {d : D} : dVar 39 (a0 :: a1 :: a2 :: a3 :: a4 :: a5 :: a6 :: a7 :: a8 :: a9 :: a10 :: a11 :: a12 :: a13 :: a14 :: a15 :: a16 :: a17 :: a18 :: a19 :: a20 :: a21 :: a22 :: a23 :: a24 :: a25 :: a26 :: a27 :: a28 :: a29 :: a30 :: a31 :: a32 :: a33 :: a34 :: a35 :: a36 :: a37 :: a38 :: some d :: Γ) S Φ Ψ = Φ S d := propext ⟨fun ⟨_, e, h⟩ => by cases e; exact h, fun h => ⟨d, rfl, h⟩⟩
theorem nm39 {a0 a1 a2 a3 a4 a5 a6 a7 a8 a9 a10 a11 a12 a13 a14 a15 a16 a17 a18 a19 a20 a21 a22 a23 a24 a25 a26 a27 a28 a29 a30 a31 a32 a33 a34 a35 a36 a37 a38 : Option D} {o : Option D} {d : D} : nmG 39 d (a0 :: a1 :: a2 :: a3 :: a4 :: a5 :: a6 :: a7 :: a8 :: a9 :: a10 :: a11 :: a12 :: a13 :: a14 :: a15 :: a16 :: a17 :: a18 :: a19 :: a20 :: a21 :: a22 :: a23 :: a24 :: a25 :: a26 :: a27 :: a28 :: a29 :: a30 :: a31 :: a32 :: a33 :: a34 :: a35 :: a36 :: a37 :: a38 :: o :: Γ) S P = P (a0 :: a1 :: a2 :: a3 :: a4 :: a5 :: a6 :: a7 :: a8 :: a9 :: a10 :: a11 :: a12 :: a13 :: a14 :: a15 :: a16 :: a17 :: a18 :: a19 :: a20 :: a21 :: a22 :: a23 :: a24 :: a25 :: a26 :: a27 :: a28 :: a29 :: a30 :: a31 :: a32 :: a33 :: a34 :: a35 :: a36 :: a37 :: a38 :: some d :: Γ) S := rfl
theorem sPar_n {E : EdD} {i j : Nat} {T : TL} : sPar i j T E Γ S = (T Γ S (fun S1 ds => ∃ x y, ds = [x, y] ∧ nmG i x Γ S1 fun Γ' S' => nmG j y Γ' S' E.nx) E.er) := rfl
theorem sPar3_n {E : EdD} {i j l : Nat} {T : TL} : sPar3 i j l T E Γ S = (T Γ S (fun S1 ds => ∃ x y z, ds = [x, y, z] ∧ nmG i x Γ S1 fun Γ' S' => nmG j y Γ' S' fun Γ2 S2 => nmG l z Γ2 S2 E.nx) E.er) := rfl
theorem sAug_n {E : EdD} {i : Nat} {T : TD} {f : D → D → Sto → KD → Prop} : sAug i T f E Γ S = dVar i Γ S (fun _ d => T Γ S (fun S1 y => f d y S1 fun S2 z => nmG i z Γ S2 E.nx) E.er) E.er := rfl
end
end DL
namespace DL
open PySem PySem.Spec PyProof.Rows L2
section
variable {X : Cx} {W : WX} {e : Expr} {te : TE} {Te : TD}
def dLRg (T : TD) : TD := fun Γ S Φ Ψ => T Γ S (fun S1 d => ∃ n : Nat, d = .int n ∧ n ≤ 1000000 ∧ Φ S1 (.lst (rngD 0 n))) Ψ
def dLRgO (T : TD) : TD := fun Γ S Φ Ψ => T Γ S (fun S1 d => ∃ n : Nat, d = .int n ∧ n ≤ 1000000 ∧ Φ (S1 ++ [.lst (rngD 0 n)]) (.own S1.length)) Ψ
end
def dAddI := iOp0 fun i j => D.int (i + j)
def dSubI := iOp0 fun i j => D.int (i - j)
theorem dAddI_i {i j : Int} {S : Sto} {Φ : KD} : dAddI (.int i) (.int j) S Φ = Φ S (.int (i + j)) := rfl
theorem dSubI_i {i j : Int} {S : Sto} {Φ : KD} : dSubI (.int i) (.int j) S Φ = Φ S (.int (i - j)) := rfl
section
variable {Γ : Gam} {S : Sto} {Φ : KD} {Ψ : KX}
theorem dLRg_e {T : TD} : dLRg T Γ S Φ Ψ = T Γ S (fun S1 d => ∃ n : Nat, d = .int n ∧ n ≤ 1000000 ∧ Φ S1 (.lst (rngD 0 n))) Ψ := rfl
theorem dLRgO_e {T : TD} : dLRgO T Γ S Φ Ψ = T Γ S (fun S1 d => ∃ n : Nat, d = .int n ∧ n ≤ 1000000 ∧ Φ (S1 ++ [.lst (rngD 0 n)]) (.own S1.length)) Ψ := rfl
end
end DL
namespace DL
open PySem PySem.Spec PyProof.Rows L2
def putT (ks : List (List Key × D)) (k : List Key) (d : D) : List (List Key × D) :=
  if (ks.any fun kv => decide (kv.1 = k)) = true then ks.map (fun kv => if kv.1 = k then (kv.1, d) else kv) else ks ++ [(k, d)]
def dMulO (x y : D) (S : Sto) (Φ : KD) : Prop := ∃ xs, ∃ k : Nat, asL S x = some xs ∧ y = .int k ∧ xs.length * k ≤ 1000000 ∧ k ≤ 1000000 ∧ Φ (S ++ [.lst (List.replicate k xs).flatten]) (.own S.length)
def dNew : TD := fun Γ S Φ Ψ => Φ (S ++ [.dct []]) (.own S.length)
section
variable {X : Cx} {W : WX}
def sDct (Tv To : TD) (Tl : TL) : TSd := fun E Γ S => Tv Γ S (fun S1 v => To Γ S1 (fun S2 o => Tl Γ S2 (fun S3 ds => ∃ h ks, ∃ ns : List Int, o = .own h ∧ ds = ns.map D.int ∧ S3[h]? = some (.dct ks) ∧ ks.length < 1000000 ∧ ns.length ≤ 1000 ∧ E.nx Γ (S3.set h (.dct (putT ks (ns.map Sum.inl) v)))) E.er) E.er) E.er
end
section
variable {Γ : Gam} {S : Sto} {Φ : KD} {Ψ : KX}
theorem dNew_e : dNew Γ S Φ Ψ = Φ (S ++ [Cell.dct []]) (.own S.length) := rfl
theorem sDct_e {E : EdD} {Tv To : TD} {Tl : TL} : sDct Tv To Tl E Γ S = Tv Γ S (fun S1 v => To Γ S1 (fun S2 o => Tl Γ S2 (fun S3 ds => ∃ h ks, ∃ ns : List Int, o = .own h ∧ ds = ns.map D.int ∧ S3[h]? = some (.dct ks) ∧ ks.length < 1000000 ∧ ns.length ≤ 1000 ∧ E.nx Γ (S3.set h (.dct (putT ks (ns.map Sum.inl) v)))) E.er) E.er) E.er := rfl
theorem dMulO_l {xs : List D} {k : Nat} : dMulO (.lst xs) (.int k) S Φ = (xs.length * k ≤ 1000000 ∧ k ≤ 1000000 ∧ Φ (S ++ [.lst (List.replicate k xs).flatten]) (.own S.length)) := propext ⟨fun ⟨_, _, e1, e2, h⟩ => by cases e1; cases e2; exact h, fun h => ⟨_, _, rfl, rfl, h⟩⟩
end
end DL
namespace DL
open PySem PySem.Spec PyProof.Rows L2
section
variable {X : Cx} {W : WX} {e : Expr} {es : List Expr} {te : TE} {Te : TD} {tl : TA} {Tl : TL}
def dIsiT (T : TD) (Tl : TL) : TD := fun Γ S Φ Ψ => T Γ S (fun S1 d => Tl Γ S1 (fun S2 ds => ∃ a, ∃ ns : List String, ds = ns.map D.ty ∧ tyOf S2 d = some a ∧ ns.length ≤ 1000 ∧ (∀ n ∈ ns, n ∈ tyN) ∧ Φ S2 (.bl (ns.any (isTyB a)))) Ψ) Ψ
end
theorem dIsiT_e {Γ : Gam} {S : Sto} {Φ : KD} {Ψ : KX} {T : TD} {Tl : TL} : dIsiT T Tl Γ S Φ Ψ = T Γ S (fun S1 d => Tl Γ S1 (fun S2 ds => ∃ a, ∃ ns : List String, ds = ns.map D.ty ∧ tyOf S2 d = some a ∧ ns.length ≤ 1000 ∧ (∀ n ∈ ns, n ∈ tyN) ∧ Φ S2 (.bl (ns.any (isTyB a)))) Ψ) Ψ := rfl
end DL
namespace DL
open PySem PySem.Spec PyProof.Rows L2
def prD (p : Int × Int) : D := .tup [.int p.1, .int p.2]
section
variable {X : Cx} {W : WX} {e : Expr} {te : TE} {Te : TD}
def dLenSet (T : TD) : TD := fun Γ S Φ Ψ => T Γ S (fun S1 d => ∃ ns : List Int, asQ S1 d = some (ns.map D.int) ∧ ns.Nodup ∧ ns.length ≤ 4000 ∧ Φ S1 (.int ns.length)) Ψ
variable {Γ : Gam} {S : Sto} {Φ : KD} {Ψ : KX}
theorem dLenSet_e {T : TD} : dLenSet T Γ S Φ Ψ = T Γ S (fun S1 d => ∃ ns : List Int, asQ S1 d = some (ns.map D.int) ∧ ns.Nodup ∧ ns.length ≤ 4000 ∧ Φ S1 (.int ns.length)) Ψ := rfl
end
section
variable {X : Cx} {W : WX} {a b c d : Expr} {ta tb tc td : TE} {Ta Tb Tc Td : TD} {pos : Pos}
def bChain3 (f g h : D → D → Sto → KD → Prop) (Ta Tb Tc Td : TD) : TB := fun Γ S Φ Ψ => Ta Γ S (fun S1 x => Tb Γ S1 (fun S2 y => f x y S2 fun S3 z => ∃ k, z = .bl k ∧ (if k = true then Tc Γ S3 (fun S4 u => g y u S4 fun S5 z2 => ∃ k2, z2 = .bl k2 ∧ (if k2 = true then Td Γ S5 (fun S6 v => h u v S6 fun S7 z3 => ∃ k3, z3 = .bl k3 ∧ Φ S7 k3) Ψ else Φ S5 false)) Ψ else Φ S3 false)) Ψ) Ψ
variable {Γ : Gam} {S : Sto} {Φ : Sto → Bool → Prop} {Ψ : KX}
theorem bChain3_e {f g h : D → D → Sto → KD → Prop} : bChain3 f g h Ta Tb Tc Td Γ S Φ Ψ = Ta Γ S (fun S1 x => Tb Γ S1 (fun S2 y => f x y S2 fun S3 z => ∃ k, z = .bl k ∧ (if k = true then Tc Γ S3 (fun S4 u => g y u S4 fun S5 z2 => ∃ k2, z2 = .bl k2 ∧ (if k2 = true then Td Γ S5 (fun S6 v => h u v S6 fun S7 z3 => ∃ k3, z3 = .bl k3 ∧ Φ S7 k3) Ψ else Φ S5 false)) Ψ else Φ S3 false)) Ψ) Ψ := rfl
end
section
variable {X : Cx} {W : WX} {e e2 : Expr} {te te2 : TE} {Te Te2 : TD}
def dLRg2 (T U : TD) : TD := fun Γ S Φ Ψ => T Γ S (fun S1 x => U Γ S1 (fun S2 y => ∃ i n : Nat, x = .int i ∧ y = .int ((i + n : Nat) : Int) ∧ i + n ≤ 1000000 ∧ Φ S2 (.lst (rngD i n))) Ψ) Ψ
variable {Γ : Gam} {S : Sto} {Φ : KD} {Ψ : KX}
theorem dLRg2_e {T U : TD} : dLRg2 T U Γ S Φ Ψ = T Γ S (fun S1 x => U Γ S1 (fun S2 y => ∃ i n : Nat, x = .int i ∧ y = .int ((i + n : Nat) : Int) ∧ i + n ≤ 1000000 ∧ Φ S2 (.lst (rngD i n))) Ψ) Ψ := rfl
end
section
def dwD (i : Int) (n : Nat) : List D := (List.range n).map fun (k : Nat) => D.int (i - (k : Int))
def iRg3 (T : TL) : TId := fun Γ S Φ Ψ => T Γ S (fun S1 ds => ∃ i j, ds = [.int i, .int j, .int (-1)] ∧ (-(2 ^ 62) ≤ i ∧ i < 2 ^ 62 ∧ -(2 ^ 62) ≤ j ∧ j < 2 ^ 62) ∧ Φ S1 (fun _ => some (dwD i (i - j).toNat))) Ψ
variable {X : Cx} {W : WX} {a b c tg : Expr} {tl : TA} {Tl : TL} {p pos : Pos}
variable {Γ : Gam} {S : Sto} {Ψ : KX}
theorem iRg3_e {T : TL} {Φ : Sto → Src → Prop} : iRg3 T Γ S Φ Ψ = T Γ S (fun S1 ds => ∃ i j, ds = [.int i, .int j, .int (-1)] ∧ (-(2 ^ 62) ≤ i ∧ i < 2 ^ 62 ∧ -(2 ^ 62) ≤ j ∧ j < 2 ^ 62) ∧ Φ S1 (fun _ => some (dwD i (i - j).toNat))) Ψ := rfl
end
end DL
namespace DL
open PySem PySem.Spec PyProof.Rows L2
section
variable {X : Cx} {W : WX}
/-- [elt for tg in iter if .. for tg1 in iter1 if ..] -/
def dLc2 (I : TId) (G : TGd) (C : TB) (T1 : TD) (G1 : TGd) (C1 : TB) (Te : TD) (vs vs1 : List Nat) (Fin : List D → Sto → KD → Prop) : TD := fun Γ S Φ Ψ => I Γ S (fun S1 src => ∃ (P : Nat → List D → Sto → Prop) (n : Nat), P 0 [] S1 ∧
  (∀ i acc S', i ≤ n → P i acc S' → ∃ ds, src S' = some ds ∧ ds.length = n) ∧
  (∀ i acc S' ds d, P i acc S' → src S' = some ds → ds[i]? = some d → G d (gwipe Γ vs) S' fun Γ2 S2 => C Γ2 S2 (fun S3 k => if k = true then
      T1 Γ2 S3 (fun S4 d4 => (∃ ds, asQ S4 d4 = some ds) ∧ ∃ (P1 : Nat → List D → Sto → Prop) (n1 : Nat), P1 0 acc S4 ∧
        (∀ j acc1 S5, j ≤ n1 → P1 j acc1 S5 → ∃ ds1, asQ S5 d4 = some ds1 ∧ ds1.length = n1) ∧
        (∀ j acc1 S5 ds1 d1, P1 j acc1 S5 → asQ S5 d4 = some ds1 → ds1[j]? = some d1 → G1 d1 (gwipe Γ2 vs1) S5 fun Γ3 S6 => C1 Γ3 S6 (fun S7 k1 => if k1 = true then Te Γ3 S7 (fun S8 y => acc1.length < sizeLine ∧ P1 (j + 1) (acc1 ++ [y]) S8) (fun _ _ => False) else P1 (j + 1) acc1 S7) (fun _ _ => False)) ∧
        (∀ acc1 S5, P1 n1 acc1 S5 → P (i + 1) acc1 S5)) (fun _ _ => False) else P (i + 1) acc S3) (fun _ _ => False)) ∧
  (∀ acc S', P n acc S' → Fin acc S' Φ)) Ψ
end
/-- a part of a tuple, not the whole -/
def dSlT (d : D) (lo hi : Option Int) (S : Sto) (Φ : KD) : Prop := ∃ ds, d = .tup ds ∧ ¬ (HT.sIx ds.length 0 lo = 0 ∧ HT.sIx ds.length ds.length hi = ds.length) ∧ Φ S (.tup (cutD ds lo hi))
section
variable {Γ : Gam} {S : Sto} {Φ : KD} {Ψ : KX}
theorem dSlT_t {ds : List D} {lo hi : Option Int} : dSlT (.tup ds) lo hi S Φ = (¬ (HT.sIx ds.length 0 lo = 0 ∧ HT.sIx ds.length ds.length hi = ds.length) ∧ Φ S (.tup (cutD ds lo hi))) := propext ⟨fun ⟨_, e, h⟩ => by cases e; exact h, fun h => ⟨_, rfl, h⟩⟩
theorem dLc2_e {I : TId} {G G1 : TGd} {C C1 : TB} {T1 Te : TD} {vs vs1 : List Nat} {Fin : List D → Sto → KD → Prop} : dLc2 I G C T1 G1 C1 Te vs vs1 Fin Γ S Φ Ψ = I Γ S (fun S1 src => ∃ (P : Nat → List D → Sto → Prop) (n : Nat), P 0 [] S1 ∧
  (∀ i acc S', i ≤ n → P i acc S' → ∃ ds, src S' = some ds ∧ ds.length = n) ∧
  (∀ i acc S' ds d, P i acc S' → src S' = some ds → ds[i]? = some d → G d (gwipe Γ vs) S' fun Γ2 S2 => C Γ2 S2 (fun S3 k => if k = true then
      T1 Γ2 S3 (fun S4 d4 => (∃ ds, asQ S4 d4 = some ds) ∧ ∃ (P1 : Nat → List D → Sto → Prop) (n1 : Nat), P1 0 acc S4 ∧
        (∀ j acc1 S5, j ≤ n1 → P1 j acc1 S5 → ∃ ds1, asQ S5 d4 = some ds1 ∧ ds1.length = n1) ∧
        (∀ j acc1 S5 ds1 d1, P1 j acc1 S5 → asQ S5 d4 = some ds1 → ds1[j]? = some d1 → G1 d1 (gwipe Γ2 vs1) S5 fun Γ3 S6 => C1 Γ3 S6 (fun S7 k1 => if k1 = true then Te Γ3 S7 (fun S8 y => acc1.length < sizeLine ∧ P1 (j + 1) (acc1 ++ [y]) S8) (fun _ _ => False) else P1 (j + 1) acc1 S7) (fun _ _ => False)) ∧
        (∀ acc1 S5, P1 n1 acc1 S5 → P (i + 1) acc1 S5)) (fun _ _ => False) else P (i + 1) acc S3) (fun _ _ => False)) ∧
  (∀ acc S', P n acc S' → Fin acc S' Φ)) Ψ := rfl
end
end DL
namespace DL
open PySem PySem.Spec PyProof.Rows L2
/-- the dict of the modules is known as such -/
def ModK (K : PySem.W.Frag) : Prop := ∃ o, K.lookup sysModules = some o ∧ o.cls = .type "dict"
def keyP : Key → PyData
  | .inl i => .int i
  | .inr x => .str x
mutual
inductive DpX (K : PySem.W.Frag) (H : Hp) : V → PyData → Prop
  | non : DpX K H .non .none
  | bl (b : Bool) : DpX K H (.bl b) (.bool b)
  | int (i : Int) : DpX K H (.int i) (.int i)
  | str (x : Str) : DpX K H (.str x) (.str x)
  | lst {a : Addr} {xs : List V} {ds : List PyData} : SqL K H a xs → DpXA K H xs ds → DpX K H (.ref a) (.list ds)
  | tup {a : Addr} {xs : List V} {ds : List PyData} : SqT K H a xs → DpXA K H xs ds → DpX K H (.ref a) (.tuple ds)
  | dic {a : Addr} {vs : List (Key × V)} {ps : List (PyData × PyData)} : H a = some (.dK vs) → DpXK K H vs ps → DpX K H (.ref a) (.dict ps)
inductive DpXA (K : PySem.W.Frag) (H : Hp) : List V → List PyData → Prop
  | nil : DpXA K H [] []
  | cons {v : V} {vs : List V} {d : PyData} {ds : List PyData} : DpX K H v d → DpXA K H vs ds → DpXA K H (v :: vs) (d :: ds)
inductive DpXK (K : PySem.W.Frag) (H : Hp) : List (Key × V) → List (PyData × PyData) → Prop
  | nil : DpXK K H [] []
  | cons {k : Key} {v : V} {vs : List (Key × V)} {d : PyData} {ds : List (PyData × PyData)} : DpX K H v d → DpXK K H vs ds → DpXK K H ((k, v) :: vs) ((keyP k, d) :: ds)
end
section
variable {X : Cx} {pins : List (Addr × Obj)} {σ : L2.St} {H : Hp} {s : Shared}
theorem mod_free (I : L2.Inv X pins σ H s) (hM : ModK X.K) : H sysModules = none := by
  obtain ⟨o, e, _⟩ := hM
  have b := I.ok.mod.kin _ _ e
  obtain ⟨h1, h2⟩ := I.ok.bs _ _ b
  exact I.base.free _ _ h1 h2 (I.ok.noex _ _ b)
theorem not_mod (I : L2.Inv X pins σ H s) (hM : ModK X.K) {a : Addr} {xs : List V} (h : SqL X.K H a xs) : a ≠ sysModules := by
  rintro rfl
  rcases h with (h | ⟨o, h⟩) | ⟨o, _, _, h, hc, _⟩
  · rw [mod_free I hM] at h; cases h
  · rw [mod_free I hM] at h; cases h
  · obtain ⟨o2, e, c⟩ := hM
    rw [e] at h
    cases h
    rw [hc] at c
    injection c with c
    exact absurd c (by decide)
theorem key_reads {h : Heap} {k : Key} {u : Value} (e : keyIs k u = true) : Reads h u (keyP k) [] := by
  cases k with
  | inl i =>
    cases u <;> first | (exact absurd e Bool.false_ne_true) | (have e : (_ == _) = true := e; rw [beq_iff_eq] at e; subst e; exact .int _ _)
  | inr x =>
    cases u <;> first | (exact absurd e Bool.false_ne_true) | (have e : (_ == _) = true := e; rw [beq_iff_eq] at e; subst e; exact .str _ _)
mutual
theorem DpX.reads (I : L2.Inv X pins σ H s) (hM : ModK X.K) : ∀ (d : PyData) (v : V) (u : Value), DpX X.K H v d → RelV v u → ∃ as, Reads s.heap u d as ∧ sysModules ∉ as
  | .none, _, u, h, r => by
    cases h
    have r : u = .none := r
    subst r
    exact ⟨[], .none, fun z => nomatch z⟩
  | .bool b, _, u, h, r => by
    cases h
    have r : u = .bool b := r
    subst r
    exact ⟨[], .bool b, fun z => nomatch z⟩
  | .int i, _, u, h, r => by
    cases h
    obtain ⟨t, r⟩ : ∃ t, u = .int i t := r
    subst r
    exact ⟨[], .int i t, fun z => nomatch z⟩
  | .str x, _, u, h, r => by
    cases h
    obtain ⟨t, r⟩ : ∃ t, u = .str x t := r
    subst r
    exact ⟨[], .str x t, fun z => nomatch z⟩
  | .list ds, _, u, h, r => by
    cases h with
    | @lst a xs _ hs ha =>
      have r : u = .ref a := r
      subst r
      obtain ⟨its, rv, pl, _⟩ := I.list hs
      obtain ⟨as, h1, h2⟩ := DpXA.reads I hM ds xs its ha rv
      obtain ⟨o, n, ho, hc, _, hd⟩ := pl
      exact ⟨a :: as, .list ho hc hd (by rw [List.toList_toArray]; exact h1), fun z => (List.mem_cons.mp z).elim (fun e => not_mod I hM hs e.symm) h2⟩
  | .tuple ds, _, u, h, r => by
    cases h with
    | @tup a xs _ hs ha =>
      have r : u = .ref a := r
      subst r
      obtain ⟨its, rv, pl, _⟩ := I.tuple hs
      obtain ⟨as, h1, h2⟩ := DpXA.reads I hM ds xs its ha rv
      obtain ⟨o, ho, hc, n, hd⟩ := pl
      exact ⟨as, .tuple ho hc hd (by rw [List.toList_toArray]; exact h1), h2⟩
  | .dict ps, _, u, h, r => by
    cases h with
    | @dic a vs _ hs ha =>
      have r : u = .ref a := r
      subst r
      obtain ⟨_, ne, ws, kv, o, es, ep, ho, ⟨c1, _, _⟩, hd, _, pr, _⟩ := I.hok a _ hs
      obtain ⟨as, h1, h2, h3⟩ := DpXK.reads I hM ps vs ws es.toList ha kv pr
      exact ⟨a :: [] ++ as, .dict ho c1 hd h1 h2, fun z => (List.mem_cons.mp z).elim (fun e => by rw [e] at ne; simp at ne) h3⟩
theorem DpXA.reads (I : L2.Inv X pins σ H s) (hM : ModK X.K) : ∀ (ds : List PyData) (vs : List V) (us : List Value), DpXA X.K H vs ds → Vals vs us → ∃ as, ReadsAll s.heap us ds as ∧ sysModules ∉ as
  | [], _, us, h, r => by
    cases h
    cases r
    exact ⟨[], .nil, fun z => nomatch z⟩
  | d :: ds, _, us, h, r => by
    cases h with
    | cons h1 h2 =>
      cases r with
      | cons r1 r2 =>
        obtain ⟨as, a1, a2⟩ := DpX.reads I hM d _ _ h1 r1
        obtain ⟨bs, b1, b2⟩ := DpXA.reads I hM ds _ _ h2 r2
        exact ⟨as ++ bs, .cons a1 b1, fun z => (List.mem_append.mp z).elim a2 b2⟩
theorem DpXK.reads (I : L2.Inv X pins σ H s) (hM : ModK X.K) : ∀ (ps : List (PyData × PyData)) (vs : List (Key × V)) (ws : List (Key × Value)) (es : List DictEntry), DpXK X.K H vs ps → KV vs ws → Pairs (mixKind X.prog X.w) es ws →
    ∃ as, ReadsAll s.heap (es.map (·.key)) (ps.map (·.1)) [] ∧ ReadsAll s.heap (es.map (·.val)) (ps.map (·.2)) as ∧ sysModules ∉ as
  | [], _, ws, es, h, r, q => by
    cases h
    cases r
    cases q
    exact ⟨[], .nil, .nil, fun z => nomatch z⟩
  | p :: ps, _, ws, es, h, r, q => by
    cases h with
    | cons h1 h2 =>
      cases r with
      | cons r1 r2 =>
        cases q with
        | cons q1 q2 q3 =>
          obtain ⟨e1, e2⟩ := r1
          obtain ⟨as, a1, a2⟩ := DpX.reads I hM _ _ _ h1 e2
          obtain ⟨bs, b1, b2, b3⟩ := DpXK.reads I hM ps _ _ _ h2 r2 q3
          refine ⟨as ++ bs, ?_, ?_, fun z => (List.mem_append.mp z).elim a2 b3⟩
          · have k1 := key_reads (h := s.heap) (show keyIs _ _ = true from q1)
            rw [← e1] at k1
            exact .cons (as := []) k1 b1
          · rw [List.map_cons, List.map_cons, q2]
            exact .cons a1 b2
end
end
/-- what repr takes -/
structure ShwX (p : PyData) : Prop where
  s : p.showable = true
  dp : p.depth ≤ 60
  l : p.shown.length ≤ sizeLine
def dDic1 (T : TD) (k : Str) : TD := fun Γ S Φ Ψ => T Γ S (fun S1 d => Φ S1 (.dic [(.inr k, d)])) Ψ
def dDic0 : TD := fun Γ S Φ Ψ => Φ S (.dic [])
section
variable {Γ : Gam} {S : Sto} {Φ : KD} {Ψ : KX}
theorem dDic0_e : dDic0 Γ S Φ Ψ = Φ S (.dic []) := rfl
theorem dDic1_e {T : TD} {k : Str} : dDic1 T k Γ S Φ Ψ = T Γ S (fun S1 d => Φ S1 (.dic [(.inr k, d)])) Ψ := rfl
end
end DL
namespace DL
open PySem PySem.Spec PyProof.Rows L2
/-- as Room, whatever is handled -/
structure RoomH (k : Nat) (A : Around) : Prop where
  dp : A.depth + 3 * k + 5 < recursionLimit
  un : A.units + 16 * k + 200 < cLine
theorem RoomH.mono {k n : Nat} {A : Around} (r : RoomH k A) (h : n ≤ k) : RoomH n A := ⟨by have := r.dp; omega, by have := r.un; omega⟩
theorem RoomH.deeper {k : Nat} {A : Around} (r : RoomH (k + 1) A) (env : Env) : RoomH k (A.deeper env) :=
  ⟨by have := r.dp; show A.depth + 1 + 3 * k + 5 < _; omega, by have := r.un; show A.units + 3 + 16 * k + 200 < _; omega⟩
theorem RoomH.depth {k : Nat} {A : Around} (r : RoomH k A) : A.depth < recursionLimit := by have := r.dp; omega
theorem RoomH.units {k : Nat} {A : Around} (r : RoomH k A) : A.units + 64 < cLine := by have := r.un; omega
end DL
namespace DL
open PySem PySem.Spec PyProof.Rows L2
section
variable (K : PySem.W.Frag) (W : WX)
structure RlF (σ : L2.St) (Γ : Gam) (w : Hs) (D' : EdD) (D : Ends) : Prop where
  nx : ∀ w' S', Ext w w' → Good K w' S' → D'.nx Γ S' → D.nx σ w'.H
  rt : OkD K w D'.rt D.rt
  er : OkX K W w D'.er σ
end
section
variable {K : PySem.W.Frag} {W : WX} {w w' : Hs}
theorem RlF.ext {σ : L2.St} {Γ : Gam} {D' : EdD} {D : Ends} (h : RlF K W σ Γ w D' D) (e : Ext w w') : RlF K W σ Γ w' D' D := ⟨fun w2 S2 e2 => h.nx w2 S2 (e.trans e2), h.rt.ext e, h.er.ext e⟩
end
/-- try: T / except of Cs as the name at i: U -/
def sTryH (Cs : List Addr) (i : Nat) (T U : TSd) : TSd := fun E Γ S => T { nx := E.nx, rt := E.rt, er := fun S1 x => x.cls ∈ Cs ∧ i < Γ.length ∧ U { nx := fun Γ' S' => E.nx (Γ'.set i none) S', rt := E.rt, er := fun _ _ => False } (Γ.set i (some (.exc x.cls x.fs))) S1 } Γ S
end DL
namespace DL
open PySem PySem.Spec PyProof.Rows L2
/-- the different ones among ns -/
def uniqI (ns : List Int) : List Int := PyProof.Rows.firstMet (fun i => ns.getD i 0) ns.length
section
variable {X : Cx} {W : WX} {e : Expr} {te : TE} {Te : TD}
def dLenSetG (T : TD) : TD := fun Γ S Φ Ψ => T Γ S (fun S1 d => ∃ ns : List Int, asQ S1 d = some (ns.map D.int) ∧ ns.length ≤ 4000 ∧ Φ S1 (.int (uniqI ns).length)) Ψ
variable {Γ : Gam} {S : Sto} {Φ : KD} {Ψ : KX}
theorem dLenSetG_e {T : TD} : dLenSetG T Γ S Φ Ψ = T Γ S (fun S1 d => ∃ ns : List Int, asQ S1 d = some (ns.map D.int) ∧ ns.length ≤ 4000 ∧ Φ S1 (.int (uniqI ns).length)) Ψ := rfl
end
end DL
namespace DL
open PySem PySem.Spec PyProof.Rows L2
def dIsB (x y : D) (S : Sto) (Φ : KD) : Prop := match x, y with
  | .bl a, .bl b => Φ S (.bl (decide (a = b)))
  | _, _ => False
theorem dIsB_b {a b : Bool} {S : Sto} {Φ : KD} : dIsB (.bl a) (.bl b) S Φ = Φ S (.bl (decide (a = b))) := rfl
/-- showable, of depth n at most, its text m long at most -/
structure FitX (n m : Nat) (p : PyData) : Prop where
  show_ : p.showable = true
  deep : p.depth ≤ n
  len : p.shown.length ≤ m
theorem FitX.mono {n m n' m' : Nat} {p : PyData} (h : FitX n m p) (a : n ≤ n') (b : m ≤ m') : FitX n' m' p := ⟨h.show_, Nat.le_trans h.deep a, Nat.le_trans h.len b⟩
theorem FitX.shw {n m : Nat} {p : PyData} (h : FitX n m p) (hn : n ≤ 60 := by decide) (hm : m ≤ sizeLine := by decide) : ShwX p := ⟨h.show_, Nat.le_trans h.deep hn, Nat.le_trans h.len hm⟩
end DL
namespace DL
open PySem PySem.Spec PyProof.Rows L2
theorem sTryH_e {E : EdD} {Cs : List Addr} {i : Nat} {T U : TSd} {Γ : Gam} {S : Sto} : sTryH Cs i T U E Γ S = T { nx := E.nx, rt := E.rt, er := fun S1 x => x.cls ∈ Cs ∧ i < Γ.length ∧ U { nx := fun Γ' S' => E.nx (Γ'.set i none) S', rt := E.rt, er := fun _ _ => False } (Γ.set i (some (.exc x.cls x.fs))) S1 } Γ S := rfl
end DL
namespace DL
open PySem PySem.Spec PyProof.Rows L2
/-- a tuple behind a tuple, both of something -/
def dAddT (x y : D) (S : Sto) (Φ : KD) : Prop := ∃ ds es, x = .tup ds ∧ y = .tup es ∧ ds ≠ [] ∧ es ≠ [] ∧ ds.length + es.length ≤ sizeLine ∧ Φ S (.tup (ds ++ es))
section
variable {S : Sto} {Φ : KD}
theorem dAddT_t {ds es : List D} : dAddT (.tup ds) (.tup es) S Φ = (ds ≠ [] ∧ es ≠ [] ∧ ds.length + es.length ≤ sizeLine ∧ Φ S (.tup (ds ++ es))) := propext ⟨fun ⟨_, _, e1, e2, h⟩ => by cases e1; cases e2; exact h, fun h => ⟨_, _, rfl, rfl, h⟩⟩
end
end DL
namespace DL
open PySem PySem.Spec PyProof.Rows L2
section
variable {X : Cx} {W : WX} {a b e : Expr} {ta : TA} {te : TE} {p p2 pos pos2 tpos : Pos} {elts : List Expr} {kk : Nat}
/-- zip(range(a, b), e) -/
def iZrD (T : TL) (U : TD) : TId := fun Γ S Φ Ψ => T Γ S (fun S1 ds => ∃ i j : Int, ds = [.int i, .int j] ∧ (-(2 ^ 62) ≤ i ∧ i < 2 ^ 62 ∧ -(2 ^ 62) ≤ j ∧ j < 2 ^ 62) ∧ U Γ S1 (fun S2 d => (∃ ys, asQ S2 d = some ys) ∧ Φ S2 (fun S' => (asQ S' d).map fun ys => zipD (rngD i (j - i).toNat) ys)) Ψ) Ψ
section
variable {Γ : Gam} {S : Sto} {Ψ : KX}
theorem iZrD_e {T : TL} {U : TD} {Φ : Sto → Src → Prop} : iZrD T U Γ S Φ Ψ = T Γ S (fun S1 ds => ∃ i j : Int, ds = [.int i, .int j] ∧ (-(2 ^ 62) ≤ i ∧ i < 2 ^ 62 ∧ -(2 ^ 62) ≤ j ∧ j < 2 ^ 62) ∧ U Γ S1 (fun S2 d => (∃ ys, asQ S2 d = some ys) ∧ Φ S2 (fun S' => (asQ S' d).map fun ys => zipD (rngD i (j - i).toNat) ys)) Ψ) Ψ := rfl
end
end
end DL
namespace DL
open PySem PySem.Spec PyProof.Rows L2
def kD : Key → D
  | .inl i => .int i
  | .inr x => .str x
theorem kD_inj : ∀ {k j : Key}, kD k = kD j → k = j
  | .inl _, .inl _, e => by cases e; rfl
  | .inr _, .inr _, e => by cases e; rfl
  | .inl _, .inr _, e => by cases e
  | .inr _, .inl _, e => by cases e
def atD (ks : List (Key × D)) (k : Key) : Option D := (ks.find? fun p => decide (p.1 = k)).map (·.2)
def pKD (ks : List (Key × D)) (k : Key) (d : D) : List (Key × D) :=
  if (ks.any fun p => decide (p.1 = k)) = true then ks.map (fun p => if p.1 = k then (p.1, d) else p) else ks ++ [(k, d)]
section
variable {K : PySem.W.Frag} {F : Hp} {al : List Addr}
theorem RpK.len : ∀ {us : List (Key × V)} {ks : List (Key × D)}, RpK K F al us ks → us.length = ks.length
  | _, _, .nil => rfl
  | _, _, .cons _ t => by rw [List.length_cons, List.length_cons, RpK.len t]
end
def dNewK : TD := fun Γ S Φ Ψ => Φ (S ++ [.dck []]) (.own S.length)
/-- {k: v} -/
def dDis1 (Tk Tv : TD) : TD := fun Γ S Φ Ψ => Tk Γ S (fun S1 y => Tv Γ S1 (fun S2 z => ∃ k, y = kD k ∧ Φ (S2 ++ [.dck [(k, z)]]) (.own S2.length)) Ψ) Ψ
section
variable {X : Cx} {W : WX} {e k v o i f value : Expr} {pos pos' apos cpos mpos p : Pos} {te tk tv to ti tx : TE} {Te Tk Tv To Ti Tx : TD}
/-- d[k] = v -/
def sDkp (Tv To Ti : TD) : TSd := fun E Γ S => Tv Γ S (fun S1 v => To Γ S1 (fun S2 o => Ti Γ S2 (fun S3 y => ∃ h ks k, o = .own h ∧ y = kD k ∧ S3[h]? = some (.dck ks) ∧ ks.length < 1000000 ∧ E.nx Γ (S3.set h (.dck (pKD ks k v)))) E.er) E.er) E.er
/-- d[k] -/
def dDGet (To Ti : TD) : TD := fun Γ S Φ Ψ => To Γ S (fun S1 o => Ti Γ S1 (fun S2 y => ∃ h ks k d, o = .own h ∧ y = kD k ∧ S2[h]? = some (.dck ks) ∧ atD ks k = some d ∧ Φ S2 d) Ψ) Ψ
/-- d.get(k, x) -/
def dDGet2 (To Ti Tx : TD) : TD := fun Γ S Φ Ψ => To Γ S (fun S1 o => ∃ h ks, o = .own h ∧ S1[h]? = some (.dck ks) ∧ Ti Γ S1 (fun S2 y => Tx Γ S2 (fun S3 z => ∃ ks k, y = kD k ∧ S3[h]? = some (.dck ks) ∧ Φ S3 ((atD ks k).getD z)) Ψ) Ψ) Ψ
def dLVals (To : TD) : TD := fun Γ S Φ Ψ => To Γ S (fun S1 o => ∃ h ks, o = .own h ∧ S1[h]? = some (.dck ks) ∧ Φ S1 (.lst (ks.map (·.2)))) Ψ
end
section
variable {Γ : Gam} {S : Sto} {Φ : KD} {Ψ : KX} {To Ti Tx Tk Tv : TD}
theorem dNewK_e : dNewK Γ S Φ Ψ = Φ (S ++ [Cell.dck []]) (.own S.length) := rfl
theorem dDis1_e : dDis1 Tk Tv Γ S Φ Ψ = Tk Γ S (fun S1 y => Tv Γ S1 (fun S2 z => ∃ k, y = kD k ∧ Φ (S2 ++ [.dck [(k, z)]]) (.own S2.length)) Ψ) Ψ := rfl
theorem sDkp_e {E : EdD} : sDkp Tv To Ti E Γ S = Tv Γ S (fun S1 v => To Γ S1 (fun S2 o => Ti Γ S2 (fun S3 y => ∃ h ks k, o = .own h ∧ y = kD k ∧ S3[h]? = some (.dck ks) ∧ ks.length < 1000000 ∧ E.nx Γ (S3.set h (.dck (pKD ks k v)))) E.er) E.er) E.er := rfl
theorem dDGet_e : dDGet To Ti Γ S Φ Ψ = To Γ S (fun S1 o => Ti Γ S1 (fun S2 y => ∃ h ks k d, o = .own h ∧ y = kD k ∧ S2[h]? = some (.dck ks) ∧ atD ks k = some d ∧ Φ S2 d) Ψ) Ψ := rfl
theorem dDGet2_e : dDGet2 To Ti Tx Γ S Φ Ψ = To Γ S (fun S1 o => ∃ h ks, o = .own h ∧ S1[h]? = some (.dck ks) ∧ Ti Γ S1 (fun S2 y => Tx Γ S2 (fun S3 z => ∃ ks k, y = kD k ∧ S3[h]? = some (.dck ks) ∧ Φ S3 ((atD ks k).getD z)) Ψ) Ψ) Ψ := rfl
theorem dLVals_e : dLVals To Γ S Φ Ψ = To Γ S (fun S1 o => ∃ h ks, o = .own h ∧ S1[h]? = some (.dck ks) ∧ Φ S1 (.lst (ks.map (·.2)))) Ψ := rfl
/-- a key that is an int -/
theorem kD_ex_i {i : Int} {P : Key → Prop} : (∃ k, D.int i = kD k ∧ P k) = P (.inl i) := by
  refine propext ⟨fun h => ?_, fun h => ⟨.inl i, rfl, h⟩⟩
  obtain ⟨k, e, h⟩ := h
  have e2 : k = .inl i := kD_inj (k := k) (j := .inl i) e.symm
  rw [← e2]
  exact h
end
end DL
namespace DL
open PySem PySem.Spec PyProof.Rows L2
def ltP (a b : Int × Int) : Prop := a.1 < b.1 ∨ (a.1 = b.1 ∧ a.2 < b.2)
def dSS (I : TId) (G : TGd) (Te : TD) (vs : List Nat) : TD := fun Γ S Φ Ψ => I Γ S (fun S1 src => ∃ (ps : List (Int × Int)) (ds : List D), src S1 = some ds ∧ ds.length = ps.length ∧ ps.length < 64 ∧ (∀ p ∈ ps, 0 ≤ p.1 ∧ 0 ≤ p.2) ∧
  (∀ (i : Nat) (d : D) (p : Int × Int), ds[i]? = some d → ps[i]? = some p → G d (gwipe Γ vs) S1 fun Γ2 S2 => S2 = S1 ∧ Te Γ2 S1 (fun S3 z => S3 = S1 ∧ z = prD p) (fun _ _ => False)) ∧
  (∀ qs : List (Int × Int), (∀ p, p ∈ qs ↔ p ∈ ps) → qs.Pairwise ltP → Φ S1 (.lst (qs.map prD)))) Ψ
section
variable {Γ : Gam} {S : Sto} {Φ : KD} {Ψ : KX}
theorem dSS_e {I : TId} {G : TGd} {Te : TD} {vs : List Nat} : dSS I G Te vs Γ S Φ Ψ = I Γ S (fun S1 src => ∃ (ps : List (Int × Int)) (ds : List D), src S1 = some ds ∧ ds.length = ps.length ∧ ps.length < 64 ∧ (∀ p ∈ ps, 0 ≤ p.1 ∧ 0 ≤ p.2) ∧
  (∀ (i : Nat) (d : D) (p : Int × Int), ds[i]? = some d → ps[i]? = some p → G d (gwipe Γ vs) S1 fun Γ2 S2 => S2 = S1 ∧ Te Γ2 S1 (fun S3 z => S3 = S1 ∧ z = prD p) (fun _ _ => False)) ∧
  (∀ qs : List (Int × Int), (∀ p, p ∈ qs ↔ p ∈ ps) → qs.Pairwise ltP → Φ S1 (.lst (qs.map prD)))) Ψ := rfl
end
end DL
namespace DL
open PySem PySem.Spec PyProof.Rows L2
def dMulI (x y : D) (S : Sto) (Φ : KD) : Prop := ∃ i j, x = .int i ∧ y = .int j ∧ CMulA i j ∧ Φ S (.int (i * j))
section
variable {S : Sto} {Φ : KD}
theorem dMulI_i {i j : Int} : dMulI (.int i) (.int j) S Φ = (CMulA i j ∧ Φ S (.int (i * j))) := propext ⟨fun ⟨_, _, e1, e2, h⟩ => by cases e1; cases e2; exact h, fun h => ⟨_, _, rfl, rfl, h⟩⟩
end
end DL
namespace DL
open PySem PySem.Spec PyProof.Rows L2
def dST (T : TD) : TD := fun Γ S Φ Ψ => T Γ S (fun S1 d => ∃ ps : List (Int × Int), asQ S1 d = some (ps.map prD) ∧ ps.length < 64 ∧ (∀ p ∈ ps, 0 ≤ p.1 ∧ 0 ≤ p.2) ∧ ∀ qs : List (Int × Int), (∀ p, p ∈ qs ↔ p ∈ ps) → qs.Pairwise ltP → Φ S1 (.lst (qs.map prD))) Ψ
section
variable {Γ : Gam} {S : Sto} {Φ : KD} {Ψ : KX}
theorem dST_e {T : TD} : dST T Γ S Φ Ψ = T Γ S (fun S1 d => ∃ ps : List (Int × Int), asQ S1 d = some (ps.map prD) ∧ ps.length < 64 ∧ (∀ p ∈ ps, 0 ≤ p.1 ∧ 0 ≤ p.2) ∧ ∀ qs : List (Int × Int), (∀ p, p ∈ qs ↔ p ∈ ps) → qs.Pairwise ltP → Φ S1 (.lst (qs.map prD))) Ψ := rfl
end
end DL
namespace L2
open PySem PySem.Spec PyProof.Rows
end L2
namespace DL
open PySem PySem.Spec PyProof.Rows L2
/-- sorted(set(xs)): all members, rising -/
def dSI (T : TD) : TD := fun Γ S Φ Ψ => T Γ S (fun S1 d => ∃ ns ms : List Int, asQ S1 d = some (ns.map D.int) ∧ ns.length ≤ 4000 ∧ ms.length < 64 ∧ (∀ k ∈ ns, k ∈ ms) ∧ ∀ qs : List Int, (∀ k, k ∈ qs ↔ k ∈ ns) → qs.Pairwise (· < ·) → Φ S1 (.lst (qs.map D.int))) Ψ
section
variable {Γ : Gam} {S : Sto} {Φ : KD} {Ψ : KX}
theorem dSI_e {T : TD} : dSI T Γ S Φ Ψ = T Γ S (fun S1 d => ∃ ns ms : List Int, asQ S1 d = some (ns.map D.int) ∧ ns.length ≤ 4000 ∧ ms.length < 64 ∧ (∀ k ∈ ns, k ∈ ms) ∧ ∀ qs : List Int, (∀ k, k ∈ qs ↔ k ∈ ns) → qs.Pairwise (· < ·) → Φ S1 (.lst (qs.map D.int))) Ψ := rfl
end
end DL
namespace L2
open PySem PySem.Spec PyProof.Rows
end L2
namespace L2
open PySem PySem.Spec PyProof.Rows
end L2
namespace DL
open PySem PySem.Spec PyProof.Rows L2
section
variable {X : Cx} {es : List Expr}
def lsG (n : Nat) (T : TGs') : TGd := fun d Γ S P => ∃ ds, asQ S d = some ds ∧ ds.length = n ∧ T ds Γ S P
theorem lsG_e {n : Nat} {T : TGs'} {d : D} {Γ : Gam} {S : Sto} {P : Gam → Sto → Prop} : lsG n T d Γ S P = (∃ ds, asQ S d = some ds ∧ ds.length = n ∧ T ds Γ S P) := rfl
end
end DL
namespace DL
open PySem PySem.Spec PyProof.Rows L2
def dIsNB (x y : D) (S : Sto) (Φ : KD) : Prop := match x, y with
  | .bl a, .bl b => Φ S (.bl (!decide (a = b)))
  | _, _ => False
theorem dIsNB_b {a b : Bool} {S : Sto} {Φ : KD} : dIsNB (.bl a) (.bl b) S Φ = Φ S (.bl (!decide (a = b))) := rfl
end DL
namespace L2
open PySem PySem.Spec PyProof.Rows
end L2
namespace DL
open PySem PySem.Spec PyProof.Rows L2
/-- sorted(d), sorted(d, reverse=True): the keys, whole numbers -/
def dSD (b : Bool) (T : TD) : TD := fun Γ S Φ Ψ => T Γ S (fun S1 d => ∃ h ks, ∃ is : List Int, d = .own h ∧ S1[h]? = some (.dck ks) ∧ ks.map (·.1) = is.map Sum.inl ∧ ∀ qs : List Int, qs.Perm is → OrdB b qs → Φ S1 (.lst (qs.map D.int))) Ψ
section
variable {Γ : Gam} {S : Sto} {Φ : KD} {Ψ : KX}
theorem dSD_e {b : Bool} {T : TD} : dSD b T Γ S Φ Ψ = T Γ S (fun S1 d => ∃ h ks, ∃ is : List Int, d = .own h ∧ S1[h]? = some (.dck ks) ∧ ks.map (·.1) = is.map Sum.inl ∧ ∀ qs : List Int, qs.Perm is → OrdB b qs → Φ S1 (.lst (qs.map D.int))) Ψ := rfl
end
end DL
namespace DL
open PySem PySem.Spec PyProof.Rows L2
section
variable {X : Cx} {W : WX} {e : Expr} {te : TE} {Te : TD}
def dRevO (T : TD) : TD := fun Γ S Φ Ψ => T Γ S (fun S1 d => ∃ ds, asQ S1 d = some ds ∧ Φ (S1 ++ [.lst ds.reverse]) (.own S1.length)) Ψ
end
section
variable {Γ : Gam} {S : Sto} {Φ : KD} {Ψ : KX}
theorem dRevO_e {T : TD} : dRevO T Γ S Φ Ψ = T Γ S (fun S1 d => ∃ ds, asQ S1 d = some ds ∧ Φ (S1 ++ [.lst ds.reverse]) (.own S1.length)) Ψ := rfl
end
end DL
namespace L2
open PySem PySem.Spec PyProof.Rows
end L2
namespace DL
open PySem PySem.Spec PyProof.Rows L2
open Classical in
noncomputable def srcK (h : Nat) (o : Obj) (us : List (Key × V)) : Src := fun S => match S[h]? with
  | some (.lck o' us' ks) => if o' = o ∧ us' = us then some (ks.map fun p => kD p.1) else none
  | _ => none
/-- the keys of the locked dict of a name -/
def iKtD (i : Nat) : TId := fun Γ S Φ Ψ => ∃ h o us ks, Γ[i]? = some (some (.own h)) ∧ S[h]? = some (.lck o us ks) ∧ Φ S (srcK h o us)
section
variable {Γ : Gam} {S : Sto} {Ψ : KX}
theorem iKtD_e {i : Nat} {Φ : Sto → Src → Prop} : iKtD i Γ S Φ Ψ = ∃ h o us ks, Γ[i]? = some (some (.own h)) ∧ S[h]? = some (.lck o us ks) ∧ Φ S (srcK h o us) := rfl
end
end DL
namespace DL
open PySem PySem.Spec PyProof.Rows L2
section
variable {X : Cx} {W : WX} {o i : Expr} {to ti : TE} {To Ti : TD} {pos : Pos}
def dDGetL (To Ti : TD) : TD := fun Γ S Φ Ψ => To Γ S (fun S1 x => Ti Γ S1 (fun S2 y => ∃ h ob us ks k d, x = .own h ∧ y = kD k ∧ S2[h]? = some (.lck ob us ks) ∧ atD ks k = some d ∧ Φ S2 d) Ψ) Ψ
end
section
variable {Γ : Gam} {S : Sto} {Φ : KD} {Ψ : KX} {To Ti : TD}
theorem dDGetL_e : dDGetL To Ti Γ S Φ Ψ = To Γ S (fun S1 x => Ti Γ S1 (fun S2 y => ∃ h ob us ks k d, x = .own h ∧ y = kD k ∧ S2[h]? = some (.lck ob us ks) ∧ atD ks k = some d ∧ Φ S2 d) Ψ) Ψ := rfl
end
end DL
namespace DL
open PySem PySem.Spec PyProof.Rows L2
def atT (ks : List (List Key × D)) (ns : List Int) : Option D := (ks.find? fun kv => decide (kv.1 = ns.map Sum.inl)).map (·.2)
/-- (a, b, ..) as a cell -/
def dTupO (T : TL) : TD := fun Γ S Φ Ψ => T Γ S (fun S1 ds => ∃ ns : List Int, ds = ns.map D.int ∧ ns.length ≤ 1000 ∧ Φ (S1 ++ [.tpl ns]) (.own S1.length)) Ψ
/-- y not in d -/
def dNotInT (Ty Td : TD) : TD := fun Γ S Φ Ψ => Ty Γ S (fun S1 y => Td Γ S1 (fun S2 x => ∃ h ks j ns, x = .own h ∧ y = .own j ∧ S2[h]? = some (.dct ks) ∧ S2[j]? = some (.tpl ns) ∧ Φ S2 (.bl (!(atT ks ns).isSome))) Ψ) Ψ
def dInT (Ty Td : TD) : TD := fun Γ S Φ Ψ => Ty Γ S (fun S1 y => Td Γ S1 (fun S2 x => ∃ h ks j ns, x = .own h ∧ y = .own j ∧ S2[h]? = some (.dct ks) ∧ S2[j]? = some (.tpl ns) ∧ Φ S2 (.bl (atT ks ns).isSome)) Ψ) Ψ
/-- d[y] -/
def dGetT (To Ti : TD) : TD := fun Γ S Φ Ψ => To Γ S (fun S1 x => Ti Γ S1 (fun S2 y => ∃ h ks j ns d, x = .own h ∧ y = .own j ∧ S2[h]? = some (.dct ks) ∧ S2[j]? = some (.tpl ns) ∧ atT ks ns = some d ∧ Φ S2 d) Ψ) Ψ
/-- d[y] = v -/
def sPutT (Tv To Ti : TD) : TSd := fun E Γ S => Tv Γ S (fun S1 v => To Γ S1 (fun S2 x => Ti Γ S2 (fun S3 y => ∃ h ks j ns, x = .own h ∧ y = .own j ∧ S3[h]? = some (.dct ks) ∧ S3[j]? = some (.tpl ns) ∧ ks.length < 1000000 ∧
  E.nx Γ (S3.set h (.dct (putT ks (ns.map Sum.inl) v)))) E.er) E.er) E.er
section
variable {Γ : Gam} {S : Sto} {Φ : KD} {Ψ : KX} {E : EdD} {Ty Td To Ti Tv : TD}
theorem dTupO_e {T : TL} : dTupO T Γ S Φ Ψ = T Γ S (fun S1 ds => ∃ ns : List Int, ds = ns.map D.int ∧ ns.length ≤ 1000 ∧ Φ (S1 ++ [.tpl ns]) (.own S1.length)) Ψ := rfl
theorem dNotInT_e : dNotInT Ty Td Γ S Φ Ψ = Ty Γ S (fun S1 y => Td Γ S1 (fun S2 x => ∃ h ks j ns, x = .own h ∧ y = .own j ∧ S2[h]? = some (.dct ks) ∧ S2[j]? = some (.tpl ns) ∧ Φ S2 (.bl (!(atT ks ns).isSome))) Ψ) Ψ := rfl
theorem dInT_e : dInT Ty Td Γ S Φ Ψ = Ty Γ S (fun S1 y => Td Γ S1 (fun S2 x => ∃ h ks j ns, x = .own h ∧ y = .own j ∧ S2[h]? = some (.dct ks) ∧ S2[j]? = some (.tpl ns) ∧ Φ S2 (.bl (atT ks ns).isSome)) Ψ) Ψ := rfl
theorem dGetT_e : dGetT To Ti Γ S Φ Ψ = To Γ S (fun S1 x => Ti Γ S1 (fun S2 y => ∃ h ks j ns d, x = .own h ∧ y = .own j ∧ S2[h]? = some (.dct ks) ∧ S2[j]? = some (.tpl ns) ∧ atT ks ns = some d ∧ Φ S2 d) Ψ) Ψ := rfl
theorem sPutT_e : sPutT Tv To Ti E Γ S = Tv Γ S (fun S1 v => To Γ S1 (fun S2 x => Ti Γ S2 (fun S3 y => ∃ h ks j ns, x = .own h ∧ y = .own j ∧ S3[h]? = some (.dct ks) ∧ S3[j]? = some (.tpl ns) ∧ ks.length < 1000000 ∧
  E.nx Γ (S3.set h (.dct (putT ks (ns.map Sum.inl) v)))) E.er) E.er) E.er := rfl
end
end DL
namespace L2
open PySem PySem.Spec PyProof.Rows
end L2
namespace L2
open PySem PySem.Spec PyProof.Rows
end L2
namespace DL
open PySem PySem.Spec PyProof.Rows L2
/-- sorted(set(xs)): all members, rising -/
def dSIG (T : TD) : TD := fun Γ S Φ Ψ => T Γ S (fun S1 d => ∃ ns : List Int, asQ S1 d = some (ns.map D.int) ∧ ns.length ≤ 4000 ∧ ∀ qs : List Int, (∀ k, k ∈ qs ↔ k ∈ ns) → qs.Pairwise (· < ·) → Φ S1 (.lst (qs.map D.int))) Ψ
section
variable {Γ : Gam} {S : Sto} {Φ : KD} {Ψ : KX}
theorem dSIG_e {T : TD} : dSIG T Γ S Φ Ψ = T Γ S (fun S1 d => ∃ ns : List Int, asQ S1 d = some (ns.map D.int) ∧ ns.length ≤ 4000 ∧ ∀ qs : List Int, (∀ k, k ∈ qs ↔ k ∈ ns) → qs.Pairwise (· < ·) → Φ S1 (.lst (qs.map D.int))) Ψ := rfl
end
end DL
namespace L2
open PySem PySem.Spec PyProof.Rows
end L2
namespace DL
open PySem PySem.Spec PyProof.Rows L2
/-- no tuple of the function's own -/
def NoTpl (S : Sto) : Prop := ∀ (n : Nat) (ns : List Int), S[n]? ≠ some (Cell.tpl ns)
def wipeC : Cell → Cell
  | .tpl _ => .gone
  | c => c
/-- the function's own tuples are given up -/
def wipeT (S : Sto) : Sto := S.map wipeC
def keyD (k : List Key) : D := .tup (k.map kD)
def pairsT (ks : List (List Key × D)) : List D := ks.map fun p => D.tup [keyD p.1, p.2]
open Classical in
noncomputable def srcT (ks : List (List Key × D)) : Src := fun S => if NoTpl S then some (pairsT ks) else none
/-- the items of an own dict whose keys are tuples: it is given up, and so are the function's own tuples -/
def iItT (T : TD) : TId := fun Γ S Φ Ψ => T Γ S (fun S1 x => ∃ h ks, x = .own h ∧ S1[h]? = some (.dct ks) ∧ Φ (wipeT (S1.set h .gone)) (srcT ks)) Ψ
section
variable {X : Cx} {W : WX}
theorem iItT_e {Γ : Gam} {S : Sto} {Ψ : KX} {T : TD} {Φ : Sto → Src → Prop} : iItT T Γ S Φ Ψ = T Γ S (fun S1 x => ∃ h ks, x = .own h ∧ S1[h]? = some (.dct ks) ∧ Φ (wipeT (S1.set h .gone)) (srcT ks)) Ψ := rfl
end
end DL
namespace L2
open PySem PySem.Spec PyProof.Rows
end L2
namespace DL
open PySem PySem.Spec PyProof.Rows L2
def enumSD (c : Int) (xs : List D) : List D := (List.range xs.length).map fun (i : Nat) => D.tup [.int (c + (i : Int)), xs.getD i .non]
def iEnumSD (T : TL) : TId := fun Γ S Φ Ψ => T Γ S (fun S1 ds => ∃ d c, ds = [d, .int c] ∧ (∃ xs, asQ S1 d = some xs) ∧ -(2 ^ 62) ≤ c ∧ c < 2 ^ 62 ∧ Φ S1 (fun S' => (asQ S' d).map (enumSD c))) Ψ
section
variable {X : Cx} {W : WX} {e e2 : Expr} {tl : TA} {Tl : TL} {p pos tpos : Pos}
theorem iEnumSD_e {Γ : Gam} {S : Sto} {Ψ : KX} {T : TL} {Φ : Sto → Src → Prop} : iEnumSD T Γ S Φ Ψ = (T Γ S (fun S1 ds => ∃ d c, ds = [d, .int c] ∧ (∃ xs, asQ S1 d = some xs) ∧ -(2 ^ 62) ≤ c ∧ c < 2 ^ 62 ∧ Φ S1 (fun S' => (asQ S' d).map (enumSD c))) Ψ) := rfl
end
end DL
namespace L2
open PySem PySem.Spec PyProof.Rows
end L2
namespace DL
open PySem PySem.Spec PyProof.Rows L2
/-- o[i] op= e, o a list of the function's own -/
def sAugS (To Ti Te : TD) (f : D → D → Sto → KD → Prop) : TSd := fun E Γ S => To Γ S (fun S1 o => Ti Γ S1 (fun S2 i => ∃ h k ds x, o = .own h ∧ i = .int k ∧ S2[h]? = some (.lst ds) ∧ atI ds k = some x ∧ Te Γ S2 (fun S3 y => f x y S3 fun S4 z => dSetO o i z S4 fun S5 => E.nx Γ S5) E.er) E.er) E.er
end DL
namespace DL
open PySem PySem.Spec PyProof.Rows L2
/-- sorted({elt for tg in xs}), whole numbers -/
def dSSI (I : TId) (G : TGd) (Te : TD) (vs : List Nat) : TD := fun Γ S Φ Ψ => I Γ S (fun S1 src => ∃ (ns : List Int) (ds : List D), src S1 = some ds ∧ ds.length = ns.length ∧ ns.length ≤ 4000 ∧
  (∀ (i : Nat) (d : D) (n : Int), ds[i]? = some d → ns[i]? = some n → G d (gwipe Γ vs) S1 fun Γ2 S2 => S2 = S1 ∧ Te Γ2 S1 (fun S3 z => S3 = S1 ∧ z = .int n) (fun _ _ => False)) ∧
  (∀ qs : List Int, (∀ k, k ∈ qs ↔ k ∈ ns) → qs.Pairwise (· < ·) → Φ S1 (.lst (qs.map D.int)))) Ψ
section
variable {Γ : Gam} {S : Sto} {Φ : KD} {Ψ : KX}
theorem dSSI_e {I : TId} {G : TGd} {Te : TD} {vs : List Nat} : dSSI I G Te vs Γ S Φ Ψ = I Γ S (fun S1 src => ∃ (ns : List Int) (ds : List D), src S1 = some ds ∧ ds.length = ns.length ∧ ns.length ≤ 4000 ∧
  (∀ (i : Nat) (d : D) (n : Int), ds[i]? = some d → ns[i]? = some n → G d (gwipe Γ vs) S1 fun Γ2 S2 => S2 = S1 ∧ Te Γ2 S1 (fun S3 z => S3 = S1 ∧ z = .int n) (fun _ _ => False)) ∧
  (∀ qs : List Int, (∀ k, k ∈ qs ↔ k ∈ ns) → qs.Pairwise (· < ·) → Φ S1 (.lst (qs.map D.int)))) Ψ := rfl
theorem sAugS_e {E : EdD} {To Ti Te : TD} {f : D → D → Sto → KD → Prop} : sAugS To Ti Te f E Γ S = To Γ S (fun S1 o => Ti Γ S1 (fun S2 i => ∃ h k ds x, o = .own h ∧ i = .int k ∧ S2[h]? = some (.lst ds) ∧ atI ds k = some x ∧ Te Γ S2 (fun S3 y => f x y S3 fun S4 z => dSetO o i z S4 fun S5 => E.nx Γ S5) E.er) E.er) E.er := rfl
end
end DL
namespace DL
open PySem PySem.Spec PyProof.Rows L2 GenW
/-- running, woken at s₀: the consumer's objects stand as they stood then; ip: the generator's own iterators -/
structure GIz (X : Cx) (Z : List Addr) (ip : List (Addr × Obj)) (σ : L2.St) (H : Hp) (s₀ s : Shared) : Prop where
  at_ : ∀ z ∈ Z, ∃ o, s₀.heap.get? z = some o
  inv : Inv X (pinsAt Z s₀.heap ++ ip) σ H s
section
variable {X : Cx} {Z : List Addr} {ip : List (Addr × Obj)} {σ : L2.St} {H : Hp} {s₀ s s' : Shared}
theorem GIz.kept (h : GIz X Z ip σ H s₀ s) {z : Addr} (hz : z ∈ Z) : s.heap.get? z = s₀.heap.get? z ∧ H z = none ∧ z ≠ X.env.locals ∧ z ∉ X.fs := by
  obtain ⟨o, e⟩ := h.at_ z hz
  obtain ⟨h1, h2, h3, h4, _⟩ := h.inv.pin (z, o) (List.mem_append_right _ (List.mem_append_left _ (mem_pinsAt hz e)))
  exact ⟨h1.trans e.symm, h2, h3, h4⟩
end
/-- what is wanted behind a statement of a generator: the number is how many are out; yd: what is wanted of the k-th -/
structure GEz where
  nx : Nat → L2.St → Hp → Prop
  yd : Nat → List V → Hp → Prop
  bk : Nat → L2.St → Hp → Prop := fun _ _ _ => False
  ct : Nat → L2.St → Hp → Prop := fun _ _ _ => False
def GEz.at (D : GEz) (k : Nat) : Ends := { nx := D.nx k, rt := fun _ _ => False, bk := D.bk k, ct := D.ct k }
end DL
namespace DL
open PySem PySem.Spec PyProof.Rows L2 NdefX
abbrev clsS : Str := "__class__"
def dSupA (C : Addr) (sp : DSpK) (T : TL2) : TD := fun Γ S Φ Ψ => ∃ d fs, Γ[0]? = some (some d) ∧ asI S d = some (C, fs) ∧ T Γ S (fun S2 ds es => sp (d :: ds) es S2 Φ Ψ) Ψ
end DL
namespace DL
open PySem PySem.Spec PyProof.Rows L2 GenW
def dFldM (Cs : List Addr) (f : Str) (T : TD) : TD := fun Γ S Φ Ψ => T Γ S (fun S1 d => ∃ C fs, C ∈ Cs ∧ asI S1 d = some (C, fs) ∧ ∃ y, fs.lookup f = some y ∧ Φ S1 y) Ψ
def dPropM (tab : List (Addr × DSpK)) (To : TD) : TD := fun Γ S Φ Ψ => To Γ S (fun S1 d => ∃ p fs, p ∈ tab ∧ asI S1 d = some (p.1, fs) ∧ p.2 [d] [] S1 Φ (fun _ _ => False)) Ψ
def dMethM (tab : List (Addr × DSpK)) (m : Str) (To : TD) (T : TL2) : TD := fun Γ S Φ Ψ => To Γ S (fun S1 d => ∃ p fs, p ∈ tab ∧ asI S1 d = some (p.1, fs) ∧ fs.lookup m = none ∧ T Γ S1 (fun S2 ds es => p.2 (d :: ds) es S2 Φ Ψ) Ψ) Ψ
abbrev Tr := Int × Bool × Int
abbrev trD (o : Tr) : List D := [.int o.1, .bl o.2.1, .int o.2.2]
structure EdZ where
  nx : Nat → Gam → Sto → Prop
  yd : Nat → List D → Sto → Prop
  bk : Nat → Gam → Sto → Prop := fun _ _ _ => False
  ct : Nat → Gam → Sto → Prop := fun _ _ _ => False
abbrev TZd := EdZ → Nat → Gam → Sto → Prop
structure RlZ (K : PySem.W.Frag) (w : Hs) (D' : EdZ) (D : GEz) : Prop where
  nx : ∀ k, OkN K w (D'.nx k) (D.nx k)
  yd : ∀ k vs ds w' S', Ext w w' → Good K w' S' → Ra K w' vs ds → D'.yd k ds S' → ∀ H', D.yd k vs H'
  bk : ∀ k, OkN K w (D'.bk k) (D.bk k)
  ct : ∀ k, OkN K w (D'.ct k) (D.ct k)
theorem RlZ.ext {K : PySem.W.Frag} {w w' : Hs} {D' : EdZ} {D : GEz} (h : RlZ K w D' D) (e : Ext w w') : RlZ K w' D' D := ⟨fun k => (h.nx k).ext e, fun k vs ds w2 S' e2 => h.yd k vs ds w2 S' (e.trans e2), fun k => (h.bk k).ext e, fun k => (h.ct k).ext e⟩
def zdPlain (T : TSd) : TZd := fun D k Γ S => T { nx := D.nx k, rt := fun _ _ => False, bk := D.bk k, ct := D.ct k, er := fun _ _ => False } Γ S
def zdNil : TZd := fun D k Γ S => D.nx k Γ S
def zdThen (T U : TZd) : TZd := fun D k Γ S => T { D with nx := U D } k Γ S
def zdYield (T : TL) : TZd := fun D k Γ S => k < sizeLine ∧ T Γ S (fun S1 ds => ds.length ≤ sizeLine ∧ D.yd k ds S1 ∧ D.nx (k + 1) Γ S1) (fun _ _ => False)
/-- what a generator def promises: all that it hands out, the store as it was -/
abbrev DSpG := List D → Sto → List Tr → Prop
/-- [elt for a, b, c in x.m(y) if ..], x and y names -/
def dLcZ (i j : Nat) (Cs : List Addr) (m : Str) (sp : DSpG) (ok : Tr → Prop) (sel : Tr → Option Int) : TD := fun Γ S Φ _ => ∃ d d1 C fs outs, Γ[i]? = some (some d) ∧ Γ[j]? = some (some d1) ∧ C ∈ Cs ∧ asI S d = some (C, fs) ∧ fs.lookup m = none ∧ sp [d, d1] S outs ∧ outs.length < sizeLine ∧
  (∀ o ∈ outs, ok o) ∧ Φ S (.lst ((outs.filterMap sel).map D.int))
end DL
namespace SrtO
open PySem PyProof.Rows Srt
abbrev Tri := Int × Bool × Int
def bI (b : Bool) : Int := if b = true then 1 else 0
def IsTri (h : Heap) (v : Value) (k : Tri) : Prop := ∃ a o t u n, v = .ref a ∧ h.get? a = some o ∧ o.cls = .type "tuple" ∧ o.data = .seq #[.int k.1 t, .bool k.2.1, .int k.2.2 u] n
theorem IsTri.keeps {h h' : Heap} {v : Value} {k : Tri} (p : IsTri h v k) (q : ∀ b o, h.get? b = some o → o.cls = .type "tuple" → h'.get? b = some o) : IsTri h' v k := by
  obtain ⟨a, o, t, u, n, e, ho, hc, hd⟩ := p
  exact ⟨a, o, t, u, n, e, q _ _ ho hc, hc, hd⟩
end SrtO
namespace L2
open PySem PySem.Spec PyProof.Rows SrtO
def leT (p q : Tri) : Prop := p.1 < q.1 ∨ (p.1 = q.1 ∧ (bI p.2.1 < bI q.2.1 ∨ (bI p.2.1 = bI q.2.1 ∧ p.2.2 ≤ q.2.2)))
end L2
namespace DL
open PySem PySem.Spec PyProof.Rows L2
def cSortT (ds : List D) (S : Sto) (Φ : KD) : Prop := match ds with
  | [d] => ∃ ts : List Tr, asQ S d = some (ts.map fun t => .tup (trD t)) ∧ ∀ us : List Tr, us.Perm ts → us.Pairwise leT → Φ S (.lst (us.map fun t => .tup (trD t)))
  | _ => False
end DL
namespace L2
open PySem PySem.Spec PyProof.Rows
end L2
namespace DL
open PySem PySem.Spec PyProof.Rows L2
def ipLD (d e : D) (S : Sto) (Φ : KD) : Prop := match d with
  | .own h => ∃ xs ys, S[h]? = some (.lst xs) ∧ asL S e = some ys ∧ xs.length + ys.length ≤ sizeLine ∧ Φ (S.set h (.lst (xs ++ ys))) (.own h)
  | _ => False
def fldG (C : Addr) (f : Str) (To : TD) : TGd := fun y Γ S P => To Γ S (fun S2 d => ∃ h fs, d = .own h ∧ S2[h]? = some (.ins C fs) ∧ fs.length < 1000 ∧ P Γ (S2.set h (.ins C (putD f y fs)))) (fun _ _ => False)
end DL
namespace DL
open PySem PySem.Spec PyProof.Rows L2
open He
/-- a def that captures __class__: where it stands, its class, the file of its code -/
structure DefC where
  at_ : PySem.W.Frag → Addr
  name : Str
  qual : Str
  params : Arguments
  body : List Stmt
  scope : Scope
  cls : Str
  file : Str
def DefC.val (d : DefC) : He5.FnW := some (d.name, d.qual, d.params, .stmts d.body, d.scope, mainGlobals, [], builtinsNs)
def ccA (K : PySem.W.Frag) (a : Addr) : Addr := match K.lookup a with
  | some ⟨_, _, .func fd, _⟩ => (match fd.closure with
    | [(_, cc)] => cc
    | _ => 0)
  | _ => 0
def cdA (K : PySem.W.Frag) (a : Addr) : Addr := match K.lookup a with
  | some ⟨_, _, .func fd, _⟩ => (match fd.code with
    | .ref c => c
    | _ => 0)
  | _ => 0
def isNo (v : Value) : Bool := match v with
  | .none => true
  | _ => false
def DefC.ok (K : PySem.W.Frag) (d : DefC) : Bool := PySem.W.keepIn K (.ref (d.at_ K)) && ((match K.lookup (d.at_ K) with
  | some ⟨_, _, .func fd, _⟩ => (match fd.closure with
    | [(x, _)] => decide (x = clsS)
    | _ => false) && ((match fd.code with
      | .ref c => PySem.W.codeIn K (.ref c) d.qual
      | _ => false) && (isNo fd.defaults && isNo fd.kwdefaults))
  | _ => false) && ((match K.lookup (ccA K (d.at_ K)) with
  | some ⟨_, _, .cell (some (.ref D)), _⟩ => decide (D = ga K d.cls)
  | _ => false) && ((match K.lookup (cdA K (d.at_ K)) with
  | some ⟨_, _, .fields vs, _⟩ => (match (vs[2]? : Option Value) with
    | some (Value.str file _) => decide (file = d.file)
    | _ => false)
  | _ => false) && (PySem.W.clsIn K (ga K d.cls)).isSome)))
def ref1 (o : Obj) : List Addr := match o.data with
  | .dict es _ => es.toList.flatMap fun e => refV e.val
  | _ => []
end DL
namespace DL
open PySem PySem.Spec PyProof.Rows L2
def sFldM (Cs : List Addr) (f : Str) (To Te : TD) : TSd := fun D Γ S => Te Γ S (fun S1 y => To Γ S1 (fun S2 d => ∃ C h fs, C ∈ Cs ∧ d = .own h ∧ S2[h]? = some (.ins C fs) ∧ fs.length < 1000 ∧ D.nx Γ (S2.set h (.ins C (putD f y fs)))) D.er) D.er
section
variable {E : EdD} {Γ : Gam} {S : Sto} {Φ : KD} {Ψ : KX} {C : Addr} {Cs : List Addr} {f m : Str} {To Te T : TD} {tab : List (Addr × DSpK)} {U : TL2} {sp : DSpK}
theorem sFldM_e : sFldM Cs f To Te E Γ S = (Te Γ S (fun S1 y => To Γ S1 (fun S2 d => ∃ C h fs, C ∈ Cs ∧ d = .own h ∧ S2[h]? = some (.ins C fs) ∧ fs.length < 1000 ∧ E.nx Γ (S2.set h (.ins C (putD f y fs)))) E.er) E.er) := rfl
theorem dFldM_e : dFldM Cs f T Γ S Φ Ψ = (T Γ S (fun S1 d => ∃ C fs, C ∈ Cs ∧ asI S1 d = some (C, fs) ∧ ∃ y, fs.lookup f = some y ∧ Φ S1 y) Ψ) := rfl
theorem dPropM_e : dPropM tab To Γ S Φ Ψ = (To Γ S (fun S1 d => ∃ p fs, p ∈ tab ∧ asI S1 d = some (p.1, fs) ∧ p.2 [d] [] S1 Φ (fun _ _ => False)) Ψ) := rfl
theorem dMethM_e : dMethM tab m To U Γ S Φ Ψ = (To Γ S (fun S1 d => ∃ p fs, p ∈ tab ∧ asI S1 d = some (p.1, fs) ∧ fs.lookup m = none ∧ U Γ S1 (fun S2 ds es => p.2 (d :: ds) es S2 Φ Ψ) Ψ) Ψ) := rfl
theorem dSupA_e : dSupA C sp U Γ S Φ Ψ = (∃ d fs, Γ[0]? = some (some d) ∧ asI S d = some (C, fs) ∧ U Γ S (fun S2 ds es => sp (d :: ds) es S2 Φ Ψ) Ψ) := rfl
theorem fldG_e {y : D} {P : Gam → Sto → Prop} : fldG C f To y Γ S P = (To Γ S (fun S2 d => ∃ h fs, d = .own h ∧ S2[h]? = some (.ins C fs) ∧ fs.length < 1000 ∧ P Γ (S2.set h (.ins C (putD f y fs)))) (fun _ _ => False)) := rfl
theorem dLcZ_e {i j : Nat} {spg : DSpG} {ok : Tr → Prop} {sel : Tr → Option Int} : dLcZ i j Cs m spg ok sel Γ S Φ Ψ = (∃ d d1 C fs outs, Γ[i]? = some (some d) ∧ Γ[j]? = some (some d1) ∧ C ∈ Cs ∧ asI S d = some (C, fs) ∧ fs.lookup m = none ∧ spg [d, d1] S outs ∧ outs.length < sizeLine ∧
  (∀ o ∈ outs, ok o) ∧ Φ S (.lst ((outs.filterMap sel).map D.int))) := rfl
theorem ipLD_e {h : Nat} {e : D} : ipLD (.own h) e S Φ = (∃ xs ys, S[h]? = some (.lst xs) ∧ asL S e = some ys ∧ xs.length + ys.length ≤ sizeLine ∧ Φ (S.set h (.lst (xs ++ ys))) (.own h)) := rfl
theorem cSortT_e {d : D} : cSortT [d] S Φ = (∃ ts : List Tr, asQ S d = some (ts.map fun t => .tup (trD t)) ∧ ∀ us : List Tr, us.Perm ts → us.Pairwise leT → Φ S (.lst (us.map fun t => .tup (trD t)))) := rfl
variable {Z : EdZ} {k : Nat} {Ts : TSd} {A B : TZd} {L : TL} {I : TId} {G : TGd}
theorem zdPlain_e : zdPlain Ts Z k Γ S = (Ts { nx := Z.nx k, rt := fun _ _ => False, bk := Z.bk k, ct := Z.ct k, er := fun _ _ => False } Γ S) := rfl
theorem zdNil_e : zdNil Z k Γ S = Z.nx k Γ S := rfl
theorem zdThen_e : zdThen A B Z k Γ S = A { Z with nx := B Z } k Γ S := rfl
theorem zdYield_e : zdYield L Z k Γ S = (k < sizeLine ∧ L Γ S (fun S1 ds => ds.length ≤ sizeLine ∧ Z.yd k ds S1 ∧ Z.nx (k + 1) Γ S1) (fun _ _ => False)) := rfl
end
end DL
namespace DL
open PySem PySem.Spec PyProof.Rows L2
def max3 (i j k : Int) : Int := if k > (if j > i then j else i) then k else (if j > i then j else i)
def cMax3 (ds : List D) (S : Sto) (Φ : KD) : Prop := match ds with
  | [.int i, .int j, .int k] => Φ S (.int (max3 i j k))
  | _ => False
theorem cMax3_i {i j k : Int} {S : Sto} {Φ : KD} : cMax3 [.int i, .int j, .int k] S Φ = Φ S (.int (max3 i j k)) := rfl
end DL
namespace DL
open PySem PySem.Spec PyProof.Rows L2
def zip3D (xs ys us : List D) : List D := (xs.zip (ys.zip us)).map fun p => D.tup [p.1, p.2.1, p.2.2]
def iZip3D (T : TL) : TId := fun Γ S Φ Ψ => T Γ S (fun S1 ds => ∃ d e f, ds = [d, e, f] ∧ (∃ xs, asQ S1 d = some xs) ∧ (∃ ys, asQ S1 e = some ys) ∧ (∃ us, asQ S1 f = some us) ∧ Φ S1 (fun S' => (asQ S' d).bind fun xs => (asQ S' e).bind fun ys => (asQ S' f).map fun us => zip3D xs ys us)) Ψ
section
variable {Γ : Gam} {S : Sto} {Ψ : KX}
theorem iZip3D_e {T : TL} {Φ : Sto → Src → Prop} : iZip3D T Γ S Φ Ψ = (T Γ S (fun S1 ds => ∃ d e f, ds = [d, e, f] ∧ (∃ xs, asQ S1 d = some xs) ∧ (∃ ys, asQ S1 e = some ys) ∧ (∃ us, asQ S1 f = some us) ∧ Φ S1 (fun S' => (asQ S' d).bind fun xs => (asQ S' e).bind fun ys => (asQ S' f).map fun us => zip3D xs ys us)) Ψ) := rfl
end
end DL
namespace L2
open PySem PySem.Spec PyProof.Rows
end L2
namespace DL
open PySem PySem.Spec PyProof.Rows L2
def top (i : Nat) : Stmt := PySem.Challenge.pw_runtabs_k33_lines_put_in_and_taken_out.main.body.getD i (.Pass ⟨0, 0, 0, 0⟩)
abbrev s_is_integer : Stmt := (top 7)
abbrev s_is_cell : Stmt := (top 8)
abbrev s_is_line : Stmt := (top 12)
abbrev s_is_table : Stmt := (top 13)
abbrev s_need_table : Stmt := (top 14)
abbrev s_need_line : Stmt := (top 15)
abbrev s_copy_of : Stmt := (top 16)
abbrev s_with_line : Stmt := (top 18)
abbrev s_without_line : Stmt := (top 19)
abbrev s__law_feed : Stmt := (top 21)
abbrev s__law_pick : Stmt := (top 22)
abbrev s__law_lengths : Stmt := (top 23)
abbrev s__law_rows : Stmt := (top 24)
abbrev s__law_put_right : Stmt := (top 26)
abbrev s__law_take_right : Stmt := (top 27)
abbrev s_law : Stmt := (top 28)
def dd_is_integer : He5.DefA := ⟨(fun K => He.ga K "is_integer"), "is_integer", "is_integer", defArgs s_is_integer, defBody s_is_integer, defScope s_is_integer, [], []⟩
def dd_is_cell : He5.DefA := ⟨(fun K => He.ga K "is_cell"), "is_cell", "is_cell", defArgs s_is_cell, defBody s_is_cell, defScope s_is_cell, [], []⟩
def dd_is_line : He5.DefA := ⟨(fun K => He.ga K "is_line"), "is_line", "is_line", defArgs s_is_line, defBody s_is_line, defScope s_is_line, [], []⟩
def dd_is_table : He5.DefA := ⟨(fun K => He.ga K "is_table"), "is_table", "is_table", defArgs s_is_table, defBody s_is_table, defScope s_is_table, [], []⟩
def dd_need_table : He5.DefA := ⟨(fun K => He.ga K "need_table"), "need_table", "need_table", defArgs s_need_table, defBody s_need_table, defScope s_need_table, [], []⟩
def dd_need_line : He5.DefA := ⟨(fun K => He.ga K "need_line"), "need_line", "need_line", defArgs s_need_line, defBody s_need_line, defScope s_need_line, [], []⟩
def dd_copy_of : He5.DefA := ⟨(fun K => He.ga K "copy_of"), "copy_of", "copy_of", defArgs s_copy_of, defBody s_copy_of, defScope s_copy_of, [], []⟩
def dd_with_line : He5.DefA := ⟨(fun K => He.ga K "with_line"), "with_line", "with_line", defArgs s_with_line, defBody s_with_line, defScope s_with_line, [], []⟩
def dd_without_line : He5.DefA := ⟨(fun K => He.ga K "without_line"), "without_line", "without_line", defArgs s_without_line, defBody s_without_line, defScope s_without_line, [], []⟩
def dd__law_feed : He5.DefA := ⟨(fun K => He.ga K "_law_feed"), "_law_feed", "_law_feed", defArgs s__law_feed, defBody s__law_feed, defScope s__law_feed, [], []⟩
def dd__law_pick : He5.DefA := ⟨(fun K => He.ga K "_law_pick"), "_law_pick", "_law_pick", defArgs s__law_pick, defBody s__law_pick, defScope s__law_pick, [], []⟩
def dd__law_lengths : He5.DefA := ⟨(fun K => He.ga K "_law_lengths"), "_law_lengths", "_law_lengths", defArgs s__law_lengths, defBody s__law_lengths, defScope s__law_lengths, [], []⟩
def dd__law_rows : He5.DefA := ⟨(fun K => He.ga K "_law_rows"), "_law_rows", "_law_rows", defArgs s__law_rows, defBody s__law_rows, defScope s__law_rows, [], []⟩
def dd__law_put_right : He5.DefA := ⟨(fun K => He.ga K "_law_put_right"), "_law_put_right", "_law_put_right", defArgs s__law_put_right, defBody s__law_put_right, defScope s__law_put_right, [], []⟩
def dd__law_take_right : He5.DefA := ⟨(fun K => He.ga K "_law_take_right"), "_law_take_right", "_law_take_right", defArgs s__law_take_right, defBody s__law_take_right, defScope s__law_take_right, [], []⟩
def dd_law : He5.DefA := ⟨(fun K => He.ga K "law"), "law", "law", defArgs s_law, defBody s_law, defScope s_law, [], []⟩
def fnL : List He5.DefA := [dd_is_integer, dd_is_cell, dd_is_line, dd_is_table, dd_need_table, dd_need_line, dd_copy_of, dd_with_line, dd_without_line, dd__law_feed, dd__law_pick, dd__law_lengths, dd__law_rows, dd__law_put_right, dd__law_take_right, dd_law]
def faL : List FaX := (([(fun K => (He.Fa.glo "is_integer").ok K), (fun K => (He.Fa.glo "is_cell").ok K), (fun K => (He.Fa.glo "is_line").ok K), (fun K => (He.Fa.glo "is_table").ok K), (fun K => (He.Fa.glo "need_table").ok K), (fun K => (He.Fa.glo "need_line").ok K), (fun K => (He.Fa.glo "copy_of").ok K), (fun K => (He.Fa.glo "with_line").ok K), (fun K => (He.Fa.glo "without_line").ok K), (fun K => (He.Fa.glo "_law_feed").ok K), (fun K => (He.Fa.glo "_law_pick").ok K), (fun K => (He.Fa.glo "_law_lengths").ok K), (fun K => (He.Fa.glo "_law_rows").ok K), (fun K => (He.Fa.glo "_law_put_right").ok K), (fun K => (He.Fa.glo "_law_take_right").ok K), (fun K => (He.Fa.glo "law").ok K), (fun K => (He.Fa.free "int").ok K), (fun K => (He.Fa.free "isinstance").ok K), (fun K => (He.Fa.free "bool").ok K), (fun K => (He.Fa.int "MOST_CELL" 1000000000000000000000000000000).ok K)] : List FaX) ++ ([(fun K => (He.Fa.free "list").ok K), (fun K => (He.Fa.free "len").ok K), (fun K => (He.Fa.int "MOST_CELLS" 12).ok K), (fun K => (He.Fa.free "all").ok K), (fun K => (He.Fa.int "MOST_LINES" 60).ok K), (fun K => (He.Fa.glo "InvalidTable").ok K), (fun K => (He.Fa.exc "InvalidTable").ok K), (fun K => (He.Fa.glo "InvalidLine").ok K), (fun K => (He.Fa.exc "InvalidLine").ok K), (fun K => (He.Fa.glo "InvalidCell").ok K), (fun K => (He.Fa.exc "InvalidCell").ok K), (fun K => (He.Fa.free "abs").ok K), (fun K => (He.Fa.free "max").ok K), (fun K => (He.Fa.free "range").ok K), (fun K => (He.Fa.free "min").ok K), (fun K => (He.Fa.free "repr").ok K)] : List FaX))
abbrev RR : PySem.W.OpenRow := PySem.W.OpenLaw.row PySem.Challenge.rw_runtabs_k33_lines_put_in_and_taken_out
abbrev hkL : PySem.W.Hook := hookX 4 faL fnL
def obL (s : PySem.W.SharedT) : He.AlD := obsXG 4 faL fnL (HandSHeadRun.getT s)
theorem obL_eq (s : PySem.W.SharedT) : obL s = hkL.obs s.abs := obsXG_eq (HandSHeadRun.getT_eq s)
def othersL : List Str := ((["PageError", "InvalidTable", "InvalidLine", "InvalidCell", "MOST_CELL", "is_integer", "is_cell", "MOST_LINES", "MOST_CELLS", "is_line", "is_table", "need_table", "need_line", "copy_of", "with_line", "without_line", "_law_feed", "_law_pick", "_law_lengths", "_law_rows"] : List Str) ++ (["_law_look", "_law_put_right", "_law_take_right"] : List Str))
theorem runL (w : World) : HandSHeadRun.RunEq RR (PySem.W.view RR.prog [28]) hkL obL 12000 othersL w := by
  intro os
  kernel_rfl
end DL
namespace DL
open PySem PySem.Spec PyProof.Rows L2
abbrev GREAT : Int := 1000000000000000000000000000000
abbrev MOST : Int := GREAT
def inB (v lo hi : Int) : Bool := decide (lo ≤ v) && decide (v ≤ hi)
def sp_is_integer : DSpec := fun ds S Φ _ => ∃ v lo hi, ds = [.int v, .int lo, .int hi] ∧ Φ S (.bl (inB v lo hi))
def sp_is_cell : DSpec := fun ds S Φ _ => ∃ v, ds = [.int v] ∧ Φ S (.bl (inB v 0 GREAT))
structure RowOk (r : List Int) : Prop where
  lo : 1 ≤ r.length
  hi : r.length ≤ 12
  at_ : ∀ x ∈ r, 0 ≤ x ∧ x ≤ GREAT
structure TabOk (t : List (List Int)) : Prop where
  lo : 1 ≤ t.length
  hi : t.length ≤ 60
  row : ∀ r ∈ t, RowOk r
def sp_is_line : DSpec := fun ds S Φ _ => ∃ d r, ds = [d] ∧ asL S d = some (r.map D.int) ∧ RowOk r ∧ Φ S (.bl true)
def sp_is_table : DSpec := fun ds S Φ _ => ∃ d t, ds = [d] ∧ TabS S d t ∧ TabOk t ∧ Φ S (.bl true)
def sp_need_table : DSpec := fun ds S Φ _ => ∃ d t, ds = [d] ∧ TabS S d t ∧ TabOk t ∧ Φ S .non
def sp_need_line : DSpec := fun ds S Φ _ => ∃ d t, ∃ i : Nat, ds = [d, .int i] ∧ TabS S d t ∧ i < t.length ∧ Φ S .non
def ownsD (n m : Nat) : List D := (List.range m).map fun j => D.own (n + j)
def cellsD (t : List (List Int)) : Sto := t.map fun r => Cell.lst (r.map D.int)
/-- a table, cell of cells, behind S -/
def newTab (t : List (List Int)) (S : Sto) (Φ : KD) : Prop := Φ (S ++ cellsD t ++ [.lst (ownsD S.length t.length)]) (.own (S.length + t.length))
def sp_copy_of : DSpec := fun ds S Φ _ => ∃ d t, ds = [d] ∧ TabS S d t ∧ t.length ≤ 100 ∧ newTab t S Φ
def putAt (t : List (List Int)) (i : Nat) (r : List Int) : List (List Int) := t.take i ++ r :: t.drop i
def cutAt (t : List (List Int)) (i : Nat) : List (List Int) := t.take i ++ t.drop (i + 1)
def sp_with_line : DSpec := fun ds S Φ _ => ∃ d t, ∃ i : Nat, ∃ e r, ds = [d, .int i, e] ∧ TabS S d t ∧ TabOk t ∧ i ≤ t.length ∧ t.length < 60 ∧ asL S e = some (r.map D.int) ∧ RowOk r ∧ newTab (putAt t i r) S Φ
def sp_without_line : DSpec := fun ds S Φ _ => ∃ d t, ∃ i : Nat, ds = [d, .int i] ∧ TabS S d t ∧ TabOk t ∧ i < t.length ∧ 1 < t.length ∧ newTab (cutAt t i) S Φ
/-- a table in cells: the outer list at b, the rows at hs -/
structure TabH (S : Sto) (b : Nat) (hs : List Nat) (t : List (List Int)) : Prop where
  out : S[b]? = some (.lst (hs.map D.own))
  len : hs.length = t.length
  row : ∀ i (h1 : i < hs.length) (h2 : i < t.length), S[hs[i]]? = some (.lst ((t[i]).map D.int))
  nd : hs.Nodup
  nb : b ∉ hs
theorem rows_h {S : Sto} : ∀ {hs : List Nat} {t : List (List Int)}, hs.length = t.length → (∀ i (h1 : i < hs.length) (h2 : i < t.length), S[hs[i]]? = some (.lst ((t[i]).map D.int))) → RowsS S (hs.map D.own) t
  | [], [], _, _ => .nil
  | [], _ :: _, h, _ => by simp at h
  | _ :: _, [], h, _ => by simp at h
  | a :: hs, r :: t, h, hr => .cons (asL_at' (hr 0 (by simp) (by simp))) (rows_h (by simpa using h) fun i h1 h2 => by
      have := hr (i + 1) (by simpa using h1) (by simpa using h2)
      simpa using this)
theorem TabH.tabS {S : Sto} {b : Nat} {hs : List Nat} {t : List (List Int)} (h : TabH S b hs t) : TabS S (.own b) t := ⟨_, asL_at' h.out, rows_h h.len h.row⟩
/-- all cells but h are as they were -/
def Kp (h : Nat) (S S' : Sto) : Prop := ∀ i c, i ≠ h → S[i]? = some c → S'[i]? = some c
theorem Kp.trans {h : Nat} {S S1 S2 : Sto} (a : Kp h S S1) (b : Kp h S1 S2) : Kp h S S2 := fun i c n e => b i c n (a i c n e)
theorem Kp.app {h : Nat} {S S1 : Sto} (a : Kp h S S1) (T : Sto) : Kp h S (S1 ++ T) := fun i c n e => get_app (a i c n e)
theorem Fs.kp {h n : Nat} {S S' : Sto} (f : Fs h n S S') : Kp h S S' := fun i c ne e => f.get e (Ne.symm ne)
theorem Kp.len {h : Nat} {S S' : Sto} (a : Kp h S S') (hl : S'.length ≥ S.length) : S.length ≤ S'.length := hl
theorem TabH.kp {h : Nat} {S S' : Sto} {b : Nat} {hs : List Nat} {t : List (List Int)} (k : TabH S b hs t) (a : Kp h S S') (hb : b ≠ h) (hn : h ∉ hs) : TabH S' b hs t :=
  ⟨a _ _ hb k.out, k.len, fun i h1 h2 => a _ _ (fun e => hn (e ▸ List.getElem_mem h1)) (k.row i h1 h2), k.nd, k.nb⟩
theorem TabH.app {S T : Sto} {b : Nat} {hs : List Nat} {t : List (List Int)} (k : TabH S b hs t) : TabH (S ++ T) b hs t := ⟨get_app k.out, k.len, fun i h1 h2 => get_app (k.row i h1 h2), k.nd, k.nb⟩
theorem TabH.set {S : Sto} {b i : Nat} {hs : List Nat} {t : List (List Int)} {c : Cell} (k : TabH S b hs t) (hb : i ≠ b) (hn : i ∉ hs) : TabH (S.set i c) b hs t :=
  ⟨by rw [List.getElem?_set_ne hb]; exact k.out, k.len, fun j h1 h2 => by have hm := List.getElem_mem h1; rw [List.getElem?_set_ne (fun e => hn (by rw [e]; exact hm))]; exact k.row j h1 h2, k.nd, k.nb⟩
theorem TabH.lt {S : Sto} {b : Nat} {hs : List Nat} {t : List (List Int)} (k : TabH S b hs t) : b < S.length ∧ ∀ a ∈ hs, a < S.length := by
  refine ⟨(List.getElem?_eq_some_iff.mp k.out).1, fun a ha => ?_⟩
  obtain ⟨i, hi, rfl⟩ := List.getElem_of_mem ha
  exact (List.getElem?_eq_some_iff.mp (k.row i hi (by rw [← k.len]; exact hi))).1
structure Frm (A : List Nat) (S S' : Sto) : Prop where
  len : S.length ≤ S'.length
  get : ∀ i c, i ∉ A → S[i]? = some c → S'[i]? = some c
def sp__law_feed : DSpec := fun ds S Φ _ => ∃ ns : List Int, ∃ k : Nat, ds = [.sq (ns.map D.int), .int k] ∧ k < 2 ^ 20 ∧ ∀ c, FdC 0 c → Φ (S ++ [c]) (.own S.length)
def sp__law_pick : DSpec := fun ds S Φ _ => ∃ h n m, ds = [.own h, .int m] ∧ FdAt S h n ∧ n < 2 ^ 100 ∧ 0 < m ∧ m < 2 ^ 200 ∧ ∀ S' v, Fs h (n + 1) S S' → 0 ≤ v → v < m → Φ S' (.int v)
def sp__law_lengths : DSpec := fun ds S Φ _ => ∃ h n, ∃ a : Nat, ∃ m : Int, ds = [.own h, .int a, .int m] ∧ FdAt S h n ∧ n < 2 ^ 95 ∧ a ≤ 1000 ∧ 0 < m ∧ m < 2 ^ 100 ∧ ∀ S' (ls : List Int), Fs h (n + 10000) S S' → ls.length = a → (∀ x ∈ ls, 1 ≤ x ∧ x ≤ m) → Φ S' (rowD ls)
def sp__law_rows : DSpec := fun ds S Φ _ => ∃ h n, ∃ a b : Nat, ds = [.own h, .int a, .int b] ∧ FdAt S h n ∧ n < 2 ^ 90 ∧ 0 < a ∧ a ≤ 1000 ∧ 0 < b ∧ b ≤ 1000 ∧ ∀ S' (t : List (List Int)), Fs h (n + 10000000) S S' → 1 ≤ t.length → t.length ≤ a → (∀ r ∈ t, 1 ≤ r.length ∧ r.length ≤ b ∧ ∀ x ∈ r, 0 ≤ x ∧ x ≤ MOST) → Φ S' (tabD t)
def sp__law_put_right : DSpec := fun ds S Φ _ => ∃ d e t r, ∃ i : Nat, ds = [d, .int i, e] ∧ TabS S d t ∧ TabOk t ∧ t.length < 60 ∧ i ≤ t.length ∧ asL S e = some (r.map D.int) ∧ RowOk r ∧ ∀ S', Frm [] S S' → Φ S' (.bl true)
def sp__law_take_right : DSpec := fun ds S Φ _ => ∃ d t, ∃ i : Nat, ds = [d, .int i] ∧ TabS S d t ∧ TabOk t ∧ i < t.length ∧ 1 < t.length ∧ ∀ S', Frm [] S S' → Φ S' (.bl true)
def sp_law : DSpec := fun ds S Φ _ => ∃ ns : List Int, ds = [.sq (ns.map D.int)] ∧ ∀ S, Φ S (.bl true)
abbrev N_is_integer : List Str := ["thing", "least", "most"]
abbrev P_is_integer : List Str := ["thing", "least", "most"]
abbrev N_is_cell : List Str := ["thing"]
abbrev P_is_cell : List Str := ["thing"]
abbrev N_is_line : List Str := ["thing", "cell"]
abbrev P_is_line : List Str := ["thing"]
abbrev N_is_table : List Str := ["thing", "line"]
abbrev P_is_table : List Str := ["thing"]
abbrev N_need_table : List Str := ["table"]
abbrev P_need_table : List Str := ["table"]
abbrev N_need_line : List Str := ["table", "line"]
abbrev P_need_line : List Str := ["table", "line"]
abbrev N_copy_of : List Str := ["table", "cells"]
abbrev P_copy_of : List Str := ["table"]
abbrev N_with_line : List Str := ["table", "line", "cells"]
abbrev P_with_line : List Str := ["table", "line", "cells"]
abbrev N_without_line : List Str := ["table", "line"]
abbrev P_without_line : List Str := ["table", "line"]
abbrev N__law_feed : List Str := ["_law_script", "_law_k", "_law_given"]
abbrev P__law_feed : List Str := ["_law_script", "_law_k"]
abbrev N__law_pick : List Str := ["_law_feed_here", "_law_wide", "_law_digit", "_law_mixed"]
abbrev P__law_pick : List Str := ["_law_feed_here", "_law_wide"]
abbrev N__law_lengths : List Str := ["_law_feed_here", "_law_many", "_law_most", "_law_way", "_law_here", "_law_found", "_law_at", "_law_step", "_law_kept", "_law_some"]
abbrev P__law_lengths : List Str := ["_law_feed_here", "_law_many", "_law_most"]
abbrev N__law_rows : List Str := ["_law_feed_here", "_law_most", "_law_widest", "_law_many", "_law_wide", "_law_found", "_law_size", "_law_at"]
abbrev P__law_rows : List Str := ["_law_feed_here", "_law_most", "_law_widest"]
abbrev N__law_put_right : List Str := ["_law_rows_here", "_law_spot", "_law_row", "_law_kept", "_law_due", "_law_told", "_law_back", "_law_one"]
abbrev P__law_put_right : List Str := ["_law_rows_here", "_law_spot", "_law_row"]
abbrev N__law_take_right : List Str := ["_law_rows_here", "_law_spot", "_law_kept", "_law_due", "_law_told", "_law_one"]
abbrev P__law_take_right : List Str := ["_law_rows_here", "_law_spot"]
abbrev N_law : List Str := ["_law_script", "_law_k", "_law_feed_here", "_law_rows_here", "_law_row", "_law_turn", "_law_spot", "_law_twice"]
abbrev P_law : List Str := ["_law_script"]
def T_is_integer : TSd :=
  (sRet (dAnd (dCB cIsi (lCons (dVar 0) (lCons (dC (.ty "int")) lNil))) (dAnd (dNot (dCB cIsi (lCons (dVar 0) (lCons (dC (.ty "bool")) lNil)))) (dChain dLe dLe (dVar 1) (dVar 0) (dVar 2)))))
def T_is_cell : TSd :=
  (sRet (dCall sp_is_integer (lCons (dVar 0) (lCons (dC (.int 0)) (lCons (dC (.int 1000000000000000000000000000000)) lNil)))))
def T_is_line : TSd :=
  (sRet (dAnd (dCB cIsi (lCons (dVar 0) (lCons (dC (.ty "list")) lNil))) (dAnd (dChain dLe dLe (dC (.int 1)) (dCB cLen (lCons (dVar 0) lNil)) (dC (.int 12))) (dCB cAll (lCons (dLc (iSeq (dVar 0)) (nmG 1) bYes (dCall sp_is_cell (lCons (dVar 1) lNil)) [1] finF) lNil)))))
def T_is_table : TSd :=
  (sRet (dAnd (dCB cIsi (lCons (dVar 0) (lCons (dC (.ty "list")) lNil))) (dAnd (dChain dLe dLe (dC (.int 1)) (dCB cLen (lCons (dVar 0) lNil)) (dC (.int 60))) (dCB cAll (lCons (dLc (iSeq (dVar 0)) (nmG 1) bYes (dCall sp_is_line (lCons (dVar 1) lNil)) [1] finF) lNil)))))
def T_need_table (C_InvalidTable : Addr) : TSd :=
  (sIf (bNot (bOf (dCall sp_is_table (lCons (dVar 0) lNil))))
  (sRaise C_InvalidTable)
  sNext)
def T_need_line (C_InvalidLine : Addr) : TSd :=
  (sIf (bNot (bOf (dCall sp_is_integer (lCons (dVar 1) (lCons (dC (.int 0)) (lCons (dOp dSub (dCB cLen (lCons (dVar 0) lNil)) (dC (.int 1))) lNil))))))
  (sRaise C_InvalidLine)
  sNext)
def T_copy_of : TSd :=
  (sRet (dLc (iSeq (dVar 0)) (nmG 1) bYes (dCB cListO (lCons (dVar 1) lNil)) [1] finO))
def T_with_line (C_InvalidLine C_InvalidCell C_InvalidTable : Addr) : TSd :=
  (sSeq (sDrop (dCall sp_need_table (lCons (dVar 0) lNil)))
  (sSeq (sIf (bNot (bOf (dChain dLe dLe (dC (.int 0)) (dVar 1) (dCB cLen (lCons (dVar 0) lNil)))))
  (sRaise C_InvalidLine)
  sNext)
  (sSeq (sIf (bNot (bOf (dCall sp_is_line (lCons (dVar 2) lNil))))
  (sRaise C_InvalidCell)
  sNext)
  (sSeq (sIf (bOf (dOp dEq (dCB cLen (lCons (dVar 0) lNil)) (dC (.int 60))))
  (sRaise C_InvalidTable)
  sNext)
  (sRet (dCall sp_copy_of (lCons (dOp dAdd (dOp dAdd (dSl dSlL (dVar 0) oNone (oSome (dVar 1))) (dLst (lCons (dVar 2) lNil))) (dSl dSlL (dVar 0) (oSome (dVar 1)) oNone)) lNil)))))))
def T_without_line (C_InvalidTable : Addr) : TSd :=
  (sSeq (sDrop (dCall sp_need_table (lCons (dVar 0) lNil)))
  (sSeq (sDrop (dCall sp_need_line (lCons (dVar 0) (lCons (dVar 1) lNil))))
  (sSeq (sIf (bOf (dOp dEq (dCB cLen (lCons (dVar 0) lNil)) (dC (.int 1))))
  (sRaise C_InvalidTable)
  sNext)
  (sRet (dCall sp_copy_of (lCons (dOp dAdd (dSl dSlL (dVar 0) oNone (oSome (dVar 1))) (dSl dSlL (dVar 0) (oSome (dOp dAdd (dVar 1) (dC (.int 1)))) oNone)) lNil))))))
def T__law_feed : TSd :=
  (sSeq (sAsg (dJ (dIf (bOf (dOp dLt (dVar 1) (dCB cLen (lCons (dVar 0) lNil)))) (dCB cAbs (lCons (dOp dIx (dVar 0) (dVar 1)) lNil)) (dC (.int 0)))) (nmG 2))
  (sRet (dLstO (lCons (dCB cMax2 (lCons (dC (.int 0)) (lCons (dOp dSub (dVar 2) (dOp dPow (dC (.int 10)) (dC (.int 18)))) lNil))) (lCons (dOp dAdd (dOp dAdd (dOp dMul (dOp dMod (dVar 2) (dOp dAdd (dOp dPow (dC (.int 10)) (dC (.int 36))) (dC (.int 67)))) (dC (.int 128))) (dOp dMul (dC (.int 7)) (dVar 1))) (dC (.int 9))) (lCons (dC (.int 0)) lNil))))))
def T__law_pick : TSd :=
  (sSeq (sIf (bOf (dOp dGt (dOp dIx (dVar 0) (dC (.int 0))) (dC (.int 0))))
  (sSeq (sAsg (dOp dMod (dOp dIx (dVar 0) (dC (.int 0))) (dVar 1)) (nmG 2))
  (sSeq (sAsg (dOp dDiv (dOp dIx (dVar 0) (dC (.int 0))) (dVar 1)) (subG dSetO (dVar 0) (dC (.int 0))))
  (sRet (dVar 2))))
  sNext)
  (sSeq (sAsg (dOp dAdd (dOp dIx (dVar 0) (dC (.int 2))) (dC (.int 1))) (subG dSetO (dVar 0) (dC (.int 2))))
  (sSeq (sAsg (dOp dMod (dOp dPow (dOp dAdd (dOp dIx (dVar 0) (dC (.int 1))) (dOp dMul (dC (.int 49979687)) (dOp dIx (dVar 0) (dC (.int 2))))) (dC (.int 3))) (dOp dAdd (dOp dPow (dC (.int 10)) (dC (.int 41))) (dC (.int 37)))) (nmG 3))
  (sSeq (sAsg (dOp dMod (dOp dPow (dOp dAdd (dVar 3) (dOp dMul (dC (.int 32452867)) (dOp dIx (dVar 0) (dC (.int 2))))) (dC (.int 5))) (dOp dAdd (dOp dPow (dC (.int 10)) (dC (.int 39))) (dC (.int 3)))) (nmG 3))
  (sRet (dOp dMod (dOp dDiv (dVar 3) (dC (.int 1048583))) (dVar 1)))))))
def T__law_lengths : TSd :=
  (sSeq (sPar3 3 4 5 (lCons (dCall sp__law_pick (lCons (dVar 0) (lCons (dC (.int 5)) lNil))) (lCons (dOp dAdd (dC (.int 1)) (dCall sp__law_pick (lCons (dVar 0) (lCons (dVar 2) lNil)))) (lCons (dLstO lNil) lNil))))
  (sSeq (sFor (iRg1 (lCons (dVar 1) lNil)) (nmG 6)
  (sSeq (sAsg (dOp dSub (dOp dAdd (dVar 4) (dCall sp__law_pick (lCons (dVar 0) (lCons (dC (.int 3)) lNil)))) (dC (.int 1))) (nmG 7))
  (sSeq (sAsg (dJ (dIf (bOf (dOp dGt (dCall sp__law_pick (lCons (dVar 0) (lCons (dC (.int 4)) lNil))) (dC (.int 0)))) (dVar 4) (dOp dAdd (dC (.int 1)) (dCall sp__law_pick (lCons (dVar 0) (lCons (dVar 2) lNil)))))) (nmG 8))
  (sSeq (sAsg (dLst (lCons (dOp dAdd (dC (.int 1)) (dCall sp__law_pick (lCons (dVar 0) (lCons (dVar 2) lNil)))) (lCons (dVar 8) (lCons (dCB cMax2 (lCons (dC (.int 1)) (lCons (dCB cMin2 (lCons (dVar 2) (lCons (dVar 7) lNil))) lNil))) (lCons (dVar 2) (lCons (dOp dAdd (dC (.int 1)) (dCall sp__law_pick (lCons (dVar 0) (lCons (dCB cMin2 (lCons (dC (.int 2)) (lCons (dVar 2) lNil))) lNil)))) lNil)))))) (nmG 9))
  (sSeq (sAsg (dOp dIx (dVar 9) (dVar 3)) (nmG 4))
  (sDrop (dBM mAppend (dVar 5) (lCons (dVar 4) lNil))))))))
  (sRet (dFz (dVar 5)))))
def T__law_rows : TSd :=
  (sSeq (sAsg (dOp dIx (dLst (lCons (dOp dAdd (dC (.int 1)) (dCall sp__law_pick (lCons (dVar 0) (lCons (dVar 1) lNil)))) (lCons (dOp dAdd (dC (.int 1)) (dCall sp__law_pick (lCons (dVar 0) (lCons (dCB cMin2 (lCons (dVar 1) (lCons (dC (.int 4)) lNil))) lNil)))) (lCons (dVar 1) lNil)))) (dCall sp__law_pick (lCons (dVar 0) (lCons (dC (.int 3)) lNil)))) (nmG 3))
  (sSeq (sAsg (dOp dIx (dLst (lCons (dC (.int 2)) (lCons (dC (.int 4)) (lCons (dC (.int 10)) (lCons (dC (.int 100)) (lCons (dOp dAdd (dOp dPow (dC (.int 10)) (dC (.int 30))) (dC (.int 1))) lNil)))))) (dCall sp__law_pick (lCons (dVar 0) (lCons (dC (.int 5)) lNil)))) (nmG 4))
  (sSeq (sAsg (dLstO lNil) (nmG 5))
  (sSeq (sFor (iSeq (dCall sp__law_lengths (lCons (dVar 0) (lCons (dVar 3) (lCons (dVar 2) lNil))))) (nmG 6)
  (sDrop (dBM mAppend (dVar 5) (lCons (dLc (iRg1 (lCons (dVar 6) lNil)) (nmG 7) bYes (dCall sp__law_pick (lCons (dVar 0) (lCons (dVar 4) lNil))) [7] finF) lNil))))
  (sRet (dFz (dVar 5)))))))
def T__law_put_right : TSd :=
  (sSeq (sPar 3 4 (lCons (dCB cRepr (lCons (dLst (lCons (dVar 0) (lCons (dVar 2) lNil))) lNil)) (lCons (dOp dAdd (dOp dAdd (dSl dSlL (dVar 0) oNone (oSome (dVar 1))) (dLst (lCons (dVar 2) lNil))) (dSl dSlL (dVar 0) (oSome (dVar 1)) oNone)) lNil)))
  (sSeq (sAsg (dLst (lCons (dCall sp_with_line (lCons (dVar 0) (lCons (dVar 1) (lCons (dVar 2) lNil)))) (lCons (dCallK 0 3 sp_with_line (fun as es => pick [2, 1, 0] as es) lNil (lCons (dVar 2) (lCons (dVar 1) (lCons (dVar 0) lNil)))) lNil))) (nmG 5))
  (sSeq (sIf (bOf (dOp dNeF (dCB cRepr (lCons (dVar 5) lNil)) (dCB cRepr (lCons (dLst (lCons (dVar 4) (lCons (dVar 4) lNil))) lNil))))
  (sRet (dC (.bl false)))
  sNext)
  (sSeq (sAsg (dCallK 0 2 sp_without_line (fun as es => pick [0, 1] as es) lNil (lCons (dOp dIx (dVar 5) (dC (.int 0))) (lCons (dVar 1) lNil))) (nmG 6))
  (sSeq (sIf (bOf (dOp dNeF (dCB cRepr (lCons (dVar 6) lNil)) (dCB cRepr (lCons (dVar 0) lNil))))
  (sRet (dC (.bl false)))
  sNext)
  (sSeq (sFor (iSeq (dOp dAdd (dOp dIx (dVar 5) (dC (.int 0))) (dVar 6))) (nmG 7)
  (sDrop (dBM mAppend (dVar 7) (lCons (dC (.int 0)) lNil))))
  (sRet (dAnd (dOp dEqF (dCB cRepr (lCons (dOp dIx (dVar 5) (dC (.int 1))) lNil)) (dCB cRepr (lCons (dVar 4) lNil))) (dOp dEqF (dCB cRepr (lCons (dLst (lCons (dVar 0) (lCons (dVar 2) lNil))) lNil)) (dVar 3))))))))))
def T__law_take_right : TSd :=
  (sSeq (sPar 2 3 (lCons (dCB cRepr (lCons (dVar 0) lNil)) (lCons (dOp dAdd (dSl dSlL (dVar 0) oNone (oSome (dVar 1))) (dSl dSlL (dVar 0) (oSome (dOp dAdd (dVar 1) (dC (.int 1)))) oNone)) lNil)))
  (sSeq (sAsg (dLst (lCons (dCall sp_without_line (lCons (dVar 0) (lCons (dVar 1) lNil))) (lCons (dCallK 0 2 sp_without_line (fun as es => pick [1, 0] as es) lNil (lCons (dVar 1) (lCons (dVar 0) lNil))) lNil))) (nmG 4))
  (sSeq (sIf (bOf (dOp dNeF (dCB cRepr (lCons (dVar 4) lNil)) (dCB cRepr (lCons (dLst (lCons (dVar 3) (lCons (dVar 3) lNil))) lNil))))
  (sRet (dC (.bl false)))
  sNext)
  (sSeq (sFor (iSeq (dOp dIx (dVar 4) (dC (.int 0)))) (nmG 5)
  (sDrop (dBM0 mClear (dVar 5))))
  (sRet (dAnd (dOp dEqF (dCB cRepr (lCons (dOp dIx (dVar 4) (dC (.int 1))) lNil)) (dCB cRepr (lCons (dVar 3) lNil))) (dOp dEqF (dCB cRepr (lCons (dVar 0) lNil)) (dVar 2))))))))
def T_law : TSd :=
  (sSeq (sFor (iRg1 (lCons (dCB cMax2 (lCons (dC (.int 1)) (lCons (dCB cMin2 (lCons (dC (.int 2)) (lCons (dCB cLen (lCons (dVar 0) lNil)) lNil))) lNil))) lNil)) (nmG 1)
  (sSeq (sAsg (dCall sp__law_feed (lCons (dVar 0) (lCons (dVar 1) lNil))) (nmG 2))
  (sSeq (sPar 3 4 (lCons (dCall sp__law_rows (lCons (dVar 2) (lCons (dC (.int 60)) (lCons (dC (.int 12)) lNil)))) (lCons (dOp dIx (dCall sp__law_rows (lCons (dVar 2) (lCons (dC (.int 1)) (lCons (dC (.int 12)) lNil)))) (dC (.int 0))) lNil)))
  (sFor (iRg1 (lCons (dOp dIx (dLst (lCons (dC (.int 6)) (lCons (dC (.int 40)) lNil))) (dCB cInt (lCons (dOp dEq (dVar 1) (dC (.int 0))) lNil))) lNil)) (nmG 5)
  (sSeq (sAsg (dOp dIx (dLst (lCons (dCall sp__law_pick (lCons (dVar 2) (lCons (dOp dAdd (dCB cLen (lCons (dVar 3) lNil)) (dC (.int 1))) lNil))) (lCons (dC (.int 0)) (lCons (dCB cLen (lCons (dVar 3) lNil)) lNil)))) (dCall sp__law_pick (lCons (dVar 2) (lCons (dC (.int 3)) lNil)))) (nmG 6))
  (sSeq (sIf (bAnd (bOf (dOp dLt (dCB cLen (lCons (dVar 3) lNil)) (dC (.int 60)))) (bNot (bOf (dCall sp__law_put_right (lCons (dVar 3) (lCons (dVar 6) (lCons (dVar 4) lNil)))))))
  (sRet (dC (.bl false)))
  sNext)
  (sSeq (sIf (bAnd (bOf (dOp dLt (dCB cLen (lCons (dVar 3) lNil)) (dC (.int 60)))) (bAnd (bOf (dOp dEqF (dVar 5) (dC (.int 0)))) (bNot (bOf (dCall sp__law_put_right (lCons (dVar 3) (lCons (dVar 6) (lCons (dOp dIx (dVar 3) (dC (.int 0))) lNil))))))))
  (sRet (dC (.bl false)))
  sNext)
  (sSeq (sIf (bAnd (bOf (dOp dGt (dCB cLen (lCons (dVar 3) lNil)) (dC (.int 1)))) (bNot (bOf (dCall sp__law_take_right (lCons (dVar 3) (lCons (dCB cMin2 (lCons (dVar 6) (lCons (dOp dSub (dCB cLen (lCons (dVar 3) lNil)) (dC (.int 1))) lNil))) lNil))))))
  (sRet (dC (.bl false)))
  sNext)
  (sSeq (sJ (sIf (bOr (bOf (dOp dEqF (dCB cLen (lCons (dVar 3) lNil)) (dC (.int 60)))) (bAnd (bOf (dOp dGt (dCB cLen (lCons (dVar 3) lNil)) (dC (.int 1)))) (bOf (dOp dEqF (dCall sp__law_pick (lCons (dVar 2) (lCons (dC (.int 2)) lNil))) (dC (.int 0))))))
  (sAsg (dCall sp_without_line (lCons (dVar 3) (lCons (dCB cMin2 (lCons (dVar 6) (lCons (dOp dSub (dCB cLen (lCons (dVar 3) lNil)) (dC (.int 1))) lNil))) lNil))) (nmG 3))
  (sAsg (dCall sp_with_line (lCons (dVar 3) (lCons (dVar 6) (lCons (dVar 4) lNil)))) (nmG 3))))
  (sAsg (dOp dIx (dCall sp__law_rows (lCons (dVar 2) (lCons (dC (.int 1)) (lCons (dC (.int 12)) lNil)))) (dC (.int 0))) (nmG 4)))))))))))
  (sSeq (sAsg (dLst (lCons (dC (.int 4)) (lCons (dC (.int 0)) lNil))) (nmG 4))
  (sSeq (sAsg (dCall sp_with_line (lCons (dCall sp_with_line (lCons (dLst (lCons (dLst (lCons (dC (.int 1)) lNil)) lNil)) (lCons (dC (.int 0)) (lCons (dVar 4) lNil)))) (lCons (dC (.int 0)) (lCons (dVar 4) lNil)))) (nmG 7))
  (sSeq (sDrop (dBM mAppend (dOp dIx (dVar 7) (dC (.int 0))) (lCons (dC (.int 5)) lNil)))
  (sRet (dAnd (dChain dEq dEq (dOp dIx (dVar 7) (dC (.int 1))) (dVar 4) (dLst (lCons (dC (.int 4)) (lCons (dC (.int 0)) lNil)))) (dOp dEq (dCall sp_without_line (lCons (dLst (lCons (dLst (lCons (dC (.int 1)) lNil)) (lCons (dLst (lCons (dC (.int 2)) (lCons (dC (.int 3)) lNil))) lNil))) (lCons (dC (.int 0)) lNil))) (dLst (lCons (dLst (lCons (dC (.int 2)) (lCons (dC (.int 3)) lNil))) lNil)))))))))
local macro_rules | `(tactic| walk_at "dl") => `(tactic| ((try simp only [gstart, gwipe, List.set_set, List.map_cons, List.map_nil, List.length_cons, List.length_nil, rep_0, rep_s, List.cons_append, List.nil_append, List.set_cons_zero, List.set_cons_succ, Nat.reduceAdd, Nat.reduceSub, Nat.zero_add, Nat.add_zero]); (try simp only [↓dv0, ↓dv1, ↓dv2, ↓dv3, ↓dv4, ↓dv5, ↓dv6, ↓dv7, ↓dv8, ↓dv9, ↓dv10, ↓dv11, ↓dv12, ↓dv13, ↓dv14, ↓dv15, ↓dv16, ↓dv17, ↓dv18, ↓dv19, ↓dv20, ↓dv21, ↓dv22, ↓dv23, ↓dv24, ↓dv25, ↓dv26, ↓dv27, ↓dv28, ↓dv29, ↓dv30, ↓dv31, ↓dv32, ↓dv33, ↓dv34, ↓dv35, ↓dv36, ↓dv37, ↓dv38, ↓dv39, ↓nm0, ↓nm1, ↓nm2, ↓nm3, ↓nm4, ↓nm5, ↓nm6, ↓nm7, ↓nm8, ↓nm9, ↓nm10, ↓nm11, ↓nm12, ↓nm13, ↓nm14, ↓nm15, ↓nm16, ↓nm17, ↓nm18, ↓nm19, ↓nm20, ↓nm21, ↓nm22, ↓nm23, ↓nm24, ↓nm25, ↓nm26, ↓nm27, ↓nm28, ↓nm29, ↓nm30, ↓nm31, ↓nm32, ↓nm33, ↓nm34, ↓nm35, ↓nm36, ↓nm37, ↓nm38, ↓nm39, ↓sPar_n, ↓sPar3_n, ↓sAug_n, ↓reduceIte, List.set_set, ↓sNext_e, ↓sSeq_e, ↓sBrk_e, ↓sCnt_e, ↓sDrop_e, ↓sRet_e, ↓sRetN_e, ↓sIf_e, ↓sAsg_e, ↓sRaise_e, ↓nmG_e, ↓tupG_e, ↓gsNil_e, ↓gsCons_e, ↓subG_e, ↓dC_e, ↓dOp_e, ↓dUn_e, ↓dChain_e, ↓bOf_e, ↓bAnd_e, ↓bOr_e, ↓bNot_e, ↓bYes_e, ↓dAnd_e, ↓dOr_e, ↓dNot_e, ↓dIf_e, ↓lNil_e, ↓lCons_e, ↓dLst_e, ↓dLstO_e, ↓dTup_e, ↓dCB_e, ↓dCall_e, ↓dCallK_e, ↓oNone_e, ↓oSome_e, ↓dSl_e, ↓dBM_e, ↓dBM0_e, ↓dFz_e, ↓dFz2_e, ↓d2_e, ↓dLone_e, ↓lStar_e, ↓dCallA_e, ↓dMakeA_e, ↓dMakeV_e, ↓dMethA_e, ↓dCMethA_e, ↓dPropA_e, ↓dFld_e, ↓sFldS_e, ↓dFzI_e, ↓fzID_o, ↓dM1_e, ↓dM0_e, ↓dRev_e, ↓mSplit_s, ↓mUpper_s, ↓exStr, ↓exZ, ↓cStrI_i, ↓cIntS_s, ↓iStrD_e, ↓dEqF_s, ↓dNeF_s, ↓dEqF_i, ↓dNeF_i, ↓dSign_s, ↓sRaiseI_e, ↓dXFld_e, ↓mPop_e, ↓dAddO_l, ↓dAddO_o, ↓dMk0_e, ↓sKeep_e, ↓dCVal_e, ↓dConI_e, ↓cLen_s, ↓dIx_s, ↓dSlS_s, ↓dAdd_s, ↓cTup_l, ↓pkP_e, ↓pkS_e, ↓lstG_e, ↓asI_i, ↓iSeq_e, ↓iTupD_e, ↓iRg1_e, ↓iRg2_e, ↓iZipD_e, ↓iEnumD_e, ↓sFor_e, ↓dLc_e, ↓finF_e, ↓finO_e, ↓fzD_l, ↓fzD_i, ↓fzD_o, ↓fzD2_o, ↓dSetO_e, ↓mAppend_e, ↓mClear_e, ↓mReverse_e, List.map_cons, List.map_nil, List.length_cons, List.length_nil, rep_0, rep_s, List.cons_append, List.nil_append, List.getElem?_cons_zero, List.getElem?_cons_succ, List.set_cons_zero, List.set_cons_succ, Nat.reduceAdd, Nat.reduceSub, Nat.zero_add, Nat.add_zero, ↓exSS, ↓exB, ↓exI, ↓ex1, ↓ex2, ↓ex3, ↓exI1, ↓exI2, ↓exT, ↓exC, ↓exAs, ↓dAdd_i, ↓dAddI_i, ↓dSubI_i, ↓dLRg_e, ↓dLRgO_e, ↓dAdd_l, ↓dSub_i, ↓dMul_i, ↓dMul_l, ↓dMod_i, ↓dDiv_i, ↓dPow_i, ↓dLt_i, ↓dLe_i, ↓dGt_i, ↓dGe_i, ↓uNeg_i, ↓cMax2_i, ↓cMin2_i, ↓cAbs_i, ↓cInt_i, ↓cInt_b, ↓cLen_l, ↓cLen_q, ↓cLen_t, ↓cList_l, ↓cList_q, ↓cList_t, ↓cListO_l, ↓cListO_t, ↓dIx_l, ↓dIx_q, ↓dIx_t, ↓dIx_o', ↓exS, ↓exL, at_1, at_2, at_3, at_4, ix30, ix31, ix32, ↓dSlL_l, ↓dSlL_q, ↓asQ_l, ↓asL_l, at_0, ↓isi_non_int, ↓isi_non_bool, ↓isi_non_str, ↓isi_non_list, ↓isi_non_tuple, ↓isi_non_dict, ↓isi_bl_int, ↓isi_bl_bool, ↓isi_bl_str, ↓isi_bl_list, ↓isi_bl_tuple, ↓isi_bl_dict, ↓isi_int_int, ↓isi_int_bool, ↓isi_int_str, ↓isi_int_list, ↓isi_int_tuple, ↓isi_int_dict, ↓isi_str_int, ↓isi_str_bool, ↓isi_str_str, ↓isi_str_list, ↓isi_str_tuple, ↓isi_str_dict, ↓isi_lst_int, ↓isi_lst_bool, ↓isi_lst_str, ↓isi_lst_list, ↓isi_lst_tuple, ↓isi_lst_dict, ↓isi_sq_int, ↓isi_sq_bool, ↓isi_sq_str, ↓isi_sq_list, ↓isi_sq_tuple, ↓isi_sq_dict, ↓isi_tup_int, ↓isi_tup_bool, ↓isi_tup_str, ↓isi_tup_list, ↓isi_tup_tuple, ↓isi_tup_dict, ↓isi_dic_int, ↓isi_dic_bool, ↓isi_dic_str, ↓isi_dic_list, ↓isi_dic_tuple, ↓isi_dic_dict, if_true, if_false, Bool.not_true, Bool.not_false, true_and, and_true, reduceCtorEq, Bool.true_eq_false, Bool.false_eq_true, ite_true, ite_false, ↓exAny, ↓isLst_l, Int.toNat_natCast, Int.reduceToNat, dVar_e, sPar_e, sPar3_e, sAug_e])))
local macro_rules | `(tactic| walk_at "dls") => `(tactic| ((try simp only [gstart, gwipe, List.set_set, List.map_cons, List.map_nil, List.length_cons, List.length_nil, rep_0, rep_s, List.cons_append, List.nil_append, List.set_cons_zero, List.set_cons_succ, Nat.reduceAdd, Nat.reduceSub, Nat.zero_add, Nat.add_zero]); (try simp only [*, ↓dv0, ↓dv1, ↓dv2, ↓dv3, ↓dv4, ↓dv5, ↓dv6, ↓dv7, ↓dv8, ↓dv9, ↓dv10, ↓dv11, ↓dv12, ↓dv13, ↓dv14, ↓dv15, ↓dv16, ↓dv17, ↓dv18, ↓dv19, ↓dv20, ↓dv21, ↓dv22, ↓dv23, ↓dv24, ↓dv25, ↓dv26, ↓dv27, ↓dv28, ↓dv29, ↓dv30, ↓dv31, ↓dv32, ↓dv33, ↓dv34, ↓dv35, ↓dv36, ↓dv37, ↓dv38, ↓dv39, ↓nm0, ↓nm1, ↓nm2, ↓nm3, ↓nm4, ↓nm5, ↓nm6, ↓nm7, ↓nm8, ↓nm9, ↓nm10, ↓nm11, ↓nm12, ↓nm13, ↓nm14, ↓nm15, ↓nm16, ↓nm17, ↓nm18, ↓nm19, ↓nm20, ↓nm21, ↓nm22, ↓nm23, ↓nm24, ↓nm25, ↓nm26, ↓nm27, ↓nm28, ↓nm29, ↓nm30, ↓nm31, ↓nm32, ↓nm33, ↓nm34, ↓nm35, ↓nm36, ↓nm37, ↓nm38, ↓nm39, ↓sPar_n, ↓sPar3_n, ↓sAug_n, ↓reduceIte, List.set_set, ↓sNext_e, ↓sSeq_e, ↓sBrk_e, ↓sCnt_e, ↓sDrop_e, ↓sRet_e, ↓sRetN_e, ↓sIf_e, ↓sAsg_e, ↓sRaise_e, ↓nmG_e, ↓tupG_e, ↓gsNil_e, ↓gsCons_e, ↓subG_e, ↓dC_e, ↓dOp_e, ↓dUn_e, ↓dChain_e, ↓bOf_e, ↓bAnd_e, ↓bOr_e, ↓bNot_e, ↓bYes_e, ↓dAnd_e, ↓dOr_e, ↓dNot_e, ↓dIf_e, ↓lNil_e, ↓lCons_e, ↓dLst_e, ↓dLstO_e, ↓dTup_e, ↓dCB_e, ↓dCall_e, ↓dCallK_e, ↓oNone_e, ↓oSome_e, ↓dSl_e, ↓dBM_e, ↓dBM0_e, ↓dFz_e, ↓dFz2_e, ↓d2_e, ↓dLone_e, ↓lStar_e, ↓dCallA_e, ↓dMakeA_e, ↓dMakeV_e, ↓dMethA_e, ↓dCMethA_e, ↓dPropA_e, ↓dFld_e, ↓sFldS_e, ↓dFzI_e, ↓fzID_o, ↓dM1_e, ↓dM0_e, ↓dRev_e, ↓mSplit_s, ↓mUpper_s, ↓exStr, ↓exZ, ↓cStrI_i, ↓cIntS_s, ↓iStrD_e, ↓dEqF_s, ↓dNeF_s, ↓dEqF_i, ↓dNeF_i, ↓dSign_s, ↓sRaiseI_e, ↓dXFld_e, ↓mPop_e, ↓dAddO_l, ↓dAddO_o, ↓dMk0_e, ↓sKeep_e, ↓dCVal_e, ↓dConI_e, ↓cLen_s, ↓dIx_s, ↓dSlS_s, ↓dAdd_s, ↓cTup_l, ↓pkP_e, ↓pkS_e, ↓lstG_e, ↓asI_i, ↓iSeq_e, ↓iTupD_e, ↓iRg1_e, ↓iRg2_e, ↓iZipD_e, ↓iEnumD_e, ↓sFor_e, ↓dLc_e, ↓finF_e, ↓finO_e, ↓fzD_l, ↓fzD_i, ↓fzD_o, ↓fzD2_o, ↓dSetO_e, ↓mAppend_e, ↓mClear_e, ↓mReverse_e, List.map_cons, List.map_nil, List.length_cons, List.length_nil, rep_0, rep_s, List.cons_append, List.nil_append, List.getElem?_cons_zero, List.getElem?_cons_succ, List.set_cons_zero, List.set_cons_succ, Nat.reduceAdd, Nat.reduceSub, Nat.zero_add, Nat.add_zero, ↓exSS, ↓exB, ↓exI, ↓ex1, ↓ex2, ↓ex3, ↓exI1, ↓exI2, ↓exT, ↓exC, ↓exAs, ↓dAdd_i, ↓dAddI_i, ↓dSubI_i, ↓dLRg_e, ↓dLRgO_e, ↓dAdd_l, ↓dSub_i, ↓dMul_i, ↓dMul_l, ↓dMod_i, ↓dDiv_i, ↓dPow_i, ↓dLt_i, ↓dLe_i, ↓dGt_i, ↓dGe_i, ↓uNeg_i, ↓cMax2_i, ↓cMin2_i, ↓cAbs_i, ↓cInt_i, ↓cInt_b, ↓cLen_l, ↓cLen_q, ↓cLen_t, ↓cList_l, ↓cList_q, ↓cList_t, ↓cListO_l, ↓cListO_t, ↓dIx_l, ↓dIx_q, ↓dIx_t, ↓dIx_o', ↓exS, ↓exL, at_1, at_2, at_3, at_4, ix30, ix31, ix32, ↓dSlL_l, ↓dSlL_q, ↓asQ_l, ↓asL_l, at_0, ↓isi_non_int, ↓isi_non_bool, ↓isi_non_str, ↓isi_non_list, ↓isi_non_tuple, ↓isi_non_dict, ↓isi_bl_int, ↓isi_bl_bool, ↓isi_bl_str, ↓isi_bl_list, ↓isi_bl_tuple, ↓isi_bl_dict, ↓isi_int_int, ↓isi_int_bool, ↓isi_int_str, ↓isi_int_list, ↓isi_int_tuple, ↓isi_int_dict, ↓isi_str_int, ↓isi_str_bool, ↓isi_str_str, ↓isi_str_list, ↓isi_str_tuple, ↓isi_str_dict, ↓isi_lst_int, ↓isi_lst_bool, ↓isi_lst_str, ↓isi_lst_list, ↓isi_lst_tuple, ↓isi_lst_dict, ↓isi_sq_int, ↓isi_sq_bool, ↓isi_sq_str, ↓isi_sq_list, ↓isi_sq_tuple, ↓isi_sq_dict, ↓isi_tup_int, ↓isi_tup_bool, ↓isi_tup_str, ↓isi_tup_list, ↓isi_tup_tuple, ↓isi_tup_dict, ↓isi_dic_int, ↓isi_dic_bool, ↓isi_dic_str, ↓isi_dic_list, ↓isi_dic_tuple, ↓isi_dic_dict, if_true, if_false, Bool.not_true, Bool.not_false, true_and, and_true, reduceCtorEq, Bool.true_eq_false, Bool.false_eq_true, ite_true, ite_false, ↓exAny, ↓isLst_l, Int.toNat_natCast, Int.reduceToNat, dVar_e, sPar_e, sPar3_e, sAug_e])))
--M6
abbrev Rets (sp : DSpec) (T : TSd) (N : List Str) : Prop := ∀ ds S Φ Ψ, sp ds S Φ Ψ → T { nx := fun _ S' => RetOk S Φ S' .non, rt := RetOk S Φ, er := ErOk S Ψ } (gstart N ds) S
theorem under {n : Nat} (h : n ≤ 1000000) : n < sizeLine := Nat.lt_of_le_of_lt h (by decide)
theorem p__law_feed : Rets sp__law_feed T__law_feed N__law_feed := by
  rintro _ S Φ Ψ ⟨ns, k, rfl, hk, h⟩
  unfold T__law_feed
  walk_at "dl"
  have done : ∀ a m : Int, 0 ≤ m → RetOk S Φ (S ++ [Cell.lst [D.int (if a > 0 then a else 0), D.int (m % (10 ^ 36 + 67) * 128 + 7 * (k : Int) + 9), D.int 0]]) (D.own S.length) := fun a m hm => by
    refine ret_now (h _ ⟨_, _, 0, rfl, by split <;> omega, ?_, ?_, by decide, by decide⟩)
    · have := Int.emod_nonneg m (show (10 ^ 36 + 67 : Int) ≠ 0 by decide)
      omega
    · have := Int.emod_lt_of_pos m (show (0 : Int) < 10 ^ 36 + 67 by decide)
      omega
  rw [dJ_e]
  walk_at "dl"
  rw [List.length_map]
  by_cases c : k < ns.length
  · rw [if_pos (by rw [decide_eq_true_eq]; omega), at_nat]
    refine ⟨.int (ns[k]), by rw [List.getElem?_map, List.getElem?_eq_getElem c]; rfl, ?_⟩
    walk_at "dl"
    refine ⟨cpw (by decide) (by decide) (by decide), cpw (by decide) (by decide) (by decide), by decide, cmr (by decide) (by decide), cml (by decide) (by decide), small, ?_⟩
    exact done _ _ (by split <;> omega)
  · rw [if_neg (by rw [decide_eq_true_eq]; omega)]
    exact ⟨cpw (by decide) (by decide) (by decide), cpw (by decide) (by decide) (by decide), by decide, cmr (by decide) (by decide), cml (by decide) (by decide), small, done _ _ (by decide)⟩
theorem p__law_pick : Rets sp__law_pick T__law_pick N__law_pick := by
  rintro _ S Φ Ψ ⟨h, n, m, rfl, ⟨c, ec, a, b, k, rfl, ha, hb, hb2, hk, hk2⟩, hn, hm, hm2, q⟩
  unfold T__law_pick
  walk_at "dl"
  have es : ∀ c, (S.set h c)[h]? = some c := fun c => List.getElem?_set_self (List.getElem?_eq_some_iff.mp ec).1
  walk_at "dls"
  by_cases c : 0 < a
  · rw [if_pos (by rw [decide_eq_true_eq]; exact c)]
    refine ⟨cdw hm (by omega), ret_now (q _ _ ⟨_, ⟨_, _, _, rfl, Int.ediv_nonneg ha (by omega), hb, hb2, hk, by omega⟩, rfl⟩ (Int.emod_nonneg _ (by omega)) (Int.emod_lt_of_pos _ hm))⟩
  · rw [if_neg (by rw [decide_eq_true_eq]; exact c)]
    have e1 := Int.emod_nonneg ((b + 49979687 * (k + 1)) ^ 3) (show (10 ^ 41 + 37 : Int) ≠ 0 by decide)
    have e2 := Int.emod_lt_of_pos ((b + 49979687 * (k + 1)) ^ 3) (show (0 : Int) < 10 ^ 41 + 37 by decide)
    refine ⟨cml (by decide) (by decide), cpw (by decide) (by decide) (by omega), cpw (by decide) (by decide) (by decide), by decide, cml (by decide) (by decide), cpw (by decide) (by decide) (by omega), cpw (by decide) (by decide) (by decide), by decide, cdw (by decide) (by decide), ret_now (q _ _ ⟨_, ⟨_, _, _, rfl, ha, hb, hb2, by omega, by omega⟩, rfl⟩ (Int.emod_nonneg _ (by omega)) (Int.emod_lt_of_pos _ hm))⟩
theorem pick_at {S : Sto} {Φ : KD} {Ψ : KX} {h n : Nat} {m : Int} (f : FdAt S h n) (hm : 0 < m) (q : ∀ S' v, Fs h (n + 1) S S' → FdAt S' h (n + 1) → 0 ≤ v → v < m → Φ S' (.int v)) (hn : n < 2 ^ 100 := by omega) (hm2 : m < 2 ^ 200 := by omega) : sp__law_pick [.own h, .int m] S Φ Ψ :=
  ⟨h, n, m, rfl, f, hn, hm, hm2, fun S' v f' a b => q S' v f' (f'.at f.lt) a b⟩
theorem p__law_lengths : Rets sp__law_lengths T__law_lengths N__law_lengths := by
  rintro _ S Φ Ψ ⟨h, n, a, m, rfl, f, hn, ha, hm, hm2, q⟩
  unfold T__law_lengths
  walk_at "dl"
  refine pick_at f (by decide) fun S1 w f1 g1 hw0 hw1 => ?_
  refine pick_at g1 hm fun S2 x f2 g2 hx0 hx1 => ?_
  walk_at "dl"
  refine ⟨small, by omega, by omega, ?_⟩
  have f0 := ((f1.trans f2).cell (.lst []) f.lt)
  have eL : S2.length = S.length := (f1.trans f2).len
  refine for_r0 (fun i Γ S' => ∃ (ls : List Int) (x : Int) (o1 o2 o3 o4 : Option D), Γ = [some (.own h), some (.int a), some (.int m), some (.int w), some (.int x), some (.own S.length), o1, o2, o3, o4] ∧ Fs h (n + 2 + 5 * i) (S ++ [.lst (ls.map D.int)]) S' ∧ ls.length = i ∧ (∀ y ∈ ls, 1 ≤ y ∧ y ≤ m) ∧ 1 ≤ x ∧ x ≤ m) ?_ (fun i Γ' S' hi hp => ?_) fun Γ' S' hp => ?_
  · exact ⟨[], 1 + x, _, _, _, _, by rw [eL], f0, rfl, (fun y hy => absurd hy (by simp)), by omega, by omega⟩
  · obtain ⟨ls, x, o1, o2, o3, o4, rfl, fs, hl, hls, hx0, hx1⟩ := hp
    have lt : h < (S ++ [Cell.lst (ls.map D.int)]).length := by have := f.lt; rw [List.length_append]; omega
    walk_at "dl"
    have g3 := fs.at lt
    refine pick_at g3 (by decide) fun S4 y f4 g4 hy0 hy1 => ?_
    walk_at "dl"
    refine joinD (fun Sx d => ∃ k : Int, d = .int k ∧ 1 ≤ k ∧ k ≤ m ∧ Fs h (n + 2 + 5 * i + 3) (S ++ [Cell.lst (ls.map D.int)]) Sx) (fun Sx d hd => ?_) fun Φ' hΦ => ?_
    · obtain ⟨k, rfl, hk0, hk1, fx⟩ := hd
      walk_at "dl"
      refine pick_at (fx.at lt) hm fun S6 u f6 g6 hu0 hu1 => ?_
      walk_at "dl"
      refine pick_at g6 (by split <;> omega) (fun S7 t f7 g7 ht0 ht1 => ?_) (by omega) (by split <;> omega)
      walk_at "dl"
      have fz := (fx.trans f6).trans f7
      obtain ⟨el, fl⟩ := fz.last f.lt
      refine ⟨small, ?_⟩
      obtain ⟨d, hd, hm'⟩ := ix_all (xs := [D.int (1 + u), D.int k, D.int (if (if x + y - 1 < m then x + y - 1 else m) > 1 then if x + y - 1 < m then x + y - 1 else m else 1), D.int m, D.int (1 + t)]) hw0 (by show w < 5; exact hw1)
      have hv : ∃ v : Int, d = .int v ∧ 1 ≤ v ∧ v ≤ m := by
        simp only [List.mem_cons, List.not_mem_nil, or_false] at hm'
        rcases hm' with rfl | rfl | rfl | rfl | rfl
        · exact ⟨_, rfl, by omega, by omega⟩
        · exact ⟨_, rfl, by omega, by omega⟩
        · exact ⟨_, rfl, by (repeat' split) <;> omega, by (repeat' split) <;> omega⟩
        · exact ⟨_, rfl, by omega, by omega⟩
        · exact ⟨_, rfl, by omega, by have : (if m < 2 then m else 2) ≤ m := by { split <;> omega }; omega⟩
      obtain ⟨v, rfl, hv0, hv1⟩ := hv
      refine ⟨_, hd, isLst_at el, _, el, by rw [List.length_map, hl]; have := small (n := a) (by omega); omega, ls ++ [v], v, _, _, _, _, rfl, ?_, by rw [List.length_append, hl]; rfl, ?_, hv0, hv1⟩
      · have := fl (.lst (ls.map D.int ++ [.int v]))
        rw [List.map_append]
        exact this.mono (by omega)
      · intro z hz
        rcases List.mem_append.mp hz with hz | hz
        · exact hls z hz
        · rw [List.mem_singleton.mp hz]; exact ⟨hv0, hv1⟩
    · walk_at "dl"
      refine pick_at g4 (by decide) fun S5 z f5 g5 hz0 hz1 => ?_
      walk_at "dl"
      by_cases c : 0 < z
      · rw [if_pos (by rw [decide_eq_true_eq]; exact c)]
        exact hΦ _ _ ⟨x, rfl, hx0, hx1, ((fs.trans f4).trans f5).mono (by omega)⟩
      · rw [if_neg (by rw [decide_eq_true_eq]; exact c)]
        refine pick_at g5 hm fun S6 u f6 g6 hu0 hu1 => ?_
        walk_at "dl"
        exact hΦ _ _ ⟨_, rfl, by omega, by omega, (((fs.trans f4).trans f5).trans f6).mono (by omega)⟩
  · obtain ⟨ls, x, o1, o2, o3, o4, rfl, fs, hl, hls, hx0, hx1⟩ := hp
    walk_at "dl"
    obtain ⟨el, fl⟩ := fs.last f.lt
    obtain ⟨S1', fs1, e1⟩ := (fl .gone).app f.lt
    refine ⟨_, el, ?_⟩
    rw [e1]
    exact ret_feed fs1 (lowA_ints _ _) (q _ ls (fs1.mono (by omega)) hl hls)
theorem p__law_rows : Rets sp__law_rows T__law_rows N__law_rows := by
  rintro _ S Φ Ψ ⟨h, n, a, b, rfl, f, hn, ha, ha2, hb, hb2, q⟩
  unfold T__law_rows
  walk_at "dl"
  refine pick_at f (by omega) fun S1 u f1 g1 hu0 hu1 => ?_
  walk_at "dl"
  refine pick_at g1 (by split <;> omega) (fun S2 v f2 g2 hv0 hv1 => ?_) (by omega) (by split <;> omega)
  walk_at "dl"
  refine ⟨small, pick_at g2 (by decide) fun S3 w f3 g3 hw0 hw1 => ?_⟩
  walk_at "dl"
  have f123 := (f1.trans f2).trans f3
  have hA : ∃ A : Nat, atI [D.int (1 + u), D.int (1 + v), D.int a] w = some (.int A) ∧ 1 ≤ A ∧ A ≤ a := by
    obtain ⟨d, hd, hm'⟩ := ix_all (xs := [D.int (1 + u), D.int (1 + v), D.int (a : Int)]) hw0 (by show w < 3; exact hw1)
    simp only [List.mem_cons, List.not_mem_nil, or_false] at hm'
    rcases hm' with rfl | rfl | rfl
    · exact ⟨(1 + u).toNat, by rw [hd]; congr 2; omega, by omega, by omega⟩
    · exact ⟨(1 + v).toNat, by rw [hd]; congr 2; omega, by omega, by have : (if (4 : Int) < a then 4 else (a : Int)) ≤ a := by { split <;> omega }; omega⟩
    · exact ⟨a, hd, by omega, by omega⟩
  obtain ⟨A, hA, hA1, hA2⟩ := hA
  refine ⟨_, hA, cpw (by decide) (by decide) (by decide), small, pick_at g3 (by decide) fun S4 x f4 g4 hx0 hx1 => ?_⟩
  have f5 := (f123.trans f4)
  refine dIx_p (p := fun d => ∃ W : Int, d = .int W ∧ 2 ≤ W ∧ W ≤ MOST + 1) hx0 (by show x < 5; exact hx1) ?_ fun d ⟨W, e, hW0, hW1⟩ => ?_
  · intro d hd
    simp only [List.mem_cons, List.not_mem_nil, or_false] at hd
    rcases hd with rfl | rfl | rfl | rfl | rfl <;> exact ⟨_, rfl, by decide, by decide⟩
  subst e
  walk_at "dl"
  have gF := f5.cell (.lst []) f.lt
  have lt0 : ∀ c : Cell, h < (S ++ [c]).length := fun c => by have := f.lt; rw [List.length_append]; omega
  refine ⟨small, h, n + 4, A, b, rfl, gF.at (lt0 _), by omega, by omega, by omega, by omega, fun S5 ls f6 hl hls => ?_⟩
  walk_at "dl"
  have eL : S4.length = S.length := f5.len
  rw [eL]
  have f7 := gF.trans f6
  refine for_l (fun i Γ S' => ∃ (t : List (List Int)) (o1 o2 : Option D), Γ = [some (.own h), some (.int a), some (.int b), some (.int A), some (.int W), some (.own S.length), o1, o2] ∧ Fs h (n + 4 + 10000 + 1000 * i) (S ++ [.lst (t.map rowD)]) S' ∧ t.length = i ∧ ∀ r ∈ t, 1 ≤ r.length ∧ r.length ≤ b ∧ ∀ x ∈ r, 0 ≤ x ∧ x ≤ MOST) ⟨[], _, _, rfl, f7, rfl, fun r hr => absurd hr (by simp)⟩ (fun i Γ' S' hi hp => ?_) fun Γ' S' hp => ?_
  · obtain ⟨t, o1, o2, rfl, fs, ht, hrow⟩ := hp
    rw [List.length_map] at hi
    rw [List.getElem_map]
    obtain ⟨hz1, hz2⟩ := hls _ (List.getElem_mem hi)
    obtain ⟨z, hz⟩ : ∃ z : Nat, ls[i] = z := ⟨(ls[i]).toNat, by omega⟩
    rw [hz] at hz1 hz2 ⊢
    walk_at "dl"
    obtain ⟨el, _⟩ := fs.last f.lt
    refine ⟨isLst_at el, by omega, by omega, ?_⟩
    refine lc_r0 (fun j acc S' => ∃ r : List Int, acc = r.map D.int ∧ Fs h (n + 4 + 10000 + 1000 * i + j) (S ++ [.lst (t.map rowD)]) S' ∧ r.length = j ∧ ∀ x ∈ r, 0 ≤ x ∧ x ≤ MOST) (small (by omega)) ⟨[], rfl, fs, rfl, fun x hx => absurd hx (by simp)⟩ (fun j acc S2 hj hp => ?_) fun acc S2 hp => ?_
    · obtain ⟨r, rfl, fr, hr, hrx⟩ := hp
      walk_at "dl"
      refine pick_at (fr.at (lt0 _)) (by omega) (fun S3 y f6 g6 hy0 hy1 => ⟨r ++ [y], by rw [List.map_append]; rfl, (fr.trans f6).mono (by omega), by rw [List.length_append, hr]; rfl, fun x hx => ?_⟩) (by omega) (Int.lt_of_le_of_lt hW1 (by decide))
      rcases List.mem_append.mp hx with hx | hx
      · exact hrx x hx
      · rw [List.mem_singleton.mp hx]; exact ⟨hy0, Int.le_of_lt_add_one (Int.lt_of_lt_of_le hy1 hW1)⟩
    · obtain ⟨r, rfl, fr, hr, hrx⟩ := hp
      walk_at "dl"
      obtain ⟨el, fl⟩ := fr.last f.lt
      refine ⟨_, el, by rw [List.length_map, ht]; have := small (n := a) (by omega); omega, t ++ [r], _, _, rfl, ?_, by rw [List.length_append, ht]; rfl, fun r' hr' => ?_⟩
      · have := fl (.lst (t.map rowD ++ [rowD r]))
        rw [List.map_append]
        exact this.mono (by omega)
      · rcases List.mem_append.mp hr' with hr' | hr'
        · exact hrow r' hr'
        · rw [List.mem_singleton.mp hr', hr]; exact ⟨by omega, by omega, hrx⟩
  · obtain ⟨t, o1, o2, rfl, fs, ht, hrow⟩ := hp
    rw [List.length_map, hl] at ht fs
    walk_at "dl"
    obtain ⟨el, fl⟩ := fs.last f.lt
    obtain ⟨S1', fs1, e1⟩ := (fl .gone).app f.lt
    refine ⟨_, el, ?_⟩
    rw [e1]
    exact ret_feed fs1 (by rw [D.low]; exact lowA_map _ _ (fun r => by rw [D.low]; exact lowA_ints _ _) t) (q _ t (fs1.mono (by omega)) (by omega) (by omega) hrow)
end DL
namespace DL
open PySem PySem.Spec PyProof.Rows L2
local macro_rules | `(tactic| walk_at "dl") => `(tactic| ((try simp only [gstart, gwipe, List.set_set, List.map_cons, List.map_nil, List.length_cons, List.length_nil, rep_0, rep_s, List.cons_append, List.nil_append, List.set_cons_zero, List.set_cons_succ, Nat.reduceAdd, Nat.reduceSub, Nat.zero_add, Nat.add_zero]); (try simp only [↓dv0, ↓dv1, ↓dv2, ↓dv3, ↓dv4, ↓dv5, ↓dv6, ↓dv7, ↓dv8, ↓dv9, ↓dv10, ↓dv11, ↓dv12, ↓dv13, ↓dv14, ↓dv15, ↓dv16, ↓dv17, ↓dv18, ↓dv19, ↓dv20, ↓dv21, ↓dv22, ↓dv23, ↓dv24, ↓dv25, ↓dv26, ↓dv27, ↓dv28, ↓dv29, ↓dv30, ↓dv31, ↓dv32, ↓dv33, ↓dv34, ↓dv35, ↓dv36, ↓dv37, ↓dv38, ↓dv39, ↓nm0, ↓nm1, ↓nm2, ↓nm3, ↓nm4, ↓nm5, ↓nm6, ↓nm7, ↓nm8, ↓nm9, ↓nm10, ↓nm11, ↓nm12, ↓nm13, ↓nm14, ↓nm15, ↓nm16, ↓nm17, ↓nm18, ↓nm19, ↓nm20, ↓nm21, ↓nm22, ↓nm23, ↓nm24, ↓nm25, ↓nm26, ↓nm27, ↓nm28, ↓nm29, ↓nm30, ↓nm31, ↓nm32, ↓nm33, ↓nm34, ↓nm35, ↓nm36, ↓nm37, ↓nm38, ↓nm39, ↓sPar_n, ↓sPar3_n, ↓sAug_n, ↓reduceIte, List.set_set, ↓sNext_e, ↓sSeq_e, ↓sBrk_e, ↓sCnt_e, ↓sDrop_e, ↓sRet_e, ↓sRetN_e, ↓sIf_e, ↓sAsg_e, ↓sRaise_e, ↓nmG_e, ↓tupG_e, ↓gsNil_e, ↓gsCons_e, ↓subG_e, ↓dC_e, ↓dOp_e, ↓dUn_e, ↓dChain_e, ↓bOf_e, ↓bAnd_e, ↓bOr_e, ↓bNot_e, ↓bYes_e, ↓dAnd_e, ↓dOr_e, ↓dNot_e, ↓dIf_e, ↓lNil_e, ↓lCons_e, ↓dLst_e, ↓dDic0_e, ↓dDic1_e, ↓dLenSetG_e, dIsB_b, dIsNB_b, dSD_e, dRevO_e, dDGetL_e, dTupO_e, dNotInT_e, dInT_e, dGetT_e, sPutT_e, iKtD_e, ↓dLstO_e, ↓dTup_e, ↓dCB_e, ↓dCall_e, ↓dCallK_e, ↓oNone_e, ↓oSome_e, ↓dSl_e, ↓dBM_e, ↓dBM0_e, ↓dFz_e, ↓dFz2_e, ↓d2_e, ↓dLone_e, ↓lStar_e, ↓dCallA_e, ↓dMakeA_e, ↓dMakeV_e, ↓dMethA_e, ↓dCMethA_e, ↓dPropA_e, ↓dFld_e, ↓dFldM_e, ↓dPropM_e, ↓dMethM_e, ↓dSupA_e, ↓sFldM_e, ↓fldG_e, ↓dLcZ_e, ↓zdPlain_e, ↓zdNil_e, ↓zdThen_e, ↓zdYield_e, ↓cSortT_e, ↓ipLD_e, ↓cMax3_i, ↓sFldS_e, ↓dFzI_e, ↓fzID_o, ↓dM1_e, ↓dM0_e, ↓dRev_e, ↓mSplit_s, ↓mUpper_s, ↓exStr, ↓exZ, ↓cStrI_i, ↓cIntS_s, ↓iStrD_e, ↓dEqF_s, ↓dNeF_s, ↓dEqF_i, ↓dNeF_i, ↓dSign_s, ↓sRaiseI_e, ↓dXFld_e, ↓mPop_e, ↓dAddO_l, ↓dAddO_o, ↓dMk0_e, ↓sKeep_e, ↓sTryH_e, ↓dCVal_e, ↓dConI_e, ↓cLen_s, ↓dIx_s, ↓dSlS_s, ↓dAdd_s, ↓cTup_l, ↓pkP_e, ↓pkS_e, ↓lstG_e, ↓asI_i, ↓iSeq_e, ↓iTupD_e, ↓iRg1_e, ↓iRg2_e, ↓iZipD_e, ↓iZip3D_e, iZrD_e, ↓iEnumD_e, ↓sFor_e, ↓dLc_e, ↓finF_e, ↓finO_e, ↓fzD_l, ↓fzD_i, ↓fzD_o, ↓fzD2_o, ↓dSetO_e, ↓mAppend_e, ↓mClear_e, ↓mReverse_e, List.map_cons, List.map_nil, List.length_cons, List.length_nil, rep_0, rep_s, List.cons_append, List.nil_append, List.getElem?_cons_zero, List.getElem?_cons_succ, List.set_cons_zero, List.set_cons_succ, Nat.reduceAdd, Nat.reduceSub, Nat.zero_add, Nat.add_zero, ↓exSS, ↓exB, ↓exI, ↓ex1, ↓ex2, ↓ex3, ↓exI1, ↓exI2, ↓exT, ↓exC, ↓exAs, ↓dAdd_i, ↓dAddI_i, ↓dSubI_i, ↓dLRg_e, ↓dIsiT_e, ↓dLenSet_e, ↓bChain3_e, ↓dLRg2_e, ↓iRg3_e, ↓dLc2_e, ↓dSlT_t, dAddT_t, ↓dNewK_e, ↓dDis1_e, ↓sDkp_e, ↓dDGet_e, ↓dDGet2_e, ↓dLVals_e, ↓kD_ex_i, ↓dSS_e, ↓dST_e, ↓dSI_e, ↓dSIG_e, ↓dSSI_e, ↓sAugS_e, ↓iItT_e, ↓iEnumSD_e, ↓lsG_e, ↓dMulI_i, ↓dNew_e, ↓sDct_e, ↓dMulO_l, ↓dLRgO_e, ↓dAdd_l, ↓dSub_i, ↓dMul_i, ↓dMul_l, ↓dMod_i, ↓dDiv_i, ↓dPow_i, ↓dLt_i, ↓dLe_i, ↓dGt_i, ↓dGe_i, ↓uNeg_i, ↓cMax2_i, ↓cMin2_i, ↓cAbs_i, ↓cInt_i, ↓cInt_b, ↓cLen_l, ↓cLen_q, ↓cLen_t, ↓cList_l, ↓cList_q, ↓cList_t, ↓cListO_l, ↓cListO_t, ↓dIx_l, ↓dIx_q, ↓dIx_t, ↓dIx_o', ↓exS, ↓exL, at_1, at_2, at_3, at_4, ix30, ix31, ix32, ↓dSlL_l, ↓dSlL_q, ↓asQ_l, ↓asL_l, at_0, ↓isi_non_int, ↓isi_non_bool, ↓isi_non_str, ↓isi_non_list, ↓isi_non_tuple, ↓isi_non_dict, ↓isi_bl_int, ↓isi_bl_bool, ↓isi_bl_str, ↓isi_bl_list, ↓isi_bl_tuple, ↓isi_bl_dict, ↓isi_int_int, ↓isi_int_bool, ↓isi_int_str, ↓isi_int_list, ↓isi_int_tuple, ↓isi_int_dict, ↓isi_str_int, ↓isi_str_bool, ↓isi_str_str, ↓isi_str_list, ↓isi_str_tuple, ↓isi_str_dict, ↓isi_lst_int, ↓isi_lst_bool, ↓isi_lst_str, ↓isi_lst_list, ↓isi_lst_tuple, ↓isi_lst_dict, ↓isi_sq_int, ↓isi_sq_bool, ↓isi_sq_str, ↓isi_sq_list, ↓isi_sq_tuple, ↓isi_sq_dict, ↓isi_tup_int, ↓isi_tup_bool, ↓isi_tup_str, ↓isi_tup_list, ↓isi_tup_tuple, ↓isi_tup_dict, ↓isi_dic_int, ↓isi_dic_bool, ↓isi_dic_str, ↓isi_dic_list, ↓isi_dic_tuple, ↓isi_dic_dict, if_true, if_false, Bool.not_true, Bool.not_false, true_and, and_true, reduceCtorEq, Bool.true_eq_false, Bool.false_eq_true, ite_true, ite_false, ↓exAny, ↓isLst_l, Int.toNat_natCast, Int.reduceToNat, dVar_e, sPar_e, sPar3_e, sAug_e])))
local macro_rules | `(tactic| walk_at "dls") => `(tactic| ((try simp only [gstart, gwipe, List.set_set, List.map_cons, List.map_nil, List.length_cons, List.length_nil, rep_0, rep_s, List.cons_append, List.nil_append, List.set_cons_zero, List.set_cons_succ, Nat.reduceAdd, Nat.reduceSub, Nat.zero_add, Nat.add_zero]); (try simp only [*, ↓dv0, ↓dv1, ↓dv2, ↓dv3, ↓dv4, ↓dv5, ↓dv6, ↓dv7, ↓dv8, ↓dv9, ↓dv10, ↓dv11, ↓dv12, ↓dv13, ↓dv14, ↓dv15, ↓dv16, ↓dv17, ↓dv18, ↓dv19, ↓dv20, ↓dv21, ↓dv22, ↓dv23, ↓dv24, ↓dv25, ↓dv26, ↓dv27, ↓dv28, ↓dv29, ↓dv30, ↓dv31, ↓dv32, ↓dv33, ↓dv34, ↓dv35, ↓dv36, ↓dv37, ↓dv38, ↓dv39, ↓nm0, ↓nm1, ↓nm2, ↓nm3, ↓nm4, ↓nm5, ↓nm6, ↓nm7, ↓nm8, ↓nm9, ↓nm10, ↓nm11, ↓nm12, ↓nm13, ↓nm14, ↓nm15, ↓nm16, ↓nm17, ↓nm18, ↓nm19, ↓nm20, ↓nm21, ↓nm22, ↓nm23, ↓nm24, ↓nm25, ↓nm26, ↓nm27, ↓nm28, ↓nm29, ↓nm30, ↓nm31, ↓nm32, ↓nm33, ↓nm34, ↓nm35, ↓nm36, ↓nm37, ↓nm38, ↓nm39, ↓sPar_n, ↓sPar3_n, ↓sAug_n, ↓reduceIte, List.set_set, ↓sNext_e, ↓sSeq_e, ↓sBrk_e, ↓sCnt_e, ↓sDrop_e, ↓sRet_e, ↓sRetN_e, ↓sIf_e, ↓sAsg_e, ↓sRaise_e, ↓nmG_e, ↓tupG_e, ↓gsNil_e, ↓gsCons_e, ↓subG_e, ↓dC_e, ↓dOp_e, ↓dUn_e, ↓dChain_e, ↓bOf_e, ↓bAnd_e, ↓bOr_e, ↓bNot_e, ↓bYes_e, ↓dAnd_e, ↓dOr_e, ↓dNot_e, ↓dIf_e, ↓lNil_e, ↓lCons_e, ↓dLst_e, ↓dDic0_e, ↓dDic1_e, ↓dLenSetG_e, dIsB_b, dIsNB_b, dSD_e, dRevO_e, dDGetL_e, dTupO_e, dNotInT_e, dInT_e, dGetT_e, sPutT_e, iKtD_e, ↓dLstO_e, ↓dTup_e, ↓dCB_e, ↓dCall_e, ↓dCallK_e, ↓oNone_e, ↓oSome_e, ↓dSl_e, ↓dBM_e, ↓dBM0_e, ↓dFz_e, ↓dFz2_e, ↓d2_e, ↓dLone_e, ↓lStar_e, ↓dCallA_e, ↓dMakeA_e, ↓dMakeV_e, ↓dMethA_e, ↓dCMethA_e, ↓dPropA_e, ↓dFld_e, ↓dFldM_e, ↓dPropM_e, ↓dMethM_e, ↓dSupA_e, ↓sFldM_e, ↓fldG_e, ↓dLcZ_e, ↓zdPlain_e, ↓zdNil_e, ↓zdThen_e, ↓zdYield_e, ↓cSortT_e, ↓ipLD_e, ↓cMax3_i, ↓sFldS_e, ↓dFzI_e, ↓fzID_o, ↓dM1_e, ↓dM0_e, ↓dRev_e, ↓mSplit_s, ↓mUpper_s, ↓exStr, ↓exZ, ↓cStrI_i, ↓cIntS_s, ↓iStrD_e, ↓dEqF_s, ↓dNeF_s, ↓dEqF_i, ↓dNeF_i, ↓dSign_s, ↓sRaiseI_e, ↓dXFld_e, ↓mPop_e, ↓dAddO_l, ↓dAddO_o, ↓dMk0_e, ↓sKeep_e, ↓sTryH_e, ↓dCVal_e, ↓dConI_e, ↓cLen_s, ↓dIx_s, ↓dSlS_s, ↓dAdd_s, ↓cTup_l, ↓pkP_e, ↓pkS_e, ↓lstG_e, ↓asI_i, ↓iSeq_e, ↓iTupD_e, ↓iRg1_e, ↓iRg2_e, ↓iZipD_e, ↓iZip3D_e, iZrD_e, ↓iEnumD_e, ↓sFor_e, ↓dLc_e, ↓finF_e, ↓finO_e, ↓fzD_l, ↓fzD_i, ↓fzD_o, ↓fzD2_o, ↓dSetO_e, ↓mAppend_e, ↓mClear_e, ↓mReverse_e, List.map_cons, List.map_nil, List.length_cons, List.length_nil, rep_0, rep_s, List.cons_append, List.nil_append, List.getElem?_cons_zero, List.getElem?_cons_succ, List.set_cons_zero, List.set_cons_succ, Nat.reduceAdd, Nat.reduceSub, Nat.zero_add, Nat.add_zero, ↓exSS, ↓exB, ↓exI, ↓ex1, ↓ex2, ↓ex3, ↓exI1, ↓exI2, ↓exT, ↓exC, ↓exAs, ↓dAdd_i, ↓dAddI_i, ↓dSubI_i, ↓dLRg_e, ↓dIsiT_e, ↓dLenSet_e, ↓bChain3_e, ↓dLRg2_e, ↓iRg3_e, ↓dLc2_e, ↓dSlT_t, dAddT_t, ↓dNewK_e, ↓dDis1_e, ↓sDkp_e, ↓dDGet_e, ↓dDGet2_e, ↓dLVals_e, ↓kD_ex_i, ↓dSS_e, ↓dST_e, ↓dSI_e, ↓dSIG_e, ↓dSSI_e, ↓sAugS_e, ↓iItT_e, ↓iEnumSD_e, ↓lsG_e, ↓dMulI_i, ↓dNew_e, ↓sDct_e, ↓dMulO_l, ↓dLRgO_e, ↓dAdd_l, ↓dSub_i, ↓dMul_i, ↓dMul_l, ↓dMod_i, ↓dDiv_i, ↓dPow_i, ↓dLt_i, ↓dLe_i, ↓dGt_i, ↓dGe_i, ↓uNeg_i, ↓cMax2_i, ↓cMin2_i, ↓cAbs_i, ↓cInt_i, ↓cInt_b, ↓cLen_l, ↓cLen_q, ↓cLen_t, ↓cList_l, ↓cList_q, ↓cList_t, ↓cListO_l, ↓cListO_t, ↓dIx_l, ↓dIx_q, ↓dIx_t, ↓dIx_o', ↓exS, ↓exL, at_1, at_2, at_3, at_4, ix30, ix31, ix32, ↓dSlL_l, ↓dSlL_q, ↓asQ_l, ↓asL_l, at_0, ↓isi_non_int, ↓isi_non_bool, ↓isi_non_str, ↓isi_non_list, ↓isi_non_tuple, ↓isi_non_dict, ↓isi_bl_int, ↓isi_bl_bool, ↓isi_bl_str, ↓isi_bl_list, ↓isi_bl_tuple, ↓isi_bl_dict, ↓isi_int_int, ↓isi_int_bool, ↓isi_int_str, ↓isi_int_list, ↓isi_int_tuple, ↓isi_int_dict, ↓isi_str_int, ↓isi_str_bool, ↓isi_str_str, ↓isi_str_list, ↓isi_str_tuple, ↓isi_str_dict, ↓isi_lst_int, ↓isi_lst_bool, ↓isi_lst_str, ↓isi_lst_list, ↓isi_lst_tuple, ↓isi_lst_dict, ↓isi_sq_int, ↓isi_sq_bool, ↓isi_sq_str, ↓isi_sq_list, ↓isi_sq_tuple, ↓isi_sq_dict, ↓isi_tup_int, ↓isi_tup_bool, ↓isi_tup_str, ↓isi_tup_list, ↓isi_tup_tuple, ↓isi_tup_dict, ↓isi_dic_int, ↓isi_dic_bool, ↓isi_dic_str, ↓isi_dic_list, ↓isi_dic_tuple, ↓isi_dic_dict, if_true, if_false, Bool.not_true, Bool.not_false, true_and, and_true, reduceCtorEq, Bool.true_eq_false, Bool.false_eq_true, ite_true, ite_false, ↓exAny, ↓isLst_l, Int.toNat_natCast, Int.reduceToNat, dVar_e, sPar_e, sPar3_e, sAug_e])))
--MQ
--DROP p_need_cell
--DROP p_changed
--DROP p_with_cell
theorem inB_of {v lo hi : Int} (h : lo ≤ v) (h2 : v ≤ hi) : inB v lo hi = true := by unfold inB; rw [decide_eq_true h, decide_eq_true h2]; rfl
theorem p_is_integer : Rets sp_is_integer T_is_integer N_is_integer := by
  rintro _ S Φ Ψ ⟨v, lo, hi, rfl, h⟩
  unfold T_is_integer
  walk_at "dl"
  unfold inB at h
  by_cases c : lo ≤ v
  · rw [if_pos (by rw [decide_eq_true_eq]; exact c)]
    rw [decide_eq_true c, Bool.true_and] at h
    exact ret_now h
  · rw [if_neg (by rw [decide_eq_true_eq]; exact c)]
    rw [decide_eq_false c, Bool.false_and] at h
    exact ret_now h
theorem p_is_cell : Rets sp_is_cell T_is_cell N_is_cell := by
  rintro _ S Φ Ψ ⟨v, rfl, h⟩
  unfold T_is_cell
  walk_at "dl"
  exact ⟨_, _, _, rfl, ret_now h⟩
theorem p_is_line : Rets sp_is_line T_is_line N_is_line := by
  rintro _ S Φ Ψ ⟨d, r, rfl, e, ok, h⟩
  unfold T_is_line
  walk_at "dl"
  have h1 := ok.lo
  have h2 := ok.hi
  rw [cIsi_of (tyOf_L e)]
  walk_at "dl"
  rw [cLen_L e, List.length_map]
  walk_at "dl"
  rw [if_pos (show isTyB "list" "list" = true from rfl), if_pos (by rw [decide_eq_true_eq]; omega), if_pos (by rw [decide_eq_true_eq]; omega)]
  refine ⟨⟨_, asQ_L e⟩, lc_mapS r D.int (fun _ => .bl true) (asQ_L e) (small (by omega)) (fun x hx R hR => ?_) ?_⟩
  · walk_at "dl"
    exact ⟨x, rfl, by rw [inB_of (ok.at_ x hx).1 (ok.at_ x hx).2]; exact hR⟩
  · walk_at "dl"
    exact ⟨r.map fun _ => true, by rw [List.map_map]; rfl, ret_now (by rw [all_true]; exact h)⟩
theorem p_is_table : Rets sp_is_table T_is_table N_is_table := by
  rintro _ S Φ Ψ ⟨d, t, rfl, ⟨ds, e, rs⟩, ok, h⟩
  unfold T_is_table
  walk_at "dl"
  have h1 := ok.lo
  have h2 := ok.hi
  have h3 := rs.len
  rw [cIsi_of (tyOf_L e)]
  walk_at "dl"
  rw [cLen_L e]
  walk_at "dl"
  rw [if_pos (show isTyB "list" "list" = true from rfl), if_pos (by rw [decide_eq_true_eq]; omega), if_pos (by rw [decide_eq_true_eq]; omega)]
  refine ⟨⟨_, asQ_L e⟩, lc_idS ds (fun _ => .bl true) (asQ_L e) (small (by omega)) (fun x hx R hR => ?_) ?_⟩
  · obtain ⟨r, hr, er⟩ := rs.mem hx
    walk_at "dl"
    exact ⟨x, r, rfl, er, ok.row r hr, hR⟩
  · walk_at "dl"
    exact ⟨ds.map fun _ => true, by rw [List.map_map]; rfl, ret_now (by rw [all_true]; exact h)⟩
theorem p_need_table (C) : Rets sp_need_table (T_need_table C) N_need_table := by
  rintro _ S Φ Ψ ⟨d, t, rfl, e, ok, h⟩
  unfold T_need_table
  walk_at "dl"
  exact ⟨d, t, rfl, e, ok, by walk_at "dl"; exact ret_now h⟩
theorem p_need_line (C) : Rets sp_need_line (T_need_line C) N_need_line := by
  rintro _ S Φ Ψ ⟨d, t, i, rfl, ⟨ds, e, rs⟩, h1, h⟩
  unfold T_need_line
  walk_at "dl"
  rw [cLen_L e]
  walk_at "dl"
  have h3 := rs.len
  refine ⟨i, 0, _, rfl, ?_⟩
  rw [inB_of (by omega) (by omega)]
  walk_at "dl"
  exact ret_now h
theorem p_copy_of : Rets sp_copy_of T_copy_of N_copy_of := by
  rintro _ S Φ Ψ ⟨d, t, rfl, ⟨ds, e, rs⟩, h2, h⟩
  unfold T_copy_of
  walk_at "dl"
  have h3 := rs.len
  refine ⟨⟨_, asQ_L e⟩, lc_s (ds := ds) (fun i acc S' => S' = S ++ cellsD (t.take i) ∧ acc = ownsD S.length i) (small (by omega)) ⟨by simp [cellsD], rfl⟩ (fun i acc S' hp => by rw [hp.1]; exact asQ_L (asL_app e)) (fun i acc S' hi hp => ?_) fun acc S' hp => ?_⟩
  · obtain ⟨rfl, rfl⟩ := hp
    have hi2 : i < t.length := by omega
    walk_at "dl"
    rw [cListO_L (asL_app (rs.get hi2 hi))]
    refine ⟨?_, ?_⟩
    · rw [List.take_add_one, List.getElem?_eq_getElem hi2, List.append_assoc]
      unfold cellsD
      rw [List.map_append]
      rfl
    · unfold ownsD cellsD
      rw [List.range_succ, List.map_append, List.length_append, List.length_map, List.length_take, Nat.min_eq_left (Nat.le_of_lt hi2)]
      rfl
  · obtain ⟨rfl, rfl⟩ := hp
    walk_at "dl"
    rw [h3, List.take_length]
    refine ret_now ?_
    unfold newTab at h
    rw [List.length_append]
    unfold cellsD at h ⊢
    rw [List.length_map]
    exact h
theorem p_with_line (C C2 C3) : Rets sp_with_line (T_with_line C C2 C3) N_with_line := by
  rintro _ S Φ Ψ ⟨d, t, i, e, r, rfl, tab, ok, hi, hl, er, okr, h⟩
  obtain ⟨ds, ed, rs⟩ := id tab
  unfold T_with_line
  walk_at "dl"
  have h3 := rs.len
  refine ⟨d, t, rfl, tab, ok, ?_⟩
  walk_at "dl"
  rw [if_pos (by rw [decide_eq_true_eq]; omega), cLen_L ed]
  walk_at "dl"
  rw [decide_eq_true (by omega)]
  walk_at "dl"
  refine ⟨e, r, rfl, er, okr, ?_⟩
  walk_at "dl"
  rw [cLen_L ed, dEq_i]
  refine ⟨_, rfl, ?_⟩
  rw [show ((ds.length : Int) == 60) = false by rw [beq_eq_false_iff_ne]; omega]
  walk_at "dl"
  rw [dSlL_L ed, cut_to]
  walk_at "dl"
  refine ⟨small, small (by rw [List.length_take]; omega), ?_⟩
  rw [dSlL_L ed, cut_from]
  walk_at "dl"
  refine ⟨small (by rw [List.length_append, List.length_take, List.length_drop]; simp only [List.length_cons, List.length_nil]; omega), ?_⟩
  refine ⟨_, putAt t i r, rfl, ⟨_, rfl, ?_⟩, ?_, ?_⟩
  · unfold putAt
    rw [List.append_assoc]
    exact (rs.take i).cat (.cons er (rs.drop i))
  · unfold putAt
    rw [List.length_append, List.length_cons, List.length_take, List.length_drop]
    omega
  · unfold newTab at h ⊢
    exact ret_now h
theorem p_without_line (C) : Rets sp_without_line (T_without_line C) N_without_line := by
  rintro _ S Φ Ψ ⟨d, t, i, rfl, tab, ok, hi, hl, h⟩
  obtain ⟨ds, ed, rs⟩ := id tab
  unfold T_without_line
  walk_at "dl"
  have h3 := rs.len
  have h4 := ok.hi
  refine ⟨d, t, rfl, tab, ok, ?_⟩
  walk_at "dl"
  refine ⟨d, t, i, rfl, tab, hi, ?_⟩
  walk_at "dl"
  rw [cLen_L ed, dEq_i]
  refine ⟨_, rfl, ?_⟩
  rw [show ((ds.length : Int) == 1) = false by rw [beq_eq_false_iff_ne]; omega]
  walk_at "dl"
  rw [dSlL_L ed, cut_to, dSlL_L ed, show ((i : Int) + 1) = ((i + 1 : Nat) : Int) by omega, cut_from]
  walk_at "dl"
  refine ⟨small (by rw [List.length_take, List.length_drop]; omega), ?_⟩
  refine ⟨_, cutAt t i, rfl, ⟨_, rfl, (rs.take i).cat (rs.drop (i + 1))⟩, ?_, ?_⟩
  · unfold cutAt
    rw [List.length_append, List.length_take, List.length_drop]
    omega
  · unfold newTab at h ⊢
    exact ret_now h
theorem get_lt {S : Sto} {i : Nat} {c : Cell} (h : S[i]? = some c) : i < S.length := (List.getElem?_eq_some_iff.mp h).1
/-- all cells of S but those of A are kept -/
theorem Frm.refl {A : List Nat} {S : Sto} : Frm A S S := ⟨Nat.le_refl _, fun _ _ _ e => e⟩
theorem Frm.trans {A : List Nat} {S S1 S2 : Sto} (a : Frm A S S1) (b : Frm A S1 S2) : Frm A S S2 := ⟨Nat.le_trans a.len b.len, fun i c h e => b.get i c h (a.get i c h e)⟩
theorem Frm.app {A : List Nat} {S S1 : Sto} (a : Frm A S S1) (T : Sto) : Frm A S (S1 ++ T) := ⟨by rw [List.length_append]; have := a.len; omega, fun i c h e => get_app (a.get i c h e)⟩
theorem Frm.set {A : List Nat} {S S1 : Sto} (a : Frm A S S1) {i : Nat} (c : Cell) (h : i ∈ A ∨ S.length ≤ i) : Frm A S (S1.set i c) := ⟨by rw [List.length_set]; exact a.len, fun j c' hj e => by
  have : i ≠ j := fun z => by
    subst z
    rcases h with h | h
    · exact hj h
    · have := get_lt e; omega
  rw [List.getElem?_set_ne this]
  exact a.get j c' hj e⟩
theorem Frm.fs {A : List Nat} {S S1 S2 : Sto} (a : Frm A S S1) {h n : Nat} (f : Fs h n S1 S2) (hh : h ∈ A) : Frm A S S2 := ⟨by rw [f.len]; exact a.len, fun j c' hj e => f.get (a.get j c' hj e) (fun z => hj (z ▸ hh))⟩
theorem tabH_new (S : Sto) (t : List (List Int)) : TabH (S ++ cellsD t ++ [.lst (ownsD S.length t.length)]) (S.length + t.length) ((List.range t.length).map (S.length + ·)) t := by
  refine ⟨?_, by simp, fun i h1 h2 => ?_, ?_, ?_⟩
  · rw [show S.length + t.length = (S ++ cellsD t).length by rw [List.length_append]; simp [cellsD]]
    rw [get_at]
    unfold ownsD
    rw [List.map_map]
    rfl
  · rw [List.getElem_map, List.getElem_range, List.append_assoc, List.getElem?_append_right (Nat.le_add_right _ _), Nat.add_sub_cancel_left]
    refine get_app ?_
    unfold cellsD
    rw [List.getElem?_map, List.getElem?_eq_getElem h2]
    rfl
  · exact List.Pairwise.map _ (fun a b (h : a ≠ b) => by show S.length + a ≠ S.length + b; omega) List.nodup_range
  · intro h
    obtain ⟨a, ha, e⟩ := List.mem_map.mp h
    have := List.mem_range.mp ha
    omega
theorem TabH.keep {S S' : Sto} {b : Nat} {hs : List Nat} {t : List (List Int)} (k : TabH S b hs t) (a : ∀ x, (x = b ∨ x ∈ hs) → ∀ c, S[x]? = some c → S'[x]? = some c) : TabH S' b hs t :=
  ⟨a _ (.inl rfl) _ k.out, k.len, fun i h1 h2 => a _ (.inr (List.getElem_mem h1)) _ (k.row i h1 h2), k.nd, k.nb⟩
--MQ
theorem asL_frm {S S' : Sto} {d : D} {ds : List D} (f : Frm [] S S') (e : asL S d = some ds) : asL S' d = some ds := by
  rcases asL_cases e with rfl | ⟨n, rfl, e'⟩
  · rfl
  · exact asL_at' (f.get n _ (fun z => nomatch z) e')
theorem rows_frm {S S' : Sto} {ds : List D} {t : List (List Int)} (f : Frm [] S S') (h : RowsS S ds t) : RowsS S' ds t := by
  induction h with
  | nil => exact .nil
  | cons e _ ih => exact .cons (asL_frm f e) ih
theorem tabS_frm {S S' : Sto} {d : D} {t : List (List Int)} (f : Frm [] S S') (h : TabS S d t) : TabS S' d t := let ⟨ds, e, r⟩ := h; ⟨ds, asL_frm f e, rows_frm f r⟩
theorem tab_fit61 {t : List (List Int)} (hl : t.length ≤ 60) (h : ∀ r ∈ t, RowOk r) : Fit 2 (2 + 60 * (2 + 12 * (31 + 3) + 2)) (tabP t) :=
  fit_tab (k := 31) (fun r hr i hi => by
    have h := (h r hr).at_ i hi
    have h2 : i ≤ 1000000000000000000000000000000 := h.2
    omega) (fun r hr => (h r hr).hi) hl
theorem put_len {t : List (List Int)} {i : Nat} {r : List Int} (hi : i ≤ t.length) : (putAt t i r).length = t.length + 1 := by
  unfold putAt
  rw [List.length_append, List.length_cons, List.length_take, List.length_drop]
  omega
theorem put_ok {t : List (List Int)} {i : Nat} {r : List Int} (ok : TabOk t) (h60 : t.length < 60) (hi : i ≤ t.length) (hr : RowOk r) : TabOk (putAt t i r) := by
  refine ⟨by rw [put_len hi]; omega, by rw [put_len hi]; omega, fun x hx => ?_⟩
  unfold putAt at hx
  rcases List.mem_append.mp hx with z | z
  · exact ok.row x (List.mem_of_mem_take z)
  · rcases List.mem_cons.mp z with z | z
    · rw [z]; exact hr
    · exact ok.row x (List.mem_of_mem_drop z)
theorem cut_put {t : List (List Int)} {i : Nat} {r : List Int} (hi : i ≤ t.length) : cutAt (putAt t i r) i = t := by
  unfold cutAt putAt
  have hl : (t.take i).length = i := by rw [List.length_take]; omega
  rw [List.take_append_of_le_length (by omega), List.take_of_length_le (by omega), List.drop_append, hl, List.drop_eq_nil_of_le (by omega), show i + 1 - i = 1 by omega, List.nil_append, List.drop_succ_cons, List.drop_zero, List.take_append_drop]
theorem rows_take {S : Sto} {ds : List D} {t : List (List Int)} (h : RowsS S ds t) : ∀ i, RowsS S (ds.take i) (t.take i) := by
  induction h with
  | nil => intro i; rw [List.take_nil, List.take_nil]; exact .nil
  | cons e _ ih =>
    intro i
    cases i with
    | zero => exact .nil
    | succ i => exact .cons e (ih i)
theorem rows_drop {S : Sto} {ds : List D} {t : List (List Int)} (h : RowsS S ds t) : ∀ i, RowsS S (ds.drop i) (t.drop i) := by
  induction h with
  | nil => intro i; rw [List.drop_nil, List.drop_nil]; exact .nil
  | cons e r ih =>
    intro i
    cases i with
    | zero => exact .cons e r
    | succ i => exact ih i
theorem rows_app {S : Sto} {ds es : List D} {t u : List (List Int)} (h : RowsS S ds t) (h2 : RowsS S es u) : RowsS S (ds ++ es) (t ++ u) := by
  induction h with
  | nil => exact h2
  | cons e _ ih => exact .cons e ih
theorem newTab_h {t : List (List Int)} {S : Sto} {Φ : KD} (q : ∀ S1 b hs, TabH S1 b hs t → Frm [] S S1 → (∀ a, a = b ∨ a ∈ hs → S.length ≤ a ∧ a < S1.length) → Φ S1 (.own b)) : newTab t S Φ := by
  unfold newTab
  have k := tabH_new S t
  refine q _ _ _ k (by rw [List.append_assoc]; exact Frm.refl.app _) fun a ha => ?_
  obtain ⟨l1, l2⟩ := k.lt
  rcases ha with rfl | ha
  · exact ⟨Nat.le_add_right _ _, l1⟩
  · refine ⟨?_, l2 a ha⟩
    obtain ⟨j, _, rfl⟩ := List.mem_map.mp ha
    exact Nat.le_add_right _ _
theorem repr_tab {S : Sto} {Φ : KD} {d : D} {t : List (List Int)} (h : TabS S d t) (f : Fit 2 (2 + 60 * (2 + 12 * (31 + 3) + 2)) (tabP t)) (q : Φ S (.str (tabP t).shown)) : cRepr [d] S Φ := cRepr_at h.ty (.inl rfl) h.pyr f q
theorem repr_two {S : Sto} {Φ : KD} {d e : D} {n m n' m' : Nat} {p p' : PyData} (h : PyR S d p) (h' : PyR S e p') (f : Fit n m p) (f' : Fit n' m' p') (hn : n ≤ 2 := by decide) (hm : m ≤ 30000 := by decide) (hn' : n' ≤ 2 := by decide) (hm' : m' ≤ 30000 := by decide) (q : Φ S (.str (PyData.list [p, p']).shown)) : cRepr [.lst [d, e]] S Φ := by
  refine cRepr_at (a := "list") rfl (.inl rfl) (.lst (.cons h (.cons h' .nil))) (fit_list (n := 2) (m := 30000) (l := 2) (fun x hx => ?_) (Nat.le_refl 2)) q
  simp only [List.mem_cons, List.not_mem_nil, or_false] at hx
  rcases hx with rfl | rfl
  · exact f.mono hn hm
  · exact f'.mono hn' hm'
theorem pyr_L {S : Sto} {d : D} {r : List Int} (e : asL S d = some (r.map D.int)) : PyR S d (rowP r) := by
  rcases asL_cases e with rfl | ⟨n, rfl, e'⟩
  · exact .lst (pyra_map PyR.int r)
  · exact .own e' (pyra_map PyR.int r)
theorem row_fit61 {r : List Int} (h : RowOk r) : Fit 1 (2 + 12 * (31 + 3)) (rowP r) := fit_row (k := 31) (fun i hi => by
  have h := h.at_ i hi
  have h2 : i ≤ 1000000000000000000000000000000 := h.2
  omega) h.hi
theorem p__law_put_right : Rets sp__law_put_right T__law_put_right N__law_put_right := by
  rintro _ S Φ Ψ ⟨d, e, t, r, i, rfl, td, ok, h60, hi, ee, rok, q⟩
  unfold T__law_put_right
  walk_at "dl"
  obtain ⟨ds, ed, rs⟩ := id td
  have lds := rs.len
  have fT := tab_fit61 ok.hi ok.row
  have fR := row_fit61 rok
  have okP := put_ok ok h60 hi rok
  have fP := tab_fit61 okP.hi okP.row
  refine ⟨small (by decide), repr_two td.pyr (pyr_L ee) fT fR (q := ?_)⟩
  rw [dSlL_L ed, cut_to]
  refine ⟨small (by decide), ?_⟩
  rw [dAdd_l]
  refine ⟨small (by rw [List.length_take]; show min i _ + 1 ≤ _; omega), ?_⟩
  rw [dSlL_L ed, cut_from, dAdd_l]
  refine ⟨small (by rw [List.length_append, List.length_take, List.length_drop]; show min i _ + 1 + _ ≤ _; omega), ?_⟩
  have due : ∀ S', Frm [] S S' → TabS S' (.lst (ds.take i ++ [e] ++ ds.drop i)) (putAt t i r) := fun S' f => by
    refine ⟨_, rfl, rows_frm f ?_⟩
    unfold putAt
    have := rows_app (rows_take rs i) (.cons ee (rows_drop rs i))
    rwa [List.append_assoc]
  generalize D.lst (ds.take i ++ [e] ++ ds.drop i) = x3 at *
  refine ⟨d, t, i, e, r, rfl, td, ok, hi, h60, ee, rok, newTab_h fun S1 b1 hs1 k1 f1 l1 => ?_⟩
  refine ⟨d, t, i, e, r, rfl, tabS_frm f1 td, ok, hi, h60, asL_frm f1 ee, rok, newTab_h fun S2 b2 hs2 k2 f2 l2 => ?_⟩
  have k12 : TabH S2 b1 hs1 (putAt t i r) := k1.keep fun x _ c ex => f2.get x c (fun z => nomatch z) ex
  refine ⟨small (by decide), repr_two k12.tabS.pyr k2.tabS.pyr fP fP (q := ⟨small (by decide), repr_two (due S2 (f1.trans f2)).pyr (due S2 (f1.trans f2)).pyr fP fP (q := ?_)⟩)⟩
  show dNeF (.str _) (.str _) S2 _
  rw [dNeF_s, beq_self_eq_true]
  refine ⟨false, rfl, ?_⟩
  rw [if_neg (by decide)]
  refine ⟨.own b1, putAt t i r, i, rfl, k12.tabS, okP, by rw [put_len hi]; omega, by rw [put_len hi]; have := ok.lo; omega, newTab_h fun S3 b3 hs3 k3 f3 l3 => ?_⟩
  rw [cut_put hi] at k3
  have f13 := f1.trans (f2.trans f3)
  have td3 := tabS_frm f13 td
  refine repr_tab k3.tabS fT (repr_tab td3 fT ?_)
  show dNeF (.str _) (.str _) S3 _
  rw [dNeF_s, beq_self_eq_true]
  refine ⟨false, rfl, ?_⟩
  rw [if_neg (by decide)]
  have k13 : TabH S3 b1 hs1 (putAt t i r) := k12.keep fun x _ c ex => f3.get x c (fun z => nomatch z) ex
  have k23 : TabH S3 b2 hs2 (putAt t i r) := k2.keep fun x _ c ex => f3.get x c (fun z => nomatch z) ex
  rw [dAdd_L (asL_at' k13.out) (asL_at' k3.out)]
  have n1 := k13.len
  have n3 := k3.len
  rw [put_len hi] at n1
  refine ⟨small (by rw [List.length_map, List.length_map]; omega), ⟨_, rfl⟩, ?_⟩
  have rowAll : ∀ a, a ∈ hs1 ++ hs3 → ∃ es : List D, S3[a]? = some (.lst es) ∧ es.length ≤ 12 := fun a ha => by
    have tab : ∀ {b : Nat} {hs : List Nat} {u : List (List Int)}, TabH S3 b hs u → TabOk u → a ∈ hs → ∃ es : List D, S3[a]? = some (.lst es) ∧ es.length ≤ 12 := fun {b hs u} k o ha => by
      obtain ⟨j, hj, ej⟩ := List.mem_iff_getElem.mp ha
      have hj2 : j < u.length := by have := k.len; omega
      have := k.row j hj hj2
      rw [ej] at this
      exact ⟨_, this, by rw [List.length_map]; exact (o.row _ (List.getElem_mem hj2)).hi⟩
    rcases List.mem_append.mp ha with z | z
    · exact tab k13 okP z
    · exact tab k3 ok z
  have hA : ∀ a ∈ hs1 ++ hs3, S.length ≤ a ∧ ∀ x, x = b2 ∨ x ∈ hs2 → x ≠ a := fun a ha => by
    have e1 := f1.len
    have e2 := f2.len
    rcases List.mem_append.mp ha with z | z
    · have := l1 a (.inr z)
      exact ⟨this.1, fun x hx e => by have := l2 x hx; omega⟩
    · have := l3 a (.inr z)
      exact ⟨by omega, fun x hx e => by have := l2 x hx; omega⟩
  rw [← List.map_append]
  have lA : (hs1 ++ hs3).length ≤ 130 := by rw [List.length_append]; omega
  generalize hs1 ++ hs3 = A at *
  refine for_l (ds := A.map D.own) (fun j Γ S' => ∃ o7, Γ = [some d, some (.int i), some e, some (.str (PyData.list [tabP t, rowP r]).shown), some x3, some (.lst [.own b1, .own b2]), some (.own b3), o7] ∧ Frm A S3 S' ∧ ∀ a ∈ A, ∃ es : List D, S'[a]? = some (.lst es) ∧ es.length ≤ 12 + j) ⟨_, rfl, Frm.refl, rowAll⟩ (fun j Γ' S4 hj hp => ?_) fun Γ' S4 hp => ?_
  · obtain ⟨o7, rfl, f4, hall⟩ := hp
    rw [List.length_map] at hj
    rw [List.getElem_map]
    have hm : A[j] ∈ A := List.getElem_mem hj
    generalize A[j] = a at *
    obtain ⟨es, e4, le⟩ := hall a hm
    walk_at "dl"
    refine ⟨isLst_at e4, es, e4, under (by omega), _, rfl, f4.set _ (.inl hm), fun c hc => ?_⟩
    by_cases h : a = c
    · subst h
      exact ⟨_, List.getElem?_set_self (List.getElem?_eq_some_iff.mp e4).1, by rw [List.length_append]; show es.length + 1 ≤ _; omega⟩
    · obtain ⟨es', e', le'⟩ := hall c hc
      exact ⟨es', by rw [List.getElem?_set_ne h]; exact e', by omega⟩
  · obtain ⟨o7, rfl, f4, hall⟩ := hp
    have fS : Frm [] S S4 := ⟨Nat.le_trans f13.len f4.len, fun x c _ ex => f4.get x c (fun hx => by
      have := (hA x hx).1
      have := (List.getElem?_eq_some_iff.mp ex).1
      omega) (f13.get x c (fun z => nomatch z) ex)⟩
    have k24 : TabH S4 b2 hs2 (putAt t i r) := k23.keep fun x hx c ex => f4.get x c (fun hm => (hA x hm).2 x hx rfl) ex
    walk_at "dl"
    refine repr_tab k24.tabS fP (repr_tab (due S4 fS) fP ?_)
    show dEqF (.str _) (.str _) S4 _
    rw [dEqF_s, beq_self_eq_true]
    refine ⟨true, rfl, ?_⟩
    rw [if_pos rfl]
    refine ⟨small (by decide), repr_two (tabS_frm fS td).pyr (pyr_L (asL_frm fS ee)) fT fR (q := ?_)⟩
    show dEqF (.str _) (.str _) S4 _
    rw [dEqF_s, beq_self_eq_true]
    exact ret_now (q _ fS)
theorem cut_ok33 {t : List (List Int)} {i : Nat} (ok : TabOk t) (hi : i < t.length) (h1 : 1 < t.length) : TabOk (cutAt t i) ∧ (cutAt t i).length = t.length - 1 := by
  have hl : (cutAt t i).length = t.length - 1 := by
    unfold cutAt
    rw [List.length_append, List.length_take, List.length_drop]
    omega
  have h60 := ok.hi
  refine ⟨⟨by omega, by omega, fun x hx => ?_⟩, hl⟩
  unfold cutAt at hx
  rcases List.mem_append.mp hx with z | z
  · exact ok.row x (List.mem_of_mem_take z)
  · exact ok.row x (List.mem_of_mem_drop z)
theorem p__law_take_right : Rets sp__law_take_right T__law_take_right N__law_take_right := by
  rintro _ S Φ Ψ ⟨d, t, i, rfl, td, ok, hi, h1, q⟩
  unfold T__law_take_right
  walk_at "dl"
  obtain ⟨ds, ed, rs⟩ := id td
  have lds := rs.len
  have h60 := ok.hi
  have fT := tab_fit61 ok.hi ok.row
  obtain ⟨okC, lC⟩ := cut_ok33 ok hi h1
  have fC := tab_fit61 okC.hi okC.row
  refine repr_tab td fT ?_
  show dSlL d none (some (i : Int)) S _
  rw [dSlL_L ed, cut_to, dSlL_L ed, show (i : Int) + 1 = ((i + 1 : Nat) : Int) from rfl, cut_from, dAdd_l]
  refine ⟨small (by rw [List.length_take, List.length_drop]; omega), ?_⟩
  have due : ∀ S', Frm [] S S' → TabS S' (.lst (ds.take i ++ ds.drop (i + 1))) (cutAt t i) := fun S' f => ⟨_, rfl, rows_frm f (rows_app (rows_take rs i) (rows_drop rs (i + 1)))⟩
  generalize D.lst (ds.take i ++ ds.drop (i + 1)) = x3 at *
  refine ⟨d, t, i, rfl, td, ok, hi, h1, newTab_h fun S1 b1 hs1 k1 f1 l1 => ?_⟩
  refine ⟨d, t, i, rfl, tabS_frm f1 td, ok, hi, h1, newTab_h fun S2 b2 hs2 k2 f2 l2 => ?_⟩
  have k12 : TabH S2 b1 hs1 (cutAt t i) := k1.keep fun x _ c ex => f2.get x c (fun z => nomatch z) ex
  have f12 := f1.trans f2
  refine ⟨small (by decide), repr_two k12.tabS.pyr k2.tabS.pyr fC fC (q := ⟨small (by decide), repr_two (due S2 f12).pyr (due S2 f12).pyr fC fC (q := ?_)⟩)⟩
  show dNeF (.str _) (.str _) S2 _
  rw [dNeF_s, beq_self_eq_true]
  refine ⟨false, rfl, ?_⟩
  rw [if_neg (by decide)]
  have n1 := k12.len
  refine ⟨⟨_, asQ_L (asL_at' k12.out)⟩, ?_⟩
  have rowAll : ∀ a, a ∈ hs1 → ∃ es : List D, S2[a]? = some (.lst es) := fun a ha => by
    obtain ⟨j, hj, ej⟩ := List.mem_iff_getElem.mp ha
    have hj2 : j < (cutAt t i).length := by omega
    have := k12.row j hj hj2
    rw [ej] at this
    exact ⟨_, this⟩
  have hA : ∀ a ∈ hs1, S.length ≤ a ∧ a ≠ b1 ∧ ∀ x, x = b2 ∨ x ∈ hs2 → x ≠ a := fun a ha => by
    have e1 := f1.len
    have := l1 a (.inr ha)
    exact ⟨this.1, fun e => k12.nb (by rw [← e]; exact ha), fun x hx e => by have := l2 x hx; omega⟩
  refine for_s (ds := hs1.map D.own) (fun j Γ S' => ∃ o5, Γ = [some d, some (.int i), some (.str (tabP t).shown), some x3, some (.lst [.own b1, .own b2]), o5] ∧ Frm hs1 S2 S' ∧ ∀ a ∈ hs1, ∃ es : List D, S'[a]? = some (.lst es)) ⟨_, rfl, Frm.refl, rowAll⟩ (fun j Γ' S3 hp => ?_) (fun j Γ' S3 hj hp => ?_) fun Γ' S3 hp => ?_
  · obtain ⟨o5, rfl, f3, _⟩ := hp
    exact asQ_L (asL_at' (f3.get b1 _ k12.nb k12.out))
  · obtain ⟨o5, rfl, f3, hall⟩ := hp
    rw [List.length_map] at hj
    rw [List.getElem_map]
    have hm : hs1[j] ∈ hs1 := List.getElem_mem hj
    generalize hs1[j] = a at *
    obtain ⟨es, e3⟩ := hall a hm
    walk_at "dl"
    refine ⟨isLst_at e3, es, e3, _, rfl, f3.set _ (.inl hm), fun c hc => ?_⟩
    by_cases h : a = c
    · subst h
      exact ⟨_, List.getElem?_set_self (List.getElem?_eq_some_iff.mp e3).1⟩
    · obtain ⟨es', e'⟩ := hall c hc
      exact ⟨es', by rw [List.getElem?_set_ne h]; exact e'⟩
  · obtain ⟨o5, rfl, f3, hall⟩ := hp
    have fS : Frm [] S S3 := ⟨Nat.le_trans f12.len f3.len, fun x c _ ex => f3.get x c (fun hx => by
      have := (hA x hx).1
      have := (List.getElem?_eq_some_iff.mp ex).1
      omega) (f12.get x c (fun z => nomatch z) ex)⟩
    have k23 : TabH S3 b2 hs2 (cutAt t i) := k2.keep fun x hx c ex => f3.get x c (fun hm => (hA x hm).2.2 x hx rfl) ex
    walk_at "dl"
    refine repr_tab k23.tabS fC (repr_tab (due S3 fS) fC ?_)
    show dEqF (.str _) (.str _) S3 _
    rw [dEqF_s, beq_self_eq_true]
    refine ⟨true, rfl, ?_⟩
    rw [if_pos rfl]
    refine repr_tab (tabS_frm fS td) fT ?_
    show dEqF (.str _) (.str _) S3 _
    rw [dEqF_s, beq_self_eq_true]
    exact ret_now (q _ fS)
--MQ
theorem seqJ {A B : TSd} {E : EdD} {Γ : Gam} {S : Sto} (J : Gam → Sto → Prop) (k : ∀ N, (∀ Γ' S', J Γ' S' → N Γ' S') → A { E with nx := N } Γ S) (h : ∀ Γ' S', J Γ' S' → B E Γ' S') : sSeq A B E Γ S := k _ h
theorem shaped_ints (xs : List Int) : SeqAt.shaped (.list (xs.map PyData.int)) = true := by
  have h1 : ∀ xs : List Int, PyData.canLayAll0 (xs.map PyData.int) = true := fun xs => by
    induction xs with
    | nil => rw [List.map_nil, PyData.canLayAll0]
    | cons x xs ih => rw [List.map_cons, PyData.canLayAll0, PyData.canLay0, ih]; rfl
  have h2 : ∀ xs : List Int, PyData.depthAll (xs.map PyData.int) = 0 := fun xs => by
    induction xs with
    | nil => rw [List.map_nil, PyData.depthAll]
    | cons x xs ih => rw [List.map_cons, PyData.depthAll, PyData.depth, ih]; rfl
  unfold SeqAt.shaped
  rw [PyData.canLay0, h1, PyData.depth, h2]
  simp
theorem ints_same {xs : List Int} : (SeqAt.shaped (.list (xs.map PyData.int)) = true) ∧ PyData.eqv (.list (xs.map PyData.int)) (.list (xs.map PyData.int)) = true := by
  have h1 : ∀ xs : List Int, PyData.canLayAll0 (xs.map PyData.int) = true := fun xs => by
    induction xs with
    | nil => rw [List.map_nil, PyData.canLayAll0]
    | cons x xs ih => rw [List.map_cons, PyData.canLayAll0, PyData.canLay0, ih]; rfl
  exact ⟨shaped_ints xs, SeqAt.eqv_refl _ (by rw [PyData.canLay0, h1])⟩
theorem eq_ints_same {S : Sto} {Φ : KD} {x y : D} {xs : List Int} (e1 : asL S x = some (xs.map D.int)) (e2 : asL S y = some (xs.map D.int)) (h : Φ S (.bl true)) : dEq x y S Φ := by
  have pr : ∀ x : D, asL S x = some (xs.map D.int) → PyR S x (.list (xs.map PyData.int)) := fun x e => by
    rcases asL_cases e with rfl | ⟨n, rfl, e'⟩
    · exact .lst (pyra_map PyR.int xs)
    · exact .own e' (pyra_map PyR.int xs)
  exact ⟨_, _, pr x e1, pr y e2, ints_same.1, ints_same.1, by rw [ints_same.2]; exact h⟩
/-- a table of the law's: whole, or in cells that are not the feed -/
def Dk (h : Nat) (S : Sto) (d : D) (t : List (List Int)) : Prop := d = tabD t ∨ ∃ b hs, d = .own b ∧ TabH S b hs t ∧ h ≠ b ∧ h ∉ hs
theorem Dk.tabS {h : Nat} {S : Sto} {d : D} {t : List (List Int)} (k : Dk h S d t) : TabS S d t := by
  rcases k with rfl | ⟨b, hs, rfl, k, _, _⟩
  · exact tabS_l t
  · exact k.tabS
theorem Dk.frm {h : Nat} {S S' : Sto} {d : D} {t : List (List Int)} (k : Dk h S d t) (f : Frm [h] S S') : Dk h S' d t := by
  rcases k with rfl | ⟨b, hs, rfl, k, hb, hh⟩
  · exact .inl rfl
  · refine .inr ⟨b, hs, rfl, k.keep fun x hx c e => f.get x c (fun z => ?_) e, hb, hh⟩
    rw [List.mem_singleton] at z
    subst z
    rcases hx with hx | hx
    · exact hb hx
    · exact hh hx
theorem Frm.wk {S S' : Sto} {A : List Nat} (f : Frm [] S S') : Frm A S S' := ⟨f.len, fun i c _ e => f.get i c (fun z => nomatch z) e⟩
theorem Fs.fr1 {h n : Nat} {S S' : Sto} (f : Fs h n S S') : Frm [h] S S' := Frm.refl.fs f List.mem_cons_self
theorem fd_frm {S S' : Sto} {h n : Nat} (f : Frm [] S S') (g : FdAt S h n) : FdAt S' h n := let ⟨c, e, q⟩ := g; ⟨c, f.get h c (fun z => nomatch z) e, q⟩
theorem dk_new {h n : Nat} {S S1 : Sto} {b : Nat} {hs : List Nat} {t : List (List Int)} (g : FdAt S h n) (k : TabH S1 b hs t) (l : ∀ a, a = b ∨ a ∈ hs → S.length ≤ a ∧ a < S1.length) : Dk h S1 (.own b) t := by
  have := g.lt
  exact .inr ⟨b, hs, rfl, k, fun e => by have := l b (.inl rfl); omega, fun e => by have := l h (.inr e); omega⟩
theorem p_law : Rets sp_law T_law N_law := by
  rintro _ S Φ Ψ ⟨ns, rfl, q⟩
  unfold T_law
  walk_at "dl"
  rw [List.length_map]
  obtain ⟨N, eN, hN⟩ : ∃ N : Nat, (if (if (ns.length : Int) < 2 then (ns.length : Int) else 2) > 1 then (if (ns.length : Int) < 2 then (ns.length : Int) else 2) else 1) = (N : Int) ∧ N ≤ 2 := by
    refine ⟨(if (if (ns.length : Int) < 2 then (ns.length : Int) else 2) > 1 then (if (ns.length : Int) < 2 then (ns.length : Int) else 2) else 1).toNat, ?_, ?_⟩
    · split <;> split <;> omega
    · split <;> split <;> omega
  rw [eN, Int.toNat_natCast]
  refine ⟨by omega, by omega, ?_⟩
  refine for_r0 (fun i Γ S' => ∃ o1 o2 o3 o4 o5 o6, Γ = [some (.sq (ns.map D.int)), o1, o2, o3, o4, o5, o6, none]) ⟨_, _, _, _, _, _, rfl⟩ (fun i Γ' S' hi hp => ?_) fun Γ' S' hp => ?_
  · obtain ⟨o1, o2, o3, o4, o5, o6, rfl⟩ := hp
    walk_at "dl"
    refine ⟨ns, i, rfl, by omega, fun c0 f0 => ?_⟩
    have fd : FdAt (S' ++ [c0]) S'.length 0 := ⟨c0, get_at, f0⟩
    generalize S' ++ [c0] = S0 at *
    generalize S'.length = h at *
    walk_at "dl"
    have rowsOk : ∀ {a : Nat} {t : List (List Int)}, a ≤ 60 → 1 ≤ t.length → t.length ≤ a → (∀ r ∈ t, 1 ≤ r.length ∧ r.length ≤ 12 ∧ ∀ x ∈ r, 0 ≤ x ∧ x ≤ MOST) → TabOk t := fun h1 h2 h3 h4 => ⟨h2, by omega, fun r hr => ⟨(h4 r hr).1, (h4 r hr).2.1, (h4 r hr).2.2⟩⟩
    refine ⟨h, _, 60, 12, rfl, fd, by decide, by decide, by decide, by decide, by decide, fun S1 t f1 t1 t2 t3 => ?_⟩
    have g1 := f1.at fd.lt
    refine ⟨h, _, 1, 12, rfl, g1, by decide, by decide, by decide, by decide, by decide, fun S2 u f2 u1 u2 u3 => ?_⟩
    have g2 := f2.at g1.lt
    obtain ⟨r, rfl⟩ : ∃ r, u = [r] := by
      match u, u1, u2 with
      | [r], _, _ => exact ⟨r, rfl⟩
      | _ :: _ :: _, _, h => exact absurd h (by simp)
    have rok : RowOk r := (rowsOk (a := 1) (by decide) u1 u2 u3).row r List.mem_cons_self
    have tok := rowsOk (a := 60) (by decide) t1 t2 t3
    show dIx (.lst [rowD r]) (.int 0) S2 _
    rw [dIx_l]
    refine ⟨rowD r, rfl, small (by decide), ?_⟩
    rw [dEq_i, cInt_b, dIx_l]
    obtain ⟨M, eM, hM⟩ : ∃ M : Nat, atI [D.int 6, D.int 40] (if ((i : Int) == 0) = true then 1 else 0) = some (.int M) ∧ M ≤ 40 := by
      by_cases c : ((i : Int) == 0) = true
      · rw [if_pos c]; exact ⟨40, rfl, Nat.le_refl _⟩
      · rw [if_neg c]; exact ⟨6, rfl, by decide⟩
    refine ⟨_, eM, M, rfl, by omega, by omega, ?_⟩
    rw [Int.toNat_natCast]
    refine for_r0 (fun j Γ S' => ∃ d t r o5 o6, Γ = [some (.sq (ns.map D.int)), some (.int i), some (.own h), some d, some (rowD r), o5, o6, none] ∧ FdAt S' h (20000010 + 10000010 * j) ∧ Dk h S' d t ∧ TabOk t ∧ RowOk r) ⟨_, t, r, _, _, rfl, g2.mono (by decide), .inl rfl, tok, rok⟩ (fun j Γ' S3 hj hp => ?_) fun Γ' S3 hp => ?_
    · obtain ⟨d, t, r, o5, o6, rfl, g3, dk, tok, rok⟩ := hp
      clear f1 f2 g1 g2 t1 t2 t3 u1 u2 u3
      have t60 := tok.hi
      have t1 := tok.lo
      show sSeq _ _ _ [some (.sq (ns.map D.int)), some (.int i), some (.own h), some d, some (rowD r), some (.int j), o6, none] S3
      refine seqJ (fun Γ' S' => ∃ s : Nat, s ≤ t.length ∧ Γ' = [some (.sq (ns.map D.int)), some (.int i), some (.own h), some d, some (rowD r), some (.int j), some (.int s), none] ∧ FdAt S' h (20000010 + 10000010 * j + 2) ∧ Dk h S' d t) (fun N hN => ?_) fun Γ' S4 hp => ?_
      · obtain ⟨ds, ed, rs⟩ := id dk.tabS
        have lds := rs.len
        walk_at "dl"
        rw [cLen_L ed]
        walk_at "dl"
        refine pick_at g3 (by omega) (fun S4 v f4 g4 v0 v1 => ?_) (by omega) (by omega)
        have dk4 := dk.frm f4.fr1
        obtain ⟨ds4, ed4, rs4⟩ := id dk4.tabS
        have lds4 := rs4.len
        rw [cLen_L ed4]
        refine ⟨small (by decide), pick_at g4 (by decide) (fun S5 w f5 g5 w0 w1 => ?_) (by omega)⟩
        rw [dIx_l]
        obtain ⟨V, rfl⟩ : ∃ V : Nat, v = V := ⟨v.toNat, by omega⟩
        have pick3 : ∃ s : Nat, s ≤ t.length ∧ atI [D.int (V : Int), D.int 0, D.int (ds4.length : Int)] w = some (.int s) := by
          rcases (show w = 0 ∨ w = 1 ∨ w = 2 by omega) with rfl | rfl | rfl
          · exact ⟨V, by omega, rfl⟩
          · exact ⟨0, by omega, rfl⟩
          · exact ⟨ds4.length, by omega, rfl⟩
        obtain ⟨s, s1, s2⟩ := pick3
        exact ⟨_, s2, hN _ _ ⟨s, s1, rfl, g5.mono (by omega), dk4.frm f5.fr1⟩⟩
      obtain ⟨s, hs, rfl, g4, dk4⟩ := hp
      refine seqJ (fun Γ' S' => Γ' = [some (.sq (ns.map D.int)), some (.int i), some (.own h), some d, some (rowD r), some (.int j), some (.int s), none] ∧ FdAt S' h (20000010 + 10000010 * j + 2) ∧ Dk h S' d t) (fun N hN => ?_) fun Γ' S5 hp => ?_
      · obtain ⟨ds, ed, rs⟩ := id dk4.tabS
        have lds := rs.len
        walk_at "dl"
        rw [cLen_L ed]
        walk_at "dl"
        by_cases c : t.length < 60
        · rw [if_pos (by rw [decide_eq_true_eq]; omega)]
          refine ⟨d, rowD r, t, r, s, rfl, dk4.tabS, tok, c, hs, rfl, rok, fun S5 f5 => ⟨true, rfl, ?_⟩⟩
          rw [if_neg (by decide)]
          exact hN _ _ ⟨rfl, fd_frm f5 g4, dk4.frm f5.wk⟩
        · rw [if_neg (by rw [decide_eq_true_eq]; omega)]
          exact hN _ _ ⟨rfl, g4, dk4⟩
      obtain ⟨rfl, g5, dk5⟩ := hp
      refine seqJ (fun Γ' S' => Γ' = [some (.sq (ns.map D.int)), some (.int i), some (.own h), some d, some (rowD r), some (.int j), some (.int s), none] ∧ FdAt S' h (20000010 + 10000010 * j + 2) ∧ Dk h S' d t) (fun N hN => ?_) fun Γ' S6 hp => ?_
      · obtain ⟨ds, ed, rs⟩ := id dk5.tabS
        have lds := rs.len
        walk_at "dl"
        rw [cLen_L ed]
        walk_at "dl"
        by_cases c : t.length < 60
        · rw [if_pos (by rw [decide_eq_true_eq]; omega)]
          by_cases cj : ((j : Int) == 0) = true
          · rw [if_pos cj, dIx_L ed]
            obtain ⟨d0, ds', eds⟩ : ∃ d0 ds', ds = d0 :: ds' := by
              match ds, lds with
              | d0 :: ds', _ => exact ⟨d0, ds', rfl⟩
              | [], h => exact absurd h (by simp; omega)
            subst eds
            cases rs with
            | @cons _ _ r0 t' e0 rs' =>
              refine ⟨d0, by rw [show (0 : Int) = ((0 : Nat) : Int) from rfl, at_nat]; rfl, ?_⟩
              refine ⟨d, d0, r0 :: t', r0, s, rfl, dk5.tabS, tok, c, hs, e0, tok.row r0 List.mem_cons_self, fun S5 f5 => ⟨true, rfl, ?_⟩⟩
              rw [if_neg (by decide)]
              exact hN _ _ ⟨rfl, fd_frm f5 g5, dk5.frm f5.wk⟩
          · rw [if_neg cj]
            exact hN _ _ ⟨rfl, g5, dk5⟩
        · rw [if_neg (by rw [decide_eq_true_eq]; omega)]
          exact hN _ _ ⟨rfl, g5, dk5⟩
      obtain ⟨rfl, g6, dk6⟩ := hp
      refine seqJ (fun Γ' S' => Γ' = [some (.sq (ns.map D.int)), some (.int i), some (.own h), some d, some (rowD r), some (.int j), some (.int s), none] ∧ FdAt S' h (20000010 + 10000010 * j + 2) ∧ Dk h S' d t) (fun N hN => ?_) fun Γ' S7 hp => ?_
      · obtain ⟨ds, ed, rs⟩ := id dk6.tabS
        have lds := rs.len
        walk_at "dl"
        rw [cLen_L ed]
        walk_at "dl"
        by_cases c : 1 < t.length
        · rw [if_pos (by rw [decide_eq_true_eq]; omega), cLen_L ed]
          walk_at "dl"
          obtain ⟨m, em, hm⟩ : ∃ m : Nat, (if (ds.length : Int) - 1 < (s : Int) then (ds.length : Int) - 1 else (s : Int)) = (m : Int) ∧ m < t.length := ⟨(if (ds.length : Int) - 1 < (s : Int) then (ds.length : Int) - 1 else (s : Int)).toNat, by split <;> omega, by split <;> omega⟩
          rw [em]
          refine ⟨d, t, m, rfl, dk6.tabS, tok, hm, c, fun S7 f7 => ⟨true, rfl, ?_⟩⟩
          rw [if_neg (by decide)]
          exact hN _ _ ⟨rfl, fd_frm f7 g6, dk6.frm f7.wk⟩
        · rw [if_neg (by rw [decide_eq_true_eq]; omega)]
          exact hN _ _ ⟨rfl, g6, dk6⟩
      obtain ⟨rfl, g7, dk7⟩ := hp
      refine seqJ (fun Γ' S' => ∃ d t, Γ' = [some (.sq (ns.map D.int)), some (.int i), some (.own h), some d, some (rowD r), some (.int j), some (.int s), none] ∧ FdAt S' h (20000010 + 10000010 * j + 3) ∧ Dk h S' d t ∧ TabOk t) (fun N hN => ?_) fun Γ' S8 hp => ?_
      · obtain ⟨ds, ed, rs⟩ := id dk7.tabS
        have lds := rs.len
        rw [sJ_e]
        walk_at "dl"
        rw [cLen_L ed]
        walk_at "dl"
        have without : ∀ {S8 : Sto} {n : Nat}, FdAt S8 h n → n ≤ 20000010 + 10000010 * j + 3 → Dk h S8 d t → 1 < t.length → ∀ (m : Nat), m < t.length → sp_without_line [d, .int m] S8 (fun S1 d => N [some (.sq (ns.map D.int)), some (.int i), some (.own h), some d, some (rowD r), some (.int j), some (.int s), none] S1) (ErOk S Ψ) := fun {S8 n} g hn dk c m hm =>
          ⟨d, t, m, rfl, dk.tabS, tok, hm, c, newTab_h fun S9 b hs9 k9 f9 l9 => hN _ _ ⟨_, _, rfl, (fd_frm f9 g).mono hn, dk_new g k9 l9, (cut_ok33 tok hm c).1⟩⟩
        obtain ⟨m, em, hm⟩ : ∃ m : Nat, (if (ds.length : Int) - 1 < (s : Int) then (ds.length : Int) - 1 else (s : Int)) = (m : Int) ∧ m < t.length := ⟨(if (ds.length : Int) - 1 < (s : Int) then (ds.length : Int) - 1 else (s : Int)).toNat, by split <;> omega, by split <;> omega⟩
        have cutStep : ∀ {S8 : Sto} {n : Nat}, FdAt S8 h n → n ≤ 20000010 + 10000010 * j + 3 → Dk h S8 d t → 1 < t.length → cLen [d] S8 (fun S1 x => dSub x (.int 1) S1 fun S1 x => cMin2 [.int s, x] S1 fun S1 x => sp_without_line [d, x] S1 (fun S1 d => N [some (.sq (ns.map D.int)), some (.int i), some (.own h), some d, some (rowD r), some (.int j), some (.int s), none] S1) (ErOk S Ψ)) := fun {S8 n} g hn dk c => by
          obtain ⟨ds8, ed8, rs8⟩ := id dk.tabS
          have l8 := rs8.len
          rw [cLen_L ed8, show (ds8.length : Int) = (ds.length : Int) by omega]
          walk_at "dl"
          rw [em]
          exact without g hn dk c m hm
        have putStep : ∀ {S8 : Sto} {n : Nat}, FdAt S8 h n → n ≤ 20000010 + 10000010 * j + 3 → Dk h S8 d t → t.length < 60 → sp_with_line [d, .int s, rowD r] S8 (fun S1 d => N [some (.sq (ns.map D.int)), some (.int i), some (.own h), some d, some (rowD r), some (.int j), some (.int s), none] S1) (ErOk S Ψ) := fun {S8 n} g hn dk c =>
          ⟨d, t, s, rowD r, r, rfl, dk.tabS, tok, hs, c, rfl, rok, newTab_h fun S9 b hs9 k9 f9 l9 => hN _ _ ⟨_, _, rfl, (fd_frm f9 g).mono hn, dk_new g k9 l9, put_ok tok c hs rok⟩⟩
        by_cases c : t.length = 60
        · rw [if_pos (by rw [lds, c]; rfl)]
          exact cutStep g7 (by omega) dk7 (by omega)
        · rw [if_neg (by rw [beq_eq_false_iff_ne.mpr (by omega)]; decide), cLen_L ed]
          walk_at "dl"
          by_cases c1 : 1 < t.length
          · rw [if_pos (by rw [decide_eq_true_eq]; omega)]
            refine pick_at g7 (by decide) (fun S8 v f8 g8 v0 v1 => ?_) (by omega)
            rw [dEqF_i]
            refine ⟨_, rfl, ?_⟩
            by_cases cv : (v == 0) = true
            · rw [if_pos cv]
              exact cutStep g8 (by omega) (dk7.frm f8.fr1) c1
            · rw [if_neg cv]
              exact putStep g8 (by omega) (dk7.frm f8.fr1) (by omega)
          · rw [if_neg (by rw [decide_eq_true_eq]; omega)]
            exact putStep g7 (by omega) dk7 (by omega)
      obtain ⟨d, t, rfl, g8, dk8, tok8⟩ := hp
      walk_at "dl"
      refine ⟨h, _, 1, 12, rfl, g8, by omega, by decide, by decide, by decide, by decide, fun S9 u f9 u1 u2 u3 => ?_⟩
      obtain ⟨r', rfl⟩ : ∃ r, u = [r] := by
        match u, u1, u2 with
        | [r], _, _ => exact ⟨r, rfl⟩
        | _ :: _ :: _, _, h => exact absurd h (by simp)
      have rok' : RowOk r' := (rowsOk (a := 1) (by decide) u1 u2 u3).row r' List.mem_cons_self
      show dIx (.lst [rowD r']) (.int 0) S9 _
      rw [dIx_l]
      exact ⟨rowD r', rfl, _, t, r', _, _, rfl, (f9.at g8.lt).mono (by omega), dk8.frm f9.fr1, tok8, rok'⟩
    · obtain ⟨d, t, r, o5, o6, rfl, g3, dk, tok, rok⟩ := hp
      exact ⟨_, _, _, _, _, _, rfl⟩
  · obtain ⟨o1, o2, o3, o4, o5, o6, rfl⟩ := hp
    walk_at "dl"
    have ok1 : TabOk [[1]] := ⟨by decide, by decide, fun r hr => by
      rw [List.mem_singleton.mp hr]
      exact ⟨by decide, by decide, fun x hx => by rw [List.mem_singleton.mp hx]; exact ⟨by decide, by decide⟩⟩⟩
    have rok : RowOk [4, 0] := ⟨by decide, by decide, fun x hx => by
      simp only [List.mem_cons, List.not_mem_nil, or_false] at hx
      rcases hx with rfl | rfl <;> exact ⟨by decide, by decide⟩⟩
    have okT : TabOk (putAt [[1]] 0 [4, 0]) := put_ok ok1 (by decide) (Nat.zero_le _) rok
    refine ⟨small (by decide), small (by decide), small (by decide), tabD [[1]], [[1]], 0, rowD [4, 0], [4, 0], rfl, tabS_l _, ok1, Nat.zero_le _, by decide, rfl, rok, newTab_h fun S1 b1 hs1 k1 f1 l1 => ?_⟩
    refine ⟨.own b1, _, 0, rowD [4, 0], [4, 0], rfl, k1.tabS, okT, Nat.zero_le _, by decide, rfl, rok, newTab_h fun S2 b2 hs2 k2 f2 l2 => ?_⟩
    have n2 : hs2.length = 3 := k2.len
    obtain ⟨x0, x1, x2, rfl⟩ : ∃ x0 x1 x2, hs2 = [x0, x1, x2] := by
      match hs2, n2 with
      | [x0, x1, x2], _ => exact ⟨x0, x1, x2, rfl⟩
    have e0 : S2[x0]? = some (.lst ([4, 0].map D.int)) := k2.row 0 (by show 0 < 3; decide) (by decide)
    have e1 : S2[x1]? = some (.lst ([4, 0].map D.int)) := k2.row 1 (by show 1 < 3; decide) (by decide)
    have h01 : x0 ≠ x1 := fun e => by
      have := k2.nd
      rw [e] at this
      simp at this
    have hb0 : x0 ≠ b2 := fun e => k2.nb (by rw [← e]; exact List.mem_cons_self)
    have out2 := k2.out
    show dIx (.own b2) (.int 0) S2 _
    rw [dIx_o']
    refine ⟨_, out2, .own x0, rfl, isLst_at e0, ?_⟩
    show mAppend (.own x0) [D.int 5] S2 _
    rw [mAppend_e]
    refine ⟨_, e0, under (by decide), ?_⟩
    rw [dIx_o']
    refine ⟨_, by rw [List.getElem?_set_ne hb0]; exact out2, .own x1, rfl, ?_⟩
    refine eq_ints_same (xs := [4, 0]) (asL_at' (by rw [List.getElem?_set_ne h01]; exact e1)) rfl ⟨true, rfl, ?_⟩
    rw [if_pos rfl]
    refine ⟨small (by decide), eq_ints_same (xs := [4, 0]) rfl rfl ⟨true, rfl, ?_⟩⟩
    rw [if_pos rfl]
    have ok2 : TabOk [[1], [2, 3]] := ⟨by decide, by decide, fun r hr => by
      simp only [List.mem_cons, List.not_mem_nil, or_false] at hr
      rcases hr with rfl | rfl
      · exact ⟨by decide, by decide, fun x hx => by rw [List.mem_singleton.mp hx]; exact ⟨by decide, by decide⟩⟩
      · refine ⟨by decide, by decide, fun x hx => ?_⟩
        simp only [List.mem_cons, List.not_mem_nil, or_false] at hx
        rcases hx with rfl | rfl <;> exact ⟨by decide, by decide⟩⟩
    refine ⟨small (by decide), small (by decide), small (by decide), tabD [[1], [2, 3]], _, 0, rfl, tabS_l _, ok2, by decide, by decide, newTab_h fun S4 b4 hs4 k4 f4 l4 => ?_⟩
    refine ⟨small (by decide), small (by decide), ?_⟩
    have fc : Fit 2 (2 + 60 * (2 + 12 * (31 + 3) + 2)) (tabP (cutAt [[1], [2, 3]] 0)) := tab_fit61 (cut_ok33 ok2 (by decide) (by decide)).1.hi (cut_ok33 ok2 (by decide) (by decide)).1.row
    exact eq_same k4.tabS.pyr (show PyR S4 (tabD [[2, 3]]) (tabP [[2, 3]]) from pyr_tab _) fc (ret_now (q _))
end DL
namespace DL
open PySem PySem.Spec PyProof.Rows L2
theorem sc_is_integer : FnScope N_is_integer P_is_integer (defScope s_is_integer) := ⟨rfl, rfl, rfl, by decide +kernel, rfl, by decide +kernel, by decide +kernel⟩
theorem d_is_integer {P : Program} {wd : World} {K : PySem.W.Frag} {mg : Str → Option Value} {base : Heap} {f : Addr} {cdv : Value} {A : Around} {outer : List Env} {s : Shared} {H : Hp} {E : XK} (hG : (A.deeper (envOfC "is_integer" (defScope s_is_integer) s.heap.objs.size f cdv)).guards = some []) (hr : Room 0 (A.deeper (envOfC "is_integer" (defScope s_is_integer) s.heap.objs.size f cdv))) (m_int : mg "int" = none) (m_isinstance : mg "isinstance" = none) (m_bool : mg "bool" = none) :
    ∃ t, JB (cxOf (L2.CX P wd) P wd K mg base N_is_integer "is_integer" (defScope s_is_integer) f cdv A outer s H E) (WD E) (defBody s_is_integer) t T_is_integer := by
  have hu : (A.deeper (envOfC "is_integer" (defScope s_is_integer) s.heap.objs.size f cdv)).units + 64 < cLine := hr.units
  exact ⟨_, (jb_one (js_ret (je_and (je_callB call_isi cd_isi rfl m_isinstance (by decide +kernel) (ja_cons (je_var 0) (ja_cons (je_ty rfl m_int (by decide +kernel)) ja_nil))) (je_and (je_not (je_callB call_isi cd_isi rfl m_isinstance (by decide +kernel) (ja_cons (je_var 0) (ja_cons (je_ty rfl m_bool (by decide +kernel)) ja_nil)))) (je_one (je_chain op_le op_le opd_le opd_le (je_var 1) (je_var 0) (je_var 2)))))))⟩
theorem sc_is_cell : FnScope N_is_cell P_is_cell (defScope s_is_cell) := ⟨rfl, rfl, rfl, by decide +kernel, rfl, by decide +kernel, by decide +kernel⟩
theorem d_is_cell {P : Program} {wd : World} {K : PySem.W.Frag} {mg : Str → Option Value} {base : Heap} {f : Addr} {cdv : Value} {A : Around} {outer : List Env} {s : Shared} {H : Hp} {E : XK} (hG : (A.deeper (envOfC "is_cell" (defScope s_is_cell) s.heap.objs.size f cdv)).guards = some []) (hr : Room 1 (A.deeper (envOfC "is_cell" (defScope s_is_cell) s.heap.objs.size f cdv))) (c_is_integer : CalG P wd K mg base "is_integer" s_is_integer 1 P_is_integer sp_is_integer) (g_MOST_CELL : ∃ t, mg "MOST_CELL" = some (.int 1000000000000000000000000000000 t)) :
    ∃ t, JB (cxOf (L2.CX P wd) P wd K mg base N_is_cell "is_cell" (defScope s_is_cell) f cdv A outer s H E) (WD E) (defBody s_is_cell) t T_is_cell := by
  have hu : (A.deeper (envOfC "is_cell" (defScope s_is_cell) s.heap.objs.size f cdv)).units + 64 < cLine := hr.units
  exact ⟨_, (jb_one (js_ret (je_callCG c_is_integer hG (hr.mono (by decide)) rfl (takes_of rfl rfl rfl rfl) (ja_cons (je_var 0) (ja_cons je_int (ja_cons (je_gint rfl g_MOST_CELL) ja_nil))))))⟩
theorem sc_is_line : FnScope N_is_line P_is_line (defScope s_is_line) := ⟨rfl, rfl, rfl, by decide +kernel, rfl, by decide +kernel, by decide +kernel⟩
theorem d_is_line {P : Program} {wd : World} {K : PySem.W.Frag} {mg : Str → Option Value} {base : Heap} {f : Addr} {cdv : Value} {A : Around} {outer : List Env} {s : Shared} {H : Hp} {E : XK} (hG : (A.deeper (envOfC "is_line" (defScope s_is_line) s.heap.objs.size f cdv)).guards = some []) (hr : Room 2 (A.deeper (envOfC "is_line" (defScope s_is_line) s.heap.objs.size f cdv))) (m_list : mg "list" = none) (m_isinstance : mg "isinstance" = none) (m_len : mg "len" = none) (g_MOST_CELLS : ∃ t, mg "MOST_CELLS" = some (.int 12 t)) (c_is_cell : CalG P wd K mg base "is_cell" s_is_cell 2 P_is_cell sp_is_cell) (m_all : mg "all" = none) :
    ∃ t, JB (cxOf (L2.CX P wd) P wd K mg base N_is_line "is_line" (defScope s_is_line) f cdv A outer s H E) (WD E) (defBody s_is_line) t T_is_line := by
  have hu : (A.deeper (envOfC "is_line" (defScope s_is_line) s.heap.objs.size f cdv)).units + 64 < cLine := hr.units
  exact ⟨_, (jb_one (js_ret (je_and (je_callB call_isi cd_isi rfl m_isinstance (by decide +kernel) (ja_cons (je_var 0) (ja_cons (je_ty rfl m_list (by decide +kernel)) ja_nil))) (je_and (je_chain op_le op_le opd_le opd_le je_int (je_callB call_lenA cd_len rfl m_len (by decide +kernel) (ja_cons (je_var 0) ja_nil)) (je_gint rfl g_MOST_CELLS)) (je_one (je_callB (cr_all rfl) cd_all rfl m_all (by decide +kernel) (ja_cons (je_lc (own := ([("cell", 1)] : List (Str × Nat))) finF finF_ok rfl sc_is_line.nd (ji_list (je_var 0)) (blkOk_by (N := N_is_line) (sc := defScope s_is_line) (by decide +kernel)) (fun _ _ _ _ _ => (jg_name 1 sc_is_line.nd)) (by exact (gk_name (vs := [1]) (i := 1))) (fun _ _ _ _ _ => jts_nil) (fun _ _ _ _ _ => (je_callCG c_is_cell hG (hr.mono (by decide)) rfl takes0 (ja_cons (je_var 1) ja_nil)))) ja_nil)))))))⟩
theorem sc_is_table : FnScope N_is_table P_is_table (defScope s_is_table) := ⟨rfl, rfl, rfl, by decide +kernel, rfl, by decide +kernel, by decide +kernel⟩
theorem d_is_table {P : Program} {wd : World} {K : PySem.W.Frag} {mg : Str → Option Value} {base : Heap} {f : Addr} {cdv : Value} {A : Around} {outer : List Env} {s : Shared} {H : Hp} {E : XK} (hG : (A.deeper (envOfC "is_table" (defScope s_is_table) s.heap.objs.size f cdv)).guards = some []) (hr : Room 3 (A.deeper (envOfC "is_table" (defScope s_is_table) s.heap.objs.size f cdv))) (m_list : mg "list" = none) (m_isinstance : mg "isinstance" = none) (m_len : mg "len" = none) (g_MOST_LINES : ∃ t, mg "MOST_LINES" = some (.int 60 t)) (c_is_line : CalG P wd K mg base "is_line" s_is_line 3 P_is_line sp_is_line) (m_all : mg "all" = none) :
    ∃ t, JB (cxOf (L2.CX P wd) P wd K mg base N_is_table "is_table" (defScope s_is_table) f cdv A outer s H E) (WD E) (defBody s_is_table) t T_is_table := by
  have hu : (A.deeper (envOfC "is_table" (defScope s_is_table) s.heap.objs.size f cdv)).units + 64 < cLine := hr.units
  exact ⟨_, (jb_one (js_ret (je_and (je_callB call_isi cd_isi rfl m_isinstance (by decide +kernel) (ja_cons (je_var 0) (ja_cons (je_ty rfl m_list (by decide +kernel)) ja_nil))) (je_and (je_chain op_le op_le opd_le opd_le je_int (je_callB call_lenA cd_len rfl m_len (by decide +kernel) (ja_cons (je_var 0) ja_nil)) (je_gint rfl g_MOST_LINES)) (je_one (je_callB (cr_all rfl) cd_all rfl m_all (by decide +kernel) (ja_cons (je_lc (own := ([("line", 1)] : List (Str × Nat))) finF finF_ok rfl sc_is_table.nd (ji_list (je_var 0)) (blkOk_by (N := N_is_table) (sc := defScope s_is_table) (by decide +kernel)) (fun _ _ _ _ _ => (jg_name 1 sc_is_table.nd)) (by exact (gk_name (vs := [1]) (i := 1))) (fun _ _ _ _ _ => jts_nil) (fun _ _ _ _ _ => (je_callCG c_is_line hG (hr.mono (by decide)) rfl takes0 (ja_cons (je_var 1) ja_nil)))) ja_nil)))))))⟩
theorem sc_need_table : FnScope N_need_table P_need_table (defScope s_need_table) := ⟨rfl, rfl, rfl, by decide +kernel, rfl, by decide +kernel, by decide +kernel⟩
theorem d_need_table {C_InvalidTable : Addr} {P : Program} {wd : World} {K : PySem.W.Frag} {mg : Str → Option Value} {base : Heap} {f : Addr} {cdv : Value} {A : Around} {outer : List Env} {s : Shared} {H : Hp} {E : XK} (hG : (A.deeper (envOfC "need_table" (defScope s_need_table) s.heap.objs.size f cdv)).guards = some []) (hr : Room 4 (A.deeper (envOfC "need_table" (defScope s_need_table) s.heap.objs.size f cdv))) (c_is_table : CalG P wd K mg base "is_table" s_is_table 4 P_is_table sp_is_table) (e_InvalidTable : ExcF K mg "InvalidTable" C_InvalidTable) :
    ∃ t, JB (cxOf (L2.CX P wd) P wd K mg base N_need_table "need_table" (defScope s_need_table) f cdv A outer s H E) (WD E) (defBody s_need_table) t (T_need_table C_InvalidTable) := by
  have hu : (A.deeper (envOfC "need_table" (defScope s_need_table) s.heap.objs.size f cdv)).units + 64 < cLine := hr.units
  exact ⟨_, (jb_one (js_if (jt_not (jt_val (je_callCG c_is_table hG (hr.mono (by decide)) rfl (takes_of rfl rfl rfl rfl) (ja_cons (je_var 0) ja_nil))))
  (jb_one (js_raiseC e_InvalidTable rfl (takes_of rfl rfl rfl rfl) rfl))
  jb_nil))⟩
theorem sc_need_line : FnScope N_need_line P_need_line (defScope s_need_line) := ⟨rfl, rfl, rfl, by decide +kernel, rfl, by decide +kernel, by decide +kernel⟩
theorem d_need_line {C_InvalidLine : Addr} {P : Program} {wd : World} {K : PySem.W.Frag} {mg : Str → Option Value} {base : Heap} {f : Addr} {cdv : Value} {A : Around} {outer : List Env} {s : Shared} {H : Hp} {E : XK} (hG : (A.deeper (envOfC "need_line" (defScope s_need_line) s.heap.objs.size f cdv)).guards = some []) (hr : Room 1 (A.deeper (envOfC "need_line" (defScope s_need_line) s.heap.objs.size f cdv))) (c_is_integer : CalG P wd K mg base "is_integer" s_is_integer 1 P_is_integer sp_is_integer) (m_len : mg "len" = none) (e_InvalidLine : ExcF K mg "InvalidLine" C_InvalidLine) :
    ∃ t, JB (cxOf (L2.CX P wd) P wd K mg base N_need_line "need_line" (defScope s_need_line) f cdv A outer s H E) (WD E) (defBody s_need_line) t (T_need_line C_InvalidLine) := by
  have hu : (A.deeper (envOfC "need_line" (defScope s_need_line) s.heap.objs.size f cdv)).units + 64 < cLine := hr.units
  exact ⟨_, (jb_one (js_if (jt_not (jt_val (je_callCG c_is_integer hG (hr.mono (by decide)) rfl (takes_of rfl rfl rfl rfl) (ja_cons (je_var 1) (ja_cons je_int (ja_cons (je_op op_sub opd_sub (je_callB call_lenA cd_len rfl m_len (by decide +kernel) (ja_cons (je_var 0) ja_nil)) je_int) ja_nil))))))
  (jb_one (js_raiseC e_InvalidLine rfl (takes_of rfl rfl rfl rfl) rfl))
  jb_nil))⟩
theorem sc_copy_of : FnScope N_copy_of P_copy_of (defScope s_copy_of) := ⟨rfl, rfl, rfl, by decide +kernel, rfl, by decide +kernel, by decide +kernel⟩
theorem d_copy_of {P : Program} {wd : World} {K : PySem.W.Frag} {mg : Str → Option Value} {base : Heap} {f : Addr} {cdv : Value} {A : Around} {outer : List Env} {s : Shared} {H : Hp} {E : XK} (hG : (A.deeper (envOfC "copy_of" (defScope s_copy_of) s.heap.objs.size f cdv)).guards = some []) (hr : Room 0 (A.deeper (envOfC "copy_of" (defScope s_copy_of) s.heap.objs.size f cdv))) (m_list : mg "list" = none) :
    ∃ t, JB (cxOf (L2.CX P wd) P wd K mg base N_copy_of "copy_of" (defScope s_copy_of) f cdv A outer s H E) (WD E) (defBody s_copy_of) t T_copy_of := by
  have hu : (A.deeper (envOfC "copy_of" (defScope s_copy_of) s.heap.objs.size f cdv)).units + 64 < cLine := hr.units
  exact ⟨_, (jb_one (js_ret (je_lc (own := ([("cells", 1)] : List (Str × Nat))) finO finO_ok rfl sc_copy_of.nd (ji_list (je_var 0)) (blkOk_by (N := N_copy_of) (sc := defScope s_copy_of) (by decide +kernel)) (fun _ _ _ _ _ => (jg_name 1 sc_copy_of.nd)) (by exact (gk_name (vs := [1]) (i := 1))) (fun _ _ _ _ _ => jts_nil) (fun _ _ _ _ _ => (je_callTy call_list_of cd_listO rfl m_list (by decide +kernel) (ja_cons (je_var 1) ja_nil))))))⟩
theorem sc_with_line : FnScope N_with_line P_with_line (defScope s_with_line) := ⟨rfl, rfl, rfl, by decide +kernel, rfl, by decide +kernel, by decide +kernel⟩
theorem d_with_line {C_InvalidLine C_InvalidCell C_InvalidTable : Addr} {P : Program} {wd : World} {K : PySem.W.Frag} {mg : Str → Option Value} {base : Heap} {f : Addr} {cdv : Value} {A : Around} {outer : List Env} {s : Shared} {H : Hp} {E : XK} (hG : (A.deeper (envOfC "with_line" (defScope s_with_line) s.heap.objs.size f cdv)).guards = some []) (hr : Room 5 (A.deeper (envOfC "with_line" (defScope s_with_line) s.heap.objs.size f cdv))) (c_need_table : CalG P wd K mg base "need_table" s_need_table 5 P_need_table sp_need_table) (m_len : mg "len" = none) (e_InvalidLine : ExcF K mg "InvalidLine" C_InvalidLine) (c_is_line : CalG P wd K mg base "is_line" s_is_line 3 P_is_line sp_is_line) (e_InvalidCell : ExcF K mg "InvalidCell" C_InvalidCell) (g_MOST_LINES : ∃ t, mg "MOST_LINES" = some (.int 60 t)) (e_InvalidTable : ExcF K mg "InvalidTable" C_InvalidTable) (c_copy_of : CalG P wd K mg base "copy_of" s_copy_of 1 P_copy_of sp_copy_of) :
    ∃ t, JB (cxOf (L2.CX P wd) P wd K mg base N_with_line "with_line" (defScope s_with_line) f cdv A outer s H E) (WD E) (defBody s_with_line) t (T_with_line C_InvalidLine C_InvalidCell C_InvalidTable) := by
  have hu : (A.deeper (envOfC "with_line" (defScope s_with_line) s.heap.objs.size f cdv)).units + 64 < cLine := hr.units
  exact ⟨_, (jb_cons (js_expr (je_callCG c_need_table hG (hr.mono (by decide)) rfl (takes_of rfl rfl rfl rfl) (ja_cons (je_var 0) ja_nil)))
  (jb_cons (js_if (jt_not (jt_chain op_le op_le opd_le opd_le je_int (je_var 1) (je_callB call_lenA cd_len rfl m_len (by decide +kernel) (ja_cons (je_var 0) ja_nil))))
  (jb_one (js_raiseC e_InvalidLine rfl (takes_of rfl rfl rfl rfl) rfl))
  jb_nil)
  (jb_cons (js_if (jt_not (jt_val (je_callCG c_is_line hG (hr.mono (by decide)) rfl (takes_of rfl rfl rfl rfl) (ja_cons (je_var 2) ja_nil))))
  (jb_one (js_raiseC e_InvalidCell rfl (takes_of rfl rfl rfl rfl) rfl))
  jb_nil)
  (jb_cons (js_if (jt_cmp (op_eqD hu) opd_eq (je_callB call_lenA cd_len rfl m_len (by decide +kernel) (ja_cons (je_var 0) ja_nil)) (je_gint rfl g_MOST_LINES) (nomark _))
  (jb_one (js_raiseC e_InvalidTable rfl (takes_of rfl rfl rfl rfl) rfl))
  jb_nil)
  (jb_one (js_ret (je_callCG c_copy_of hG (hr.mono (by decide)) rfl (takes_of rfl rfl rfl rfl) (ja_cons (je_op op_addA opd_add (je_op op_addA opd_add (je_slice sl_list sld_l (je_var 0) jo_none (jo_some (je_var 1))) (je_lst (ja_cons (je_var 2) ja_nil))) (je_slice sl_list sld_l (je_var 0) (jo_some (je_var 1)) jo_none)) ja_nil))))))))⟩
theorem sc_without_line : FnScope N_without_line P_without_line (defScope s_without_line) := ⟨rfl, rfl, rfl, by decide +kernel, rfl, by decide +kernel, by decide +kernel⟩
theorem d_without_line {C_InvalidTable : Addr} {P : Program} {wd : World} {K : PySem.W.Frag} {mg : Str → Option Value} {base : Heap} {f : Addr} {cdv : Value} {A : Around} {outer : List Env} {s : Shared} {H : Hp} {E : XK} (hG : (A.deeper (envOfC "without_line" (defScope s_without_line) s.heap.objs.size f cdv)).guards = some []) (hr : Room 5 (A.deeper (envOfC "without_line" (defScope s_without_line) s.heap.objs.size f cdv))) (c_need_table : CalG P wd K mg base "need_table" s_need_table 5 P_need_table sp_need_table) (c_need_line : CalG P wd K mg base "need_line" s_need_line 2 P_need_line sp_need_line) (m_len : mg "len" = none) (e_InvalidTable : ExcF K mg "InvalidTable" C_InvalidTable) (c_copy_of : CalG P wd K mg base "copy_of" s_copy_of 1 P_copy_of sp_copy_of) :
    ∃ t, JB (cxOf (L2.CX P wd) P wd K mg base N_without_line "without_line" (defScope s_without_line) f cdv A outer s H E) (WD E) (defBody s_without_line) t (T_without_line C_InvalidTable) := by
  have hu : (A.deeper (envOfC "without_line" (defScope s_without_line) s.heap.objs.size f cdv)).units + 64 < cLine := hr.units
  exact ⟨_, (jb_cons (js_expr (je_callCG c_need_table hG (hr.mono (by decide)) rfl (takes_of rfl rfl rfl rfl) (ja_cons (je_var 0) ja_nil)))
  (jb_cons (js_expr (je_callCG c_need_line hG (hr.mono (by decide)) rfl (takes_of rfl rfl rfl rfl) (ja_cons (je_var 0) (ja_cons (je_var 1) ja_nil))))
  (jb_cons (js_if (jt_cmp (op_eqD hu) opd_eq (je_callB call_lenA cd_len rfl m_len (by decide +kernel) (ja_cons (je_var 0) ja_nil)) je_int (nomark _))
  (jb_one (js_raiseC e_InvalidTable rfl (takes_of rfl rfl rfl rfl) rfl))
  jb_nil)
  (jb_one (js_ret (je_callCG c_copy_of hG (hr.mono (by decide)) rfl (takes_of rfl rfl rfl rfl) (ja_cons (je_op op_addA opd_add (je_slice sl_list sld_l (je_var 0) jo_none (jo_some (je_var 1))) (je_slice sl_list sld_l (je_var 0) (jo_some (je_op op_addA opd_add (je_var 1) je_int)) jo_none)) ja_nil)))))))⟩
theorem sc__law_feed : FnScope N__law_feed P__law_feed (defScope s__law_feed) := ⟨rfl, rfl, rfl, by decide +kernel, rfl, by decide +kernel, by decide +kernel⟩
theorem d__law_feed {P : Program} {wd : World} {K : PySem.W.Frag} {mg : Str → Option Value} {base : Heap} {f : Addr} {cdv : Value} {A : Around} {outer : List Env} {s : Shared} {H : Hp} {E : XK} (hG : (A.deeper (envOfC "_law_feed" (defScope s__law_feed) s.heap.objs.size f cdv)).guards = some []) (hr : Room 0 (A.deeper (envOfC "_law_feed" (defScope s__law_feed) s.heap.objs.size f cdv))) (m_len : mg "len" = none) (m_abs : mg "abs" = none) (m_max : mg "max" = none) :
    ∃ t, JB (cxOf (L2.CX P wd) P wd K mg base N__law_feed "_law_feed" (defScope s__law_feed) f cdv A outer s H E) (WD E) (defBody s__law_feed) t T__law_feed := by
  have hu : (A.deeper (envOfC "_law_feed" (defScope s__law_feed) s.heap.objs.size f cdv)).units + 64 < cLine := hr.units
  exact ⟨_, (jb_cons (js_set 2 sc__law_feed.nd (je_if (jt_cmp op_lt opd_lt (je_var 1) (je_callB call_lenA cd_len rfl m_len (by decide +kernel) (ja_cons (je_var 0) ja_nil)) (nomark _)) (je_callB call_abs cd_abs rfl m_abs (by decide +kernel) (ja_cons (je_ix ix_seq opd_ix (je_var 0) (je_var 1)) ja_nil)) je_int))
  (jb_one (js_ret (je_lstO (ja_cons (je_callB (call_max2 rfl) cd_max2 rfl m_max (by decide +kernel) (ja_cons je_int (ja_cons (je_op op_sub opd_sub (je_var 2) (je_op op_powW opd_pow je_int je_int)) ja_nil))) (ja_cons (je_op op_addA opd_add (je_op op_addA opd_add (je_op op_mulA opd_mul (je_op op_mod opd_mod (je_var 2) (je_op op_addA opd_add (je_op op_powW opd_pow je_int je_int) je_int)) je_int) (je_op op_mulA opd_mul je_int (je_var 1))) je_int) (ja_cons je_int ja_nil)))))))⟩
theorem sc__law_pick : FnScope N__law_pick P__law_pick (defScope s__law_pick) := ⟨rfl, rfl, rfl, by decide +kernel, rfl, by decide +kernel, by decide +kernel⟩
theorem d__law_pick {P : Program} {wd : World} {K : PySem.W.Frag} {mg : Str → Option Value} {base : Heap} {f : Addr} {cdv : Value} {A : Around} {outer : List Env} {s : Shared} {H : Hp} {E : XK} (hG : (A.deeper (envOfC "_law_pick" (defScope s__law_pick) s.heap.objs.size f cdv)).guards = some []) (hr : Room 0 (A.deeper (envOfC "_law_pick" (defScope s__law_pick) s.heap.objs.size f cdv)))  :
    ∃ t, JB (cxOf (L2.CX P wd) P wd K mg base N__law_pick "_law_pick" (defScope s__law_pick) f cdv A outer s H E) (WD E) (defBody s__law_pick) t T__law_pick := by
  have hu : (A.deeper (envOfC "_law_pick" (defScope s__law_pick) s.heap.objs.size f cdv)).units + 64 < cLine := hr.units
  exact ⟨_, (jb_cons (js_if (jt_cmp op_gt opd_gt (je_ix ix_seq opd_ix (je_var 0) je_int) je_int (nomark _))
  (jb_cons (js_set 2 sc__law_pick.nd (je_op op_mod opd_mod (je_ix ix_seq opd_ix (je_var 0) je_int) (je_var 1)))
  (jb_cons (js_asg (je_op op_fdivW opd_div (je_ix ix_seq opd_ix (je_var 0) je_int) (je_var 1)) (jg_sub (je_var 0) je_int set_list setd_o))
  (jb_one (js_ret (je_var 2)))))
  jb_nil)
  (jb_cons (js_asg (je_op op_addA opd_add (je_ix ix_seq opd_ix (je_var 0) je_int) je_int) (jg_sub (je_var 0) je_int set_list setd_o))
  (jb_cons (js_set 3 sc__law_pick.nd (je_op op_mod opd_mod (je_op op_powW opd_pow (je_op op_addA opd_add (je_ix ix_seq opd_ix (je_var 0) je_int) (je_op op_mulA opd_mul je_int (je_ix ix_seq opd_ix (je_var 0) je_int))) je_int) (je_op op_addA opd_add (je_op op_powW opd_pow je_int je_int) je_int)))
  (jb_cons (js_set 3 sc__law_pick.nd (je_op op_mod opd_mod (je_op op_powW opd_pow (je_op op_addA opd_add (je_var 3) (je_op op_mulA opd_mul je_int (je_ix ix_seq opd_ix (je_var 0) je_int))) je_int) (je_op op_addA opd_add (je_op op_powW opd_pow je_int je_int) je_int)))
  (jb_one (js_ret (je_op op_mod opd_mod (je_op op_fdivW opd_div (je_var 3) je_int) (je_var 1))))))))⟩
theorem sc__law_lengths : FnScope N__law_lengths P__law_lengths (defScope s__law_lengths) := ⟨rfl, rfl, rfl, by decide +kernel, rfl, by decide +kernel, by decide +kernel⟩
theorem d__law_lengths {P : Program} {wd : World} {K : PySem.W.Frag} {mg : Str → Option Value} {base : Heap} {f : Addr} {cdv : Value} {A : Around} {outer : List Env} {s : Shared} {H : Hp} {E : XK} (hG : (A.deeper (envOfC "_law_lengths" (defScope s__law_lengths) s.heap.objs.size f cdv)).guards = some []) (hr : Room 1 (A.deeper (envOfC "_law_lengths" (defScope s__law_lengths) s.heap.objs.size f cdv))) (c__law_pick : CalG P wd K mg base "_law_pick" s__law_pick 1 P__law_pick sp__law_pick) (m_range : mg "range" = none) (m_min : mg "min" = none) (m_max : mg "max" = none) :
    ∃ t, JB (cxOf (L2.CX P wd) P wd K mg base N__law_lengths "_law_lengths" (defScope s__law_lengths) f cdv A outer s H E) (WD E) (defBody s__law_lengths) t T__law_lengths := by
  have hu : (A.deeper (envOfC "_law_lengths" (defScope s__law_lengths) s.heap.objs.size f cdv)).units + 64 < cLine := hr.units
  exact ⟨_, (jb_cons (js_par3 3 4 5 rfl sc__law_lengths.nd (ja_cons (je_callCG c__law_pick hG (hr.mono (by decide)) rfl (takes_of rfl rfl rfl rfl) (ja_cons (je_var 0) (ja_cons je_int ja_nil))) (ja_cons (je_op op_addA opd_add je_int (je_callCG c__law_pick hG (hr.mono (by decide)) rfl (takes_of rfl rfl rfl rfl) (ja_cons (je_var 0) (ja_cons (je_var 2) ja_nil)))) (ja_cons (je_lstO ja_nil) ja_nil))))
  (jb_cons (js_for (passes_of rfl) rfl (ji_range1 rfl m_range (ja_cons (je_var 1) ja_nil)) (jg_name 6 sc__law_lengths.nd)
  (jb_cons (js_set 7 sc__law_lengths.nd (je_op op_sub opd_sub (je_op op_addA opd_add (je_var 4) (je_callCG c__law_pick hG (hr.mono (by decide)) rfl (takes_of rfl rfl rfl rfl) (ja_cons (je_var 0) (ja_cons je_int ja_nil)))) je_int))
  (jb_cons (js_set 8 sc__law_lengths.nd (je_if (jt_cmp op_gt opd_gt (je_callCG c__law_pick hG (hr.mono (by decide)) rfl (takes_of rfl rfl rfl rfl) (ja_cons (je_var 0) (ja_cons je_int ja_nil))) je_int (nomark _)) (je_var 4) (je_op op_addA opd_add je_int (je_callCG c__law_pick hG (hr.mono (by decide)) rfl (takes_of rfl rfl rfl rfl) (ja_cons (je_var 0) (ja_cons (je_var 2) ja_nil))))))
  (jb_cons (js_set 9 sc__law_lengths.nd (je_lst (ja_cons (je_op op_addA opd_add je_int (je_callCG c__law_pick hG (hr.mono (by decide)) rfl (takes_of rfl rfl rfl rfl) (ja_cons (je_var 0) (ja_cons (je_var 2) ja_nil)))) (ja_cons (je_var 8) (ja_cons (je_callB (call_max2 rfl) cd_max2 rfl m_max (by decide +kernel) (ja_cons je_int (ja_cons (je_callB (call_min2 rfl) cd_min2 rfl m_min (by decide +kernel) (ja_cons (je_var 2) (ja_cons (je_var 7) ja_nil))) ja_nil))) (ja_cons (je_var 2) (ja_cons (je_op op_addA opd_add je_int (je_callCG c__law_pick hG (hr.mono (by decide)) rfl (takes_of rfl rfl rfl rfl) (ja_cons (je_var 0) (ja_cons (je_callB (call_min2 rfl) cd_min2 rfl m_min (by decide +kernel) (ja_cons je_int (ja_cons (je_var 2) ja_nil))) ja_nil)))) ja_nil)))))))
  (jb_cons (js_set 4 sc__law_lengths.nd (je_ix ix_seq opd_ix (je_var 9) (je_var 3)))
  (jb_one (js_expr (je_bm PySem.F.slot_list_append PySem.F.type_list_append mt_append mtd_append (je_var 5) (ja_cons (je_var 4) ja_nil)))))))))
  (jb_one (js_ret (je_fz (je_var 5))))))⟩
theorem sc__law_rows : FnScope N__law_rows P__law_rows (defScope s__law_rows) := ⟨rfl, rfl, rfl, by decide +kernel, rfl, by decide +kernel, by decide +kernel⟩
theorem d__law_rows {P : Program} {wd : World} {K : PySem.W.Frag} {mg : Str → Option Value} {base : Heap} {f : Addr} {cdv : Value} {A : Around} {outer : List Env} {s : Shared} {H : Hp} {E : XK} (hG : (A.deeper (envOfC "_law_rows" (defScope s__law_rows) s.heap.objs.size f cdv)).guards = some []) (hr : Room 2 (A.deeper (envOfC "_law_rows" (defScope s__law_rows) s.heap.objs.size f cdv))) (c__law_pick : CalG P wd K mg base "_law_pick" s__law_pick 1 P__law_pick sp__law_pick) (m_min : mg "min" = none) (c__law_lengths : CalG P wd K mg base "_law_lengths" s__law_lengths 2 P__law_lengths sp__law_lengths) (m_range : mg "range" = none) :
    ∃ t, JB (cxOf (L2.CX P wd) P wd K mg base N__law_rows "_law_rows" (defScope s__law_rows) f cdv A outer s H E) (WD E) (defBody s__law_rows) t T__law_rows := by
  have hu : (A.deeper (envOfC "_law_rows" (defScope s__law_rows) s.heap.objs.size f cdv)).units + 64 < cLine := hr.units
  exact ⟨_, (jb_cons (js_set 3 sc__law_rows.nd (je_ix ix_seq opd_ix (je_lst (ja_cons (je_op op_addA opd_add je_int (je_callCG c__law_pick hG (hr.mono (by decide)) rfl (takes_of rfl rfl rfl rfl) (ja_cons (je_var 0) (ja_cons (je_var 1) ja_nil)))) (ja_cons (je_op op_addA opd_add je_int (je_callCG c__law_pick hG (hr.mono (by decide)) rfl (takes_of rfl rfl rfl rfl) (ja_cons (je_var 0) (ja_cons (je_callB (call_min2 rfl) cd_min2 rfl m_min (by decide +kernel) (ja_cons (je_var 1) (ja_cons je_int ja_nil))) ja_nil)))) (ja_cons (je_var 1) ja_nil)))) (je_callCG c__law_pick hG (hr.mono (by decide)) rfl (takes_of rfl rfl rfl rfl) (ja_cons (je_var 0) (ja_cons je_int ja_nil)))))
  (jb_cons (js_set 4 sc__law_rows.nd (je_ix ix_seq opd_ix (je_lst (ja_cons je_int (ja_cons je_int (ja_cons je_int (ja_cons je_int (ja_cons (je_op op_addA opd_add (je_op op_powW opd_pow je_int je_int) je_int) ja_nil)))))) (je_callCG c__law_pick hG (hr.mono (by decide)) rfl (takes_of rfl rfl rfl rfl) (ja_cons (je_var 0) (ja_cons je_int ja_nil)))))
  (jb_cons (js_set 5 sc__law_rows.nd (je_lstO ja_nil))
  (jb_cons (js_for (passes_of rfl) rfl (ji_list (je_callCG c__law_lengths hG (hr.mono (by decide)) rfl (takes_of rfl rfl rfl rfl) (ja_cons (je_var 0) (ja_cons (je_var 3) (ja_cons (je_var 2) ja_nil))))) (jg_name 6 sc__law_rows.nd)
  (jb_one (js_expr (je_bm PySem.F.slot_list_append PySem.F.type_list_append mt_append mtd_append (je_var 5) (ja_cons (je_lc (own := ([("_law_at", 7)] : List (Str × Nat))) finF finF_ok rfl sc__law_rows.nd (ji_range1 rfl m_range (ja_cons (je_var 6) ja_nil)) (blkOk_by (N := N__law_rows) (sc := defScope s__law_rows) (by decide +kernel)) (fun _ _ _ _ _ => (jg_name 7 sc__law_rows.nd)) (by exact (gk_name (vs := [7]) (i := 7))) (fun _ _ _ _ _ => jts_nil) (fun _ _ _ _ _ => (je_callCG c__law_pick hG (hr.mono (by decide)) rfl takes0 (ja_cons (je_var 0) (ja_cons (je_var 4) ja_nil))))) ja_nil)))))
  (jb_one (js_ret (je_fz (je_var 5))))))))⟩
theorem sc__law_put_right : FnScope N__law_put_right P__law_put_right (defScope s__law_put_right) := ⟨rfl, rfl, rfl, by decide +kernel, rfl, by decide +kernel, by decide +kernel⟩
theorem d__law_put_right {P : Program} {wd : World} {K : PySem.W.Frag} {mg : Str → Option Value} {base : Heap} {f : Addr} {cdv : Value} {A : Around} {outer : List Env} {s : Shared} {H : Hp} {E : XK} (hG : (A.deeper (envOfC "_law_put_right" (defScope s__law_put_right) s.heap.objs.size f cdv)).guards = some []) (hr : Room 6 (A.deeper (envOfC "_law_put_right" (defScope s__law_put_right) s.heap.objs.size f cdv))) (m_repr : mg "repr" = none) (c_with_line : CalG P wd K mg base "with_line" s_with_line 6 P_with_line sp_with_line) (c_without_line : CalG P wd K mg base "without_line" s_without_line 6 P_without_line sp_without_line) :
    ∃ t, JB (cxOf (L2.CX P wd) P wd K mg base N__law_put_right "_law_put_right" (defScope s__law_put_right) f cdv A outer s H E) (WD E) (defBody s__law_put_right) t T__law_put_right := by
  have hu : (A.deeper (envOfC "_law_put_right" (defScope s__law_put_right) s.heap.objs.size f cdv)).units + 64 < cLine := hr.units
  exact ⟨_, (jb_cons (js_par 3 4 rfl sc__law_put_right.nd (ja_cons (je_callB (call_reprD hG hu) cd_repr rfl m_repr (by decide +kernel) (ja_cons (je_lst (ja_cons (je_var 0) (ja_cons (je_var 2) ja_nil))) ja_nil)) (ja_cons (je_op op_addA opd_add (je_op op_addA opd_add (je_slice sl_list sld_l (je_var 0) jo_none (jo_some (je_var 1))) (je_lst (ja_cons (je_var 2) ja_nil))) (je_slice sl_list sld_l (je_var 0) (jo_some (je_var 1)) jo_none)) ja_nil)))
  (jb_cons (js_set 5 sc__law_put_right.nd (je_lst (ja_cons (je_callCG c_with_line hG (hr.mono (by decide)) rfl (takes_of rfl rfl rfl rfl) (ja_cons (je_var 0) (ja_cons (je_var 1) (ja_cons (je_var 2) ja_nil)))) (ja_cons (je_callK0 (ks := (["cells", "line", "table"] : List Str)) (g := fun {α} us ws => pick [2, 1, 0] us ws) c_with_line hG (hr.mono (by decide)) rfl (takes_of rfl rfl rfl rfl) (fun f fd h => kb_of (ps := P_with_line) h 0 ["cells", "line", "table"] (fun {α} us ws => pick [2, 1, 0] us ws) (fun h h2 => pick_vals h h2 _) fun _ _ _ _ _ _ us ws h1 h2 => match us, ws, h1, h2 with | [], [_, _, _], _, _ => rfl) (fun w {_ _ _ _} h h2 => pick_ra h h2 _) (jk_cons (je_var 2) (jk_cons (je_var 1) (jk_cons (je_var 0) jk_nil)))) ja_nil))))
  (jb_cons (js_if (jt_cmp op_ne opd_neF (je_callB (call_reprD hG hu) cd_repr rfl m_repr (by decide +kernel) (ja_cons (je_var 5) ja_nil)) (je_callB (call_reprD hG hu) cd_repr rfl m_repr (by decide +kernel) (ja_cons (je_lst (ja_cons (je_var 4) (ja_cons (je_var 4) ja_nil))) ja_nil)) (nomark _))
  (jb_one (js_ret je_bl))
  jb_nil)
  (jb_cons (js_set 6 sc__law_put_right.nd (je_callK0 (ks := (["table", "line"] : List Str)) (g := fun {α} us ws => pick [0, 1] us ws) c_without_line hG (hr.mono (by decide)) rfl (takes_of rfl rfl rfl rfl) (fun f fd h => kb_of (ps := P_without_line) h 0 ["table", "line"] (fun {α} us ws => pick [0, 1] us ws) (fun h h2 => pick_vals h h2 _) fun _ _ _ _ _ _ us ws h1 h2 => match us, ws, h1, h2 with | [], [_, _], _, _ => rfl) (fun w {_ _ _ _} h h2 => pick_ra h h2 _) (jk_cons (je_ix ix_seq opd_ix (je_var 5) je_int) (jk_cons (je_var 1) jk_nil))))
  (jb_cons (js_if (jt_cmp op_ne opd_neF (je_callB (call_reprD hG hu) cd_repr rfl m_repr (by decide +kernel) (ja_cons (je_var 6) ja_nil)) (je_callB (call_reprD hG hu) cd_repr rfl m_repr (by decide +kernel) (ja_cons (je_var 0) ja_nil)) (nomark _))
  (jb_one (js_ret je_bl))
  jb_nil)
  (jb_cons (js_for (passes_of rfl) rfl (ji_list (je_op op_addA opd_add (je_ix ix_seq opd_ix (je_var 5) je_int) (je_var 6))) (jg_name 7 sc__law_put_right.nd)
  (jb_one (js_expr (je_bm PySem.F.slot_list_append PySem.F.type_list_append mt_append mtd_append (je_var 7) (ja_cons je_int ja_nil)))))
  (jb_one (js_ret (je_and (je_cmp op_eq opd_eqF (je_callB (call_reprD hG hu) cd_repr rfl m_repr (by decide +kernel) (ja_cons (je_ix ix_seq opd_ix (je_var 5) je_int) ja_nil)) (je_callB (call_reprD hG hu) cd_repr rfl m_repr (by decide +kernel) (ja_cons (je_var 4) ja_nil)) (nomark _)) (je_one (je_cmp op_eq opd_eqF (je_callB (call_reprD hG hu) cd_repr rfl m_repr (by decide +kernel) (ja_cons (je_lst (ja_cons (je_var 0) (ja_cons (je_var 2) ja_nil))) ja_nil)) (je_var 3) (nomark _))))))))))))⟩
theorem sc__law_take_right : FnScope N__law_take_right P__law_take_right (defScope s__law_take_right) := ⟨rfl, rfl, rfl, by decide +kernel, rfl, by decide +kernel, by decide +kernel⟩
theorem d__law_take_right {P : Program} {wd : World} {K : PySem.W.Frag} {mg : Str → Option Value} {base : Heap} {f : Addr} {cdv : Value} {A : Around} {outer : List Env} {s : Shared} {H : Hp} {E : XK} (hG : (A.deeper (envOfC "_law_take_right" (defScope s__law_take_right) s.heap.objs.size f cdv)).guards = some []) (hr : Room 6 (A.deeper (envOfC "_law_take_right" (defScope s__law_take_right) s.heap.objs.size f cdv))) (m_repr : mg "repr" = none) (c_without_line : CalG P wd K mg base "without_line" s_without_line 6 P_without_line sp_without_line) :
    ∃ t, JB (cxOf (L2.CX P wd) P wd K mg base N__law_take_right "_law_take_right" (defScope s__law_take_right) f cdv A outer s H E) (WD E) (defBody s__law_take_right) t T__law_take_right := by
  have hu : (A.deeper (envOfC "_law_take_right" (defScope s__law_take_right) s.heap.objs.size f cdv)).units + 64 < cLine := hr.units
  exact ⟨_, (jb_cons (js_par 2 3 rfl sc__law_take_right.nd (ja_cons (je_callB (call_reprD hG hu) cd_repr rfl m_repr (by decide +kernel) (ja_cons (je_var 0) ja_nil)) (ja_cons (je_op op_addA opd_add (je_slice sl_list sld_l (je_var 0) jo_none (jo_some (je_var 1))) (je_slice sl_list sld_l (je_var 0) (jo_some (je_op op_addA opd_add (je_var 1) je_int)) jo_none)) ja_nil)))
  (jb_cons (js_set 4 sc__law_take_right.nd (je_lst (ja_cons (je_callCG c_without_line hG (hr.mono (by decide)) rfl (takes_of rfl rfl rfl rfl) (ja_cons (je_var 0) (ja_cons (je_var 1) ja_nil))) (ja_cons (je_callK0 (ks := (["line", "table"] : List Str)) (g := fun {α} us ws => pick [1, 0] us ws) c_without_line hG (hr.mono (by decide)) rfl (takes_of rfl rfl rfl rfl) (fun f fd h => kb_of (ps := P_without_line) h 0 ["line", "table"] (fun {α} us ws => pick [1, 0] us ws) (fun h h2 => pick_vals h h2 _) fun _ _ _ _ _ _ us ws h1 h2 => match us, ws, h1, h2 with | [], [_, _], _, _ => rfl) (fun w {_ _ _ _} h h2 => pick_ra h h2 _) (jk_cons (je_var 1) (jk_cons (je_var 0) jk_nil))) ja_nil))))
  (jb_cons (js_if (jt_cmp op_ne opd_neF (je_callB (call_reprD hG hu) cd_repr rfl m_repr (by decide +kernel) (ja_cons (je_var 4) ja_nil)) (je_callB (call_reprD hG hu) cd_repr rfl m_repr (by decide +kernel) (ja_cons (je_lst (ja_cons (je_var 3) (ja_cons (je_var 3) ja_nil))) ja_nil)) (nomark _))
  (jb_one (js_ret je_bl))
  jb_nil)
  (jb_cons (js_for (passes_of rfl) rfl (ji_list (je_ix ix_seq opd_ix (je_var 4) je_int)) (jg_name 5 sc__law_take_right.nd)
  (jb_one (js_expr (je_bm0 PySem.F.slot_list_clear PySem.F.type_list_clear mt_clear mtd_clear (je_var 5)))))
  (jb_one (js_ret (je_and (je_cmp op_eq opd_eqF (je_callB (call_reprD hG hu) cd_repr rfl m_repr (by decide +kernel) (ja_cons (je_ix ix_seq opd_ix (je_var 4) je_int) ja_nil)) (je_callB (call_reprD hG hu) cd_repr rfl m_repr (by decide +kernel) (ja_cons (je_var 3) ja_nil)) (nomark _)) (je_one (je_cmp op_eq opd_eqF (je_callB (call_reprD hG hu) cd_repr rfl m_repr (by decide +kernel) (ja_cons (je_var 0) ja_nil)) (je_var 2) (nomark _))))))))))⟩
theorem sc_law : FnScope N_law P_law (defScope s_law) := ⟨rfl, rfl, rfl, by decide +kernel, rfl, by decide +kernel, by decide +kernel⟩
theorem d_law {P : Program} {wd : World} {K : PySem.W.Frag} {mg : Str → Option Value} {base : Heap} {f : Addr} {cdv : Value} {A : Around} {outer : List Env} {s : Shared} {H : Hp} {E : XK} (hG : (A.deeper (envOfC "law" (defScope s_law) s.heap.objs.size f cdv)).guards = some []) (hr : Room 7 (A.deeper (envOfC "law" (defScope s_law) s.heap.objs.size f cdv))) (m_len : mg "len" = none) (m_min : mg "min" = none) (m_max : mg "max" = none) (m_range : mg "range" = none) (c__law_feed : CalG P wd K mg base "_law_feed" s__law_feed 1 P__law_feed sp__law_feed) (c__law_rows : CalG P wd K mg base "_law_rows" s__law_rows 3 P__law_rows sp__law_rows) (m_int : mg "int" = none) (c__law_pick : CalG P wd K mg base "_law_pick" s__law_pick 1 P__law_pick sp__law_pick) (c__law_put_right : CalG P wd K mg base "_law_put_right" s__law_put_right 7 P__law_put_right sp__law_put_right) (c__law_take_right : CalG P wd K mg base "_law_take_right" s__law_take_right 7 P__law_take_right sp__law_take_right) (c_without_line : CalG P wd K mg base "without_line" s_without_line 6 P_without_line sp_without_line) (c_with_line : CalG P wd K mg base "with_line" s_with_line 6 P_with_line sp_with_line) :
    ∃ t, JB (cxOf (L2.CX P wd) P wd K mg base N_law "law" (defScope s_law) f cdv A outer s H E) (WD E) (defBody s_law) t T_law := by
  have hu : (A.deeper (envOfC "law" (defScope s_law) s.heap.objs.size f cdv)).units + 64 < cLine := hr.units
  exact ⟨_, (jb_cons (js_for (passes_of rfl) rfl (ji_range1 rfl m_range (ja_cons (je_callB (call_max2 rfl) cd_max2 rfl m_max (by decide +kernel) (ja_cons je_int (ja_cons (je_callB (call_min2 rfl) cd_min2 rfl m_min (by decide +kernel) (ja_cons je_int (ja_cons (je_callB call_lenA cd_len rfl m_len (by decide +kernel) (ja_cons (je_var 0) ja_nil)) ja_nil))) ja_nil))) ja_nil)) (jg_name 1 sc_law.nd)
  (jb_cons (js_set 2 sc_law.nd (je_callCG c__law_feed hG (hr.mono (by decide)) rfl (takes_of rfl rfl rfl rfl) (ja_cons (je_var 0) (ja_cons (je_var 1) ja_nil))))
  (jb_cons (js_par 3 4 rfl sc_law.nd (ja_cons (je_callCG c__law_rows hG (hr.mono (by decide)) rfl (takes_of rfl rfl rfl rfl) (ja_cons (je_var 2) (ja_cons je_int (ja_cons je_int ja_nil)))) (ja_cons (je_ix ix_seq opd_ix (je_callCG c__law_rows hG (hr.mono (by decide)) rfl (takes_of rfl rfl rfl rfl) (ja_cons (je_var 2) (ja_cons je_int (ja_cons je_int ja_nil)))) je_int) ja_nil)))
  (jb_one (js_for (passes_of rfl) rfl (ji_range1 rfl m_range (ja_cons (je_ix ix_seq opd_ix (je_lst (ja_cons je_int (ja_cons je_int ja_nil))) (je_callTy call_int1 cd_int rfl m_int (by decide +kernel) (ja_cons (je_cmp (op_eqD hu) opd_eq (je_var 1) je_int (nomark _)) ja_nil))) ja_nil)) (jg_name 5 sc_law.nd)
  (jb_cons (js_set 6 sc_law.nd (je_ix ix_seq opd_ix (je_lst (ja_cons (je_callCG c__law_pick hG (hr.mono (by decide)) rfl (takes_of rfl rfl rfl rfl) (ja_cons (je_var 2) (ja_cons (je_op op_addA opd_add (je_callB call_lenA cd_len rfl m_len (by decide +kernel) (ja_cons (je_var 3) ja_nil)) je_int) ja_nil))) (ja_cons je_int (ja_cons (je_callB call_lenA cd_len rfl m_len (by decide +kernel) (ja_cons (je_var 3) ja_nil)) ja_nil)))) (je_callCG c__law_pick hG (hr.mono (by decide)) rfl (takes_of rfl rfl rfl rfl) (ja_cons (je_var 2) (ja_cons je_int ja_nil)))))
  (jb_cons (js_if (JW.jt (jw_and (jt_cmp op_lt opd_lt (je_callB call_lenA cd_len rfl m_len (by decide +kernel) (ja_cons (je_var 3) ja_nil)) je_int (nomark _)) (jw_and1 (jt_not (jt_val (je_callCG c__law_put_right hG (hr.mono (by decide)) rfl (takes_of rfl rfl rfl rfl) (ja_cons (je_var 3) (ja_cons (je_var 6) (ja_cons (je_var 4) ja_nil)))))))))
  (jb_one (js_ret je_bl))
  jb_nil)
  (jb_cons (js_if (JW.jt (jw_and (jt_cmp op_lt opd_lt (je_callB call_lenA cd_len rfl m_len (by decide +kernel) (ja_cons (je_var 3) ja_nil)) je_int (nomark _)) (jw_and (jt_cmp op_eq opd_eqF (je_var 5) je_int (nomark _)) (jw_and1 (jt_not (jt_val (je_callCG c__law_put_right hG (hr.mono (by decide)) rfl (takes_of rfl rfl rfl rfl) (ja_cons (je_var 3) (ja_cons (je_var 6) (ja_cons (je_ix ix_seq opd_ix (je_var 3) je_int) ja_nil))))))))))
  (jb_one (js_ret je_bl))
  jb_nil)
  (jb_cons (js_if (JW.jt (jw_and (jt_cmp op_gt opd_gt (je_callB call_lenA cd_len rfl m_len (by decide +kernel) (ja_cons (je_var 3) ja_nil)) je_int (nomark _)) (jw_and1 (jt_not (jt_val (je_callCG c__law_take_right hG (hr.mono (by decide)) rfl (takes_of rfl rfl rfl rfl) (ja_cons (je_var 3) (ja_cons (je_callB (call_min2 rfl) cd_min2 rfl m_min (by decide +kernel) (ja_cons (je_var 6) (ja_cons (je_op op_sub opd_sub (je_callB call_lenA cd_len rfl m_len (by decide +kernel) (ja_cons (je_var 3) ja_nil)) je_int) ja_nil))) ja_nil))))))))
  (jb_one (js_ret je_bl))
  jb_nil)
  (jb_cons (js_if (JW.jt (jw_or (jt_cmp op_eq opd_eqF (je_callB call_lenA cd_len rfl m_len (by decide +kernel) (ja_cons (je_var 3) ja_nil)) je_int (nomark _)) (jw_or1 (JW.jt (jw_and (jt_cmp op_gt opd_gt (je_callB call_lenA cd_len rfl m_len (by decide +kernel) (ja_cons (je_var 3) ja_nil)) je_int (nomark _)) (jw_and1 (jt_cmp op_eq opd_eqF (je_callCG c__law_pick hG (hr.mono (by decide)) rfl (takes_of rfl rfl rfl rfl) (ja_cons (je_var 2) (ja_cons je_int ja_nil))) je_int (nomark _))))))))
  (jb_one (js_set 3 sc_law.nd (je_callCG c_without_line hG (hr.mono (by decide)) rfl (takes_of rfl rfl rfl rfl) (ja_cons (je_var 3) (ja_cons (je_callB (call_min2 rfl) cd_min2 rfl m_min (by decide +kernel) (ja_cons (je_var 6) (ja_cons (je_op op_sub opd_sub (je_callB call_lenA cd_len rfl m_len (by decide +kernel) (ja_cons (je_var 3) ja_nil)) je_int) ja_nil))) ja_nil)))))
  (jb_one (js_set 3 sc_law.nd (je_callCG c_with_line hG (hr.mono (by decide)) rfl (takes_of rfl rfl rfl rfl) (ja_cons (je_var 3) (ja_cons (je_var 6) (ja_cons (je_var 4) ja_nil)))))))
  (jb_one (js_set 4 sc_law.nd (je_ix ix_seq opd_ix (je_callCG c__law_rows hG (hr.mono (by decide)) rfl (takes_of rfl rfl rfl rfl) (ja_cons (je_var 2) (ja_cons je_int (ja_cons je_int ja_nil)))) je_int)))))))))))))
  (jb_cons (js_set 4 sc_law.nd (je_lst (ja_cons je_int (ja_cons je_int ja_nil))))
  (jb_cons (js_set 7 sc_law.nd (je_callCG c_with_line hG (hr.mono (by decide)) rfl (takes_of rfl rfl rfl rfl) (ja_cons (je_callCG c_with_line hG (hr.mono (by decide)) rfl (takes_of rfl rfl rfl rfl) (ja_cons (je_lst (ja_cons (je_lst (ja_cons je_int ja_nil)) ja_nil)) (ja_cons je_int (ja_cons (je_var 4) ja_nil)))) (ja_cons je_int (ja_cons (je_var 4) ja_nil)))))
  (jb_cons (js_expr (je_bm PySem.F.slot_list_append PySem.F.type_list_append mt_append mtd_append (je_ix ix_seq opd_ix (je_var 7) je_int) (ja_cons je_int ja_nil)))
  (jb_one (js_ret (je_and (je_chain (op_eqD hu) (op_eqD hu) opd_eq opd_eq (je_ix ix_seq opd_ix (je_var 7) je_int) (je_var 4) (je_lst (ja_cons je_int (ja_cons je_int ja_nil)))) (je_one (je_cmp (op_eqD hu) opd_eq (je_callCG c_without_line hG (hr.mono (by decide)) rfl (takes_of rfl rfl rfl rfl) (ja_cons (je_lst (ja_cons (je_lst (ja_cons je_int ja_nil)) (ja_cons (je_lst (ja_cons je_int (ja_cons je_int ja_nil))) ja_nil))) (ja_cons je_int ja_nil))) (je_lst (ja_cons (je_lst (ja_cons je_int (ja_cons je_int ja_nil))) ja_nil)) (nomark _))))))))))⟩
end DL
namespace DL
open PySem PySem.Spec PyProof.Rows L2
theorem fun_one {K : PySem.W.Frag} {x : Str} {st : Stmt} {f : Addr} {fd fd2 : FuncData} (F : FunS K x st f fd) (F2 : FunS K x st f fd2) : fd = fd2 := by
  obtain ⟨⟨_, _, _, _, _, _, _, _, _, _, _, e, lk, _⟩, _⟩ := F
  obtain ⟨⟨_, _, _, _, _, _, _, _, _, _, _, e2, lk2, _⟩, _⟩ := F2
  rw [e] at e2
  cases e2
  rfl
theorem len_is_integer : ∀ ds S Φ Ψ, sp_is_integer ds S Φ Ψ → ds.length = (P_is_integer : List Str).length := by
  intro ds S Φ Ψ h
  repeat' (first | (obtain ⟨e, _⟩ := h; (rw [e]; rfl)) | (refine Or.elim h ?_ ?_ <;> clear h <;> intro h) | (obtain ⟨_, h⟩ := h))
theorem len_is_cell : ∀ ds S Φ Ψ, sp_is_cell ds S Φ Ψ → ds.length = (P_is_cell : List Str).length := by
  intro ds S Φ Ψ h
  repeat' (first | (obtain ⟨e, _⟩ := h; (rw [e]; rfl)) | (refine Or.elim h ?_ ?_ <;> clear h <;> intro h) | (obtain ⟨_, h⟩ := h))
theorem len_is_line : ∀ ds S Φ Ψ, sp_is_line ds S Φ Ψ → ds.length = (P_is_line : List Str).length := by
  intro ds S Φ Ψ h
  repeat' (first | (obtain ⟨e, _⟩ := h; (rw [e]; rfl)) | (refine Or.elim h ?_ ?_ <;> clear h <;> intro h) | (obtain ⟨_, h⟩ := h))
theorem len_is_table : ∀ ds S Φ Ψ, sp_is_table ds S Φ Ψ → ds.length = (P_is_table : List Str).length := by
  intro ds S Φ Ψ h
  repeat' (first | (obtain ⟨e, _⟩ := h; (rw [e]; rfl)) | (refine Or.elim h ?_ ?_ <;> clear h <;> intro h) | (obtain ⟨_, h⟩ := h))
theorem len_need_table : ∀ ds S Φ Ψ, sp_need_table ds S Φ Ψ → ds.length = (P_need_table : List Str).length := by
  intro ds S Φ Ψ h
  repeat' (first | (obtain ⟨e, _⟩ := h; (rw [e]; rfl)) | (refine Or.elim h ?_ ?_ <;> clear h <;> intro h) | (obtain ⟨_, h⟩ := h))
theorem len_need_line : ∀ ds S Φ Ψ, sp_need_line ds S Φ Ψ → ds.length = (P_need_line : List Str).length := by
  intro ds S Φ Ψ h
  repeat' (first | (obtain ⟨e, _⟩ := h; (rw [e]; rfl)) | (refine Or.elim h ?_ ?_ <;> clear h <;> intro h) | (obtain ⟨_, h⟩ := h))
theorem len_copy_of : ∀ ds S Φ Ψ, sp_copy_of ds S Φ Ψ → ds.length = (P_copy_of : List Str).length := by
  intro ds S Φ Ψ h
  repeat' (first | (obtain ⟨e, _⟩ := h; (rw [e]; rfl)) | (refine Or.elim h ?_ ?_ <;> clear h <;> intro h) | (obtain ⟨_, h⟩ := h))
theorem len_with_line : ∀ ds S Φ Ψ, sp_with_line ds S Φ Ψ → ds.length = (P_with_line : List Str).length := by
  intro ds S Φ Ψ h
  repeat' (first | (obtain ⟨e, _⟩ := h; (rw [e]; rfl)) | (refine Or.elim h ?_ ?_ <;> clear h <;> intro h) | (obtain ⟨_, h⟩ := h))
theorem len_without_line : ∀ ds S Φ Ψ, sp_without_line ds S Φ Ψ → ds.length = (P_without_line : List Str).length := by
  intro ds S Φ Ψ h
  repeat' (first | (obtain ⟨e, _⟩ := h; (rw [e]; rfl)) | (refine Or.elim h ?_ ?_ <;> clear h <;> intro h) | (obtain ⟨_, h⟩ := h))
theorem len__law_feed : ∀ ds S Φ Ψ, sp__law_feed ds S Φ Ψ → ds.length = (P__law_feed : List Str).length := by
  intro ds S Φ Ψ h
  repeat' (first | (obtain ⟨e, _⟩ := h; (rw [e]; rfl)) | (refine Or.elim h ?_ ?_ <;> clear h <;> intro h) | (obtain ⟨_, h⟩ := h))
theorem len__law_pick : ∀ ds S Φ Ψ, sp__law_pick ds S Φ Ψ → ds.length = (P__law_pick : List Str).length := by
  intro ds S Φ Ψ h
  repeat' (first | (obtain ⟨e, _⟩ := h; (rw [e]; rfl)) | (refine Or.elim h ?_ ?_ <;> clear h <;> intro h) | (obtain ⟨_, h⟩ := h))
theorem len__law_lengths : ∀ ds S Φ Ψ, sp__law_lengths ds S Φ Ψ → ds.length = (P__law_lengths : List Str).length := by
  intro ds S Φ Ψ h
  repeat' (first | (obtain ⟨e, _⟩ := h; (rw [e]; rfl)) | (refine Or.elim h ?_ ?_ <;> clear h <;> intro h) | (obtain ⟨_, h⟩ := h))
theorem len__law_rows : ∀ ds S Φ Ψ, sp__law_rows ds S Φ Ψ → ds.length = (P__law_rows : List Str).length := by
  intro ds S Φ Ψ h
  repeat' (first | (obtain ⟨e, _⟩ := h; (rw [e]; rfl)) | (refine Or.elim h ?_ ?_ <;> clear h <;> intro h) | (obtain ⟨_, h⟩ := h))
theorem len__law_put_right : ∀ ds S Φ Ψ, sp__law_put_right ds S Φ Ψ → ds.length = (P__law_put_right : List Str).length := by
  intro ds S Φ Ψ h
  repeat' (first | (obtain ⟨e, _⟩ := h; (rw [e]; rfl)) | (refine Or.elim h ?_ ?_ <;> clear h <;> intro h) | (obtain ⟨_, h⟩ := h))
theorem len__law_take_right : ∀ ds S Φ Ψ, sp__law_take_right ds S Φ Ψ → ds.length = (P__law_take_right : List Str).length := by
  intro ds S Φ Ψ h
  repeat' (first | (obtain ⟨e, _⟩ := h; (rw [e]; rfl)) | (refine Or.elim h ?_ ?_ <;> clear h <;> intro h) | (obtain ⟨_, h⟩ := h))
theorem len_law : ∀ ds S Φ Ψ, sp_law ds S Φ Ψ → ds.length = (P_law : List Str).length := by
  intro ds S Φ Ψ h
  repeat' (first | (obtain ⟨e, _⟩ := h; (rw [e]; rfl)) | (refine Or.elim h ?_ ?_ <;> clear h <;> intro h) | (obtain ⟨_, h⟩ := h))
theorem factsL {P : Program} {wd : World} {K : PySem.W.Frag} {h : Heap} {mg : Str → Option Value} {f : Addr} (X : K.In h) (G : h.Ns mainGlobals mg) (hfa : mg ("law" : Str) = some (.ref f)) (c : SaysX faL fnL K) :
    ∃ fd : FuncData, (∀ (s : Shared) (v : Value), BindsTo s fd ⟨[v], []⟩ [("_law_script", v)]) ∧ ∀ base : Heap, K.In base → base.Ns mainGlobals mg → FnOkG P wd K mg base (L2.CX P wd) 8 f fd ["_law_script"] (spOf K sp_law) := by
  have t_is_integer : Tx K mg "is_integer" s_is_integer := ⟨let ⟨fd, F⟩ := c.def_ 0 (d := dd_is_integer) rfl; ⟨_, fd, F, He.glo_ok X G (c.fact 0 (f := (fun K => (He.Fa.glo "is_integer").ok K)) rfl)⟩⟩
  have t_is_cell : Tx K mg "is_cell" s_is_cell := ⟨let ⟨fd, F⟩ := c.def_ 1 (d := dd_is_cell) rfl; ⟨_, fd, F, He.glo_ok X G (c.fact 1 (f := (fun K => (He.Fa.glo "is_cell").ok K)) rfl)⟩⟩
  have t_is_line : Tx K mg "is_line" s_is_line := ⟨let ⟨fd, F⟩ := c.def_ 2 (d := dd_is_line) rfl; ⟨_, fd, F, He.glo_ok X G (c.fact 2 (f := (fun K => (He.Fa.glo "is_line").ok K)) rfl)⟩⟩
  have t_is_table : Tx K mg "is_table" s_is_table := ⟨let ⟨fd, F⟩ := c.def_ 3 (d := dd_is_table) rfl; ⟨_, fd, F, He.glo_ok X G (c.fact 3 (f := (fun K => (He.Fa.glo "is_table").ok K)) rfl)⟩⟩
  have t_need_table : Tx K mg "need_table" s_need_table := ⟨let ⟨fd, F⟩ := c.def_ 4 (d := dd_need_table) rfl; ⟨_, fd, F, He.glo_ok X G (c.fact 4 (f := (fun K => (He.Fa.glo "need_table").ok K)) rfl)⟩⟩
  have t_need_line : Tx K mg "need_line" s_need_line := ⟨let ⟨fd, F⟩ := c.def_ 5 (d := dd_need_line) rfl; ⟨_, fd, F, He.glo_ok X G (c.fact 5 (f := (fun K => (He.Fa.glo "need_line").ok K)) rfl)⟩⟩
  have t_copy_of : Tx K mg "copy_of" s_copy_of := ⟨let ⟨fd, F⟩ := c.def_ 6 (d := dd_copy_of) rfl; ⟨_, fd, F, He.glo_ok X G (c.fact 6 (f := (fun K => (He.Fa.glo "copy_of").ok K)) rfl)⟩⟩
  have t_with_line : Tx K mg "with_line" s_with_line := ⟨let ⟨fd, F⟩ := c.def_ 7 (d := dd_with_line) rfl; ⟨_, fd, F, He.glo_ok X G (c.fact 7 (f := (fun K => (He.Fa.glo "with_line").ok K)) rfl)⟩⟩
  have t_without_line : Tx K mg "without_line" s_without_line := ⟨let ⟨fd, F⟩ := c.def_ 8 (d := dd_without_line) rfl; ⟨_, fd, F, He.glo_ok X G (c.fact 8 (f := (fun K => (He.Fa.glo "without_line").ok K)) rfl)⟩⟩
  have t__law_feed : Tx K mg "_law_feed" s__law_feed := ⟨let ⟨fd, F⟩ := c.def_ 9 (d := dd__law_feed) rfl; ⟨_, fd, F, He.glo_ok X G (c.fact 9 (f := (fun K => (He.Fa.glo "_law_feed").ok K)) rfl)⟩⟩
  have t__law_pick : Tx K mg "_law_pick" s__law_pick := ⟨let ⟨fd, F⟩ := c.def_ 10 (d := dd__law_pick) rfl; ⟨_, fd, F, He.glo_ok X G (c.fact 10 (f := (fun K => (He.Fa.glo "_law_pick").ok K)) rfl)⟩⟩
  have t__law_lengths : Tx K mg "_law_lengths" s__law_lengths := ⟨let ⟨fd, F⟩ := c.def_ 11 (d := dd__law_lengths) rfl; ⟨_, fd, F, He.glo_ok X G (c.fact 11 (f := (fun K => (He.Fa.glo "_law_lengths").ok K)) rfl)⟩⟩
  have t__law_rows : Tx K mg "_law_rows" s__law_rows := ⟨let ⟨fd, F⟩ := c.def_ 12 (d := dd__law_rows) rfl; ⟨_, fd, F, He.glo_ok X G (c.fact 12 (f := (fun K => (He.Fa.glo "_law_rows").ok K)) rfl)⟩⟩
  have t__law_put_right : Tx K mg "_law_put_right" s__law_put_right := ⟨let ⟨fd, F⟩ := c.def_ 13 (d := dd__law_put_right) rfl; ⟨_, fd, F, He.glo_ok X G (c.fact 13 (f := (fun K => (He.Fa.glo "_law_put_right").ok K)) rfl)⟩⟩
  have t__law_take_right : Tx K mg "_law_take_right" s__law_take_right := ⟨let ⟨fd, F⟩ := c.def_ 14 (d := dd__law_take_right) rfl; ⟨_, fd, F, He.glo_ok X G (c.fact 14 (f := (fun K => (He.Fa.glo "_law_take_right").ok K)) rfl)⟩⟩
  have t_law : Tx K mg "law" s_law := ⟨let ⟨fd, F⟩ := c.def_ 15 (d := dd_law) rfl; ⟨_, fd, F, He.glo_ok X G (c.fact 15 (f := (fun K => (He.Fa.glo "law").ok K)) rfl)⟩⟩
  have m_int := He.free_ok X G (c.fact 16 (f := (fun K => (He.Fa.free "int").ok K)) rfl)
  have m_isinstance := He.free_ok X G (c.fact 17 (f := (fun K => (He.Fa.free "isinstance").ok K)) rfl)
  have m_bool := He.free_ok X G (c.fact 18 (f := (fun K => (He.Fa.free "bool").ok K)) rfl)
  have g_MOST_CELL := He.int_ok X G (c.fact 19 (f := (fun K => (He.Fa.int "MOST_CELL" 1000000000000000000000000000000).ok K)) rfl)
  have m_list := He.free_ok X G (c.fact 20 (f := (fun K => (He.Fa.free "list").ok K)) rfl)
  have m_len := He.free_ok X G (c.fact 21 (f := (fun K => (He.Fa.free "len").ok K)) rfl)
  have g_MOST_CELLS := He.int_ok X G (c.fact 22 (f := (fun K => (He.Fa.int "MOST_CELLS" 12).ok K)) rfl)
  have m_all := He.free_ok X G (c.fact 23 (f := (fun K => (He.Fa.free "all").ok K)) rfl)
  have g_MOST_LINES := He.int_ok X G (c.fact 24 (f := (fun K => (He.Fa.int "MOST_LINES" 60).ok K)) rfl)
  have e_InvalidTable : ExcF K mg "InvalidTable" (He.ga K "InvalidTable") := let ⟨a, b, d, e⟩ := He.exc_ok (c.fact 26 (f := (fun K => (He.Fa.exc "InvalidTable").ok K)) rfl); ⟨a, He.glo_ok X G (c.fact 25 (f := (fun K => (He.Fa.glo "InvalidTable").ok K)) rfl), b, d, e⟩
  have e_InvalidLine : ExcF K mg "InvalidLine" (He.ga K "InvalidLine") := let ⟨a, b, d, e⟩ := He.exc_ok (c.fact 28 (f := (fun K => (He.Fa.exc "InvalidLine").ok K)) rfl); ⟨a, He.glo_ok X G (c.fact 27 (f := (fun K => (He.Fa.glo "InvalidLine").ok K)) rfl), b, d, e⟩
  have e_InvalidCell : ExcF K mg "InvalidCell" (He.ga K "InvalidCell") := let ⟨a, b, d, e⟩ := He.exc_ok (c.fact 30 (f := (fun K => (He.Fa.exc "InvalidCell").ok K)) rfl); ⟨a, He.glo_ok X G (c.fact 29 (f := (fun K => (He.Fa.glo "InvalidCell").ok K)) rfl), b, d, e⟩
  have m_abs := He.free_ok X G (c.fact 31 (f := (fun K => (He.Fa.free "abs").ok K)) rfl)
  have m_max := He.free_ok X G (c.fact 32 (f := (fun K => (He.Fa.free "max").ok K)) rfl)
  have m_range := He.free_ok X G (c.fact 33 (f := (fun K => (He.Fa.free "range").ok K)) rfl)
  have m_min := He.free_ok X G (c.fact 34 (f := (fun K => (He.Fa.free "min").ok K)) rfl)
  have m_repr := He.free_ok X G (c.fact 35 (f := (fun K => (He.Fa.free "repr").ok K)) rfl)
  have all : ∀ base : Heap, CalG P wd K mg base "law" s_law 8 P_law sp_law := fun base => by
    have c_is_integer : CalG P wd K mg base "is_integer" s_is_integer 1 P_is_integer sp_is_integer := calG_ok t_is_integer (fun _ _ _ _ _ _ us hl => match us, hl with | [_, _, _], _ => rfl) sc_is_integer (len_is_integer) fun f cdv A outer s H E hG hr => let ⟨t, jb⟩ := d_is_integer hG hr m_int m_isinstance m_bool; ⟨t, _, jb, p_is_integer⟩
    have c_copy_of : CalG P wd K mg base "copy_of" s_copy_of 1 P_copy_of sp_copy_of := calG_ok t_copy_of (fun _ _ _ _ _ _ us hl => match us, hl with | [_], _ => rfl) sc_copy_of (len_copy_of) fun f cdv A outer s H E hG hr => let ⟨t, jb⟩ := d_copy_of hG hr m_list; ⟨t, _, jb, p_copy_of⟩
    have c__law_feed : CalG P wd K mg base "_law_feed" s__law_feed 1 P__law_feed sp__law_feed := calG_ok t__law_feed (fun _ _ _ _ _ _ us hl => match us, hl with | [_, _], _ => rfl) sc__law_feed (len__law_feed) fun f cdv A outer s H E hG hr => let ⟨t, jb⟩ := d__law_feed hG hr m_len m_abs m_max; ⟨t, _, jb, p__law_feed⟩
    have c__law_pick : CalG P wd K mg base "_law_pick" s__law_pick 1 P__law_pick sp__law_pick := calG_ok t__law_pick (fun _ _ _ _ _ _ us hl => match us, hl with | [_, _], _ => rfl) sc__law_pick (len__law_pick) fun f cdv A outer s H E hG hr => let ⟨t, jb⟩ := d__law_pick hG hr ; ⟨t, _, jb, p__law_pick⟩
    have c_is_cell : CalG P wd K mg base "is_cell" s_is_cell 2 P_is_cell sp_is_cell := calG_ok t_is_cell (fun _ _ _ _ _ _ us hl => match us, hl with | [_], _ => rfl) sc_is_cell (len_is_cell) fun f cdv A outer s H E hG hr => let ⟨t, jb⟩ := d_is_cell hG hr c_is_integer g_MOST_CELL; ⟨t, _, jb, p_is_cell⟩
    have c_need_line : CalG P wd K mg base "need_line" s_need_line 2 P_need_line sp_need_line := calG_ok t_need_line (fun _ _ _ _ _ _ us hl => match us, hl with | [_, _], _ => rfl) sc_need_line (len_need_line) fun f cdv A outer s H E hG hr => let ⟨t, jb⟩ := d_need_line hG hr c_is_integer m_len e_InvalidLine; ⟨t, _, jb, p_need_line (He.ga K "InvalidLine")⟩
    have c__law_lengths : CalG P wd K mg base "_law_lengths" s__law_lengths 2 P__law_lengths sp__law_lengths := calG_ok t__law_lengths (fun _ _ _ _ _ _ us hl => match us, hl with | [_, _, _], _ => rfl) sc__law_lengths (len__law_lengths) fun f cdv A outer s H E hG hr => let ⟨t, jb⟩ := d__law_lengths hG hr c__law_pick m_range m_min m_max; ⟨t, _, jb, p__law_lengths⟩
    have c_is_line : CalG P wd K mg base "is_line" s_is_line 3 P_is_line sp_is_line := calG_ok t_is_line (fun _ _ _ _ _ _ us hl => match us, hl with | [_], _ => rfl) sc_is_line (len_is_line) fun f cdv A outer s H E hG hr => let ⟨t, jb⟩ := d_is_line hG hr m_list m_isinstance m_len g_MOST_CELLS c_is_cell m_all; ⟨t, _, jb, p_is_line⟩
    have c__law_rows : CalG P wd K mg base "_law_rows" s__law_rows 3 P__law_rows sp__law_rows := calG_ok t__law_rows (fun _ _ _ _ _ _ us hl => match us, hl with | [_, _, _], _ => rfl) sc__law_rows (len__law_rows) fun f cdv A outer s H E hG hr => let ⟨t, jb⟩ := d__law_rows hG hr c__law_pick m_min c__law_lengths m_range; ⟨t, _, jb, p__law_rows⟩
    have c_is_table : CalG P wd K mg base "is_table" s_is_table 4 P_is_table sp_is_table := calG_ok t_is_table (fun _ _ _ _ _ _ us hl => match us, hl with | [_], _ => rfl) sc_is_table (len_is_table) fun f cdv A outer s H E hG hr => let ⟨t, jb⟩ := d_is_table hG hr m_list m_isinstance m_len g_MOST_LINES c_is_line m_all; ⟨t, _, jb, p_is_table⟩
    have c_need_table : CalG P wd K mg base "need_table" s_need_table 5 P_need_table sp_need_table := calG_ok t_need_table (fun _ _ _ _ _ _ us hl => match us, hl with | [_], _ => rfl) sc_need_table (len_need_table) fun f cdv A outer s H E hG hr => let ⟨t, jb⟩ := d_need_table hG hr c_is_table e_InvalidTable; ⟨t, _, jb, p_need_table (He.ga K "InvalidTable")⟩
    have c_with_line : CalG P wd K mg base "with_line" s_with_line 6 P_with_line sp_with_line := calG_ok t_with_line (fun _ _ _ _ _ _ us hl => match us, hl with | [_, _, _], _ => rfl) sc_with_line (len_with_line) fun f cdv A outer s H E hG hr => let ⟨t, jb⟩ := d_with_line hG hr c_need_table m_len e_InvalidLine c_is_line e_InvalidCell g_MOST_LINES e_InvalidTable c_copy_of; ⟨t, _, jb, p_with_line (He.ga K "InvalidLine") (He.ga K "InvalidCell") (He.ga K "InvalidTable")⟩
    have c_without_line : CalG P wd K mg base "without_line" s_without_line 6 P_without_line sp_without_line := calG_ok t_without_line (fun _ _ _ _ _ _ us hl => match us, hl with | [_, _], _ => rfl) sc_without_line (len_without_line) fun f cdv A outer s H E hG hr => let ⟨t, jb⟩ := d_without_line hG hr c_need_table c_need_line m_len e_InvalidTable c_copy_of; ⟨t, _, jb, p_without_line (He.ga K "InvalidTable")⟩
    have c__law_put_right : CalG P wd K mg base "_law_put_right" s__law_put_right 7 P__law_put_right sp__law_put_right := calG_ok t__law_put_right (fun _ _ _ _ _ _ us hl => match us, hl with | [_, _, _], _ => rfl) sc__law_put_right (len__law_put_right) fun f cdv A outer s H E hG hr => let ⟨t, jb⟩ := d__law_put_right hG hr m_repr c_with_line c_without_line; ⟨t, _, jb, p__law_put_right⟩
    have c__law_take_right : CalG P wd K mg base "_law_take_right" s__law_take_right 7 P__law_take_right sp__law_take_right := calG_ok t__law_take_right (fun _ _ _ _ _ _ us hl => match us, hl with | [_, _], _ => rfl) sc__law_take_right (len__law_take_right) fun f cdv A outer s H E hG hr => let ⟨t, jb⟩ := d__law_take_right hG hr m_repr c_without_line; ⟨t, _, jb, p__law_take_right⟩
    have c_law : CalG P wd K mg base "law" s_law 8 P_law sp_law := calG_ok t_law (fun _ _ _ _ _ _ us hl => match us, hl with | [_], _ => rfl) sc_law (len_law) fun f cdv A outer s H E hG hr => let ⟨t, jb⟩ := d_law hG hr m_len m_min m_max m_range c__law_feed c__law_rows m_int c__law_pick c__law_put_right c__law_take_right c_without_line c_with_line; ⟨t, _, jb, p_law⟩
    exact c_law
  obtain ⟨fd, F⟩ := c.def_ 15 (d := dd_law) rfl
  have e := hfa.symm.trans (He.glo_ok X G (c.fact 15 (f := (fun K => (He.Fa.glo "law").ok K)) rfl))
  cases e
  have b := FunD.bindsA (ps := ["_law_script"]) F fun _ _ _ _ _ _ us hl => match us, hl with | [_], _ => rfl
  refine ⟨fd, fun s v => b s [v] rfl, fun base _ _ => ?_⟩
  obtain ⟨f2, fd2, F2, hm, FS, _⟩ := (all base).ex
  have e2 := hfa.symm.trans hm
  cases e2
  have ed : fd2 = fd := fun_one FS F
  rw [← ed]
  exact F2
end DL
open PySem PySem.W PySem.Calls PyProof.Rows
theorem PySem.Challenge.cw_runtabs_k33_lines_put_in_and_taken_out_holds : PySem.Challenge.rw_runtabs_k33_lines_put_in_and_taken_out.Holds := by
  w_on; o_law
  refine HandSHeadRun.head_any (r := OpenLaw.row PySem.Challenge.rw_runtabs_k33_lines_put_in_and_taken_out) (q := view (OpenLaw.row PySem.Challenge.rw_runtabs_k33_lines_put_in_and_taken_out).prog [28]) (H := DL.hkL) (ob := DL.obL) (M := 12000) (loose := DL.othersL) (d := HandSHeadRun.topDef (OpenLaw.row PySem.Challenge.rw_runtabs_k33_lines_put_in_and_taken_out).prog 28) (kwd := []) DL.obL_eq
    (by kernel_rfl) (fun s => by kernel_rfl) DL.runL (by kernel_rfl) (by kernel_rfl) (by kernel_rfl) (by rfl) (by first | assumption | decide +kernel) (by decide +kernel) ⟨rfl, rfl, rfl, rfl, rfl, by decide +kernel⟩ ?hw ?hc
  case hw => w_witness2
  case hc =>
    refine DL.walk_end (l := PySem.Challenge.rw_runtabs_k33_lines_put_in_and_taken_out) (n := 63) (k := 8) (x := "_law_script") rfl (by decide) (by kernel_rfl) ⟨rfl, by decide, by decide⟩ ?F
    intro w mg fa h Y G hmg0
    obtain ⟨K, KX, c⟩ := Y
    have hmg : mg ("law" : PySem.Str) = some (.ref fa) := by
      have e : (HandSHeadRun.topDef (OpenLaw.row PySem.Challenge.rw_runtabs_k33_lines_put_in_and_taken_out).prog 28).name = ("law" : PySem.Str) := by kernel_rfl
      rw [← e]
      exact hmg0
    obtain ⟨fd, hb, hF⟩ := DL.factsL (P := (PySem.Challenge.rw_runtabs_k33_lines_put_in_and_taken_out).prog) (wd := w) KX G hmg c
    exact ⟨K, fd, DL.sp_law, KX, hb, fun ns hl hb => ⟨ns, rfl, fun _ => rfl⟩, hF⟩
