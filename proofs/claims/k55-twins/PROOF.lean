import PyProof.Rows.All
import Wide.All
import OpenK.AllK
import Wide.FinOn
import HandS.Base
import HandS.Call
import HandS.List
import HandS.Comp
import HandS.Ends
import HandS.Exc
import HandS.TryOnly
import HandS.ExcOwn
import HandS.WordsExc
import HandS.Words
import HandS.Wide
import HandS.Iter
import HandS.IsInst
import HandS.Text
import HandS.Flow
import HandS.HeadEnd
import HandS.EndBits
import HandS.HeadHook2
import HandS.Head2
import HandS.Defaults
import HandS.ExcIs
import HandS.Style
import HandS.More
import HandS.ClsMeth
import HandS.Property
import HandS.Star
import HandS.CallLocal
import HandS.HeadNt
import KE.KExcIs
import HandS.Strs
import HandS.ExcInit
import HandS.SetFor
import KE.IntTextLaws
import KE.IntTextText
import KE.KIntText
import HandS.DictSub
import HandS.RaiseMore
import PyProof.FactsLen
import HandS.Conv
import HandS.Dict
import HandS.SortRule
import HandS.Zip
import PyProof.EqAt
import PyProof.EqKinds
import HandS.TupLe
import PyProof.MinMaxWalk
import PyProof.WalkInts
import HandS.Deep
import HandS.DictComp
import KE.KDictList
import HandS.TupSets
import HandS.SetBool
import KE.KUnpack
import KE.KStateDown
import HandS.Head0
import HandS.Head1
import HandS.HeadHook1
import PySem.Challenge.RW_runtabs_k55_twins_and_passed_lists
set_option Elab.async false
set_option linter.all false
set_option maxRecDepth 100000
set_option maxHeartbeats 0
namespace DL
open PySem PySem.Spec PyProof.Rows L2
/-- data: what a value stands for; own h: the list in the h-th cell -/
inductive D where
  | non | bl (b : Bool) | int (i : Int) | str (x : Str)
  | lst (ds : List D) | tup (ds : List D)
  | sq (ds : List D)
  | ins (C : Addr) (fs : List (Str × D))
  | dic (kvs : List (Key × D))
  | obj (a : Addr)
  | own (h : Nat)
  | ty (n : String)
  | exc (C : Addr) (fs : List (Str × D))
inductive Cell where
  | lst (ds : List D)
  | ins (C : Addr) (fs : List (Str × D))
  | dct (kvs : List (List Key × D))
  | dck (kvs : List (Key × D))
  | lck (o : Obj) (us : List (Key × V)) (kvs : List (Key × D))
  | gone
abbrev Gam := List (Option D)
abbrev Sto := List Cell
mutual
inductive Rp (K : PySem.W.Frag) (F : Hp) (al : List Addr) : V → D → Prop
  | non : Rp K F al .non .non
  | bl (b : Bool) : Rp K F al (.bl b) (.bl b)
  | int (i : Int) : Rp K F al (.int i) (.int i)
  | str (x : Str) : Rp K F al (.str x) (.str x)
  | lst {a : Addr} {xs : List V} {ds : List D} : F a = some (.lst xs) → RpA K F al xs ds → Rp K F al (.ref a) (.lst ds)
  | sq {a : Addr} {xs : List V} {ds : List D} : SqL K F a xs → RpA K F al xs ds → Rp K F al (.ref a) (.sq ds)
  | tup {a : Addr} {xs : List V} {ds : List D} : SqT K F a xs → RpA K F al xs ds → Rp K F al (.ref a) (.tup ds)
  | ins {a C dx : Addr} {vs : List (Str × V)} {fs : List (Str × D)} : F a = some (.ins C dx vs) → RpF K F al vs fs → Rp K F al (.ref a) (.ins C fs)
  | dic {a : Addr} {vs : List (Key × V)} {ds : List (Key × D)} : F a = some (.dK vs) → RpK K F al vs ds → Rp K F al (.ref a) (.dic ds)
  | obj (a : Addr) : Rp K F al (.ref a) (.obj a)
  | own {h : Nat} {a : Addr} : al[h]? = some a → Rp K F al (.ref a) (.own h)
  | ty (n : String) : Rp K F al (.ty n) (.ty n)
  | exc0 {a C : Addr} {oe : Obj} {u : HO} : F a = some (.frz oe u) → oe.cls = .ref C → (∃ vs, oe.data = .fields vs) → oe.dict = none → Rp K F al (.ref a) (.exc C [])
  | excD {a C dx : Addr} {oe : Obj} {u : HO} {vs : List (Str × V)} {fs : List (Str × D)} : F a = some (.frz oe u) → oe.cls = .ref C → (∃ ws, oe.data = .fields ws) → oe.dict = some dx → F dx = some (.xd vs) → RpF K F al vs fs → Rp K F al (.ref a) (.exc C fs)
inductive RpA (K : PySem.W.Frag) (F : Hp) (al : List Addr) : List V → List D → Prop
  | nil : RpA K F al [] []
  | cons {v : V} {vs : List V} {d : D} {ds : List D} : Rp K F al v d → RpA K F al vs ds → RpA K F al (v :: vs) (d :: ds)
inductive RpF (K : PySem.W.Frag) (F : Hp) (al : List Addr) : List (Str × V) → List (Str × D) → Prop
  | nil : RpF K F al [] []
  | cons {n : Str} {v : V} {vs : List (Str × V)} {d : D} {ds : List (Str × D)} : Rp K F al v d → RpF K F al vs ds → RpF K F al ((n, v) :: vs) ((n, d) :: ds)
inductive RpK (K : PySem.W.Frag) (F : Hp) (al : List Addr) : List (Key × V) → List (Key × D) → Prop
  | nil : RpK K F al [] []
  | cons {n : Key} {v : V} {vs : List (Key × V)} {d : D} {ds : List (Key × D)} : Rp K F al v d → RpK K F al vs ds → RpK K F al ((n, v) :: vs) ((n, d) :: ds)
end
theorem sameSql {K : PySem.W.Frag} {F F' : Hp} {a : Addr} {xs : List V} (e : ∀ b o, F b = some o → F' b = some o) (h : SqL K F a xs) : SqL K F' a xs := by
  rcases h with (h | ⟨o, h⟩) | h
  · exact .inl (.inl (e _ _ h))
  · exact .inl (.inr ⟨o, e _ _ h⟩)
  · exact .inr h
theorem sameSqt {K : PySem.W.Frag} {F F' : Hp} {a : Addr} {xs : List V} (e : ∀ b o, F b = some o → F' b = some o) (h : SqT K F a xs) : SqT K F' a xs := by
  rcases h with (h | ⟨o, h⟩) | h
  · exact .inl (.inl (e _ _ h))
  · exact .inl (.inr ⟨o, e _ _ h⟩)
  · exact .inr h
section
variable {K : PySem.W.Frag} {F F' : Hp} {al al' : List Addr}
mutual
theorem Rp.mono (e : ∀ b o, F b = some o → F' b = some o) (ea : ∀ (h : Nat) (a : Addr), al[h]? = some a → al'[h]? = some a) : ∀ (d : D) (v : V), Rp K F al v d → Rp K F' al' v d
  | .non, _, h => by cases h; exact .non
  | .bl _, _, h => by cases h; exact .bl _
  | .int _, _, h => by cases h; exact .int _
  | .str _, _, h => by cases h; exact .str _
  | .lst ds, _, h => by
    cases h with
    | lst h1 h2 => exact .lst (e _ _ h1) (RpA.mono e ea ds _ h2)
  | .sq ds, _, h => by
    cases h with
    | sq h1 h2 => exact .sq (sameSql e h1) (RpA.mono e ea ds _ h2)
  | .tup ds, _, h => by
    cases h with
    | tup h1 h2 => exact .tup (sameSqt e h1) (RpA.mono e ea ds _ h2)
  | .ins C fs, _, h => by
    cases h with
    | ins h1 h2 => exact .ins (e _ _ h1) (RpF.mono e ea fs _ h2)
  | .dic fs, _, h => by
    cases h with
    | dic h1 h2 => exact .dic (e _ _ h1) (RpK.mono e ea fs _ h2)
  | .obj _, _, h => by cases h; exact .obj _
  | .own _, _, h => by
    cases h with
    | own h1 => exact .own (ea _ _ h1)
  | .ty _, _, h => by cases h; exact .ty _
  | .exc C fs, _, h => by
    cases h with
    | exc0 h1 h2 h0 h3 => exact .exc0 (e _ _ h1) h2 h0 h3
    | excD h1 h2 h0 h3 h4 h5 => exact .excD (e _ _ h1) h2 h0 h3 (e _ _ h4) (RpF.mono e ea fs _ h5)
theorem RpA.mono (e : ∀ b o, F b = some o → F' b = some o) (ea : ∀ (h : Nat) (a : Addr), al[h]? = some a → al'[h]? = some a) : ∀ (ds : List D) (vs : List V), RpA K F al vs ds → RpA K F' al' vs ds
  | [], _, h => by cases h; exact .nil
  | d :: ds, _, h => by
    cases h with
    | cons h1 h2 => exact .cons (Rp.mono e ea d _ h1) (RpA.mono e ea ds _ h2)
theorem RpF.mono (e : ∀ b o, F b = some o → F' b = some o) (ea : ∀ (h : Nat) (a : Addr), al[h]? = some a → al'[h]? = some a) : ∀ (ds : List (Str × D)) (vs : List (Str × V)), RpF K F al vs ds → RpF K F' al' vs ds
  | [], _, h => by cases h; exact .nil
  | (n, d) :: ds, _, h => by
    cases h with
    | cons h1 h2 => exact .cons (Rp.mono e ea d _ h1) (RpF.mono e ea ds _ h2)
theorem RpK.mono (e : ∀ b o, F b = some o → F' b = some o) (ea : ∀ (h : Nat) (a : Addr), al[h]? = some a → al'[h]? = some a) : ∀ (ds : List (Key × D)) (vs : List (Key × V)), RpK K F al vs ds → RpK K F' al' vs ds
  | [], _, h => by cases h; exact .nil
  | (n, d) :: ds, _, h => by
    cases h with
    | cons h1 h2 => exact .cons (Rp.mono e ea d _ h1) (RpK.mono e ea ds _ h2)
end
theorem RpA.length : ∀ {vs : List V} {ds : List D}, RpA K F al vs ds → vs.length = ds.length
  | _, _, .nil => rfl
  | _, _, .cons _ t => by rw [List.length_cons, List.length_cons, RpA.length t]
theorem RpA.get : ∀ {vs : List V} {ds : List D} {i : Nat} {d : D}, RpA K F al vs ds → ds[i]? = some d → ∃ v, vs[i]? = some v ∧ Rp K F al v d
  | _, _, i, _, .nil, e => by simp at e
  | _, _, 0, _, .cons r _, e => by simp at e; subst e; exact ⟨_, rfl, r⟩
  | _, _, i + 1, d, .cons _ t, e => by
    obtain ⟨v, h1, h2⟩ := RpA.get (i := i) (d := d) t (by simpa using e)
    exact ⟨v, by simpa using h1, h2⟩
theorem RpA.getV : ∀ {vs : List V} {ds : List D} {i : Nat} {v : V}, RpA K F al vs ds → vs[i]? = some v → ∃ d, ds[i]? = some d ∧ Rp K F al v d
  | _, _, i, _, .nil, e => by simp at e
  | _, _, 0, _, .cons r _, e => by simp at e; subst e; exact ⟨_, rfl, r⟩
  | _, _, i + 1, d, .cons _ t, e => by
    obtain ⟨v, h1, h2⟩ := RpA.getV (i := i) (v := d) t (by simpa using e)
    exact ⟨v, by simpa using h1, h2⟩
theorem RpA.append : ∀ {vs ws : List V} {ds es : List D}, RpA K F al vs ds → RpA K F al ws es → RpA K F al (vs ++ ws) (ds ++ es)
  | _, _, _, _, .nil, s => s
  | _, _, _, _, .cons r t, s => .cons r (RpA.append t s)
theorem RpA.set {v : V} {d : D} (r : Rp K F al v d) : ∀ {vs : List V} {ds : List D} (i : Nat), RpA K F al vs ds → RpA K F al (vs.set i v) (ds.set i d)
  | _, _, _, .nil => .nil
  | _, _, 0, .cons _ t => .cons r t
  | _, _, i + 1, .cons q t => .cons q (RpA.set r i t)
theorem RpA.take : ∀ {vs : List V} {ds : List D} (n : Nat), RpA K F al vs ds → RpA K F al (vs.take n) (ds.take n)
  | _, _, 0, _ => .nil
  | _, _, _ + 1, .nil => .nil
  | _, _, n + 1, .cons r t => .cons r (RpA.take n t)
theorem RpA.drop : ∀ {vs : List V} {ds : List D} (n : Nat), RpA K F al vs ds → RpA K F al (vs.drop n) (ds.drop n)
  | _, _, 0, r => r
  | _, _, _ + 1, .nil => .nil
  | _, _, n + 1, .cons _ t => RpA.drop n t
theorem RpA.reverse : ∀ {vs : List V} {ds : List D}, RpA K F al vs ds → RpA K F al vs.reverse ds.reverse
  | _, _, .nil => .nil
  | _, _, .cons r t => by
    rw [List.reverse_cons, List.reverse_cons]
    exact (RpA.reverse t).append (.cons r .nil)
end
/-- where one stands: the frozen part, the cells' addresses, the whole -/
structure Hs where
  F : Hp
  al : List Addr
  H : Hp
abbrev Rv (K : PySem.W.Frag) (w : Hs) (v : V) (d : D) : Prop := Rp K w.F w.al v d
abbrev Ra (K : PySem.W.Frag) (w : Hs) (vs : List V) (ds : List D) : Prop := RpA K w.F w.al vs ds
/-- the entries of a dict whose keys are tuples -/
def RpT (K : PySem.W.Frag) (F : Hp) (al : List Addr) (us : List (List Key × V)) (ks : List (List Key × D)) : Prop :=
  us.length = ks.length ∧ ∀ (i : Nat) (k : List Key) (d : D), ks[i]? = some (k, d) → ∃ v, us[i]? = some (k, v) ∧ Rp K F al v d
theorem RpT.mono {K : PySem.W.Frag} {F F' : Hp} {al al' : List Addr} (e : ∀ b o, F b = some o → F' b = some o) (ea : ∀ (h : Nat) (a : Addr), al[h]? = some a → al'[h]? = some a) {us : List (List Key × V)} {ks : List (List Key × D)} (h : RpT K F al us ks) : RpT K F' al' us ks :=
  ⟨h.1, fun i k d q => let ⟨v, a, b⟩ := h.2 i k d q; ⟨v, a, Rp.mono e ea d v b⟩⟩
def CellOk (K : PySem.W.Frag) (w : Hs) (a : Addr) : Cell → Prop
  | .lst ds => w.F a = none ∧ ∃ xs, w.H a = some (.lst xs) ∧ Ra K w xs ds
  | .ins C fs => w.F a = none ∧ ∃ dx vs, w.H a = some (.ins C dx vs) ∧ RpF K w.F w.al vs fs
  | .dct ks => w.F a = none ∧ ∃ us, w.H a = some (.dT us) ∧ RpT K w.F w.al us ks
  | .dck ks => w.F a = none ∧ ∃ us, w.H a = some (.dK us) ∧ RpK K w.F w.al us ks
  | .lck o us ks => w.F a = none ∧ w.H a = some (.frz o (.dK us)) ∧ RpK K w.F w.al us ks
  | .gone => True
structure Good (K : PySem.W.Frag) (w : Hs) (S : Sto) : Prop where
  sub : ∀ a o, w.F a = some o → w.H a = some o
  nd : w.al.Nodup
  len : w.al.length = S.length
  cell : ∀ (h : Nat) (a : Addr) (c : Cell), w.al[h]? = some a → S[h]? = some c → CellOk K w a c
  dom : ∀ a ∈ w.al, w.H a ≠ none
structure Ext (w w' : Hs) : Prop where
  f : ∀ a o, w.F a = some o → w'.F a = some o
  al : ∃ β, w'.al = w.al ++ β ∧ ∀ b ∈ β, w.H b = none
  new : ∀ a o, w'.F a = some o → w.F a = some o ∨ w.H a = none ∨ a ∈ w.al
  kp : ∀ a o, w.H a = some o → a ∉ w.al → w'.H a = some o
  dm : ∀ a, w.H a ≠ none → w'.H a ≠ none
theorem Ext.refl (w : Hs) : Ext w w := ⟨fun _ _ h => h, ⟨[], by simp, by simp⟩, fun _ _ h => .inl h, fun _ _ h _ => h, fun _ h => h⟩
theorem Ext.alx {w w' : Hs} (e : Ext w w') : ∀ (h : Nat) (a : Addr), w.al[h]? = some a → w'.al[h]? = some a := fun h a q => by
  obtain ⟨β, eq, _⟩ := e.al
  rw [eq, List.getElem?_append_left (List.getElem?_eq_some_iff.mp q).1]
  exact q
theorem Ext.mem {w w' : Hs} (e : Ext w w') {a : Addr} (h : a ∈ w.al) : a ∈ w'.al := by
  obtain ⟨β, eq, _⟩ := e.al
  rw [eq]
  exact List.mem_append_left _ h
theorem Ext.old {w w' : Hs} (e : Ext w w') {a : Addr} (h : a ∈ w'.al) : a ∈ w.al ∨ w.H a = none := by
  obtain ⟨β, eq, hb⟩ := e.al
  rw [eq] at h
  rcases List.mem_append.mp h with z | z
  · exact .inl z
  · exact .inr (hb a z)
theorem Ext.fresh {w w' : Hs} (e : Ext w w') {a : Addr} (h : w'.H a = none) : w.H a = none := by
  cases q : w.H a with
  | none => rfl
  | some o => exact absurd h (e.dm a (by rw [q]; exact fun z => nomatch z))
theorem Ext.trans {w w1 w2 : Hs} (a : Ext w w1) (b : Ext w1 w2) : Ext w w2 where
  f := fun x o h => b.f x o (a.f x o h)
  al := by
    obtain ⟨β, e1, h1⟩ := a.al
    obtain ⟨γ, e2, h2⟩ := b.al
    refine ⟨β ++ γ, by rw [e2, e1, List.append_assoc], fun x hx => ?_⟩
    rcases List.mem_append.mp hx with z | z
    · exact h1 x z
    · exact a.fresh (h2 x z)
  new := fun x o h => by
    rcases b.new x o h with z | z | z
    · exact a.new x o z
    · exact .inr (.inl (a.fresh z))
    · rcases a.old z with y | y
      · exact .inr (.inr y)
      · exact .inr (.inl y)
  kp := fun x o h n => b.kp x o (a.kp x o h n) fun z => by
    rcases a.old z with y | y
    · exact n y
    · rw [h] at y; cases y
  dm := fun x h => b.dm x (a.dm x h)
theorem Ext.rp {K : PySem.W.Frag} {w w' : Hs} (e : Ext w w') {v : V} {d : D} (h : Rv K w v d) : Rv K w' v d := Rp.mono e.f e.alx d v h
theorem Ext.ra {K : PySem.W.Frag} {w w' : Hs} (e : Ext w w') {v : List V} {d : List D} (h : Ra K w v d) : Ra K w' v d := RpA.mono e.f e.alx d v h
/-- slots -/
def Slots (K : PySem.W.Frag) (w : Hs) (σ : L2.St) (Γ : Gam) : Prop := Γ.length = σ.length ∧ ∀ (i : Nat) (d : D), Γ[i]? = some (some d) → ∃ v, σ[i]? = some (some v) ∧ Rv K w v d
theorem Slots.ext {K : PySem.W.Frag} {w w' : Hs} {σ : L2.St} {Γ : Gam} (e : Ext w w') (h : Slots K w σ Γ) : Slots K w' σ Γ :=
  ⟨h.1, fun i d q => let ⟨v, a, b⟩ := h.2 i d q; ⟨v, a, e.rp b⟩⟩
theorem Slots.set {K : PySem.W.Frag} {w : Hs} {σ : L2.St} {Γ : Gam} {v : V} {d : D} (h : Slots K w σ Γ) (r : Rv K w v d) (i : Nat) : Slots K w (σ.set i (some v)) (Γ.set i (some d)) := by
  refine ⟨by rw [List.length_set, List.length_set]; exact h.1, fun j e q => ?_⟩
  by_cases hj : i = j
  · subst hj
    by_cases hl : i < Γ.length
    · rw [List.getElem?_set_self hl] at q
      cases q
      exact ⟨v, by rw [List.getElem?_set_self (by rw [← h.1]; exact hl)], r⟩
    · rw [List.getElem?_eq_none (by rw [List.length_set]; omega)] at q
      cases q
  · rw [List.getElem?_set_ne hj] at q
    obtain ⟨u, a, b⟩ := h.2 j e q
    exact ⟨u, by rw [List.getElem?_set_ne hj]; exact a, b⟩
/-- a slot forgotten -/
theorem Slots.unset {K : PySem.W.Frag} {w : Hs} {σ : L2.St} {Γ : Gam} (h : Slots K w σ Γ) (i : Nat) : Slots K w (σ.set i none) (Γ.set i none) := by
  refine ⟨by rw [List.length_set, List.length_set]; exact h.1, fun j e q => ?_⟩
  by_cases hj : i = j
  · subst hj
    by_cases hl : i < Γ.length
    · rw [List.getElem?_set_self hl] at q
      cases q
    · rw [List.getElem?_eq_none (by rw [List.length_set]; omega)] at q
      cases q
  · rw [List.getElem?_set_ne hj] at q
    obtain ⟨u, a, b⟩ := h.2 j e q
    exact ⟨u, by rw [List.getElem?_set_ne hj]; exact a, b⟩
def gwipe (Γ : Gam) : List Nat → Gam
  | [] => Γ
  | v :: vs => (gwipe Γ vs).set v none
theorem Slots.wipe {K : PySem.W.Frag} {w : Hs} {σ : L2.St} {Γ : Gam} (h : Slots K w σ Γ) : ∀ vs : List Nat, Slots K w (L2.wipe σ vs) (gwipe Γ vs)
  | [] => h
  | v :: vs => (Slots.wipe h vs).unset v
section
variable {K : PySem.W.Frag} {w : Hs} {S : Sto}
/-- a new frozen object -/
def Hs.frz (w : Hs) (p : Addr) (o : HO) : Hs := ⟨upd w.F p o, w.al, upd w.H p o⟩
theorem Good.notF (g : Good K w S) {p : Addr} (h : w.H p = none) : w.F p = none := by
  cases q : w.F p with
  | none => rfl
  | some o => rw [g.sub p o q] at h; cases h
theorem Good.notA (g : Good K w S) {p : Addr} (h : w.H p = none) : p ∉ w.al := fun z => g.dom p z h
theorem updF {H : Hp} {p : Addr} {o : HO} (h : H p = none) : ∀ a x, H a = some x → upd H p o a = some x := fun a x e => by
  rw [upd_ne (ne_of_none e h)]
  exact e
theorem Ext.frz (g : Good K w S) {p : Addr} (o : HO) (h : w.H p = none) : Ext w (w.frz p o) where
  f := updF (g.notF h)
  al := ⟨[], by simp [Hs.frz], by simp⟩
  new := fun a x e => by
    by_cases q : a = p
    · subst q; exact .inr (.inl h)
    · have e2 : upd w.F p o a = some x := e
      rw [upd_ne q] at e2
      exact .inl e2
  kp := fun a x e _ => updF h a x e
  dm := fun a e => by
    show upd w.H p o a ≠ none
    by_cases q : a = p
    · subst q; rw [upd_same]; exact fun z => nomatch z
    · rw [upd_ne q]; exact e
theorem cell_ext {w w' : Hs} (e : Ext w w') {a : Addr} {c : Cell} (hF : w.F a = none → w'.F a = none) (hH : ∀ o, w.H a = some o → w'.H a = some o) (h : CellOk K w a c) : CellOk K w' a c := by
  cases c with
  | gone => exact True.intro
  | lst ds =>
    obtain ⟨h1, xs, h2, h3⟩ := h
    exact ⟨hF h1, xs, hH _ h2, e.ra h3⟩
  | ins C fs =>
    obtain ⟨h1, dx, vs, h2, h3⟩ := h
    exact ⟨hF h1, dx, vs, hH _ h2, RpF.mono e.f e.alx fs vs h3⟩
  | dct ks =>
    obtain ⟨h1, us, h2, h3⟩ := h
    exact ⟨hF h1, us, hH _ h2, h3.mono e.f e.alx⟩
  | dck ks =>
    obtain ⟨h1, us, h2, h3⟩ := h
    exact ⟨hF h1, us, hH _ h2, RpK.mono e.f e.alx ks us h3⟩
  | lck o us ks =>
    obtain ⟨h1, h2, h3⟩ := h
    exact ⟨hF h1, hH _ h2, RpK.mono e.f e.alx ks us h3⟩
theorem Good.frz (g : Good K w S) {p : Addr} (o : HO) (h : w.H p = none) : Good K (w.frz p o) S := by
  have e := Ext.frz g o h
  refine ⟨fun a x q => ?_, g.nd, g.len, fun n a c q1 q2 => ?_, fun a q => e.dm a (g.dom a q)⟩
  · have q2 : upd w.F p o a = some x := q
    show upd w.H p o a = some x
    by_cases z : a = p
    · subst z; rw [upd_same] at q2 ⊢; exact q2
    · rw [upd_ne z] at q2 ⊢; exact g.sub a x q2
  · have hne : a ≠ p := fun z => g.dom a (List.mem_of_getElem? q1) (by rw [z]; exact h)
    exact cell_ext e (fun z => by show upd w.F p o a = none; rw [upd_ne hne]; exact z) (fun x z => updF h a x z) (g.cell n a c q1 q2)
/-- a new cell -/
def Hs.cel (w : Hs) (p : Addr) (o : HO) : Hs := ⟨w.F, w.al ++ [p], upd w.H p o⟩
theorem Ext.cel (g : Good K w S) {p : Addr} (o : HO) (h : w.H p = none) : Ext w (w.cel p o) where
  f := fun _ _ e => e
  al := ⟨[p], rfl, fun b hb => by rw [List.mem_singleton.mp hb]; exact h⟩
  new := fun a x e => .inl e
  kp := fun a x e _ => updF h a x e
  dm := fun a e => by
    show upd w.H p o a ≠ none
    by_cases q : a = p
    · subst q; rw [upd_same]; exact fun z => nomatch z
    · rw [upd_ne q]; exact e
/-- a new cell c at p in a world where new things stand beside it -/
theorem Good.cell' {w' : Hs} (g : Good K w S) {p : Addr} {c0 : Cell} (h : w.H p = none) (e : Ext w w') (hF : w'.F = w.F) (hal : w'.al = w.al ++ [p]) (hH : ∀ a x, w.H a = some x → w'.H a = some x) (hp : w'.H p ≠ none) (ok : CellOk K w' p c0) : Good K w' (S ++ [c0]) := by
  refine ⟨fun a x q => hH a x (g.sub a x (by rw [← hF]; exact q)), ?_, ?_, fun n a c q1 q2 => ?_, fun a q => ?_⟩
  · rw [hal, List.nodup_append]
    exact ⟨g.nd, by simp, fun a ha b hb => by rw [List.mem_singleton.mp hb]; exact fun z => g.notA h (z ▸ ha)⟩
  · rw [hal, List.length_append, List.length_append, g.len] <;> rfl
  · rw [hal] at q1
    by_cases hn : n < w.al.length
    · rw [List.getElem?_append_left hn] at q1
      rw [List.getElem?_append_left (by rw [← g.len]; exact hn)] at q2
      exact cell_ext e (fun z => by rw [hF]; exact z) (fun x z => hH a x z) (g.cell n a c q1 q2)
    · have hn2 : n = w.al.length := by
        have := (List.getElem?_eq_some_iff.mp q1).1
        rw [List.length_append] at this
        have h1 : [p].length = 1 := rfl
        omega
      subst hn2
      rw [List.getElem?_append_right (Nat.le_refl _), Nat.sub_self] at q1
      rw [List.getElem?_append_right (by rw [g.len]; exact Nat.le_refl _), g.len, Nat.sub_self] at q2
      have e1 : p = a := Option.some.inj q1
      have e2 : c0 = c := Option.some.inj q2
      subst e1; subst e2
      exact ok
  · rw [hal] at q
    rcases List.mem_append.mp q with z | z
    · exact e.dm a (g.dom a z)
    · rw [List.mem_singleton.mp z]
      exact hp
theorem upd_some {H : Hp} {p : Addr} {o : HO} : upd H p o p ≠ none := by
  rw [upd_same]; exact fun z => nomatch z
theorem Good.cel (g : Good K w S) {p : Addr} {xs : List V} {ds : List D} (h : w.H p = none) (r : Ra K w xs ds) : Good K (w.cel p (.lst xs)) (S ++ [.lst ds]) :=
  g.cell' h (Ext.cel g _ h) rfl rfl (fun a x q => updF h a x q) upd_some ⟨g.notF h, xs, upd_same, (Ext.cel g _ h).ra r⟩
/-- a new instance and its dict -/
def Hs.celI (w : Hs) (p dx C : Addr) : Hs := ⟨w.F, w.al ++ [p], upd (upd w.H dx (.own p)) p (.ins C dx [])⟩
theorem Ext.celI (g : Good K w S) {p dx C : Addr} (h : w.H p = none) (hd : w.H dx = none) : Ext w (w.celI p dx C) where
  f := fun _ _ e => e
  al := ⟨[p], rfl, fun b hb => by rw [List.mem_singleton.mp hb]; exact h⟩
  new := fun a x e => .inl e
  kp := fun a x e _ => by
    show upd (upd w.H dx (.own p)) p _ a = some x
    rw [upd_ne (ne_of_none e h), upd_ne (ne_of_none e hd)]; exact e
  dm := fun a e => by
    show upd (upd w.H dx (.own p)) p _ a ≠ none
    by_cases q : a = p
    · subst q; exact upd_some
    · rw [upd_ne q]
      by_cases q2 : a = dx
      · subst q2; exact upd_some
      · rw [upd_ne q2]; exact e
theorem Good.celI (g : Good K w S) {p dx C : Addr} (h : w.H p = none) (hd : w.H dx = none) : Good K (w.celI p dx C) (S ++ [.ins C []]) :=
  g.cell' h (Ext.celI g h hd) rfl rfl (fun a x e => by
    show upd (upd w.H dx (.own p)) p _ a = some x
    rw [upd_ne (ne_of_none e h), upd_ne (ne_of_none e hd)]; exact e) upd_some ⟨g.notF h, dx, [], upd_same, .nil⟩
/-- a cell is written -/
def Hs.wr (w : Hs) (p : Addr) (o : HO) : Hs := ⟨w.F, w.al, upd w.H p o⟩
theorem Ext.wr {p : Addr} (o : HO) (hp : p ∈ w.al) : Ext w (w.wr p o) where
  f := fun _ _ e => e
  al := ⟨[], by simp [Hs.wr], by simp⟩
  new := fun a x e => .inl e
  kp := fun a x e n => by
    show upd w.H p o a = some x
    rw [upd_ne (fun z => n (by rw [z]; exact hp))]; exact e
  dm := fun a e => by
    show upd w.H p o a ≠ none
    by_cases q : a = p
    · subst q; rw [upd_same]; exact fun z => nomatch z
    · rw [upd_ne q]; exact e
theorem CellOk.notF {a : Addr} {c : Cell} (h : CellOk K w a c) (hc : c ≠ .gone) : w.F a = none := by
  cases c with
  | gone => exact absurd rfl hc
  | lst _ => exact h.1
  | ins _ _ => exact h.1
  | dct _ => exact h.1
  | dck _ => exact h.1
  | lck _ _ _ => exact h.1
theorem Good.write (g : Good K w S) {h : Nat} {p : Addr} {c0 : Cell} {o : HO} (hp : w.al[h]? = some p) (hl : h < S.length) (hF : w.F p = none) (ok : CellOk K (w.wr p o) p c0) : Good K (w.wr p o) (S.set h c0) := by
  have hm : p ∈ w.al := List.mem_of_getElem? hp
  have e := Ext.wr o hm
  refine ⟨fun a x q => ?_, g.nd, by rw [List.length_set]; exact g.len, fun n a c q1 q2 => ?_, fun a q => e.dm a (g.dom a q)⟩
  · show upd w.H p o a = some x
    rw [upd_ne (ne_of_none q hF)]
    exact g.sub a x q
  · have q1 : w.al[n]? = some a := q1
    by_cases hn : h = n
    · subst hn
      rw [hp] at q1; cases q1
      rw [List.getElem?_set_self hl] at q2
      cases q2
      exact ok
    · rw [List.getElem?_set_ne hn] at q2
      have hne : a ≠ p := fun z => by
        subst z
        obtain ⟨l1, e1⟩ := List.getElem?_eq_some_iff.mp hp
        obtain ⟨l2, e2⟩ := List.getElem?_eq_some_iff.mp q1
        exact hn ((List.getElem_inj g.nd).mp (e1.trans e2.symm))
      exact cell_ext e (fun z => z) (fun x z => by show upd w.H p _ a = some x; rw [upd_ne hne]; exact z) (g.cell n a c q1 q2)
theorem Good.wr (g : Good K w S) {h : Nat} {p : Addr} {xs : List V} {es ds : List D} (hp : w.al[h]? = some p) (hc : S[h]? = some (.lst es)) (r : Ra K w xs ds) : Good K (w.wr p (.lst xs)) (S.set h (.lst ds)) :=
  have hF := (g.cell h p _ hp hc).1
  g.write hp (List.getElem?_eq_some_iff.mp hc).1 hF ⟨hF, xs, upd_same, r⟩
theorem Good.wrI (g : Good K w S) {h : Nat} {p C dx : Addr} {vs : List (Str × V)} {es fs : List (Str × D)} (hp : w.al[h]? = some p) (hc : S[h]? = some (.ins C es)) (r : RpF K w.F w.al vs fs) : Good K (w.wr p (.ins C dx vs)) (S.set h (.ins C fs)) :=
  have hF := (g.cell h p _ hp hc).1
  g.write hp (List.getElem?_eq_some_iff.mp hc).1 hF ⟨hF, dx, vs, upd_same, r⟩
/-- a cell is frozen -/
def Hs.fz (w : Hs) (p : Addr) (o : HO) : Hs := ⟨upd w.F p o, w.al, w.H⟩
theorem Ext.fz {p : Addr} {o : HO} (hp : p ∈ w.al) (hF : w.F p = none) : Ext w (w.fz p o) where
  f := updF hF
  al := ⟨[], by simp [Hs.fz], by simp⟩
  new := fun a x e => by
    by_cases q : a = p
    · subst q; exact .inr (.inr hp)
    · have e2 : upd w.F p o a = some x := e
      rw [upd_ne q] at e2
      exact .inl e2
  kp := fun a x e n => e
  dm := fun a e => e
theorem Good.fzC (g : Good K w S) {h : Nat} {p : Addr} {o : HO} {c0 : Cell} (hp : w.al[h]? = some p) (hc : S[h]? = some c0) (hng : c0 ≠ .gone) (ho : w.H p = some o) : Good K (w.fz p o) (S.set h .gone) := by
  have hm : p ∈ w.al := List.mem_of_getElem? hp
  have hF : w.F p = none := (g.cell h p _ hp hc).notF hng
  have e : Ext w (w.fz p o) := Ext.fz hm hF
  refine ⟨fun a x q => ?_, g.nd, by rw [List.length_set]; exact g.len, fun n a c q1 q2 => ?_, g.dom⟩
  · have q2 : upd w.F p o a = some x := q
    show w.H a = some x
    by_cases z : a = p
    · subst z; rw [upd_same] at q2; cases q2; exact ho
    · rw [upd_ne z] at q2; exact g.sub a x q2
  · have q1 : w.al[n]? = some a := q1
    by_cases hn : h = n
    · subst hn
      rw [List.getElem?_set_self (List.getElem?_eq_some_iff.mp hc).1] at q2
      cases q2
      exact True.intro
    · rw [List.getElem?_set_ne hn] at q2
      have hne : a ≠ p := fun z => by
        subst z
        obtain ⟨l1, e1⟩ := List.getElem?_eq_some_iff.mp hp
        obtain ⟨l2, e2⟩ := List.getElem?_eq_some_iff.mp q1
        exact hn ((List.getElem_inj g.nd).mp (e1.trans e2.symm))
      exact cell_ext e (fun z => by show upd w.F p o a = none; rw [upd_ne hne]; exact z) (fun x z => z) (g.cell n a c q1 q2)
theorem Good.fz (g : Good K w S) {h : Nat} {p : Addr} {o : HO} {es : List D} (hp : w.al[h]? = some p) (hc : S[h]? = some (.lst es)) (ho : w.H p = some o) : Good K (w.fz p o) (S.set h .gone) :=
  g.fzC hp hc (fun z => nomatch z) ho
end
end DL
namespace DL
open PySem PySem.Spec PyProof.Rows L2
structure Exn where
  cls : Addr
  fs : List (Str × D)
def RpX (K : PySem.W.Frag) (w : Hs) (cv : Value) (dx : Option Addr) (x : Exn) : Prop :=
  cv = .ref x.cls ∧ match dx with
    | none => x.fs = []
    | some a => ∃ vs, w.F a = some (.xd vs) ∧ RpF K w.F w.al vs x.fs
abbrev KD := Sto → D → Prop
abbrev KX := Sto → Exn → Prop
abbrev TD := Gam → Sto → KD → KX → Prop
abbrev TB := Gam → Sto → (Sto → Bool → Prop) → KX → Prop
abbrev TL := Gam → Sto → (Sto → List D → Prop) → KX → Prop
section
variable (K : PySem.W.Frag) (W : WX)
def OkD (w : Hs) (Φ : KD) (Q : VK) : Prop := ∀ v d w' S', Ext w w' → Good K w' S' → Rv K w' v d → Φ S' d → Q v w'.H
def OkB (w : Hs) (Φ : Sto → Bool → Prop) (Q : Bool → Hp → Prop) : Prop := ∀ b w' S', Ext w w' → Good K w' S' → Φ S' b → Q b w'.H
def OkL (w : Hs) (Φ : Sto → List D → Prop) (Q : List V → Hp → Prop) : Prop := ∀ vs ds w' S', Ext w w' → Good K w' S' → Ra K w' vs ds → Φ S' ds → Q vs w'.H
def OkX (w : Hs) (Ψ : KX) (σ : L2.St) : Prop := ∀ cv dx x w' S', Ext w w' → Good K w' S' → RpX K w' cv dx x → Ψ S' x → W cv dx σ w'.H
def SemE (t : TE) (T : TD) : Prop := ∀ Γ S Φ Ψ σ w, Good K w S → Slots K w σ Γ → T Γ S Φ Ψ → OkX K W w Ψ σ → ∀ Q : VK, OkD K w Φ Q → t σ w.H Q
def SemT (t : TT) (T : TB) : Prop := ∀ Γ S Φ Ψ σ w, Good K w S → Slots K w σ Γ → T Γ S Φ Ψ → OkX K W w Ψ σ → ∀ Q : Bool → Hp → Prop, OkB K w Φ Q → t σ w.H Q
def SemA (t : TA) (T : TL) : Prop := ∀ Γ S Φ Ψ σ w, Good K w S → Slots K w σ Γ → T Γ S Φ Ψ → OkX K W w Ψ σ → ∀ Q : List V → Hp → Prop, OkL K w Φ Q → t σ w.H Q
end
section
variable {K : PySem.W.Frag} {W : WX} {w w' : Hs}
theorem OkD.ext {Φ : KD} {Q : VK} (h : OkD K w Φ Q) (e : Ext w w') : OkD K w' Φ Q := fun v d w2 S' e2 => h v d w2 S' (e.trans e2)
theorem OkB.ext {Φ : Sto → Bool → Prop} {Q : Bool → Hp → Prop} (h : OkB K w Φ Q) (e : Ext w w') : OkB K w' Φ Q := fun v w2 S' e2 => h v w2 S' (e.trans e2)
theorem OkL.ext {Φ : Sto → List D → Prop} {Q : List V → Hp → Prop} (h : OkL K w Φ Q) (e : Ext w w') : OkL K w' Φ Q := fun v d w2 S' e2 => h v d w2 S' (e.trans e2)
theorem OkX.ext {Ψ : KX} {σ : L2.St} (h : OkX K W w Ψ σ) (e : Ext w w') : OkX K W w' Ψ σ := fun a b c w2 S' e2 => h a b c w2 S' (e.trans e2)
end
/-- an expression, a test, arguments: what is read (t) and what is asked of the data (T) -/
structure JE (X : Cx) (W : WX) (e : Expr) (t : TE) (T : TD) : Prop where
  pe : PE X e t
  sem : SemE X.K W t T
structure JT (X : Cx) (W : WX) (e : Expr) (t : TT) (T : TB) : Prop where
  pt : PT X e t
  sem : SemT X.K W t T
structure JW (X : Cx) (W : WX) (e : Expr) (t : TT) (T : TB) : Prop where
  pw : PW X e t
  sem : SemT X.K W t T
structure JA (X : Cx) (W : WX) (es : List Expr) (t : TA) (T : TL) : Prop where
  pa : PA X es t
  sem : SemA X.K W t T
section
variable {X : Cx} {W : WX} {e a b c : Expr} {es : List Expr} {pos : Pos} {ta tb tc te : TE} {Ta Tb Tc Te : TD}
def dVar (i : Nat) : TD := fun Γ S Φ _ => ∃ d, Γ[i]? = some (some d) ∧ Φ S d
def dC (d : D) : TD := fun _ S Φ _ => Φ S d
theorem sem_var {K : PySem.W.Frag} {i : Nat} : SemE K W (tVar i) (dVar i) := fun Γ S Φ Ψ σ w g sl ⟨d, h1, h2⟩ _ Q q => by
  obtain ⟨v, h3, r⟩ := sl.2 i d h1
  exact ⟨v, h3, q v d w S (Ext.refl w) g r h2⟩
theorem sem_c {K : PySem.W.Frag} {v : V} {d : D} (r : ∀ w : Hs, Rv K w v d) : SemE K W (tC v) (dC d) := fun Γ S Φ Ψ σ w g sl h _ Q q => q v d w S (Ext.refl w) g (r w) h
theorem je_var (i : Nat) {x : Str} (hN : X.N[i]? = some x := by rfl) (hv : Vis X.env.scope x := by first | exact Or.inl rfl | exact Or.inr (Or.inl rfl) | exact Or.inr (Or.inr rfl)) (hd : (x == ("__debug__" : Str)) = false := by decide)
    (hcd : (x == ("__classdict__" : Str)) = false := by decide) : JE X W (.Name x pos) (tVar i) (dVar i) := ⟨pe_var hN hv hd hcd, sem_var⟩
theorem je_int {i j} : JE X W (.Constant (.int i) j pos) (tC (.int i)) (dC (.int i)) := ⟨pe_int, sem_c fun _ => .int i⟩
theorem je_bl {b j} : JE X W (.Constant (.bool b) j pos) (tC (.bl b)) (dC (.bl b)) := ⟨pe_bl, sem_c fun _ => .bl b⟩
theorem je_non {j} : JE X W (.Constant .none j pos) (tC .non) (dC .non) := ⟨pe_non, sem_c fun _ => .non⟩
theorem je_str {x j} : JE X W (.Constant (.str x) j pos) (tC (.str x)) (dC (.str x)) := ⟨pe_str, sem_c fun _ => .str x⟩
/-- a constant of the module -/
theorem je_glob {x : Str} {v : V} {u : Value} {d : D} (r : ∀ w : Hs, Rv X.K w v d) (hg : Gl X x) (hm : X.mg x = some u) (q : RelV v u) (hd : (x == ("__debug__" : Str)) = false := by decide) : JE X W (.Name x pos) (tC v) (dC d) := ⟨pe_glob hg hm q hd, sem_c r⟩
theorem je_gint {x : Str} {i : Int} (hg : Gl X x) (hm : ∃ t, X.mg x = some (.int i t)) (hd : (x == ("__debug__" : Str)) = false := by decide) : JE X W (.Name x pos) (tC (.int i)) (dC (.int i)) := by
  obtain ⟨t, hm⟩ := hm
  exact je_glob (fun _ => .int i) hg hm ⟨t, rfl⟩ hd
theorem je_gstr {x z : Str} (hg : Gl X x) (hm : ∃ t, X.mg x = some (.str z t)) (hd : (x == ("__debug__" : Str)) = false := by decide) : JE X W (.Name x pos) (tC (.str z)) (dC (.str z)) := by
  obtain ⟨t, hm⟩ := hm
  exact je_glob (fun _ => .str z) hg hm ⟨t, rfl⟩ hd
theorem je_gref {x : Str} {p : Addr} (hg : Gl X x) (hm : X.mg x = some (.ref p)) (hd : (x == ("__debug__" : Str)) = false := by decide) : JE X W (.Name x pos) (tC (.ref p)) (dC (.obj p)) := je_glob (fun _ => .obj p) hg hm rfl hd
/-- a built-in type as a value -/
theorem je_ty {x : Str} {n : String} (hg : Gl X x) (hm : X.mg x = none) (hv : bootBuiltins x = some (.type n)) (hn : x ≠ "__name__" := by decide) (hd : (x == ("__debug__" : Str)) = false := by decide) : JE X W (.Name x pos) (tC (.ty n)) (dC (.ty n)) :=
  ⟨pe_bltn hg hm hv rfl hn hd, sem_c fun _ => .ty n⟩
def OpD (K : PySem.W.Frag) (r : R2) (f : D → D → Sto → KD → Prop) : Prop :=
  ∀ w S x y u v Φ Q, Good K w S → Rv K w x u → Rv K w y v → f u v S Φ → OkD K w Φ Q → r x y w.H Q
def dOp (f : D → D → Sto → KD → Prop) (Ta Tb : TD) : TD := fun Γ S Φ Ψ => Ta Γ S (fun S1 x => Tb Γ S1 (fun S2 y => f x y S2 Φ) Ψ) Ψ
theorem sem_op {K : PySem.W.Frag} {r : R2} {f : D → D → Sto → KD → Prop} (hd : OpD K r f) (ha : SemE K W ta Ta) (hb : SemE K W tb Tb) : SemE K W (tOp r ta tb) (dOp f Ta Tb) :=
  fun Γ S Φ Ψ σ w g sl h hx Q q => ha Γ S _ Ψ σ w g sl h hx _ fun v d w1 S1 e1 g1 r1 h1 =>
    hb Γ S1 _ Ψ σ w1 g1 (sl.ext e1) h1 (hx.ext e1) _ fun v2 d2 w2 S2 e2 g2 r2 h2 => hd w2 S2 v v2 d d2 Φ Q g2 (e2.rp r1) r2 h2 (q.ext (e1.trans e2))
theorem je_op {op : Operator} {r : R2} {f : D → D → Sto → KD → Prop} (ho : OpR X (binaryOp op) r) (hd : OpD X.K r f) (ha : JE X W a ta Ta) (hb : JE X W b tb Tb) : JE X W (.BinOp a op b pos) (tOp r ta tb) (dOp f Ta Tb) :=
  ⟨pe_op ho ha.pe hb.pe, sem_op hd ha.sem hb.sem⟩
theorem je_cmp {op : CmpOp} {r : R2} {f : D → D → Sto → KD → Prop} (ho : OpR X (compareOp op) r) (hd : OpD X.K r f) (ha : JE X W a ta Ta) (hb : JE X W b tb Tb) (hm : behindInMarks op b = false) : JE X W (.Compare a [op] [b] pos) (tOp r ta tb) (dOp f Ta Tb) :=
  ⟨pe_cmpR ho ha.pe hb.pe hm, sem_op hd ha.sem hb.sem⟩
/-- a value that is a bool, as a test -/
def bOf (T : TD) : TB := fun Γ S Φ Ψ => T Γ S (fun S1 d => ∃ k, d = .bl k ∧ Φ S1 k) Ψ
theorem rv_bl {K : PySem.W.Frag} {w : Hs} {v : V} {k : Bool} (r : Rv K w v (.bl k)) : v = .bl k := by cases r; rfl
theorem rv_int {K : PySem.W.Frag} {w : Hs} {v : V} {k : Int} (r : Rv K w v (.int k)) : v = .int k := by cases r; rfl
theorem rv_str {K : PySem.W.Frag} {w : Hs} {v : V} {k : Str} (r : Rv K w v (.str k)) : v = .str k := by cases r; rfl
theorem rv_non {K : PySem.W.Frag} {w : Hs} {v : V} (r : Rv K w v .non) : v = .non := by cases r; rfl
theorem sem_bl {K : PySem.W.Frag} (h : SemE K W te Te) : SemT K W (fun σ H Q => te σ H fun x H' => ∃ k, x = .bl k ∧ Q k H') (bOf Te) := fun Γ S Φ Ψ σ w g sl h2 hx Q q =>
  h Γ S _ Ψ σ w g sl h2 hx _ fun v d w1 S1 e1 g1 r1 ⟨k, e, h3⟩ => by
    subst e
    exact ⟨k, rv_bl r1, q k w1 S1 e1 g1 h3⟩
theorem jt_cmp {op : CmpOp} {r : R2} {f : D → D → Sto → KD → Prop} (ho : OpR X (compareOp op) r) (hd : OpD X.K r f) (ha : JE X W a ta Ta) (hb : JE X W b tb Tb) (hm : behindInMarks op b = false) : JT X W (.Compare a [op] [b] pos) (tTest (tOp r ta tb)) (bOf (dOp f Ta Tb)) :=
  ⟨pt_cmpR ho ha.pe hb.pe hm, sem_bl (sem_op hd ha.sem hb.sem)⟩
def dChain (f g : D → D → Sto → KD → Prop) (Ta Tb Tc : TD) : TD := fun Γ S Φ Ψ => Ta Γ S (fun S1 x => Tb Γ S1 (fun S2 y => f x y S2 fun S3 z => ∃ k, z = .bl k ∧ (if k = true then Tc Γ S3 (fun S4 u => g y u S4 Φ) Ψ else Φ S3 (.bl false))) Ψ) Ψ
theorem sem_chain {K : PySem.W.Frag} {r r' : R2} {f g : D → D → Sto → KD → Prop} (hd : OpD K r f) (hd' : OpD K r' g) (ha : SemE K W ta Ta) (hb : SemE K W tb Tb) (hc : SemE K W tc Tc) : SemE K W (tChain r r' ta tb tc) (dChain f g Ta Tb Tc) :=
  fun Γ S Φ Ψ σ w g0 sl h hx Q q => ha Γ S _ Ψ σ w g0 sl h hx _ fun v d w1 S1 e1 g1 r1 h1 =>
    hb Γ S1 _ Ψ σ w1 g1 (sl.ext e1) h1 (hx.ext e1) _ fun v2 d2 w2 S2 e2 g2 r2 h2 => hd w2 S2 v v2 d d2 _ _ g2 (e2.rp r1) r2 h2 fun z dz w3 S3 e3 g3 r3 ⟨k, ek, h3⟩ => by
      subst ek
      refine ⟨k, rv_bl r3, ?_⟩
      have e13 := (e1.trans e2).trans e3
      cases k with
      | true => exact hc Γ S3 _ Ψ σ w3 g3 (sl.ext e13) h3 (hx.ext e13) _ fun v4 d4 w4 S4 e4 g4 r4 h4 => hd' w4 S4 v2 v4 d2 d4 Φ Q g4 ((e3.trans e4).rp r2) r4 h4 (q.ext (e13.trans e4))
      | false => exact q (.bl false) (.bl false) w3 S3 e13 g3 (.bl false) h3
theorem je_chain {op op' : CmpOp} {r r' : R2} {f g : D → D → Sto → KD → Prop} (ho : OpR X (compareOp op) r) (ho' : OpR X (compareOp op') r') (hd : OpD X.K r f) (hd' : OpD X.K r' g) (ha : JE X W a ta Ta) (hb : JE X W b tb Tb) (hc : JE X W c tc Tc)
    (hm : lastMarks [op, op'] [b, c] = false := by with_unfolding_all rfl) : JE X W (.Compare a [op, op'] [b, c] pos) (tChain r r' ta tb tc) (dChain f g Ta Tb Tc) := ⟨pe_chain ho ho' ha.pe hb.pe hc.pe hm, sem_chain hd hd' ha.sem hb.sem hc.sem⟩
theorem jt_chain {op op' : CmpOp} {r r' : R2} {f g : D → D → Sto → KD → Prop} (ho : OpR X (compareOp op) r) (ho' : OpR X (compareOp op') r') (hd : OpD X.K r f) (hd' : OpD X.K r' g) (ha : JE X W a ta Ta) (hb : JE X W b tb Tb) (hc : JE X W c tc Tc)
    (hm : lastMarks [op, op'] [b, c] = false := by with_unfolding_all rfl) : JT X W (.Compare a [op, op'] [b, c] pos) (tTest (tChain r r' ta tb tc)) (bOf (dChain f g Ta Tb Tc)) := ⟨pt_chain ho ho' ha.pe hb.pe hc.pe hm, sem_bl (sem_chain hd hd' ha.sem hb.sem hc.sem)⟩
/-- a value as a test -/
theorem jt_val (h : JE X W e te Te) (he : ∀ whole, isTrue e X.env whole = (do let v ← whole; standAt e.pos; holding [v] (truthy v)) := by intro _; rfl) : JT X W e (tB te) (bOf Te) := ⟨pt_val h.pe he, sem_bl h.sem⟩
variable {t u : TT} {T U : TB} {rest : List Expr}
def bAnd (T U : TB) : TB := fun Γ S Φ Ψ => T Γ S (fun S1 k => if k = true then U Γ S1 Φ Ψ else Φ S1 false) Ψ
def bOr (T U : TB) : TB := fun Γ S Φ Ψ => T Γ S (fun S1 k => if k = true then Φ S1 true else U Γ S1 Φ Ψ) Ψ
def bNot (T : TB) : TB := fun Γ S Φ Ψ => T Γ S (fun S1 k => Φ S1 (!k)) Ψ
theorem sem_bAnd {K : PySem.W.Frag} (h1 : SemT K W t T) (h2 : SemT K W u U) : SemT K W (tAnd t u) (bAnd T U) := fun Γ S Φ Ψ σ w g sl h hx Q q =>
  h1 Γ S _ Ψ σ w g sl h hx _ fun k w1 S1 e1 g1 h3 => by
    cases k with
    | true => exact h2 Γ S1 Φ Ψ σ w1 g1 (sl.ext e1) h3 (hx.ext e1) Q (q.ext e1)
    | false => exact q false w1 S1 e1 g1 h3
theorem sem_bOr {K : PySem.W.Frag} (h1 : SemT K W t T) (h2 : SemT K W u U) : SemT K W (tOr t u) (bOr T U) := fun Γ S Φ Ψ σ w g sl h hx Q q =>
  h1 Γ S _ Ψ σ w g sl h hx _ fun k w1 S1 e1 g1 h3 => by
    cases k with
    | true => exact q true w1 S1 e1 g1 h3
    | false => exact h2 Γ S1 Φ Ψ σ w1 g1 (sl.ext e1) h3 (hx.ext e1) Q (q.ext e1)
theorem jw_and1 (h : JT X W a t T) : JW X W (.BoolOp .And [a] pos) t T := ⟨pw_and1 h.pt, h.sem⟩
theorem jw_or1 (h : JT X W a t T) : JW X W (.BoolOp .Or [a] pos) t T := ⟨pw_or1 h.pt, h.sem⟩
theorem jw_and (h : JT X W a t T) (h2 : JW X W (.BoolOp .And (b :: rest) pos) u U) : JW X W (.BoolOp .And (a :: b :: rest) pos) (tAnd t u) (bAnd T U) := ⟨pw_and h.pt h2.pw, sem_bAnd h.sem h2.sem⟩
theorem jw_or (h : JT X W a t T) (h2 : JW X W (.BoolOp .Or (b :: rest) pos) u U) : JW X W (.BoolOp .Or (a :: b :: rest) pos) (tOr t u) (bOr T U) := ⟨pw_or h.pt h2.pw, sem_bOr h.sem h2.sem⟩
theorem JW.jt (h : JW X W e t T) : JT X W e t T := ⟨h.pw.pt, h.sem⟩
theorem jt_not (h : JT X W a t T) : JT X W (.UnaryOp .Not a pos) (tNot t) (bNot T) := ⟨pt_not h.pt, fun Γ S Φ Ψ σ w g sl h2 hx Q q => h.sem Γ S _ Ψ σ w g sl h2 hx _ fun k w1 S1 e1 g1 h3 => q (!k) w1 S1 e1 g1 h3⟩
/-- as values -/
def dAnd (Ta Tb : TD) : TD := fun Γ S Φ Ψ => Ta Γ S (fun S1 x => ∃ k, x = .bl k ∧ if k = true then Tb Γ S1 Φ Ψ else Φ S1 (.bl false)) Ψ
def dOr (Ta Tb : TD) : TD := fun Γ S Φ Ψ => Ta Γ S (fun S1 x => ∃ k, x = .bl k ∧ if k = true then Φ S1 (.bl true) else Tb Γ S1 Φ Ψ) Ψ
def dNot (Ta : TD) : TD := fun Γ S Φ Ψ => Ta Γ S (fun S1 x => ∃ k, x = .bl k ∧ Φ S1 (.bl (!k))) Ψ
theorem je_one {op} (h : JE X W a ta Ta) : JE X W (.BoolOp op [a] pos) ta Ta := ⟨pe_one h.pe, h.sem⟩
theorem je_and (ha : JE X W a ta Ta) (hb : JE X W (.BoolOp .And (b :: rest) pos) tb Tb) : JE X W (.BoolOp .And (a :: b :: rest) pos) (tAndV ta tb) (dAnd Ta Tb) := ⟨pe_and ha.pe hb.pe, fun Γ S Φ Ψ σ w g sl h hx Q q =>
  ha.sem Γ S _ Ψ σ w g sl h hx _ fun v d w1 S1 e1 g1 r1 ⟨k, e, h1⟩ => by
    subst e
    refine ⟨k, rv_bl r1, ?_⟩
    cases k with
    | true => exact hb.sem Γ S1 Φ Ψ σ w1 g1 (sl.ext e1) h1 (hx.ext e1) Q (q.ext e1)
    | false => exact q (.bl false) (.bl false) w1 S1 e1 g1 (.bl false) h1⟩
theorem je_or (ha : JE X W a ta Ta) (hb : JE X W (.BoolOp .Or (b :: rest) pos) tb Tb) : JE X W (.BoolOp .Or (a :: b :: rest) pos) (tOrV ta tb) (dOr Ta Tb) := ⟨pe_or ha.pe hb.pe, fun Γ S Φ Ψ σ w g sl h hx Q q =>
  ha.sem Γ S _ Ψ σ w g sl h hx _ fun v d w1 S1 e1 g1 r1 ⟨k, e, h1⟩ => by
    subst e
    refine ⟨k, rv_bl r1, ?_⟩
    cases k with
    | true => exact q (.bl true) (.bl true) w1 S1 e1 g1 (.bl true) h1
    | false => exact hb.sem Γ S1 Φ Ψ σ w1 g1 (sl.ext e1) h1 (hx.ext e1) Q (q.ext e1)⟩
theorem je_not (ha : JE X W a ta Ta) : JE X W (.UnaryOp .Not a pos) (tNotV ta) (dNot Ta) := ⟨pe_not ha.pe, fun Γ S Φ Ψ σ w g sl h hx Q q =>
  ha.sem Γ S _ Ψ σ w g sl h hx _ fun v d w1 S1 e1 g1 r1 ⟨k, e, h1⟩ => by
    subst e
    exact ⟨k, rv_bl r1, q (.bl (!k)) (.bl (!k)) w1 S1 e1 g1 (.bl (!k)) h1⟩⟩
def dIf (T : TB) (Ta Tb : TD) : TD := fun Γ S Φ Ψ => T Γ S (fun S1 k => if k = true then Ta Γ S1 Φ Ψ else Tb Γ S1 Φ Ψ) Ψ
theorem je_if (hc : JT X W c t T) (ha : JE X W a ta Ta) (hb : JE X W b tb Tb) : JE X W (.IfExp c a b pos) (tIf t ta tb) (dIf T Ta Tb) := ⟨pe_ifExp hc.pt ha.pe hb.pe, fun Γ S Φ Ψ σ w g sl h hx Q q =>
  hc.sem Γ S _ Ψ σ w g sl h hx _ fun k w1 S1 e1 g1 h3 => by
    cases k with
    | true => exact ha.sem Γ S1 Φ Ψ σ w1 g1 (sl.ext e1) h3 (hx.ext e1) Q (q.ext e1)
    | false => exact hb.sem Γ S1 Φ Ψ σ w1 g1 (sl.ext e1) h3 (hx.ext e1) Q (q.ext e1)⟩
variable {tl : TA} {Tl : TL}
def lNil : TL := fun _ S Φ _ => Φ S []
def lCons (T : TD) (U : TL) : TL := fun Γ S Φ Ψ => T Γ S (fun S1 x => U Γ S1 (fun S2 xs => Φ S2 (x :: xs)) Ψ) Ψ
theorem ja_nil : JA X W [] tNil lNil := ⟨pa_nil, fun Γ S Φ Ψ σ w g sl h hx Q q => q [] [] w S (Ext.refl w) g .nil h⟩
theorem ja_cons (ha : JE X W e te Te) (hr : JA X W es tl Tl) (hs : starEach (e :: es) X.env = (false, eval e X.env) :: starEach es X.env := by rfl) : JA X W (e :: es) (tCons te tl) (lCons Te Tl) := ⟨pa_cons ha.pe hr.pa hs, fun Γ S Φ Ψ σ w g sl h hx Q q =>
  ha.sem Γ S _ Ψ σ w g sl h hx _ fun v d w1 S1 e1 g1 r1 h1 => hr.sem Γ S1 _ Ψ σ w1 g1 (sl.ext e1) h1 (hx.ext e1) _ fun vs ds w2 S2 e2 g2 r2 h2 => q _ _ w2 S2 (e1.trans e2) g2 (.cons (e2.rp r1) r2) h2⟩
/-- a new frozen list, a new cell, a new tuple -/
def dLst (T : TL) : TD := fun Γ S Φ Ψ => T Γ S (fun S1 ds => ds.length ≤ sizeLine ∧ Φ S1 (.lst ds)) Ψ
def dLstO (T : TL) : TD := fun Γ S Φ Ψ => T Γ S (fun S1 ds => ds.length ≤ sizeLine ∧ Φ (S1 ++ [.lst ds]) (.own S1.length)) Ψ
def dTup (T : TL) : TD := fun Γ S Φ Ψ => T Γ S (fun S1 ds => ds.length ≤ sizeLine ∧ Φ S1 (.tup ds)) Ψ
theorem new_lst {K : PySem.W.Frag} {w : Hs} {S : Sto} (g : Good K w S) {Φ : KD} {Q : VK} (q : OkD K w Φ Q) {vs : List V} {ds : List D} (r : Ra K w vs ds) (h : Φ S (.lst ds)) (p : Addr) (hp : w.H p = none) : Q (.ref p) (upd w.H p (.lst vs)) :=
  q (.ref p) (.lst ds) (w.frz p (.lst vs)) S (Ext.frz g _ hp) (g.frz _ hp) (.lst upd_same ((Ext.frz g _ hp).ra r)) h
theorem new_tup {K : PySem.W.Frag} {w : Hs} {S : Sto} (g : Good K w S) {Φ : KD} {Q : VK} (q : OkD K w Φ Q) {vs : List V} {ds : List D} (r : Ra K w vs ds) (h : Φ S (.tup ds)) (p : Addr) (hp : w.H p = none) : Q (.ref p) (upd w.H p (.tup vs)) :=
  q (.ref p) (.tup ds) (w.frz p (.tup vs)) S (Ext.frz g _ hp) (g.frz _ hp) (.tup (.inl (.inl upd_same)) ((Ext.frz g _ hp).ra r)) h
theorem new_own {K : PySem.W.Frag} {w : Hs} {S : Sto} (g : Good K w S) {Φ : KD} {Q : VK} (q : OkD K w Φ Q) {vs : List V} {ds : List D} (r : Ra K w vs ds) (h : Φ (S ++ [.lst ds]) (.own S.length)) (p : Addr) (hp : w.H p = none) : Q (.ref p) (upd w.H p (.lst vs)) :=
  q (.ref p) (.own S.length) (w.cel p (.lst vs)) (S ++ [.lst ds]) (Ext.cel g _ hp) (g.cel hp r) (.own (by
    show (w.al ++ [p])[S.length]? = some p
    rw [← g.len, List.getElem?_append_right (Nat.le_refl _), Nat.sub_self] <;> rfl)) h
theorem je_lst (h : JA X W es tl Tl) : JE X W (.List es pos) (tLst tl) (dLst Tl) := ⟨pe_lst h.pa, fun Γ S Φ Ψ σ w g sl hT hx Q q =>
  h.sem Γ S _ Ψ σ w g sl hT hx _ fun vs ds w1 S1 e1 g1 r1 ⟨z, h1⟩ => ⟨by rw [r1.length]; exact z, new_lst g1 (q.ext e1) r1 h1⟩⟩
theorem je_lstO (h : JA X W es tl Tl) : JE X W (.List es pos) (tLst tl) (dLstO Tl) := ⟨pe_lst h.pa, fun Γ S Φ Ψ σ w g sl hT hx Q q =>
  h.sem Γ S _ Ψ σ w g sl hT hx _ fun vs ds w1 S1 e1 g1 r1 ⟨z, h1⟩ => ⟨by rw [r1.length]; exact z, new_own g1 (q.ext e1) r1 h1⟩⟩
theorem je_tup {x1} (h : JA X W es tl Tl) : JE X W (.Tuple es x1 pos) (tTup tl) (dTup Tl) := ⟨pe_tup h.pa, fun Γ S Φ Ψ σ w g sl hT hx Q q =>
  h.sem Γ S _ Ψ σ w g sl hT hx _ fun vs ds w1 S1 e1 g1 r1 ⟨z, h1⟩ => ⟨by rw [r1.length]; exact z, new_tup g1 (q.ext e1) r1 h1⟩⟩
def CallD (K : PySem.W.Frag) (r : List V → Hp → VK → Prop) (f : List D → Sto → KD → Prop) : Prop :=
  ∀ w S vs ds Φ Q, Good K w S → Ra K w vs ds → f ds S Φ → OkD K w Φ Q → r vs w.H Q
def dCB (f : List D → Sto → KD → Prop) (T : TL) : TD := fun Γ S Φ Ψ => T Γ S (fun S1 ds => f ds S1 Φ) Ψ
theorem sem_cb {K : PySem.W.Frag} {r : List V → Hp → VK → Prop} {f : List D → Sto → KD → Prop} (hd : CallD K r f) (h : SemA K W tl Tl) : SemE K W (tCB r tl) (dCB f Tl) := fun Γ S Φ Ψ σ w g sl hT hx Q q =>
  h Γ S _ Ψ σ w g sl hT hx _ fun vs ds w1 S1 e1 g1 r1 h1 => hd w1 S1 vs ds Φ Q g1 r1 h1 (q.ext e1)
theorem je_callB {id : String} {x : Str} {p : Pos} {r : List V → Hp → VK → Prop} {f : List D → Sto → KD → Prop} (hc : CallR X (.builtin id) r) (hd : CallD X.K r f) (hg : Gl X x) (hm : X.mg x = none) (hv : bootBuiltins x = some (.builtin id)) (ha : JA X W (e :: es) tl Tl)
    (hn : x ≠ "__name__" := by decide) (hdb : (x == ("__debug__" : Str)) = false := by decide)
    (he : starEach (e :: es) X.env = (false, eval e X.env) :: starEach es X.env := by rfl) (hpl : (backTo pos (starEach es X.env)).any (·.1) = false := by rfl) : JE X W (.Call (.Name x p) (e :: es) [] pos) (tCB r tl) (dCB f Tl) :=
  ⟨pe_callB hc hg hm hv ha.pa hn hdb he hpl, sem_cb hd ha.sem⟩
theorem je_callTy {n : String} {x : Str} {p : Pos} {r : List V → Hp → VK → Prop} {f : List D → Sto → KD → Prop} (hc : CallR X (.type n) r) (hd : CallD X.K r f) (hg : Gl X x) (hm : X.mg x = none) (hv : bootBuiltins x = some (.type n)) (ha : JA X W (e :: es) tl Tl)
    (hn : x ≠ "__name__" := by decide) (hdb : (x == ("__debug__" : Str)) = false := by decide)
    (he : starEach (e :: es) X.env = (false, eval e X.env) :: starEach es X.env := by rfl) (hpl : (backTo pos (starEach es X.env)).any (·.1) = false := by rfl) : JE X W (.Call (.Name x p) (e :: es) [] pos) (tCB r tl) (dCB f Tl) :=
  ⟨pe_callTy hc hg hm hv ha.pa hn hdb he hpl, sem_cb hd ha.sem⟩
/-- what a def promises of data -/
abbrev DSpec := List D → Sto → KD → KX → Prop
def spOf (K : PySem.W.Frag) (sp : DSpec) : Sp := fun vs H Q E => ∃ w S ds Φ Ψ, w.H = H ∧ Good K w S ∧ Ra K w vs ds ∧ sp ds S Φ Ψ ∧ OkD K w Φ Q ∧
  ∀ cv dx x w' S', Ext w w' → Good K w' S' → RpX K w' cv dx x → Ψ S' x → E cv dx w'.H
def dCall (sp : DSpec) (T : TL) : TD := fun Γ S Φ Ψ => T Γ S (fun S1 ds => sp ds S1 Φ Ψ) Ψ
theorem sem_call {K : PySem.W.Frag} {sp : DSpec} (h : SemA K W tl Tl) : SemE K W (tCallS (spOf K sp) (WE W) tl) (dCall sp Tl) := fun Γ S Φ Ψ σ w g sl hT hx Q q =>
  h Γ S _ Ψ σ w g sl hT hx _ fun vs ds w1 S1 e1 g1 r1 h1 => ⟨w1, S1, ds, Φ, Ψ, rfl, g1, r1, h1, q.ext e1, fun cv dx x w' S' e g r hΨ => hx.ext e1 cv dx x w' S' e g r hΨ⟩
theorem je_ix {r : R2} {f : D → D → Sto → KD → Prop} (hr : IxR X r) (hd : OpD X.K r f) (ha : JE X W a ta Ta) (hb : JE X W b tb Tb) (hs : PlainIx b := by exact fun _ _ => rfl) : JE X W (.Subscript a b pos) (tOp r ta tb) (dOp f Ta Tb) := ⟨pe_ix hr ha.pe hb.pe hs, sem_op hd ha.sem hb.sem⟩
structure JO (X : Cx) (W : WX) (e : Option Expr) (t : TO) (T : Gam → Sto → (Sto → Option Int → Prop) → KX → Prop) : Prop where
  po : PO X e t
  sem : ∀ Γ S Φ Ψ σ w, Good X.K w S → Slots X.K w σ Γ → T Γ S Φ Ψ → OkX X.K W w Ψ σ → ∀ Q : Option Int → Hp → Prop, (∀ o w' S', Ext w w' → Good X.K w' S' → Φ S' o → Q o w'.H) → t σ w.H Q
abbrev TOd := Gam → Sto → (Sto → Option Int → Prop) → KX → Prop
def oNone : TOd := fun _ S Φ _ => Φ S none
def oSome (T : TD) : TOd := fun Γ S Φ Ψ => T Γ S (fun S1 d => ∃ i, d = .int i ∧ Φ S1 (some i)) Ψ
theorem jo_none : JO X W none tNoPart oNone := ⟨po_none, fun Γ S Φ Ψ σ w g sl h hx Q q => q none w S (Ext.refl w) g h⟩
theorem jo_some (h : JE X W e te Te) : JO X W (some e) (tPart te) (oSome Te) := ⟨po_some h.pe, fun Γ S Φ Ψ σ w g sl hT hx Q q =>
  h.sem Γ S _ Ψ σ w g sl hT hx _ fun v d w1 S1 e1 g1 r1 ⟨i, ei, h1⟩ => by
    subst ei
    exact ⟨i, rv_int r1, q _ w1 S1 e1 g1 h1⟩⟩
def SlD (K : PySem.W.Frag) (r : V → Option Int → Option Int → Hp → VK → Prop) (f : D → Option Int → Option Int → Sto → KD → Prop) : Prop :=
  ∀ w S v d lo hi Φ Q, Good K w S → Rv K w v d → f d lo hi S Φ → OkD K w Φ Q → r v lo hi w.H Q
def dSl (f : D → Option Int → Option Int → Sto → KD → Prop) (T : TD) (Tl Th : TOd) : TD := fun Γ S Φ Ψ => T Γ S (fun S1 d => Tl Γ S1 (fun S2 lo => Th Γ S2 (fun S3 hi => f d lo hi S3 Φ) Ψ) Ψ) Ψ
theorem je_slice {r : V → Option Int → Option Int → Hp → VK → Prop} {f : D → Option Int → Option Int → Sto → KD → Prop} {lo hi : Option Expr} {p2 : Pos} {tlo thi : TO} {Tlo Thi : TOd} (hr : SlR X r) (hd : SlD X.K r f) (he : JE X W e te Te) (hl : JO X W lo tlo Tlo) (hh : JO X W hi thi Thi) :
    JE X W (.Subscript e (.Slice lo hi none p2) pos) (tSl r te tlo thi) (dSl f Te Tlo Thi) := ⟨pe_slice hr he.pe hl.po hh.po, fun Γ S Φ Ψ σ w g sl hT hx Q q =>
  he.sem Γ S _ Ψ σ w g sl hT hx _ fun v d w1 S1 e1 g1 r1 h1 => hl.sem Γ S1 _ Ψ σ w1 g1 (sl.ext e1) h1 (hx.ext e1) _ fun lo w2 S2 e2 g2 h2 =>
    hh.sem Γ S2 _ Ψ σ w2 g2 (sl.ext (e1.trans e2)) h2 (hx.ext (e1.trans e2)) _ fun hi w3 S3 e3 g3 h3 => hd w3 S3 v d lo hi Φ Q g3 ((e2.trans e3).rp r1) h3 (q.ext ((e1.trans e2).trans e3))⟩
end
end DL
namespace DL
open PySem PySem.Spec PyProof.Rows L2
structure EdD where
  nx : Gam → Sto → Prop
  rt : Sto → D → Prop
  bk : Gam → Sto → Prop := fun _ _ => False
  ct : Gam → Sto → Prop := fun _ _ => False
  er : Sto → Exn → Prop
abbrev TSd := EdD → Gam → Sto → Prop
section
variable (K : PySem.W.Frag) (W : WX)
def OkN (w : Hs) (P : Gam → Sto → Prop) (Q : L2.St → Hp → Prop) : Prop := ∀ σ' Γ' w' S', Ext w w' → Good K w' S' → Slots K w' σ' Γ' → P Γ' S' → Q σ' w'.H
/-- what the ends by data give the ends -/
structure Rl (w : Hs) (D' : EdD) (D : Ends) : Prop where
  nx : OkN K w D'.nx D.nx
  rt : OkD K w D'.rt D.rt
  bk : OkN K w D'.bk D.bk
  ct : OkN K w D'.ct D.ct
  er : ∀ σ, OkX K W w D'.er σ
def SemS (t : TS) (T : TSd) : Prop := ∀ D' Γ S σ w D, Good K w S → Slots K w σ Γ → T D' Γ S → Rl K W w D' D → t D σ w.H
end
section
variable {K : PySem.W.Frag} {W : WX} {w w' : Hs}
theorem OkN.ext {P : Gam → Sto → Prop} {Q : L2.St → Hp → Prop} (h : OkN K w P Q) (e : Ext w w') : OkN K w' P Q := fun σ Γ w2 S' e2 => h σ Γ w2 S' (e.trans e2)
theorem Rl.ext {D' : EdD} {D : Ends} (h : Rl K W w D' D) (e : Ext w w') : Rl K W w' D' D := ⟨h.nx.ext e, h.rt.ext e, h.bk.ext e, h.ct.ext e, fun σ => (h.er σ).ext e⟩
end
structure JS (X : Cx) (W : WX) (st : Stmt) (t : TS) (T : TSd) : Prop where
  ps : PS X st t
  sem : SemS X.K W t T
structure JB (X : Cx) (W : WX) (st : List Stmt) (t : TS) (T : TSd) : Prop where
  pss : PSs X st t
  sem : SemS X.K W t T
section
variable {X : Cx} {W : WX} {e a b c : Expr} {es : List Expr} {pos : Pos} {ta tb tc te : TE} {Ta Tb Tc Te : TD} {st : Stmt} {rest : List Stmt} {t u : TS} {T U : TSd}
def sNext : TSd := fun D Γ S => D.nx Γ S
def sSeq (T U : TSd) : TSd := fun D Γ S => T { D with nx := U D } Γ S
theorem jb_nil : JB X W [] tNext sNext := ⟨pss_nil, fun D' Γ S σ w D g sl h r => r.nx σ Γ w S (Ext.refl w) g sl h⟩
theorem jb_cons (h1 : JS X W st t T) (h2 : JB X W rest u U) : JB X W (st :: rest) (tSeq t u) (sSeq T U) := ⟨pss_cons h1.ps h2.pss, fun D' Γ S σ w D g sl h r =>
  h1.sem { D' with nx := U D' } Γ S σ w { D with nx := u D } g sl h ⟨fun σ' Γ' w' S' e' g' sl' h' => h2.sem D' Γ' S' σ' w' D g' sl' h' (r.ext e'), r.rt, r.bk, r.ct, r.er⟩⟩
theorem jb_one (h1 : JS X W st t T) : JB X W [st] t T := ⟨pss_one h1.ps, h1.sem⟩
def sBrk : TSd := fun D Γ S => D.bk Γ S
def sCnt : TSd := fun D Γ S => D.ct Γ S
def sDrop (T : TD) : TSd := fun D Γ S => T Γ S (fun S1 _ => D.nx Γ S1) D.er
theorem js_expr (he : JE X W e te Te) (hs : swapsWith e none pos.line X.env = pure false := by rfl) : JS X W (.Expr e pos) (tDrop te) (sDrop Te) := ⟨ps_expr he.pe hs, fun D' Γ S σ w D g sl h r =>
  he.sem Γ S _ _ σ w g sl h (r.er σ) _ fun v d w' S' e' g' _ h' => r.nx σ Γ w' S' e' g' (sl.ext e') h'⟩
def sRet (T : TD) : TSd := fun D Γ S => T Γ S D.rt D.er
theorem js_ret (he : JE X W e te Te) : JS X W (.Return (some e) pos) (tRet te) (sRet Te) := ⟨ps_ret he.pe, fun D' Γ S σ w D g sl h r => he.sem Γ S _ _ σ w g sl h (r.er σ) _ r.rt⟩
def sRetN : TSd := fun D _ S => D.rt S .non
def sIf (C : TB) (T U : TSd) : TSd := fun D Γ S => C Γ S (fun S1 k => if k = true then T D Γ S1 else U D Γ S1) D.er
theorem js_if {A B : List Stmt} {tt : TT} {C : TB} (hc : JT X W c tt C) (ha : JB X W A t T) (hb : JB X W B u U) : JS X W (.If c A B pos) (tIfS tt t u) (sIf C T U) := ⟨ps_if hc.pt ha.pss hb.pss, fun D' Γ S σ w D g sl h r =>
  hc.sem Γ S _ _ σ w g sl h (r.er σ) _ fun k w' S' e' g' h' => by
    cases k with
    | true => exact ha.sem D' Γ S' σ w' D g' (sl.ext e') h' (r.ext e')
    | false => exact hb.sem D' Γ S' σ w' D g' (sl.ext e') h' (r.ext e')⟩
abbrev TGd := D → Gam → Sto → (Gam → Sto → Prop) → Prop
def SemG (K : PySem.W.Frag) (t : TG) (T : TGd) : Prop := ∀ d Γ S v σ w P Q, Good K w S → Slots K w σ Γ → Rv K w v d → T d Γ S P → OkN K w P Q → t v σ w.H Q
structure JG (X : Cx) (tg : Expr) (t : TG) (T : TGd) : Prop where
  pg : PG X tg t
  sem : SemG X.K t T
abbrev TGs' := List D → Gam → Sto → (Gam → Sto → Prop) → Prop
def SemGs (K : PySem.W.Frag) (t : TGs) (T : TGs') : Prop := ∀ ds Γ S vs σ w P Q, Good K w S → Slots K w σ Γ → Ra K w vs ds → T ds Γ S P → OkN K w P Q → t vs σ w.H Q
structure JGs (X : Cx) (ts : List Expr) (t : TGs) (T : TGs') : Prop where
  pg : PGs X ts t
  sem : SemGs X.K t T
def nmG (i : Nat) : TGd := fun d Γ S P => P (Γ.set i (some d)) S
theorem jg_name (i : Nat) {x : Str} (hN : X.N.Nodup) (hi : X.N[i]? = some x := by rfl) (hx : Loc X.env.scope x := by first | exact Or.inl rfl | exact Or.inr rfl) (hf : X.fn x = true ∨ X.env.scope.names.lookup x = some .local := by first | exact .inl rfl | exact .inr rfl | assumption) : JG X (.Name x pos) (gName i) (nmG i) :=
  ⟨pg_name hN hi hx hf, fun d Γ S v σ w P Q g sl r h q => q _ _ w S (Ext.refl w) g (sl.set r i) h⟩
def gsNil : TGs' := fun ds Γ S P => ds = [] ∧ P Γ S
def gsCons (T : TGd) (U : TGs') : TGs' := fun ds Γ S P => ∃ d r, ds = d :: r ∧ T d Γ S fun Γ' S' => U r Γ' S' P
theorem jgs_nil : JGs X [] gNil gsNil := ⟨pgs_nil, fun ds Γ S vs σ w P Q g sl r ⟨e, h⟩ q => by
  subst e
  cases r
  exact ⟨rfl, q σ Γ w S (Ext.refl w) g sl h⟩⟩
theorem jgs_cons {g1 : TG} {g2 : TGs} {G1 : TGd} {G2 : TGs'} (h1 : JG X e g1 G1) (h2 : JGs X es g2 G2) (hs : (assignEach (e :: es) X.env).map (·.2) = assign e X.env :: (assignEach es X.env).map (·.2) := by rfl) : JGs X (e :: es) (gCons g1 g2) (gsCons G1 G2) :=
  ⟨pgs_cons h1.pg h2.pg hs, fun ds Γ S vs σ w P Q g sl r ⟨d, rr, e, h⟩ q => by
    subst e
    cases r with
    | cons ra rb => exact ⟨_, _, rfl, h1.sem d Γ S _ σ w _ _ g sl ra h fun σ' Γ' w' S' e' g' sl' h' => h2.sem rr Γ' S' _ σ' w' P Q g' sl' (e'.ra rb) h' (q.ext e')⟩⟩
def tupG (n : Nat) (T : TGs') : TGd := fun d Γ S P => ∃ ds, d = .tup ds ∧ ds.length = n ∧ T ds Γ S P
theorem jg_tup {n : Nat} {x1} {gs : TGs} {G : TGs'} (hc : X.calm = true) (h : JGs X es gs G) (hn : (assignEach es X.env).length = n := by rfl) (hst : (assignEach es X.env).findIdx? (·.1) = none := by rfl) : JG X (.Tuple es x1 pos) (gTup X.K n gs) (tupG n G) :=
  ⟨pg_tup hc h.pg hn hst, fun d Γ S v σ w P Q g sl r ⟨ds, e, hl, hT⟩ q => by
    subst e
    cases r with
    | tup hq ra => exact ⟨_, _, rfl, sameSqt g.sub hq, by rw [ra.length]; exact hl, h.sem ds Γ S _ σ w P Q g sl ra hT q⟩⟩
/-- o[i] = v -/
def TSetD (K : PySem.W.Frag) (t : TSet) (f : D → D → D → Sto → (Sto → Prop) → Prop) : Prop := ∀ w S o i v do_ di dv P Q, Good K w S → Rv K w o do_ → Rv K w i di → Rv K w v dv → f do_ di dv S P → (∀ w' S', Ext w w' → Good K w' S' → P S' → Q w'.H) → t o i v w.H Q
def subG (f : D → D → D → Sto → (Sto → Prop) → Prop) (To Ti : TD) : TGd := fun d Γ S P => To Γ S (fun S1 o => Ti Γ S1 (fun S2 i => f o i d S2 fun S3 => P Γ S3) fun _ _ => False) fun _ _ => False
theorem jg_sub {o i : Expr} {to ti : TE} {To Ti : TD} {ts : TSet} {f : D → D → D → Sto → (Sto → Prop) → Prop} (ho : JE X (fun _ _ _ _ => False) o to To) (hi : JE X (fun _ _ _ _ => False) i ti Ti) (hs : PSet X ts) (hd : TSetD X.K ts f)
    (hha : ∀ v, assign (.Subscript o i pos) X.env v = (do
      let ov ← holding [v] (eval o X.env)
      let iv ← holding [v, ov] (eval i X.env)
      standAt pos
      holding [v, ov, iv] (setItem ov iv v)
      release [v, ov, iv] []) := by intro _; rfl) : JG X (.Subscript o i pos) (gSub to ti ts) (subG f To Ti) :=
  ⟨pg_sub ho.pe hi.pe hs hha, fun d Γ S v σ w P Q g sl r h q => ho.sem Γ S _ _ σ w g sl h (fun _ _ _ _ _ _ _ _ z => z) _ fun vo do_ w1 S1 e1 g1 r1 h1 =>
    hi.sem Γ S1 _ _ σ w1 g1 (sl.ext e1) h1 (fun _ _ _ _ _ _ _ _ z => z) _ fun vi di w2 S2 e2 g2 r2 h2 =>
      hd w2 S2 vo vi v do_ di d _ _ g2 (e2.rp r1) r2 ((e1.trans e2).rp r) h2 fun w3 S3 e3 g3 h3 => q σ Γ w3 S3 ((e1.trans e2).trans e3) g3 (sl.ext ((e1.trans e2).trans e3)) h3⟩
def sAsg (T : TD) (G : TGd) : TSd := fun D Γ S => T Γ S (fun S1 d => G d Γ S1 D.nx) D.er
theorem sem_asg {K : PySem.W.Frag} {g : TG} {G : TGd} (he : SemE K W te Te) (hg : SemG K g G) : SemS K W (tAsg te g) (sAsg Te G) := fun D' Γ S σ w D g0 sl h r =>
  he Γ S _ _ σ w g0 sl h (r.er σ) _ fun v d w1 S1 e1 g1 r1 h1 => hg d Γ S1 v σ w1 D'.nx D.nx g1 (sl.ext e1) r1 h1 (r.nx.ext e1)
theorem js_asg {tg : Expr} {g : TG} {G : TGd} (he : JE X W e te Te) (hg : JG X tg g G) (hs : swapsWithSole [tg] e pos.line X.env = pure false := by rfl) (hw : swappedStores [tg] e X.env = pure none := by rfl)
    (h1 : (assignEach [tg] X.env).map (·.2) = [assign tg X.env] := by rfl) : JS X W (.Assign [tg] e pos) (tAsg te g) (sAsg Te G) :=
  ⟨ps_asg he.pe hg.pg hs hw h1, sem_asg he.sem hg.sem⟩
theorem sem_nmG {K : PySem.W.Frag} (i : Nat) : SemG K (gName i) (nmG i) := fun d Γ S v σ w P Q g sl r h q => q _ _ w S (Ext.refl w) g (sl.set r i) h
theorem js_set (i : Nat) {x : Str} {pos' : Pos} (hN : X.N.Nodup) (he : JE X W e te Te) (hi : X.N[i]? = some x := by rfl) (hx : Loc X.env.scope x := by first | exact Or.inl rfl | exact Or.inr rfl) (hs : swapsWith e (some (.Name x pos')) pos.line X.env = pure false := by rfl)
    (hf : X.fn x = true ∨ X.env.scope.names.lookup x = some .local := by first | exact .inl rfl | exact .inr rfl | assumption) : JS X W (.Assign [.Name x pos'] e pos) (tAsg te (gName i)) (sAsg Te (nmG i)) := ⟨ps_set hN hi hx he.pe hs hf, sem_asg he.sem (sem_nmG i)⟩
/-- a, b = e1, e2 -/
def sPar (i j : Nat) (T : TL) : TSd := fun D Γ S => T Γ S (fun S1 ds => ∃ x y, ds = [x, y] ∧ D.nx ((Γ.set i (some x)).set j (some y)) S1) D.er
theorem sem_par {K : PySem.W.Frag} {i j : Nat} {tl : TA} {Tl : TL} (h : SemA K W tl Tl) : SemS K W (tPar i j tl) (sPar i j Tl) := fun D' Γ S σ w D g sl hT r =>
  h Γ S _ _ σ w g sl hT (r.er σ) _ fun vs ds w1 S1 e1 g1 r1 ⟨x, y, e, h1⟩ => by
    subst e
    cases r1 with
    | cons ra rb =>
      cases rb with
      | cons rc rd =>
        cases rd
        exact ⟨_, _, rfl, r.nx _ _ w1 S1 e1 g1 (((sl.ext e1).set ra i).set rc j) h1⟩
theorem js_par (i j : Nat) {x y : Str} {px py pt : Pos} {kt k2 pt2} {tl : TA} {Tl : TL} (hc : X.calm = true) (hN : X.N.Nodup) (ha : JA X W [a, b] tl Tl) (hij : i ≠ j := by decide) (hi : X.N[i]? = some x := by rfl) (hj : X.N[j]? = some y := by rfl)
    (hx : X.env.scope.names.lookup x = some .local := by rfl) (hy : X.env.scope.names.lookup y = some .local := by rfl)
    (hw : swappedStores [.Tuple [.Name x px, .Name y py] kt pt] (.Tuple [a, b] k2 pt2) X.env = pure (some [x, y]) := by rfl)
    (hs : swapsWithSole [.Tuple [.Name x px, .Name y py] kt pt] (.Tuple [a, b] k2 pt2) pos.line X.env = pure false := by rfl) :
    JS X W (.Assign [.Tuple [.Name x px, .Name y py] kt pt] (.Tuple [a, b] k2 pt2) pos) (tPar i j tl) (sPar i j Tl) := ⟨ps_par hc hN hi hj hij hx hy ha.pa hw hs, sem_par ha.sem⟩
/-- x += e -/
def sAug (i : Nat) (T : TD) (f : D → D → Sto → KD → Prop) : TSd := fun D Γ S => ∃ d, Γ[i]? = some (some d) ∧ T Γ S (fun S1 y => f d y S1 fun S2 z => D.nx (Γ.set i (some z)) S2) D.er
def IpD (K : PySem.W.Frag) (t : TIp) (f : D → D → Sto → KD → Prop) : Prop := ∀ w S x y u v Φ Q, Good K w S → Rv K w x u → Rv K w y v → f u v S Φ → OkD K w Φ Q → t x y w.H Q
theorem js_aug (i : Nat) {x : Str} {op : Operator} {ti : TIp} {f : D → D → Sto → KD → Prop} {pos' : Pos} (hN : X.N.Nodup) (he : JE X W e te Te) (ho : PIp X op ti) (hd : IpD X.K ti f) (hi : X.N[i]? = some x := by rfl) (hx : Loc X.env.scope x := by first | exact Or.inl rfl | exact Or.inr rfl)
    (hf : X.fn x = true ∨ X.env.scope.names.lookup x = some .local := by first | exact .inl rfl | exact .inr rfl | assumption) : JS X W (.AugAssign (.Name x pos') op e pos) (tAug i te ti) (sAug i Te f) :=
  ⟨ps_aug hN hi hx he.pe ho hf, fun D' Γ S σ w D g sl ⟨d, h1, h2⟩ r => by
    obtain ⟨v, h3, rv⟩ := sl.2 i d h1
    exact ⟨v, h3, he.sem Γ S _ _ σ w g sl h2 (r.er σ) _ fun v2 d2 w1 S1 e1 g1 r1 h4 => hd w1 S1 v v2 d d2 _ _ g1 (e1.rp rv) r1 h4 fun v3 d3 w2 S2 e2 g2 r2 h5 => r.nx _ _ w2 S2 (e1.trans e2) g2 ((sl.ext (e1.trans e2)).set r2 i) h5⟩⟩
/-- the items behind a source, by the cells -/
abbrev Src := Sto → Option (List D)
def SrcOk (K : PySem.W.Frag) (w0 : Hs) (J : It) (src : Src) : Prop := ∀ w S ds i, Ext w0 w → Good K w S → src S = some ds →
  (∀ d, ds[i]? = some d → J.go i w.H ∧ ∀ x H', J.yld i w.H x H' → ∃ w', Ext w w' ∧ Good K w' S ∧ w'.H = H' ∧ Rv K w' x d) ∧ (ds.length ≤ i → J.stop i w.H)
abbrev TId := Gam → Sto → (Sto → Src → Prop) → KX → Prop
def SemI (K : PySem.W.Frag) (W : WX) (t : TI) (T : TId) : Prop := ∀ Γ S Φ Ψ σ w, Good K w S → Slots K w σ Γ → T Γ S Φ Ψ → OkX K W w Ψ σ → ∀ Q : It → Hp → Prop, (∀ J src w' S', Ext w w' → Good K w' S' → SrcOk K w' J src → Φ S' src → Q J w'.H) → t σ w.H Q
structure JI (X : Cx) (W : WX) (tg iter : Expr) (t : TI) (T : TId) : Prop where
  pi : PI X tg iter t
  sem : SemI X.K W t T
/-- for: n turns, P the invariant -/
def sFor (I : TId) (G : TGd) (B : TSd) : TSd := fun D Γ S => I Γ S (fun S1 src => ∃ (P : Nat → Gam → Sto → Prop) (n : Nat), P 0 Γ S1 ∧
  (∀ i Γ' S', i ≤ n → P i Γ' S' → ∃ ds, src S' = some ds ∧ ds.length = n) ∧
  (∀ i Γ' S' ds d, P i Γ' S' → src S' = some ds → ds[i]? = some d → G d Γ' S' fun Γ2 S2 => B { D with nx := P (i + 1), ct := P (i + 1), bk := D.nx } Γ2 S2) ∧
  (∀ Γ' S', P n Γ' S' → D.nx Γ' S')) D.er
theorem sem_for {K : PySem.W.Frag} {wi : TI} {g : TG} {tb : TS} {I : TId} {G : TGd} {B : TSd} (hi : SemI K W wi I) (hg : SemG K g G) (hb : SemS K W tb B) : SemS K W (tFor wi g tb) (sFor I G B) := fun D' Γ S σ w D g0 sl h r =>
  hi Γ S _ _ σ w g0 sl h (r.er σ) _ fun J src w1 S1 e1 g1 ok ⟨P, n, h0, hl, hs, hd⟩ => by
    refine ⟨fun i m σ' H' => m + i = n ∧ ∃ w' Γ' S', H' = w'.H ∧ Ext w1 w' ∧ Good K w' S' ∧ Slots K w' σ' Γ' ∧ P i Γ' S', ⟨n, by omega, w1, Γ, S1, rfl, Ext.refl w1, g1, sl.ext e1, h0⟩, ?_⟩
    rintro i m σ' H' ⟨hm, w', Γ', S', rfl, e', g', sl', p⟩
    obtain ⟨ds, hsrc, hlen⟩ := hl i Γ' S' (by omega) p
    have q := ok w' S' ds i e' g' hsrc
    by_cases hlt : i < n
    · have hx : ds[i]? = some ds[i] := List.getElem?_eq_getElem (by omega)
      obtain ⟨hgo, hy⟩ := q.1 _ hx
      refine .inr ⟨hgo, fun σ2 H2 => ∃ w2 Γ2 S2, H2 = w2.H ∧ Ext w1 w2 ∧ Good K w2 S2 ∧ Slots K w2 σ2 Γ2 ∧ P (i + 1) Γ2 S2, ?_, ?_⟩
      · rintro σ2 H2 ⟨w2, Γ2, S2, rfl, e2, g2, sl2, p2⟩
        exact ⟨m - 1, by omega, by omega, w2, Γ2, S2, rfl, e2, g2, sl2, p2⟩
      · intro x H2 hyl
        obtain ⟨w2, e2, g2, rfl, r2⟩ := hy x H2 hyl
        have e12 := e'.trans e2
        refine hg _ Γ' S' x σ' w2 _ _ g2 (sl'.ext e2) r2 (hs i Γ' S' ds _ p hsrc hx) fun σ3 Γ3 w3 S3 e3 g3 sl3 h3 => ?_
        have e13 := e12.trans e3
        refine hb _ Γ3 S3 σ3 w3 _ g3 sl3 h3 ⟨fun σ4 Γ4 w4 S4 e4 g4 sl4 h4 => ⟨w4, Γ4, S4, rfl, e13.trans e4, g4, sl4, h4⟩, (r.ext (e1.trans e13)).rt, (r.ext (e1.trans e13)).nx, fun σ4 Γ4 w4 S4 e4 g4 sl4 h4 => ⟨w4, Γ4, S4, rfl, e13.trans e4, g4, sl4, h4⟩, (r.ext (e1.trans e13)).er⟩
    · have hin : i = n := by omega
      subst hin
      exact .inl ⟨q.2 (by omega), r.nx σ' Γ' w' S' (e1.trans e') g' sl' (hd Γ' S' p)⟩
theorem js_for {tg iter : Expr} {body : List Stmt} {wi : TI} {g : TG} {tb : TS} {I : TId} {G : TGd} {B : TSd} (hp : PassesOwn (model X.prog X.w) X.A X.env X.xe) (hc : X.calm = true) (hi : JI X W tg iter wi I) (hg : JG X tg g G) (hb : JB X W body tb B) (hs : ∀ x, foldedSetIterable iter X.env x = pure x := by intro _; rfl) :
    JS X W (.For tg iter body [] pos) (tFor wi g tb) (sFor I G B) := ⟨ps_for hp hc hi.pi hg.pg hb.pss hs, sem_for hi.sem hg.sem hb.sem⟩
/-- while -/
def sWhile (C : TB) (B : TSd) : TSd := fun D Γ S => ∃ P : Nat → Gam → Sto → Prop, (∃ m, P m Γ S) ∧ ∀ m Γ' S', P m Γ' S' → C Γ' S' (fun S1 k => if k = true then B { D with nx := fun Γ2 S2 => ∃ m', m' < m ∧ P m' Γ2 S2, ct := fun Γ2 S2 => ∃ m', m' < m ∧ P m' Γ2 S2, bk := D.nx } Γ' S1 else D.nx Γ' S1) D.er
def gstart (N : List Str) (ds : List D) : Gam := ds.map some ++ List.replicate (N.length - ds.length) none
theorem slots_start {K : PySem.W.Frag} {w : Hs} {N : List Str} {vs : List V} {ds : List D} (r : Ra K w vs ds) : Slots K w (L2.start N vs) (gstart N ds) := by
  refine ⟨by simp [L2.start, gstart, r.length], fun i d h => ?_⟩
  unfold gstart at h
  by_cases hi : i < ds.length
  · rw [List.getElem?_append_left (by simpa using hi), List.getElem?_map] at h
    cases q : ds[i]? with
    | none => rw [q] at h; cases h
    | some d' =>
      rw [q] at h; cases h
      obtain ⟨v, h1, h2⟩ := r.get q
      refine ⟨v, ?_, h2⟩
      unfold L2.start
      rw [List.getElem?_append_left (by rw [List.length_map]; exact (List.getElem?_eq_some_iff.mp h1).1), List.getElem?_map, h1] <;> rfl
  · rw [List.getElem?_append_right (by simpa using hi)] at h
    rw [List.getElem?_replicate] at h
    split at h <;> cases h
/-- the wish of a def's body -/
abbrev WD (E : XK) : WX := fun cv dx _ H => E cv dx H
structure JTs (X : Cx) (ifs : List Expr) (t : TT) (T : TB) : Prop where
  pts : PTs X ifs t
  sem : SemT X.K (fun _ _ _ _ => False) t T
def bYes : TB := fun _ S Φ _ => Φ S true
theorem jts_nil : JTs X [] tYes bYes := ⟨pts_nil, fun Γ S Φ Ψ σ w g sl h hx Q q => q true w S (Ext.refl w) g h⟩
theorem jts_one {tt : TT} {C : TB} (h : JT X (fun _ _ _ _ => False) c tt C) : JTs X [c] tt C := ⟨pts_one h.pt, h.sem⟩
/-- [elt for tg in iter if ..]: P by the turn, the cells and what is made so far -/
def dLc (I : TId) (G : TGd) (C : TB) (Te : TD) (vs : List Nat) (Fin : List D → Sto → KD → Prop) : TD := fun Γ S Φ Ψ => I Γ S (fun S1 src => ∃ (P : Nat → List D → Sto → Prop) (n : Nat), n ≤ sizeLine ∧ P 0 [] S1 ∧
  (∀ i acc S', i ≤ n → P i acc S' → ∃ ds, src S' = some ds ∧ ds.length = n) ∧
  (∀ i acc S' ds d, P i acc S' → src S' = some ds → ds[i]? = some d → G d (gwipe Γ vs) S' fun Γ2 S2 => C Γ2 S2 (fun S3 k => if k = true then Te Γ2 S3 (fun S4 y => P (i + 1) (acc ++ [y]) S4) (fun _ _ => False) else P (i + 1) acc S3) (fun _ _ => False)) ∧
  (∀ acc S', P n acc S' → Fin acc S' Φ)) Ψ
def finF : List D → Sto → KD → Prop := fun acc S Φ => Φ S (.lst acc)
def finO : List D → Sto → KD → Prop := fun acc S Φ => Φ (S ++ [.lst acc]) (.own S.length)
def FinOk (Fin : List D → Sto → KD → Prop) : Prop := ∀ (K : PySem.W.Frag) (w : Hs) (S : Sto) (acc : List D) (Φ : KD) (p : Addr) (xs : List V) (Q : V → Hp → Prop), Good K w S → w.H p = some (.lst xs) → w.F p = none → p ∉ w.al → Ra K w xs acc → Fin acc S Φ →
  (∀ v d w' S', (∀ a o, w.F a = some o → w'.F a = some o) → (∀ a o, w'.F a = some o → w.F a = some o ∨ a = p) → (w'.al = w.al ∨ w'.al = w.al ++ [p]) → w'.H = w.H → Good K w' S' → Rv K w' v d → Φ S' d → Q v w'.H) → Q (.ref p) w.H
theorem finF_ok : FinOk finF := by
  intro K w S acc Φ p xs Q g hH hF hA r h q
  let w' : Hs := ⟨upd w.F p (.lst xs), w.al, w.H⟩
  have up : ∀ a o, w.F a = some o → w'.F a = some o := updF hF
  have ra : Ra K w' xs acc := RpA.mono up (fun _ _ z => z) acc xs r
  refine q (.ref p) (.lst acc) w' S up (fun a o e => ?_) (.inl rfl) rfl ⟨fun a o e => ?_, g.nd, g.len, fun n a c q1 q2 => ?_, g.dom⟩ (.lst upd_same ra) h
  · by_cases z : a = p
    · exact .inr z
    · have e2 : upd w.F p (.lst xs) a = some o := e
      rw [upd_ne z] at e2
      exact .inl e2
  · have e2 : upd w.F p (.lst xs) a = some o := e
    by_cases z : a = p
    · subst z; rw [upd_same] at e2; cases e2; exact hH
    · rw [upd_ne z] at e2; exact g.sub a o e2
  · have hne : a ≠ p := fun z => hA (z ▸ List.mem_of_getElem? q1)
    cases c with
    | gone => exact True.intro
    | lst ds =>
      obtain ⟨h1, ys, h2, h3⟩ := g.cell n a _ q1 q2
      exact ⟨by show upd w.F p _ a = none; rw [upd_ne hne]; exact h1, ys, h2, RpA.mono up (fun _ _ z => z) ds ys h3⟩
    | ins C fs =>
      obtain ⟨h1, dx, ys, h2, h3⟩ := g.cell n a _ q1 q2
      exact ⟨by show upd w.F p _ a = none; rw [upd_ne hne]; exact h1, dx, ys, h2, RpF.mono up (fun _ _ z => z) fs ys h3⟩
    | dct ks =>
      obtain ⟨h1, us, h2, h3⟩ := g.cell n a _ q1 q2
      exact ⟨by show upd w.F p _ a = none; rw [upd_ne hne]; exact h1, us, h2, h3.mono up (fun _ _ z => z)⟩
    | dck ks =>
      obtain ⟨h1, us, h2, h3⟩ := g.cell n a _ q1 q2
      exact ⟨by show upd w.F p _ a = none; rw [upd_ne hne]; exact h1, us, h2, RpK.mono up (fun _ _ z => z) ks us h3⟩
    | lck o us ks =>
      obtain ⟨h1, h2, h3⟩ := g.cell n a _ q1 q2
      exact ⟨by show upd w.F p _ a = none; rw [upd_ne hne]; exact h1, h2, RpK.mono up (fun _ _ z => z) ks us h3⟩
theorem finO_ok : FinOk finO := by
  intro K w S acc Φ p xs Q g hH hF hA r h q
  let w' : Hs := ⟨w.F, w.al ++ [p], w.H⟩
  have am : ∀ (n : Nat) (a : Addr), w.al[n]? = some a → w'.al[n]? = some a := fun n a z => by
    show (w.al ++ [p])[n]? = some a
    rw [List.getElem?_append_left (List.getElem?_eq_some_iff.mp z).1]; exact z
  have ra : Ra K w' xs acc := RpA.mono (fun _ _ z => z) am acc xs r
  refine q (.ref p) (.own S.length) w' (S ++ [Cell.lst acc]) (fun _ _ z => z) (fun _ _ z => .inl z) (.inr rfl) rfl ⟨g.sub, ?_, ?_, fun n a c q1 q2 => ?_, fun a z => ?_⟩ (.own ?_) h
  · show (w.al ++ [p]).Nodup
    rw [List.nodup_append]
    exact ⟨g.nd, by simp, fun a ha b hb => by rw [List.mem_singleton.mp hb]; exact fun z => hA (z ▸ ha)⟩
  · show (w.al ++ [p]).length = _
    rw [List.length_append, List.length_append, g.len] <;> rfl
  · have q1 : (w.al ++ [p])[n]? = some a := q1
    by_cases hn : n < w.al.length
    · rw [List.getElem?_append_left hn] at q1
      rw [List.getElem?_append_left (by rw [← g.len]; exact hn)] at q2
      cases c with
      | gone => exact True.intro
      | lst ds =>
        obtain ⟨h1, ys, h2, h3⟩ := g.cell n a _ q1 q2
        exact ⟨h1, ys, h2, RpA.mono (fun _ _ z => z) am ds ys h3⟩
      | ins C fs =>
        obtain ⟨h1, dx, ys, h2, h3⟩ := g.cell n a _ q1 q2
        exact ⟨h1, dx, ys, h2, RpF.mono (fun _ _ z => z) am fs ys h3⟩
      | dct ks =>
        obtain ⟨h1, us, h2, h3⟩ := g.cell n a _ q1 q2
        exact ⟨h1, us, h2, h3.mono (fun _ _ z => z) am⟩
      | dck ks =>
        obtain ⟨h1, us, h2, h3⟩ := g.cell n a _ q1 q2
        exact ⟨h1, us, h2, RpK.mono (fun _ _ z => z) am ks us h3⟩
      | lck o us ks =>
        obtain ⟨h1, h2, h3⟩ := g.cell n a _ q1 q2
        exact ⟨h1, h2, RpK.mono (fun _ _ z => z) am ks us h3⟩
    · have hn2 : n = w.al.length := by
        have := (List.getElem?_eq_some_iff.mp q1).1
        rw [List.length_append] at this
        have h1 : [p].length = 1 := rfl
        omega
      subst hn2
      rw [List.getElem?_append_right (Nat.le_refl _), Nat.sub_self] at q1
      rw [List.getElem?_append_right (by rw [g.len]; exact Nat.le_refl _), g.len, Nat.sub_self] at q2
      have e1 : p = a := Option.some.inj q1
      have e2 : Cell.lst acc = c := Option.some.inj q2
      subst e1; subst e2
      exact ⟨hF, xs, hH, ra⟩
  · have z : a ∈ w.al ++ [p] := z
    rcases List.mem_append.mp z with z | z
    · exact g.dom a z
    · rw [List.mem_singleton.mp z, hH]; exact fun z => nomatch z
  · show (w.al ++ [p])[S.length]? = some p
    rw [← g.len, List.getElem?_append_right (Nat.le_refl _), Nat.sub_self] <;> rfl
theorem wipe_set {σ : L2.St} : ∀ {vs : List Nat} {i : Nat} {o : Option V}, i ∈ vs → L2.wipe (σ.set i o) vs = L2.wipe σ vs
  | [], _, _, h => nomatch h
  | v :: vs, i, o, h => by
    by_cases hv : i ∈ vs
    · show (L2.wipe (σ.set i o) vs).set v none = (L2.wipe σ vs).set v none
      rw [wipe_set hv]
    · have e : i = v := by
        rcases List.mem_cons.mp h with z | z
        · exact z
        · exact absurd z hv
      subst e
      have out : ∀ (us : List Nat) (G : L2.St), i ∉ us → L2.wipe (G.set i o) us = (L2.wipe G us).set i o := by
        intro us
        induction us with
        | nil => intro G _; rfl
        | cons u us ih =>
          intro G hn
          have h1 : i ≠ u := fun z => hn (by rw [z]; exact List.mem_cons_self)
          have h2 : i ∉ us := fun z => hn (List.mem_cons_of_mem _ z)
          show (L2.wipe (G.set i o) us).set u none = ((L2.wipe G us).set u none).set i o
          rw [ih G h2, List.set_comm _ _ h1]
      show (L2.wipe (σ.set i o) vs).set i none = (L2.wipe σ vs).set i none
      rw [out vs σ hv, List.set_set]
theorem wipe_wipe (σ : L2.St) : ∀ (vs us : List Nat), (∀ v ∈ us, v ∈ vs) → L2.wipe (L2.wipe σ us) vs = L2.wipe σ vs
  | vs, [], _ => rfl
  | vs, u :: us, h => by
    show L2.wipe ((L2.wipe σ us).set u none) vs = L2.wipe σ vs
    rw [wipe_set (h u List.mem_cons_self)]
    exact wipe_wipe σ vs us fun v hv => h v (List.mem_cons_of_mem _ hv)
/-- a target that stores in the slots vs alone -/
structure GK (vs : List Nat) (g : TG) : Prop where
  keep : ∀ x σ H k, g x σ H k → g x σ H fun σ2 H2 => L2.wipe σ2 vs = L2.wipe σ vs ∧ k σ2 H2
theorem gk_name {vs : List Nat} {i : Nat} (h : i ∈ vs := by decide) : GK vs (gName i) := ⟨fun x σ H k q => ⟨wipe_set h, q⟩⟩
/-- the world with a list in the making at p -/
def Hs.at (w : Hs) (p : Addr) (o : HO) : Hs := ⟨w.F, w.al, upd w.H p o⟩
theorem Good.at {K : PySem.W.Frag} {w : Hs} {S : Sto} (g : Good K w S) {p : Addr} (o : HO) (hF : w.F p = none) (hA : p ∉ w.al) : Good K (w.at p o) S := by
  refine ⟨fun a x q => ?_, g.nd, g.len, fun n a c q1 q2 => ?_, fun a q => ?_⟩
  · show upd w.H p o a = some x
    rw [upd_ne (ne_of_none q hF)]; exact g.sub a x q
  · have hne : a ≠ p := fun z => hA (z ▸ List.mem_of_getElem? q1)
    cases c with
    | gone => exact True.intro
    | lst ds =>
      obtain ⟨h1, ys, h2, h3⟩ := g.cell n a _ q1 q2
      exact ⟨h1, ys, by show upd w.H p o a = _; rw [upd_ne hne]; exact h2, h3⟩
    | ins C fs =>
      obtain ⟨h1, dx, ys, h2, h3⟩ := g.cell n a _ q1 q2
      exact ⟨h1, dx, ys, by show upd w.H p o a = _; rw [upd_ne hne]; exact h2, h3⟩
    | dct ks =>
      obtain ⟨h1, us, h2, h3⟩ := g.cell n a _ q1 q2
      exact ⟨h1, us, by show upd w.H p o a = _; rw [upd_ne hne]; exact h2, h3⟩
    | dck ks =>
      obtain ⟨h1, us, h2, h3⟩ := g.cell n a _ q1 q2
      exact ⟨h1, us, by show upd w.H p o a = _; rw [upd_ne hne]; exact h2, h3⟩
    | lck o' us ks =>
      obtain ⟨h1, h2, h3⟩ := g.cell n a _ q1 q2
      exact ⟨h1, by show upd w.H p o a = _; rw [upd_ne hne]; exact h2, h3⟩
  · show upd w.H p o a ≠ none
    by_cases z : a = p
    · rw [z, upd_same]; exact fun z => nomatch z
    · rw [upd_ne z]; exact g.dom a q
theorem Ext.at {w0 w : Hs} (e : Ext w0 w) {p : Addr} (o : HO) (h0 : w0.H p = none) : Ext w0 (w.at p o) := by
  refine ⟨e.f, e.al, e.new, fun a x q n => ?_, fun a q => ?_⟩
  · show upd w.H p o a = some x
    rw [upd_ne (ne_of_none q h0)]; exact e.kp a x q n
  · show upd w.H p o a ≠ none
    by_cases z : a = p
    · rw [z, upd_same]; exact fun z => nomatch z
    · rw [upd_ne z]; exact e.dm a q
/-- an address that is neither frozen nor a cell stays so -/
theorem Ext.hid {w w' : Hs} (e : Ext w w') {p : Addr} {o : HO} (hH : w.H p = some o) (hF : w.F p = none) (hA : p ∉ w.al) : w'.H p = some o ∧ w'.F p = none ∧ p ∉ w'.al := by
  refine ⟨e.kp p o hH hA, ?_, fun z => ?_⟩
  · cases q : w'.F p with
    | none => rfl
    | some x =>
      rcases e.new p x q with z | z | z
      · rw [hF] at z; cases z
      · rw [hH] at z; cases z
      · exact absurd z hA
  · rcases e.old z with y | y
    · exact hA y
    · rw [hH] at y; cases y
theorem sem_lc {K : PySem.W.Frag} {wi : TI} {g : TG} {tt : TT} {te : TE} {I : TId} {G : TGd} {C : TB} {Te : TD} {vs : List Nat} {Fin : List D → Sto → KD → Prop} (hi : SemI K W wi I) (hg : SemG K g G) (hk : GK vs g) (ht : SemT K (fun _ _ _ _ => False) tt C) (he : SemE K (fun _ _ _ _ => False) te Te) (hf : FinOk Fin) :
    SemE K W (tLc wi g tt te vs) (dLc I G C Te vs Fin) := fun Γ S Φ Ψ σ w g0 sl h hx Q q =>
  hi Γ S _ _ σ w g0 sl h hx _ fun J src w1 S1 e1 g1 ok ⟨P, n, hn, h0, hl, hs, hd⟩ => fun p hp => by
    have hF1 := g1.notF hp
    have hA1 := g1.notA hp
    refine ⟨fun i m H' => m + i = n ∧ ∃ w' S' acc accV, H' = w'.H ∧ Ext w1 w' ∧ Good K w' S' ∧ w'.F p = none ∧ p ∉ w'.al ∧ w'.H p = some (.lst accV) ∧ Ra K w' accV acc ∧ P i acc S' ∧ acc.length ≤ i,
      ⟨n, by omega, w1.at p (.lst []), S1, [], [], rfl, (Ext.refl w1).at _ hp, g1.at _ hF1 hA1, hF1, hA1, upd_same, .nil, h0, Nat.le_refl _⟩, ?_⟩
    rintro i m H' ⟨hm, w', S', acc, accV, rfl, e', g', hF, hA, hH, hr, pp, hlen⟩
    obtain ⟨ds, hsrc, hlenD⟩ := hl i acc S' (by omega) pp
    have qq := ok w' S' ds i e' g' hsrc
    by_cases hlt : i < n
    · have hx' : ds[i]? = some ds[i] := List.getElem?_eq_getElem (by omega)
      obtain ⟨hgo, hy⟩ := qq.1 _ hx'
      refine .inr ⟨hgo, fun H2 => ∃ w2 S2 acc2 accV2, H2 = w2.H ∧ Ext w1 w2 ∧ Good K w2 S2 ∧ w2.F p = none ∧ p ∉ w2.al ∧ w2.H p = some (.lst accV2) ∧ Ra K w2 accV2 acc2 ∧ P (i + 1) acc2 S2 ∧ acc2.length ≤ i + 1, ?_, ?_⟩
      · rintro H2 ⟨w2, S2, acc2, accV2, r⟩
        exact ⟨m - 1, by omega, by omega, w2, S2, acc2, accV2, r⟩
      · intro x H2 hyl
        obtain ⟨w2, e2, g2, rfl, r2⟩ := hy x H2 hyl
        have sl2 : Slots K w2 (L2.wipe σ vs) (gwipe Γ vs) := (sl.ext ((e1.trans e').trans e2)).wipe vs
        have s1 := hk.keep x (L2.wipe σ vs) w2.H _ (hg _ (gwipe Γ vs) S' x (L2.wipe σ vs) w2 _ (fun σ2 H2 => tt σ2 H2 fun b H3 => if b = true then te σ2 H3 fun y H4 => ∃ acc, H4 p = some (.lst acc) ∧ acc.length < sizeLine ∧ (∃ w2 S2 acc2 accV2, upd H4 p (.lst (acc ++ [y])) = w2.H ∧ Ext w1 w2 ∧ Good K w2 S2 ∧ w2.F p = none ∧ p ∉ w2.al ∧ w2.H p = some (.lst accV2) ∧ Ra K w2 accV2 acc2 ∧ P (i + 1) acc2 S2 ∧ acc2.length ≤ i + 1)
          else ∃ w2 S2 acc2 accV2, H3 = w2.H ∧ Ext w1 w2 ∧ Good K w2 S2 ∧ w2.F p = none ∧ p ∉ w2.al ∧ w2.H p = some (.lst accV2) ∧ Ra K w2 accV2 acc2 ∧ P (i + 1) acc2 S2 ∧ acc2.length ≤ i + 1) g2 sl2 r2 (hs i acc S' ds _ pp hsrc hx') fun σ3 Γ3 w3 S3 e3 g3 sl3 h3 => ?_)
        · rw [wipe_wipe σ vs vs fun _ z => z] at s1
          exact s1
        · have e23 := e2.trans e3
          refine ht Γ3 S3 _ _ σ3 w3 g3 sl3 h3 (fun _ _ _ _ _ _ _ _ z => z) _ fun b w4 S4 e4 g4 h4 => ?_
          have e24 := e23.trans e4
          have ee4 := e'.trans e24
          obtain ⟨hH4, hF4, hA4⟩ := e24.hid hH hF hA
          cases b with
          | false => exact ⟨w4, S4, acc, accV, rfl, ee4, g4, hF4, hA4, hH4, e24.ra hr, h4, by omega⟩
          | true =>
            refine he Γ3 S4 _ _ σ3 w4 g4 (sl3.ext e4) h4 (fun _ _ _ _ _ _ _ _ z => z) _ fun y dy w5 S5 e5 g5 r5 h5 => ?_
            have e25 := e24.trans e5
            have ee5 := e'.trans e25
            obtain ⟨hH5, hF5, hA5⟩ := e25.hid hH hF hA
            refine ⟨accV, hH5, by rw [hr.length]; omega, w5.at p (.lst (accV ++ [y])), S5, acc ++ [dy], accV ++ [y], rfl, ee5.at _ hp, g5.at _ hF5 hA5, hF5, hA5, upd_same, RpA.append (e25.ra hr) (.cons r5 .nil), h5, by rw [List.length_append]; show acc.length + 1 ≤ i + 1; omega⟩
    · have hin : i = n := by omega
      subst hin
      refine .inl ⟨qq.2 (by omega), ?_⟩
      refine hf K w' S' acc Φ p accV (fun v H => Q v H) g' hH hF hA hr (hd acc S' pp) fun v d w2 S2 hF2 hN2 hal hHH g2 r2 h2 => q v d w2 S2 (e1.trans ?_) g2 r2 h2
      refine ⟨fun a o z => hF2 a o (e'.f a o z), ?_, fun a o z => ?_, fun a o z nz => by rw [hHH]; exact e'.kp a o z nz, fun a z => by rw [hHH]; exact e'.dm a z⟩
      · obtain ⟨β, eb, hb⟩ := e'.al
        rcases hal with z | z
        · exact ⟨β, by rw [z, eb], hb⟩
        · refine ⟨β ++ [p], by rw [z, eb, List.append_assoc], fun b hbm => ?_⟩
          rcases List.mem_append.mp hbm with y | y
          · exact hb b y
          · rw [List.mem_singleton.mp y]; exact hp
      · rcases hN2 a o z with y | y
        · exact e'.new a o y
        · subst y; exact .inr (.inl hp)
abbrev Bk (α : Type) := Shared → Hp → Addr → List (Str × Addr) → List Addr → α
theorem je_lc {elt tg iter : Expr} {ifs : List Expr} {scope : Scope} {own : List (Str × Nat)} {wi : TI} {g : Bk TG} {tt : Bk TT} {te : Bk TE} {I : TId} {G : TGd} {C : TB} {Te : TD} (Fin : List D → Sto → KD → Prop) (hf : FinOk Fin) (hc : X.calm = true) (hN : X.N.Nodup) (hi : JI X W tg iter wi I) (ok : BlkOk X.N X.env.scope scope own)
    (hg : ∀ (s : Shared) (H : Hp) (C : Addr) (cl : List (Str × Addr)) (fp : List Addr), JG (X.blk s H scope (compEnvC scope cl C X.env) fp) tg (g s H C cl fp) G) (hk : GK (own.map (·.2)) (g {} (fun _ => none) 0 [] [])) (ht : ∀ (s : Shared) (H : Hp) (C' : Addr) (cl : List (Str × Addr)) (fp : List Addr), JTs (X.blk s H scope (compEnvC scope cl C' X.env) fp) ifs (tt s H C' cl fp) C)
    (he : ∀ (s : Shared) (H : Hp) (C : Addr) (cl : List (Str × Addr)) (fp : List Addr), JE (X.blk s H scope (compEnvC scope cl C X.env) fp) (fun _ _ _ _ => False) elt (te s H C cl fp) Te) (hs : ∀ x, foldedSetIterable iter X.env x = pure x := by intro _; rfl)
    (eg : ∀ s H C cl fp, g s H C cl fp = g {} (fun _ => none) 0 [] [] := by intros; rfl) (et : ∀ s H C cl fp, tt s H C cl fp = tt {} (fun _ => none) 0 [] [] := by intros; rfl) (ee : ∀ s H C cl fp, te s H C cl fp = te {} (fun _ => none) 0 [] [] := by intros; rfl) :
    JE X W (.ListComp elt [⟨tg, iter, ifs, 0⟩] scope pos) (tLc wi (g {} (fun _ => none) 0 [] []) (tt {} (fun _ => none) 0 [] []) (te {} (fun _ => none) 0 [] []) (own.map (·.2))) (dLc I G C Te (own.map (·.2)) Fin) :=
  ⟨pe_lc hc hN hi.pi ok (fun s H C cl fp => eg s H C cl fp ▸ (hg s H C cl fp).pg) (fun s H C cl fp => et s H C cl fp ▸ (ht s H C cl fp).pts) (fun s H C cl fp => ee s H C cl fp ▸ (he s H C cl fp).pe) hs,
    sem_lc hi.sem (hg {} (fun _ => none) 0 [] []).sem hk (ht {} (fun _ => none) 0 [] []).sem (he {} (fun _ => none) 0 [] []).sem hf⟩
theorem js_setLc (i : Nat) {y : Str} {py spos : Pos} {elt tg iter : Expr} {ifs : List Expr} {scope : Scope} {own : List (Str × Nat)} {wi : TI} {g : Bk TG} {tt : Bk TT} {te : Bk TE} {I : TId} {G : TGd} {C : TB} {Te : TD} (Fin : List D → Sto → KD → Prop) (hf : FinOk Fin) (hc : X.calm = true) (hN : X.N.Nodup) (hi : JI X W tg iter wi I) (ok : BlkOk X.N X.env.scope scope own)
    (hg : ∀ (s : Shared) (H : Hp) (C : Addr) (cl : List (Str × Addr)) (fp : List Addr), JG (X.blk s H scope (compEnvC scope cl C X.env) fp) tg (g s H C cl fp) G) (hk : GK (own.map (·.2)) (g {} (fun _ => none) 0 [] [])) (ht : ∀ (s : Shared) (H : Hp) (C' : Addr) (cl : List (Str × Addr)) (fp : List Addr), JTs (X.blk s H scope (compEnvC scope cl C' X.env) fp) ifs (tt s H C' cl fp) C)
    (he : ∀ (s : Shared) (H : Hp) (C : Addr) (cl : List (Str × Addr)) (fp : List Addr), JE (X.blk s H scope (compEnvC scope cl C X.env) fp) (fun _ _ _ _ => False) elt (te s H C cl fp) Te)
    (hy : X.N[i]? = some y := by rfl) (hyl : X.env.scope.names.lookup y = some .local := by rfl)
    (hsw : swapsWith (.ListComp elt [⟨tg, iter, ifs, 0⟩] scope pos) (some (.Name y py)) spos.line X.env = pure true := by exact sw_true rfl rfl rfl (by decide +kernel)) (hs : ∀ x, foldedSetIterable iter X.env x = pure x := by intro _; rfl)
    (eg : ∀ s H C cl fp, g s H C cl fp = g {} (fun _ => none) 0 [] [] := by intros; rfl) (et : ∀ s H C cl fp, tt s H C cl fp = tt {} (fun _ => none) 0 [] [] := by intros; rfl) (ee : ∀ s H C cl fp, te s H C cl fp = te {} (fun _ => none) 0 [] [] := by intros; rfl) :
    JS X W (.Assign [.Name y py] (.ListComp elt [⟨tg, iter, ifs, 0⟩] scope pos) spos) (tAsg (tLc wi (g {} (fun _ => none) 0 [] []) (tt {} (fun _ => none) 0 [] []) (te {} (fun _ => none) 0 [] []) (own.map (·.2))) (gName i)) (sAsg (dLc I G C Te (own.map (·.2)) Fin) (nmG i)) :=
  ⟨ps_setLc hc hN hy hyl hsw hi.pi ok (fun s H C cl fp => eg s H C cl fp ▸ (hg s H C cl fp).pg) (fun s H C cl fp => et s H C cl fp ▸ (ht s H C cl fp).pts) (fun s H C cl fp => ee s H C cl fp ▸ (he s H C cl fp).pe) hs,
    sem_asg (sem_lc hi.sem (hg {} (fun _ => none) 0 [] []).sem hk (ht {} (fun _ => none) 0 [] []).sem (he {} (fun _ => none) 0 [] []).sem hf) (sem_nmG i)⟩
end
end DL
namespace DL
open PySem PySem.Spec PyProof.Rows L2
/-- the items of a list; of any list that may be read -/
def asL (S : Sto) : D → Option (List D)
  | .lst ds => some ds
  | .own h => match S[h]? with
    | some (.lst ds) => some ds
    | _ => none
  | _ => none
def asQ (S : Sto) : D → Option (List D)
  | .lst ds => some ds
  | .sq ds => some ds
  | .own h => match S[h]? with
    | some (.lst ds) => some ds
    | _ => none
  | _ => none
section
variable {K : PySem.W.Frag} {w : Hs} {S : Sto}
theorem asL_own {h : Nat} {ds : List D} (e : asL S (.own h) = some ds) : S[h]? = some (.lst ds) := by
  have e2 : (match S[h]? with
    | some (.lst ds) => some ds
    | _ => none) = some ds := e
  cases q : S[h]? with
  | none => rw [q] at e2; cases e2
  | some c =>
    rw [q] at e2
    cases c with
    | lst es => rw [Option.some.inj e2]
    | ins _ _ => cases e2
    | dct _ => cases e2
    | dck _ => cases e2
    | lck _ _ _ => cases e2
    | gone => cases e2
theorem own_at (g : Good K w S) {h : Nat} {v : V} {ds : List D} (r : Rv K w v (.own h)) (e : S[h]? = some (.lst ds)) : ∃ a xs, v = .ref a ∧ w.al[h]? = some a ∧ w.H a = some (.lst xs) ∧ Ra K w xs ds := by
  cases r with
  | @own h a q =>
    obtain ⟨_, xs, h2, h3⟩ := g.cell h a _ q e
    exact ⟨a, xs, rfl, q, h2, h3⟩
theorem asL_at (g : Good K w S) {v : V} {d : D} {ds : List D} (r : Rv K w v d) (e : asL S d = some ds) : ∃ a xs, v = .ref a ∧ w.H a = some (.lst xs) ∧ Ra K w xs ds := by
  cases d with
  | lst es =>
    have e2 : es = ds := Option.some.inj e
    subst e2
    cases r with
    | lst h1 h2 => exact ⟨_, _, rfl, g.sub _ _ h1, h2⟩
  | own h =>
    obtain ⟨a, xs, h1, _, h2, h3⟩ := own_at g r (asL_own e)
    exact ⟨a, xs, h1, h2, h3⟩
  | _ => cases e
theorem asQ_at (g : Good K w S) {v : V} {d : D} {ds : List D} (r : Rv K w v d) (e : asQ S d = some ds) : ∃ a xs, v = .ref a ∧ SqL K w.H a xs ∧ Ra K w xs ds := by
  cases d with
  | sq es =>
    have e2 : es = ds := Option.some.inj e
    subst e2
    cases r with
    | sq h1 h2 => exact ⟨_, _, rfl, sameSql g.sub h1, h2⟩
  | lst es =>
    obtain ⟨a, xs, h1, h2, h3⟩ := asL_at g (ds := ds) r e
    exact ⟨a, xs, h1, .inl (.inl h2), h3⟩
  | own h =>
    obtain ⟨a, xs, h1, h2, h3⟩ := asL_at g (ds := ds) r e
    exact ⟨a, xs, h1, .inl (.inl h2), h3⟩
  | _ => cases e
theorem ra_ints : ∀ {xs : List V} {ns : List Int}, Ra K w xs (ns.map D.int) → xs = ns.map V.int
  | _, [], h => by cases h; rfl
  | _, n :: ns, h => by
    cases h with
    | cons h1 h2 => rw [rv_int h1, ra_ints h2]; rfl
theorem ra_bls : ∀ {xs : List V} {ns : List Bool}, Ra K w xs (ns.map D.bl) → xs = ns.map V.bl
  | _, [], h => by cases h; rfl
  | _, n :: ns, h => by
    cases h with
    | cons h1 h2 => rw [rv_bl h1, ra_bls h2]; rfl
end
def iOp (C : Int → Int → Prop) (g : Int → Int → D) (x y : D) (S : Sto) (Φ : KD) : Prop := match x, y with
  | .int i, .int j => C i j ∧ Φ S (g i j)
  | _, _ => False
theorem opd_i {K : PySem.W.Frag} {C : Int → Int → Prop} {g : Int → Int → D} {gv : Int → Int → V} (hg : ∀ i j (w : Hs), Rv K w (gv i j) (g i j)) : OpD K (rI C gv) (iOp C g) := fun w S x y u v Φ Q g0 r1 r2 h q => by
  cases u with
  | int i =>
    cases v with
    | int j => exact ⟨i, j, rv_int r1, rv_int r2, h.1, q _ _ w S (Ext.refl w) g0 (hg i j w) h.2⟩
    | _ => exact h.elim
  | _ => cases v <;> exact h.elim
def iOp0 (g : Int → Int → D) (x y : D) (S : Sto) (Φ : KD) : Prop := match x, y with
  | .int i, .int j => Φ S (g i j)
  | _, _ => False
theorem opd_i0 {K : PySem.W.Frag} {g : Int → Int → D} {gv : Int → Int → V} (hg : ∀ i j (w : Hs), Rv K w (gv i j) (g i j)) : OpD K (rI0 gv) (iOp0 g) := fun w S x y u v Φ Q g0 r1 r2 h q => by
  cases u with
  | int i =>
    cases v with
    | int j => exact ⟨i, j, rv_int r1, rv_int r2, q _ _ w S (Ext.refl w) g0 (hg i j w) h⟩
    | _ => exact h.elim
  | _ => cases v <;> exact h.elim
/-- + of ints, texts, lists -/
def dAdd (x y : D) (S : Sto) (Φ : KD) : Prop := match x, y with
  | .int i, .int j => Φ S (.int (i + j))
  | .str a, .str b => a.length + b.length ≤ sizeLine ∧ Φ S (.str (a ++ b))
  | x, y => ∃ xs ys, asL S x = some xs ∧ asL S y = some ys ∧ xs.length + ys.length ≤ sizeLine ∧ Φ S (.lst (xs ++ ys))
def rAddA : R2 := fun x y H Q => rI0 (fun i j => .int (i + j)) x y H Q ∨ (∃ i j, x = .str i ∧ y = .str j ∧ i.length + j.length ≤ sizeLine ∧ Q (.str (i ++ j)) H) ∨ rCat x y H Q
theorem op_addA {X : Cx} : OpR X (binaryOp .Add) rAddA := op_add.or (op_add_str.or op_cat)
theorem add_seq {K : PySem.W.Frag} {w : Hs} {S : Sto} {x y : V} {u v : D} {Φ : KD} {Q : VK} (g : Good K w S) (r1 : Rv K w x u) (r2 : Rv K w y v) (h : ∃ xs ys, asL S u = some xs ∧ asL S v = some ys ∧ xs.length + ys.length ≤ sizeLine ∧ Φ S (.lst (xs ++ ys))) (q : OkD K w Φ Q) : rAddA x y w.H Q := by
  obtain ⟨xs, ys, e1, e2, hl, hΦ⟩ := h
  obtain ⟨a, us, rfl, h1, h2⟩ := asL_at g r1 e1
  obtain ⟨b, vs, rfl, h3, h4⟩ := asL_at g r2 e2
  exact .inr (.inr ⟨a, b, us, vs, rfl, rfl, h1, h3, by rw [h2.length, h4.length]; exact hl, new_lst g q (h2.append h4) hΦ⟩)
theorem opd_add {K : PySem.W.Frag} : OpD K rAddA dAdd := fun w S x y u v Φ Q g r1 r2 h q => by
  cases u with
  | int i =>
    cases v with
    | int j => exact .inl ⟨i, j, rv_int r1, rv_int r2, q _ _ w S (Ext.refl w) g (.int _) h⟩
    | _ => exact add_seq g r1 r2 h q
  | str i =>
    cases v with
    | str j => exact .inr (.inl ⟨i, j, rv_str r1, rv_str r2, h.1, q _ _ w S (Ext.refl w) g (.str _) h.2⟩)
    | _ => exact add_seq g r1 r2 h q
  | _ => cases v <;> exact add_seq g r1 r2 h q
/-- * of ints, a list by an int -/
def CMulA (i j : Int) : Prop := CMul i j ∨ CMulW i j
def dMul (x y : D) (S : Sto) (Φ : KD) : Prop := match x, y with
  | .int i, .int j => CMulA i j ∧ Φ S (.int (i * j))
  | x, .int k => ∃ xs, asL S x = some xs ∧ -(2 ^ 63) ≤ k ∧ k < 2 ^ 63 ∧ xs.length * k.toNat ≤ sizeLine ∧ Φ S (.lst ((List.replicate k.toNat xs).flatten))
  | _, _ => False
def rMulA : R2 := fun x y H Q => rI CMul (fun i j => .int (i * j)) x y H Q ∨ rI CMulW (fun i j => .int (i * j)) x y H Q ∨ rRep x y H Q
theorem op_mulA {X : Cx} : OpR X (binaryOp .Mult) rMulA := op_mul.or (op_mulW.or op_rep)
theorem ra_rep {K : PySem.W.Frag} {w : Hs} {vs : List V} {ds : List D} (r : Ra K w vs ds) : ∀ k : Nat, Ra K w (List.replicate k vs).flatten (List.replicate k ds).flatten
  | 0 => .nil
  | k + 1 => by
    rw [List.replicate_succ, List.replicate_succ, List.flatten_cons, List.flatten_cons]
    exact r.append (ra_rep r k)
theorem mul_seq {K : PySem.W.Frag} {w : Hs} {S : Sto} {x y : V} {u : D} {k : Int} {Φ : KD} {Q : VK} (g : Good K w S) (r1 : Rv K w x u) (r2 : Rv K w y (.int k)) (h : ∃ xs, asL S u = some xs ∧ -(2 ^ 63) ≤ k ∧ k < 2 ^ 63 ∧ xs.length * k.toNat ≤ sizeLine ∧ Φ S (.lst ((List.replicate k.toNat xs).flatten))) (q : OkD K w Φ Q) : rMulA x y w.H Q := by
  obtain ⟨xs, e1, hl1, hl2, hl3, hΦ⟩ := h
  obtain ⟨a, us, rfl, h1, h2⟩ := asL_at g r1 e1
  exact .inr (.inr ⟨a, k, us, rfl, rv_int r2, h1, hl1, hl2, by rw [h2.length]; exact hl3, new_lst g q (ra_rep h2 _) hΦ⟩)
theorem opd_mul {K : PySem.W.Frag} : OpD K rMulA dMul := fun w S x y u v Φ Q g r1 r2 h q => by
  cases v with
  | int j =>
    cases u with
    | int i =>
      have q2 := q (.int (i * j)) (.int (i * j)) w S (Ext.refl w) g (.int _) h.2
      rcases h.1 with c | c
      · exact .inl ⟨i, j, rv_int r1, rv_int r2, c, q2⟩
      · exact .inr (.inl ⟨i, j, rv_int r1, rv_int r2, c, q2⟩)
    | _ => exact mul_seq g r1 r2 h q
  | _ => cases u <;> exact h.elim
def dSub := iOp0 fun i j => .int (i - j)
theorem opd_sub {K : PySem.W.Frag} : OpD K (rI0 fun i j => .int (i - j)) dSub := opd_i0 fun _ _ _ => .int _
def dMod := iOp (fun _ j => 0 < j) fun i j => .int (i % j)
theorem opd_mod {K : PySem.W.Frag} : OpD K (rI (fun _ j => 0 < j) fun i j => .int (i % j)) dMod := opd_i fun _ _ _ => .int _
def dDiv := iOp CDivW fun i j => .int (i / j)
theorem opd_div {K : PySem.W.Frag} : OpD K (rI CDivW fun i j => .int (i / j)) dDiv := opd_i fun _ _ _ => .int _
/-- ** of an int of a few thousand bits by a small one -/
def CPowW (i j : Int) : Prop := 0 ≤ j ∧ j ≤ 1000 ∧ i.natAbs < 2 ^ 100000
theorem op_powW {X : Cx} : OpR X (binaryOp .Pow) (rI CPowW fun i j => .int (i ^ j.toNat)) := opI fun i j _ _ _ _ _ hc q => by
  obtain ⟨h0, h1, h2⟩ := hc
  refine PyProof.Rows.pow_int h0 ?_ q
  have b : Builtin.Int.intBits i ≤ 100000 := by
    unfold Builtin.Int.intBits
    split
    · omega
    · have := PySem.Flt.log2_lt_of (by decide : 0 < 100000) h2
      omega
  have e : (2 : Int) ^ 27 = 134217728 := by decide
  rw [e]
  have h3 : (Builtin.Int.intBits i : Int) ≤ 100000 := by omega
  have h4 : (Builtin.Int.intBits i : Int) * j ≤ 100000 * 1000 := Int.mul_le_mul h3 h1 h0 (by decide)
  omega
def dPow := iOp CPowW fun i j => .int (i ^ j.toNat)
theorem opd_pow {K : PySem.W.Frag} : OpD K (rI CPowW fun i j => .int (i ^ j.toNat)) dPow := opd_i fun _ _ _ => .int _
def dLt := iOp0 fun i j => .bl (decide (i < j))
def dLe := iOp0 fun i j => .bl (decide (i ≤ j))
def dGt := iOp0 fun i j => .bl (decide (j < i))
def dGe := iOp0 fun i j => .bl (decide (j ≤ i))
theorem opd_lt {K : PySem.W.Frag} : OpD K (rI0 fun i j => .bl (decide (i < j))) dLt := opd_i0 fun _ _ _ => .bl _
theorem opd_le {K : PySem.W.Frag} : OpD K (rI0 fun i j => .bl (decide (i ≤ j))) dLe := opd_i0 fun _ _ _ => .bl _
theorem opd_gt {K : PySem.W.Frag} : OpD K (rI0 fun i j => .bl (decide (j < i))) dGt := opd_i0 fun _ _ _ => .bl _
theorem opd_ge {K : PySem.W.Frag} : OpD K (rI0 fun i j => .bl (decide (j ≤ i))) dGe := opd_i0 fun _ _ _ => .bl _
def uNeg (x : D) (S : Sto) (Φ : KD) : Prop := match x with
  | .int i => Φ S (.int (-i))
  | _ => False
def dUn (f : D → Sto → KD → Prop) (T : TD) : TD := fun Γ S Φ Ψ => T Γ S (fun S1 d => f d S1 Φ) Ψ
theorem je_neg {X : Cx} {W : WX} {a : Expr} {pos : Pos} {ta : TE} {Ta : TD} (ha : JE X W a ta Ta) : JE X W (.UnaryOp .USub a pos) (tUn (rU fun i => .int (-i)) ta) (dUn uNeg Ta) := ⟨pe_un un_neg ha.pe, fun Γ S Φ Ψ σ w g sl h hx Q q =>
  ha.sem Γ S _ Ψ σ w g sl h hx _ fun v d w1 S1 e1 g1 r1 h1 => by
    cases d with
    | int i => exact ⟨i, rv_int r1, q _ _ w1 S1 e1 g1 (.int _) h1⟩
    | _ => exact h1.elim⟩
mutual
inductive PyR (S : Sto) : D → PyData → Prop
  | non : PyR S .non .none
  | bl (b : Bool) : PyR S (.bl b) (.bool b)
  | int (i : Int) : PyR S (.int i) (.int i)
  | str (x : Str) : PyR S (.str x) (.str x)
  | lst {ds : List D} {ps : List PyData} : PyRA S ds ps → PyR S (.lst ds) (.list ps)
  | sq {ds : List D} {ps : List PyData} : PyRA S ds ps → PyR S (.sq ds) (.list ps)
  | tup {ds : List D} {ps : List PyData} : PyRA S ds ps → PyR S (.tup ds) (.tuple ps)
  | own {h : Nat} {ds : List D} {ps : List PyData} : S[h]? = some (.lst ds) → PyRA S ds ps → PyR S (.own h) (.list ps)
inductive PyRA (S : Sto) : List D → List PyData → Prop
  | nil : PyRA S [] []
  | cons {d : D} {ds : List D} {p : PyData} {ps : List PyData} : PyR S d p → PyRA S ds ps → PyRA S (d :: ds) (p :: ps)
end
section
variable {K : PySem.W.Frag} {w : Hs} {S : Sto}
mutual
theorem dp_of (g : Good K w S) : ∀ (p : PyData) (d : D) (v : V), PyR S d p → Rv K w v d → Dp K w.H v p
  | .none, _, _, h, r => by cases h; cases r; exact .non
  | .bool _, _, _, h, r => by cases h; cases r; exact .bl _
  | .int _, _, _, h, r => by cases h; cases r; exact .int _
  | .str _, _, _, h, r => by cases h; cases r; exact .str _
  | .list ps, _, _, h, r => by
    cases h with
    | lst h1 =>
      cases r with
      | lst h2 h3 => exact .lst (.inl (.inl (g.sub _ _ h2))) (dpa_of g ps _ _ h1 h3)
    | sq h1 =>
      cases r with
      | sq h2 h3 => exact .lst (sameSql g.sub h2) (dpa_of g ps _ _ h1 h3)
    | own h1 h2 =>
      obtain ⟨a, xs, rfl, _, h3, h4⟩ := own_at g r h1
      exact .lst (.inl (.inl h3)) (dpa_of g ps _ _ h2 h4)
  | .tuple ps, _, _, h, r => by
    cases h with
    | tup h1 =>
      cases r with
      | tup h2 h3 => exact .tup (sameSqt g.sub h2) (dpa_of g ps _ _ h1 h3)
  | .dict _, _, _, h, _ => by cases h
theorem dpa_of (g : Good K w S) : ∀ (ps : List PyData) (ds : List D) (vs : List V), PyRA S ds ps → Ra K w vs ds → DpAll K w.H vs ps
  | [], _, _, h, r => by cases h; cases r; exact .nil
  | p :: ps, _, _, h, r => by
    cases h with
    | cons h1 h2 =>
      cases r with
      | cons r1 r2 => exact .cons (dp_of g p _ _ h1 r1) (dpa_of g ps _ _ h2 r2)
end
end
def dEq (x y : D) (S : Sto) (Φ : KD) : Prop := ∃ p q, PyR S x p ∧ PyR S y q ∧ SeqAt.shaped p = true ∧ SeqAt.shaped q = true ∧ Φ S (.bl (PyData.eqv p q))
def dNe (x y : D) (S : Sto) (Φ : KD) : Prop := ∃ p q, PyR S x p ∧ PyR S y q ∧ SeqAt.shaped p = true ∧ SeqAt.shaped q = true ∧ Φ S (.bl (!PyData.eqv p q))
theorem opd_eq {K : PySem.W.Frag} : OpD K (rEqD K) dEq := fun w S x y u v Φ Q g r1 r2 ⟨p, p2, h1, h2, h3, h4, h5⟩ q => ⟨p, p2, dp_of g p u x h1 r1, dp_of g p2 v y h2 r2, h3, h4, q _ _ w S (Ext.refl w) g (.bl _) h5⟩
theorem opd_ne {K : PySem.W.Frag} : OpD K (rNeD K) dNe := fun w S x y u v Φ Q g r1 r2 ⟨p, p2, h1, h2, h3, h4, h5⟩ q => ⟨p, p2, dp_of g p u x h1 r1, dp_of g p2 v y h2 r2, h3, h4, q _ _ w S (Ext.refl w) g (.bl _) h5⟩
/-- is None -/
def isNon : D → Bool
  | .non => true
  | _ => false
theorem dec_non {K : PySem.W.Frag} {w : Hs} {v : V} {d : D} (r : Rv K w v d) : decide (v = .non) = isNon d := by
  cases r <;> rfl
def dIsN (x y : D) (S : Sto) (Φ : KD) : Prop := match y with
  | .non => Φ S (.bl (isNon x))
  | _ => False
def dNotN (x y : D) (S : Sto) (Φ : KD) : Prop := match y with
  | .non => Φ S (.bl (!isNon x))
  | _ => False
theorem opd_isN {K : PySem.W.Frag} : OpD K (fun x y H Q => y = .non ∧ Q (.bl (decide (x = .non))) H) dIsN := fun w S x y u v Φ Q g r1 r2 h q => by
  cases v with
  | non => exact ⟨rv_non r2, by rw [dec_non r1]; exact q _ _ w S (Ext.refl w) g (.bl _) h⟩
  | _ => exact h.elim
theorem opd_notN {K : PySem.W.Frag} : OpD K (fun x y H Q => y = .non ∧ Q (.bl (!decide (x = .non))) H) dNotN := fun w S x y u v Φ Q g r1 r2 h q => by
  cases v with
  | non => exact ⟨rv_non r2, by rw [dec_non r1]; exact q _ _ w S (Ext.refl w) g (.bl _) h⟩
  | _ => exact h.elim
/-- in, not in: a list or tuple of flat things -/
def flatD : D → Bool
  | .non => true
  | .bl _ => true
  | .int _ => true
  | .str _ => true
  | _ => false
def eqD : D → D → Bool
  | .non, .non => true
  | .bl a, .bl b => a == b
  | .bl a, .int b => (if a then 1 else 0) == b
  | .int a, .bl b => a == (if b then 1 else 0)
  | .int a, .int b => a == b
  | .str a, .str b => a == b
  | _, _ => false
def inD (x : D) (xs : List D) : Bool := xs.any fun y => eqD y x
def asS (S : Sto) : D → Option (List D)
  | .tup ds => some ds
  | d => asQ S d
theorem flat_of {K : PySem.W.Frag} {w : Hs} {v : V} {d : D} (r : Rv K w v d) (h : flatD d = true) : flatV v = true := by
  cases d <;> first | (cases r; rfl) | cases h
theorem eq_of {K : PySem.W.Frag} {w : Hs} {v u : V} {d e : D} (r : Rv K w v d) (q : Rv K w u e) (h : flatD d = true) (h2 : flatD e = true) : eqV v u = eqD d e := by
  cases d with
  | non => cases e <;> (first | (cases h2; done) | (cases r; cases q; rfl))
  | bl _ => cases e <;> (first | (cases h2; done) | (cases r; cases q; rfl))
  | int _ => cases e <;> (first | (cases h2; done) | (cases r; cases q; rfl))
  | str _ => cases e <;> (first | (cases h2; done) | (cases r; cases q; rfl))
  | _ => cases h
theorem flats_of {K : PySem.W.Frag} {w : Hs} : ∀ {vs : List V} {ds : List D}, Ra K w vs ds → ds.all flatD = true → vs.all flatV = true
  | _, _, .nil, _ => rfl
  | _, _, .cons r t, h => by
    rw [List.all_cons, Bool.and_eq_true] at h ⊢
    exact ⟨flat_of r h.1, flats_of t h.2⟩
theorem in_of {K : PySem.W.Frag} {w : Hs} {x : V} {dx : D} (rx : Rv K w x dx) (hx : flatD dx = true) : ∀ {vs : List V} {ds : List D}, Ra K w vs ds → ds.all flatD = true → inV x vs = inD dx ds
  | _, _, .nil, _ => rfl
  | _, _, .cons r t, h => by
    rw [List.all_cons, Bool.and_eq_true] at h
    have ih := in_of rx hx t h.2
    unfold inV inD at ih ⊢
    rw [List.any_cons, List.any_cons, ih, eq_of r rx h.1 hx]
theorem asS_at {K : PySem.W.Frag} {w : Hs} {S : Sto} (g : Good K w S) {v : V} {d : D} {ds : List D} (r : Rv K w v d) (e : asS S d = some ds) : ∃ a xs, v = .ref a ∧ (SqL K w.H a xs ∨ SqT K w.H a xs) ∧ Ra K w xs ds := by
  cases d with
  | tup es =>
    have e2 : es = ds := Option.some.inj e
    subst e2
    cases r with
    | tup h1 h2 => exact ⟨_, _, rfl, .inr (sameSqt g.sub h1), h2⟩
  | sq es =>
    obtain ⟨a, xs, h1, h2, h3⟩ := asQ_at g (ds := ds) r e
    exact ⟨a, xs, h1, .inl h2, h3⟩
  | lst es =>
    obtain ⟨a, xs, h1, h2, h3⟩ := asQ_at g (ds := ds) r e
    exact ⟨a, xs, h1, .inl h2, h3⟩
  | own h =>
    obtain ⟨a, xs, h1, h2, h3⟩ := asQ_at g (ds := ds) r e
    exact ⟨a, xs, h1, .inl h2, h3⟩
  | _ => cases e
def dIn (neg : Bool) (x y : D) (S : Sto) (Φ : KD) : Prop := ∃ xs, asS S y = some xs ∧ flatD x = true ∧ xs.all flatD = true ∧ Φ S (.bl (if neg then !inD x xs else inD x xs))
theorem opd_in {K : PySem.W.Frag} {neg : Bool} : OpD K (rIn K neg) (dIn neg) := fun w S x y u v Φ Q g r1 r2 ⟨ds, e, h1, h2, h3⟩ q => by
  obtain ⟨a, xs, rfl, hs, ra⟩ := asS_at g r2 e
  exact ⟨a, xs, rfl, hs, flat_of r1 h1, flats_of ra h2, by rw [in_of r1 h1 ra h2]; exact q _ _ w S (Ext.refl w) g (.bl _) h3⟩
def dIx (x y : D) (S : Sto) (Φ : KD) : Prop := match y with
  | .int i => (match x with
    | .str z => z.length ≤ sizeLine ∧ ∃ c, atI z.cps.toList i = some c ∧ Φ S (.str ⟨#[c]⟩)
    | x => ∃ ds d, asS S x = some ds ∧ atI ds i = some d ∧ Φ S d)
  | _ => False
theorem atI_of {K : PySem.W.Frag} {w : Hs} {vs : List V} {ds : List D} {i : Int} {d : D} (r : Ra K w vs ds) (h : atI ds i = some d) : ∃ v, atI vs i = some v ∧ Rv K w v d := by
  unfold atI at h ⊢
  rw [r.length]
  cases q : ixN ds.length i with
  | none => rw [q] at h; cases h
  | some j =>
    rw [q] at h
    exact r.get h
theorem ix_seqD {K : PySem.W.Frag} {w : Hs} {S : Sto} {x y : V} {u : D} {i : Int} {Φ : KD} {Q : VK} (g : Good K w S) (r1 : Rv K w x u) (r2 : Rv K w y (.int i)) (h : ∃ ds d, asS S u = some ds ∧ atI ds i = some d ∧ Φ S d) (q : OkD K w Φ Q) : rIx K x y w.H Q := by
  obtain ⟨ds, d, e, h1, h2⟩ := h
  obtain ⟨a, xs, rfl, hs, ra⟩ := asS_at g r1 e
  obtain ⟨v, h3, r3⟩ := atI_of ra h1
  have qq := q v d w S (Ext.refl w) g r3 h2
  rcases hs with hs | hs
  · exact .inl ⟨a, xs, i, v, rfl, rv_int r2, hs, h3, qq⟩
  · exact .inr (.inl ⟨a, xs, i, v, rfl, rv_int r2, hs, h3, qq⟩)
theorem opd_ix {K : PySem.W.Frag} : OpD K (rIx K) dIx := fun w S x y u v Φ Q g r1 r2 h q => by
  cases v with
  | int i =>
    cases u with
    | str z =>
      obtain ⟨h1, c, h2, h3⟩ := h
      exact .inr (.inr ⟨z, i, c, rv_str r1, rv_int r2, h1, h2, q _ _ w S (Ext.refl w) g (.str _) h3⟩)
    | _ => exact ix_seqD g r1 r2 h q
  | _ => cases u <;> exact h.elim
/-- the items of a slice -/
def cutD {α : Type} (xs : List α) (lo hi : Option Int) : List α := (xs.drop (HT.sIx xs.length 0 lo)).take (HT.sIx xs.length xs.length hi - HT.sIx xs.length 0 lo)
theorem ra_cut {K : PySem.W.Frag} {w : Hs} {vs : List V} {ds : List D} (r : Ra K w vs ds) (lo hi : Option Int) : Ra K w (cutV vs lo hi) (cutD ds lo hi) := by
  unfold cutV cutD
  rw [r.length]
  exact (r.drop _).take _
def dSlL (d : D) (lo hi : Option Int) (S : Sto) (Φ : KD) : Prop := ∃ ds, asQ S d = some ds ∧ Φ S (.lst (cutD ds lo hi))
def dSlO (d : D) (lo hi : Option Int) (S : Sto) (Φ : KD) : Prop := ∃ ds, asQ S d = some ds ∧ Φ (S ++ [.lst (cutD ds lo hi)]) (.own S.length)
theorem sld_l {K : PySem.W.Frag} : SlD K (rSlL K) dSlL := fun w S v d lo hi Φ Q g r ⟨ds, e, h⟩ q => by
  obtain ⟨a, xs, rfl, h1, h2⟩ := asQ_at g r e
  exact ⟨a, xs, rfl, h1, new_lst g q (ra_cut h2 lo hi) h⟩
theorem sld_o {K : PySem.W.Frag} : SlD K (rSlL K) dSlO := fun w S v d lo hi Φ Q g r ⟨ds, e, h⟩ q => by
  obtain ⟨a, xs, rfl, h1, h2⟩ := asQ_at g r e
  exact ⟨a, xs, rfl, h1, new_own g q (ra_cut h2 lo hi) h⟩
def rLen (K : PySem.W.Frag) : List V → Hp → VK → Prop := fun xs H Q => (∃ p ys, xs = [.ref p] ∧ (SqL K H p ys ∨ SqT K H p ys) ∧ Q (.int ys.length) H) ∨ ∃ z, xs = [.str z] ∧ z.length ≤ sizeLine ∧ Q (.int z.length) H
theorem call_lenA {X : Cx} : CallR X (.builtin "len") (rLen X.K) := call_len_seq.or call_len_str
def cLen (ds : List D) (S : Sto) (Φ : KD) : Prop := match ds with
  | [.str z] => z.length ≤ sizeLine ∧ Φ S (.int z.length)
  | [d] => ∃ xs, asS S d = some xs ∧ Φ S (.int xs.length)
  | _ => False
theorem len_seqD {K : PySem.W.Frag} {w : Hs} {S : Sto} {vs : List V} {d : D} {Φ : KD} {Q : VK} (g : Good K w S) (r : Ra K w vs [d]) (h : ∃ xs, asS S d = some xs ∧ Φ S (.int xs.length)) (q : OkD K w Φ Q) : rLen K vs w.H Q := by
  obtain ⟨xs, e, h⟩ := h
  cases r with
  | cons r1 r2 =>
    cases r2
    obtain ⟨a, ys, rfl, hs, ra⟩ := asS_at g r1 e
    exact .inl ⟨a, ys, rfl, hs, by rw [ra.length]; exact q _ _ w S (Ext.refl w) g (.int _) h⟩
theorem cd_len {K : PySem.W.Frag} : CallD K (rLen K) cLen := fun w S vs ds Φ Q g r h q => by
  cases ds with
  | nil => exact h.elim
  | cons d rest =>
    cases rest with
    | cons e t => cases d <;> exact h.elim
    | nil =>
      cases d with
      | str z =>
        cases r with
        | cons r1 r2 =>
          cases r2
          exact .inr ⟨z, by rw [rv_str r1], h.1, q _ _ w S (Ext.refl w) g (.int _) h.2⟩
      | _ => exact len_seqD g r h q
def cAbs (ds : List D) (S : Sto) (Φ : KD) : Prop := match ds with
  | [.int i] => Φ S (.int (if i < 0 then -i else i))
  | _ => False
def c2I (f : Int → Int → D) (ds : List D) (S : Sto) (Φ : KD) : Prop := match ds with
  | [.int i, .int j] => Φ S (f i j)
  | _ => False
theorem cd_abs {K : PySem.W.Frag} : CallD K (fun xs H Q => ∃ i, xs = [.int i] ∧ Q (.int (if i < 0 then -i else i)) H) cAbs := fun w S vs ds Φ Q g r h q => by
  cases ds with
  | nil => exact h.elim
  | cons d t =>
    cases t with
    | cons _ _ => cases d <;> exact h.elim
    | nil =>
      cases d with
      | int i =>
        cases r with
        | cons r1 r2 => cases r2; exact ⟨i, by rw [rv_int r1], q _ _ w S (Ext.refl w) g (.int _) h⟩
      | _ => exact h.elim
theorem cd_2I {K : PySem.W.Frag} {f : Int → Int → D} {fv : Int → Int → V} (hf : ∀ i j (w : Hs), Rv K w (fv i j) (f i j)) : CallD K (fun xs H Q => ∃ i j, xs = [.int i, .int j] ∧ Q (fv i j) H) (c2I f) := fun w S vs ds Φ Q g r h q => by
  cases ds with
  | nil => exact h.elim
  | cons d t =>
    cases t with
    | nil => cases d <;> exact h.elim
    | cons e t2 =>
      cases t2 with
      | cons _ _ => cases d <;> cases e <;> exact h.elim
      | nil =>
        cases d with
        | int i =>
          cases e with
          | int j =>
            cases r with
            | cons r1 r2 =>
              cases r2 with
              | cons r3 r4 => cases r4; exact ⟨i, j, by rw [rv_int r1, rv_int r3], q _ _ w S (Ext.refl w) g (hf i j w) h⟩
          | _ => exact h.elim
        | _ => cases e <;> exact h.elim
def cMax2 := c2I fun i j => .int (if j > i then j else i)
def cMin2 := c2I fun i j => .int (if j < i then j else i)
theorem cd_max2 {K : PySem.W.Frag} : CallD K (fun xs H Q => ∃ i j, xs = [.int i, .int j] ∧ Q (.int (if j > i then j else i)) H) cMax2 := cd_2I (fv := fun i j => .int (if j > i then j else i)) fun _ _ _ => .int _
theorem cd_min2 {K : PySem.W.Frag} : CallD K (fun xs H Q => ∃ i j, xs = [.int i, .int j] ∧ Q (.int (if j < i then j else i)) H) cMin2 := cd_2I (fv := fun i j => .int (if j < i then j else i)) fun _ _ _ => .int _
def cInt (ds : List D) (S : Sto) (Φ : KD) : Prop := match ds with
  | [.int i] => Φ S (.int i)
  | [.bl k] => Φ S (.int (if k then 1 else 0))
  | _ => False
theorem cd_int {K : PySem.W.Frag} : CallD K (fun xs H Q => (∃ i, xs = [.int i] ∧ Q (.int i) H) ∨ ∃ k, xs = [.bl k] ∧ Q (.int (if k then 1 else 0)) H) cInt := fun w S vs ds Φ Q g r h q => by
  cases ds with
  | nil => exact h.elim
  | cons d t =>
    cases t with
    | cons _ _ => cases d <;> exact h.elim
    | nil =>
      cases r with
      | cons r1 r2 =>
        cases r2
        cases d with
        | int i => exact .inl ⟨i, by rw [rv_int r1], q _ _ w S (Ext.refl w) g (.int _) h⟩
        | bl i => exact .inr ⟨i, by rw [rv_bl r1], q _ _ w S (Ext.refl w) g (.int _) h⟩
        | _ => exact h.elim
/-- list(x): a new list, frozen or a cell -/
def cList (ds : List D) (S : Sto) (Φ : KD) : Prop := match ds with
  | [d] => ∃ xs, asS S d = some xs ∧ Φ S (.lst xs)
  | _ => False
def cListO (ds : List D) (S : Sto) (Φ : KD) : Prop := match ds with
  | [d] => ∃ xs, asS S d = some xs ∧ Φ (S ++ [.lst xs]) (.own S.length)
  | _ => False
theorem cd_list {K : PySem.W.Frag} : CallD K (fun xs H Q => ∃ p ys, xs = [.ref p] ∧ (SqL K H p ys ∨ SqT K H p ys) ∧ ∀ l, H l = none → Q (.ref l) (upd H l (.lst ys))) cList := fun w S vs ds Φ Q g r h q => by
  cases ds with
  | nil => exact h.elim
  | cons d t =>
    cases t with
    | cons _ _ => exact h.elim
    | nil =>
      obtain ⟨xs, e, h⟩ := h
      cases r with
      | cons r1 r2 =>
        cases r2
        obtain ⟨a, ys, rfl, hs, ra⟩ := asS_at g r1 e
        exact ⟨a, ys, rfl, hs, new_lst g q ra h⟩
theorem cd_listO {K : PySem.W.Frag} : CallD K (fun xs H Q => ∃ p ys, xs = [.ref p] ∧ (SqL K H p ys ∨ SqT K H p ys) ∧ ∀ l, H l = none → Q (.ref l) (upd H l (.lst ys))) cListO := fun w S vs ds Φ Q g r h q => by
  cases ds with
  | nil => exact h.elim
  | cons d t =>
    cases t with
    | cons _ _ => exact h.elim
    | nil =>
      obtain ⟨xs, e, h⟩ := h
      cases r with
      | cons r1 r2 =>
        cases r2
        obtain ⟨a, ys, rfl, hs, ra⟩ := asS_at g r1 e
        exact ⟨a, ys, rfl, hs, new_own g q ra h⟩
def cAll (ds : List D) (S : Sto) (Φ : KD) : Prop := match ds with
  | [d] => ∃ bs : List Bool, asQ S d = some (bs.map D.bl) ∧ Φ S (.bl (bs.all id))
  | _ => False
def cMax (ds : List D) (S : Sto) (Φ : KD) : Prop := match ds with
  | [d] => ∃ ns : List Int, asQ S d = some (ns.map D.int) ∧ 0 < ns.length ∧ ∀ m, m ∈ ns → (∀ y, y ∈ ns → y ≤ m) → Φ S (.int m)
  | _ => False
theorem one_of {K : PySem.W.Frag} {w : Hs} {vs : List V} {d : D} (r : Ra K w vs [d]) : ∃ v, vs = [v] ∧ Rv K w v d := by
  cases r with
  | cons r1 r2 => cases r2; exact ⟨_, rfl, r1⟩
theorem cd_all {K : PySem.W.Frag} : CallD K (rAll K) cAll := fun w S vs ds Φ Q g r h q => by
  cases ds with
  | nil => exact h.elim
  | cons d t =>
    cases t with
    | cons _ _ => exact h.elim
    | nil =>
      obtain ⟨bs, e, h⟩ := h
      obtain ⟨v, rfl, r1⟩ := one_of r
      obtain ⟨a, ys, rfl, hs, ra⟩ := asQ_at g r1 e
      rw [ra_bls ra] at hs
      exact ⟨a, bs, rfl, hs, q _ _ w S (Ext.refl w) g (.bl _) h⟩
theorem cd_max {K : PySem.W.Frag} : CallD K (rMax K) cMax := fun w S vs ds Φ Q g r h q => by
  cases ds with
  | nil => exact h.elim
  | cons d t =>
    cases t with
    | cons _ _ => exact h.elim
    | nil =>
      obtain ⟨bs, e, h0, h⟩ := h
      obtain ⟨v, rfl, r1⟩ := one_of r
      obtain ⟨a, ys, rfl, hs, ra⟩ := asQ_at g r1 e
      rw [ra_ints ra] at hs
      exact ⟨a, bs, rfl, hs, h0, fun m h1 h2 => q _ _ w S (Ext.refl w) g (.int _) (h m h1 h2)⟩
def dSetO (o i v : D) (S : Sto) (P : Sto → Prop) : Prop := match o, i with
  | .own h, .int k => ∃ ds j, S[h]? = some (.lst ds) ∧ ixN ds.length k = some j ∧ P (S.set h (.lst (ds.set j v)))
  | _, _ => False
theorem setd_o {K : PySem.W.Frag} : TSetD K rSetL dSetO := fun w S o i v do_ di dv P Q g r1 r2 r3 h q => by
  cases do_ with
  | own hh =>
    cases di with
    | int k =>
      obtain ⟨ds, j, e, hj, hP⟩ := h
      obtain ⟨a, xs, rfl, ha, hH, ra⟩ := own_at g r1 e
      refine ⟨a, xs, k, j, rfl, rv_int r2, hH, by rw [ra.length]; exact hj, ?_⟩
      exact q (w.wr a (.lst (xs.set j v))) _ (Ext.wr _ (List.mem_of_getElem? ha)) (g.wr ha e (ra.set r3 j)) hP
    | _ => exact h.elim
  | _ => cases di <;> exact h.elim
/-- methods of a list in a cell -/
def MtD (K : PySem.W.Frag) (r : V → List V → Hp → VK → Prop) (f : D → List D → Sto → KD → Prop) : Prop :=
  ∀ w S x vs d ds Φ Q, Good K w S → Rv K w x d → Ra K w vs ds → f d ds S Φ → OkD K w Φ Q → r x vs w.H Q
def isLst (S : Sto) (d : D) : Prop := ∃ ds, asL S d = some ds
def dBM (f : D → List D → Sto → KD → Prop) (T : TD) (Tl : TL) : TD := fun Γ S Φ Ψ => T Γ S (fun S1 d => isLst S1 d ∧ Tl Γ S1 (fun S2 ds => f d ds S2 Φ) Ψ) Ψ
def dBM0 (f : D → List D → Sto → KD → Prop) (T : TD) : TD := fun Γ S Φ Ψ => T Γ S (fun S1 d => isLst S1 d ∧ f d [] S1 Φ) Ψ
section
variable {X : Cx} {W : WX} {o e : Expr} {es : List Expr} {apos cpos : Pos} {to : TE} {To : TD} {tl : TA} {Tl : TL}
theorem je_bm {name : Str} {id : String} {r : V → List V → Hp → VK → Prop} {f : D → List D → Sto → KD → Prop} (slot : Slot "list" name id) (hty : typeOf (.builtin id) = pure (.type "method_descriptor")) (hm : MtM X id r) (hd : MtD X.K r f) (ho : JE X W o to To) (ha : JA X W (e :: es) tl Tl)
    (hbase : attributeBase o name X.env (eval o X.env) = eval o X.env := by rfl)
    (hfew : ((backTo cpos (starEach (e :: es) X.env)).all (fun x => !x.1) && (backToKw cpos (keywordEach [] X.env)).all (fun x => x.1.isSome)
      && decide ((e :: es).length + ([] : List Keyword).length + (if ([] : List Keyword).isEmpty then 0 else 1) < 30)) = true := by rfl)
    (hline : (apos.endLine == cpos.line) = true := by rfl) (hs : starEach (e :: es) X.env = (false, eval e X.env) :: starEach es X.env := by rfl) (hplain : (backTo cpos (starEach es X.env)).any (·.1) = false := by rfl) :
    JE X W (.Call (.Attribute o name apos) (e :: es) [] cpos) (tBM X.K "list" r to tl) (dBM f To Tl) := ⟨pe_bm PySem.F.plainAttrs_list slot hty hm ho.pe ha.pa hbase hfew hline hs hplain, fun Γ S Φ Ψ σ w g sl h hx Q q =>
  ho.sem Γ S _ Ψ σ w g sl h hx _ fun v d w1 S1 e1 g1 r1 ⟨⟨xs, hl⟩, h1⟩ => by
    obtain ⟨a, ys, rfl, hH, _⟩ := asL_at g1 r1 hl
    exact ⟨Or.inl ⟨rfl, _, Or.inl (Or.inl hH)⟩, ha.sem Γ S1 _ Ψ σ w1 g1 (sl.ext e1) h1 (hx.ext e1) _ fun vs ds w2 S2 e2 g2 r2 h2 => hd w2 S2 _ vs d ds Φ Q g2 (e2.rp r1) r2 h2 (q.ext (e1.trans e2))⟩⟩
theorem je_bm0 {name : Str} {id : String} {r : V → List V → Hp → VK → Prop} {f : D → List D → Sto → KD → Prop} (slot : Slot "list" name id) (hty : typeOf (.builtin id) = pure (.type "method_descriptor")) (hm : MtM X id r) (hd : MtD X.K r f) (ho : JE X W o to To)
    (hbase : attributeBase o name X.env (eval o X.env) = eval o X.env := by rfl) (hline : (apos.endLine == cpos.line) = true := by rfl) :
    JE X W (.Call (.Attribute o name apos) [] [] cpos) (tBM0 X.K "list" r to) (dBM0 f To) := ⟨pe_bm0 PySem.F.plainAttrs_list slot hty hm ho.pe hbase hline, fun Γ S Φ Ψ σ w g sl h hx Q q =>
  ho.sem Γ S _ Ψ σ w g sl h hx _ fun v d w1 S1 e1 g1 r1 ⟨⟨xs, hl⟩, h1⟩ => by
    obtain ⟨a, ys, rfl, hH, _⟩ := asL_at g1 r1 hl
    exact ⟨Or.inl ⟨rfl, _, Or.inl (Or.inl hH)⟩, hd w1 S1 _ [] d [] Φ Q g1 r1 .nil h1 (q.ext e1)⟩⟩
end
def mAppend (d : D) (ds : List D) (S : Sto) (Φ : KD) : Prop := match d, ds with
  | .own h, [y] => ∃ xs, S[h]? = some (.lst xs) ∧ xs.length < sizeLine ∧ Φ (S.set h (.lst (xs ++ [y]))) .non
  | _, _ => False
theorem mtd_append {K : PySem.W.Frag} : MtD K rAppend mAppend := fun w S x vs d ds Φ Q g r1 r2 h q => by
  cases d with
  | own hh =>
    cases ds with
    | nil => exact h.elim
    | cons y t =>
      cases t with
      | cons _ _ => exact h.elim
      | nil =>
        obtain ⟨xs, e, hl, hΦ⟩ := h
        obtain ⟨a, ys, rfl, ha, hH, ra⟩ := own_at g r1 e
        obtain ⟨v, rfl, rv⟩ := one_of r2
        exact ⟨a, ys, v, rfl, rfl, hH, by rw [ra.length]; exact hl, q .non .non (w.wr a (.lst (ys ++ [v]))) _ (Ext.wr _ (List.mem_of_getElem? ha)) (g.wr ha e (ra.append (.cons rv .nil))) .non hΦ⟩
  | _ => exact h.elim
def mExtend (d : D) (ds : List D) (S : Sto) (Φ : KD) : Prop := match d, ds with
  | .own h, [y] => ∃ xs ys, S[h]? = some (.lst xs) ∧ asL S y = some ys ∧ xs.length + ys.length ≤ sizeLine ∧ Φ (S.set h (.lst (xs ++ ys))) .non
  | _, _ => False
theorem mtd_extend {K : PySem.W.Frag} : MtD K rExtend mExtend := fun w S x vs d ds Φ Q g r1 r2 h q => by
  cases d with
  | own hh =>
    cases ds with
    | nil => exact h.elim
    | cons y t =>
      cases t with
      | cons _ _ => exact h.elim
      | nil =>
        obtain ⟨xs, zs, e, e2, hl, hΦ⟩ := h
        obtain ⟨a, ys, rfl, ha, hH, ra⟩ := own_at g r1 e
        obtain ⟨v, rfl, rv⟩ := one_of r2
        obtain ⟨b, us, rfl, hb, rb⟩ := asL_at g rv e2
        exact ⟨a, b, ys, us, rfl, rfl, hH, hb, by rw [ra.length, rb.length]; exact hl, q .non .non (w.wr a (.lst (ys ++ us))) _ (Ext.wr _ (List.mem_of_getElem? ha)) (g.wr ha e (ra.append rb)) .non hΦ⟩
  | _ => exact h.elim
def mReverse (d : D) (ds : List D) (S : Sto) (Φ : KD) : Prop := match d, ds with
  | .own h, [] => ∃ xs, S[h]? = some (.lst xs) ∧ Φ (S.set h (.lst xs.reverse)) .non
  | _, _ => False
theorem mtd_reverse {K : PySem.W.Frag} : MtD K rReverse mReverse := fun w S x vs d ds Φ Q g r1 r2 h q => by
  cases d with
  | own hh =>
    cases ds with
    | nil =>
      obtain ⟨xs, e, hΦ⟩ := h
      obtain ⟨a, ys, rfl, ha, hH, ra⟩ := own_at g r1 e
      cases r2
      exact ⟨a, ys, rfl, rfl, hH, q .non .non (w.wr a (.lst ys.reverse)) _ (Ext.wr _ (List.mem_of_getElem? ha)) (g.wr ha e ra.reverse) .non hΦ⟩
    | cons y t => exact h.elim
  | _ => cases ds <;> exact h.elim
def mClear (d : D) (ds : List D) (S : Sto) (Φ : KD) : Prop := match d, ds with
  | .own h, [] => ∃ xs, S[h]? = some (.lst xs) ∧ Φ (S.set h (.lst [])) .non
  | _, _ => False
theorem mtd_clear {K : PySem.W.Frag} : MtD K rClear mClear := fun w S x vs d ds Φ Q g r1 r2 h q => by
  cases d with
  | own hh =>
    cases ds with
    | nil =>
      obtain ⟨xs, e, hΦ⟩ := h
      obtain ⟨a, ys, rfl, ha, hH, ra⟩ := own_at g r1 e
      cases r2
      exact ⟨a, ys, rfl, rfl, hH, q .non .non (w.wr a (.lst [])) _ (Ext.wr _ (List.mem_of_getElem? ha)) (g.wr ha e .nil) .non hΦ⟩
    | cons y t => exact h.elim
  | _ => cases ds <;> exact h.elim
section
variable {X : Cx} {W : WX} {tg e a b : Expr} {te : TE} {Te : TD} {tl : TA} {Tl : TL} {p pos : Pos}
def iSeq (T : TD) : TId := fun Γ S Φ Ψ => T Γ S (fun S1 d => (∃ ds, asQ S1 d = some ds) ∧ Φ S1 (fun S' => asQ S' d)) Ψ
theorem src_list {K : PySem.W.Frag} {w0 : Hs} {v : V} {d : D} {a : Addr} (r : Rv K w0 v d) (e : v = .ref a) : SrcOk K w0 (Itl K a) (fun S' => asQ S' d) := fun w S ds i e' g h => by
  subst e
  obtain ⟨b, xs, eb, hs, ra⟩ := asQ_at g (e'.rp r) h
  cases eb
  refine ⟨fun d' hd => ?_, fun hl => ⟨xs, hs, by rw [ra.length]; exact hl⟩⟩
  obtain ⟨x, hx, rx⟩ := ra.get hd
  refine ⟨⟨xs, x, hs, hx⟩, fun y H' ⟨e1, hy⟩ => ?_⟩
  have := hy xs hs
  rw [hx] at this
  cases this
  exact ⟨w, Ext.refl w, g, e1.symm, rx⟩
theorem ji_list (h : JE X W e te Te) : JI X W tg e (iList X.K te) (iSeq Te) := ⟨pi_list h.pe, fun Γ S Φ Ψ σ w g sl hT hx Q q =>
  h.sem Γ S _ Ψ σ w g sl hT hx _ fun v d w1 S1 e1 g1 r1 ⟨⟨ds, hd⟩, h1⟩ => by
    obtain ⟨a, xs, rfl, hs, _⟩ := asQ_at g1 r1 hd
    exact ⟨a, rfl, ⟨xs, hs⟩, q _ _ w1 S1 e1 g1 (src_list r1 rfl) h1⟩⟩
def iTupD (T : TD) : TId := fun Γ S Φ Ψ => T Γ S (fun S1 d => ∃ ds, d = .tup ds ∧ Φ S1 (fun _ => some ds)) Ψ
theorem ji_tup (h : JE X W e te Te) : JI X W tg e (iTup X.K te) (iTupD Te) := ⟨pi_tup h.pe, fun Γ S Φ Ψ σ w g sl hT hx Q q =>
  h.sem Γ S _ Ψ σ w g sl hT hx _ fun v d w1 S1 e1 g1 r1 ⟨ds, ed, h1⟩ => by
    subst ed
    cases r1 with
    | @tup a xs _ hs ra =>
      refine ⟨a, rfl, ⟨xs, sameSqt g1.sub hs⟩, q _ _ w1 S1 e1 g1 (fun w S ds' i e' g hh => ?_) h1⟩
      cases hh
      have hs' := sameSqt g.sub (sameSqt e'.f hs)
      refine ⟨fun d' hd => ?_, fun hl => ⟨xs, hs', by rw [ra.length]; exact hl⟩⟩
      obtain ⟨x, hx, rx⟩ := ra.get hd
      refine ⟨⟨xs, x, hs', hx⟩, fun y H' ⟨e1, hy⟩ => ?_⟩
      have := hy xs hs'
      rw [hx] at this
      cases this
      exact ⟨w, Ext.refl w, g, e1.symm, e'.rp rx⟩⟩
def rngD (lo : Int) (n : Nat) : List D := (List.range n).map fun (i : Nat) => D.int (lo + (i : Int))
theorem rngD_get {lo : Int} {n i : Nat} {d : D} (h : (rngD lo n)[i]? = some d) : i < n ∧ d = .int (lo + (i : Int)) := by
  unfold rngD at h
  rw [List.getElem?_map] at h
  cases q : (List.range n)[i]? with
  | none => rw [q] at h; cases h
  | some j =>
    rw [q] at h
    obtain ⟨h1, h2⟩ := List.getElem?_eq_some_iff.mp q
    rw [List.getElem_range] at h2
    rw [List.length_range] at h1
    subst h2
    cases h
    exact ⟨h1, rfl⟩
theorem rngD_len (lo : Int) (n : Nat) : (rngD lo n).length = n := by
  unfold rngD
  rw [List.length_map, List.length_range]
theorem src_rng {K : PySem.W.Frag} {w0 : Hs} {lo : Int} {n : Nat} : SrcOk K w0 (Itr lo n) (fun _ => some (rngD lo n)) := fun w S ds i e' g h => by
  cases h
  refine ⟨fun d hd => ?_, fun hl => by rw [rngD_len] at hl; exact hl⟩
  obtain ⟨h1, rfl⟩ := rngD_get hd
  exact ⟨h1, fun x H' ⟨e1, e2⟩ => ⟨w, Ext.refl w, g, e1.symm, by rw [e2]; exact .int _⟩⟩
def iRg1 (T : TL) : TId := fun Γ S Φ Ψ => T Γ S (fun S1 ds => ∃ j, ds = [.int j] ∧ -(2 ^ 62) ≤ j ∧ j < 2 ^ 62 ∧ Φ S1 (fun _ => some (rngD 0 j.toNat))) Ψ
def iRg2 (T : TL) : TId := fun Γ S Φ Ψ => T Γ S (fun S1 ds => ∃ i j, ds = [.int i, .int j] ∧ (-(2 ^ 62) ≤ i ∧ i < 2 ^ 62 ∧ -(2 ^ 62) ≤ j ∧ j < 2 ^ 62) ∧ Φ S1 (fun _ => some (rngD i (j - i).toNat))) Ψ
theorem ji_range1 (hg : Gl X "range") (hm : X.mg "range" = none) (ha : JA X W [a] tl Tl) (hs : starEach [a] X.env = [(false, eval a X.env)] := by rfl) : JI X W tg (.Call (.Name "range" p) [a] [] pos) (iRng1 tl) (iRg1 Tl) := ⟨pi_range1 hg hm ha.pa hs, fun Γ S Φ Ψ σ w g sl hT hx Q q =>
  ha.sem Γ S _ Ψ σ w g sl hT hx _ fun vs ds w1 S1 e1 g1 r1 ⟨j, ed, h1, h2, h3⟩ => by
    subst ed
    obtain ⟨v, rfl, rv⟩ := one_of r1
    exact ⟨j, by rw [rv_int rv], h1, h2, q _ _ w1 S1 e1 g1 src_rng h3⟩⟩
theorem ji_range2 (hg : Gl X "range") (hm : X.mg "range" = none) (ha : JA X W [a, b] tl Tl) (hs : starEach [a, b] X.env = [(false, eval a X.env), (false, eval b X.env)] := by rfl) (hs2 : starEach [b] X.env = [(false, eval b X.env)] := by rfl) : JI X W tg (.Call (.Name "range" p) [a, b] [] pos) (iRng2 tl) (iRg2 Tl) := ⟨pi_range2 hg hm ha.pa hs hs2, fun Γ S Φ Ψ σ w g sl hT hx Q q =>
  ha.sem Γ S _ Ψ σ w g sl hT hx _ fun vs ds w1 S1 e1 g1 r1 ⟨i, j, ed, h1, h3⟩ => by
    subst ed
    cases r1 with
    | cons ra rb =>
      obtain ⟨v, rfl, rv⟩ := one_of rb
      exact ⟨i, j, by rw [rv_int ra, rv_int rv], h1, q _ _ w1 S1 e1 g1 src_rng h3⟩⟩
/-- zip of two lists, enumerate of a list: a new tuple each -/
def zipD (xs ys : List D) : List D := (xs.zip ys).map fun p => D.tup [p.1, p.2]
def enumD (xs : List D) : List D := (List.range xs.length).map fun (i : Nat) => D.tup [.int (i : Int), xs.getD i .non]
theorem zipD_get {xs ys : List D} {i : Nat} {d : D} (h : (zipD xs ys)[i]? = some d) : ∃ x y, xs[i]? = some x ∧ ys[i]? = some y ∧ d = .tup [x, y] := by
  unfold zipD at h
  rw [List.getElem?_map] at h
  cases q : (xs.zip ys)[i]? with
  | none => rw [q] at h; cases h
  | some p =>
    rw [q] at h
    cases h
    obtain ⟨h1, h2⟩ := List.getElem?_zip_eq_some.mp q
    exact ⟨p.1, p.2, h1, h2, rfl⟩
theorem enumD_get {xs : List D} {i : Nat} {d : D} (h : (enumD xs)[i]? = some d) : ∃ x, xs[i]? = some x ∧ d = .tup [.int (i : Int), x] := by
  unfold enumD at h
  rw [List.getElem?_map] at h
  cases q : (List.range xs.length)[i]? with
  | none => rw [q] at h; cases h
  | some j =>
    rw [q] at h
    obtain ⟨h1, h2⟩ := List.getElem?_eq_some_iff.mp q
    rw [List.getElem_range] at h2
    rw [List.length_range] at h1
    subst h2
    cases h
    refine ⟨xs[i], List.getElem?_eq_getElem h1, ?_⟩
    show D.tup [D.int (i : Int), xs.getD i D.non] = D.tup [D.int (i : Int), xs[i]]
    rw [List.getD_eq_getElem?_getD, List.getElem?_eq_getElem h1] <;> rfl
theorem enumD_len (xs : List D) : (enumD xs).length = xs.length := by
  unfold enumD
  rw [List.length_map, List.length_range]
theorem zipD_len (xs ys : List D) : (zipD xs ys).length = min xs.length ys.length := by
  unfold zipD
  rw [List.length_map, List.length_zip]
def iZipD (T : TL) : TId := fun Γ S Φ Ψ => T Γ S (fun S1 ds => ∃ d e, ds = [d, e] ∧ (∃ xs, asQ S1 d = some xs) ∧ (∃ ys, asQ S1 e = some ys) ∧ Φ S1 (fun S' => (asQ S' d).bind fun xs => (asQ S' e).map fun ys => zipD xs ys)) Ψ
def iEnumD (T : TL) : TId := fun Γ S Φ Ψ => T Γ S (fun S1 ds => ∃ d, ds = [d] ∧ (∃ xs, asQ S1 d = some xs) ∧ Φ S1 (fun S' => (asQ S' d).map enumD)) Ψ
theorem tup_new {K : PySem.W.Frag} {w : Hs} {S : Sto} (g : Good K w S) {T : Addr} {vs : List V} {ds : List D} (hT : w.H T = none) (r : Ra K w vs ds) : ∃ w', Ext w w' ∧ Good K w' S ∧ w'.H = upd w.H T (.tup vs) ∧ Rv K w' (.ref T) (.tup ds) :=
  ⟨w.frz T (.tup vs), Ext.frz g _ hT, g.frz _ hT, rfl, .tup (.inl (.inl upd_same)) ((Ext.frz g _ hT).ra r)⟩
theorem ji_zip {e2 : Expr} {elts : List Expr} {kk : Nat} {tpos : Pos} (hg : Gl X "zip") (hm : X.mg "zip" = none) (ha : JA X W [e, e2] tl Tl) (hs : starEach [e, e2] X.env = (false, eval e X.env) :: starEach [e2] X.env := by rfl) (hpl : (backTo pos (starEach [e2] X.env)).any (·.1) = false := by rfl) :
    JI X W (.Tuple elts kk tpos) (.Call (.Name "zip" p) [e, e2] [] pos) (iZip X.K tl) (iZipD Tl) := ⟨pi_zip hg hm ha.pa hs hpl, fun Γ S Φ Ψ σ w g sl hT hx Q q =>
  ha.sem Γ S _ Ψ σ w g sl hT hx _ fun vs ds w1 S1 e1 g1 r1 ⟨d, d2, ed, ⟨xs, hxs⟩, ⟨ys, hys⟩, h3⟩ => by
    subst ed
    cases r1 with
    | cons ra rb =>
      obtain ⟨v, rfl, rv⟩ := one_of rb
      obtain ⟨a1, us, rfl, hs1, _⟩ := asQ_at g1 ra hxs
      obtain ⟨a2, us2, rfl, hs2, _⟩ := asQ_at g1 rv hys
      refine ⟨a1, a2, us, us2, rfl, hs1, hs2, q _ _ w1 S1 e1 g1 (fun w S ds i e' g hh => ?_) h3⟩
      cases q1 : asQ S d with
      | none => rw [q1] at hh; cases hh
      | some xs' =>
        cases q2 : asQ S d2 with
        | none => rw [q1, q2] at hh; cases hh
        | some ys' =>
          rw [q1, q2] at hh
          cases hh
          obtain ⟨b1, vs1, eb1, hsa, ra1⟩ := asQ_at g (e'.rp ra) q1
          obtain ⟨b2, vs2, eb2, hsb, ra2⟩ := asQ_at g (e'.rp rv) q2
          cases eb1
          cases eb2
          refine ⟨fun dd hd => ?_, fun hl => ⟨vs1, vs2, hsa, hsb, ?_⟩⟩
          · obtain ⟨x, y, hx1, hy1, rfl⟩ := zipD_get hd
            obtain ⟨vx, hvx, rvx⟩ := ra1.get hx1
            obtain ⟨vy, hvy, rvy⟩ := ra2.get hy1
            refine ⟨⟨vs1, vs2, vx, vy, hsa, hsb, hvx, hvy⟩, fun z H' ⟨T, x', y', ez, hn, eH, fx, fy⟩ => ?_⟩
            have f1 := fx vs1 hsa
            have f2 := fy vs2 hsb
            rw [hvx] at f1
            rw [hvy] at f2
            cases f1
            cases f2
            subst ez
            obtain ⟨w', ee, gg, eh, rr⟩ := tup_new g hn (.cons rvx (.cons rvy .nil))
            exact ⟨w', ee, gg, by rw [eh, eH], rr⟩
          · rw [zipD_len] at hl
            rw [ra1.length, ra2.length]
            omega⟩
theorem ji_enum {elts : List Expr} {kk : Nat} {tpos : Pos} (hg : Gl X "enumerate") (hm : X.mg "enumerate" = none) (ha : JA X W [e] tl Tl) (hs : starEach [e] X.env = [(false, eval e X.env)] := by rfl) :
    JI X W (.Tuple elts kk tpos) (.Call (.Name "enumerate" p) [e] [] pos) (iEnum X.K tl) (iEnumD Tl) := ⟨pi_enum hg hm ha.pa hs, fun Γ S Φ Ψ σ w g sl hT hx Q q =>
  ha.sem Γ S _ Ψ σ w g sl hT hx _ fun vs ds w1 S1 e1 g1 r1 ⟨d, ed, ⟨xs, hxs⟩, h3⟩ => by
    subst ed
    obtain ⟨v, rfl, rv⟩ := one_of r1
    obtain ⟨a1, us, rfl, hs1, _⟩ := asQ_at g1 rv hxs
    refine ⟨a1, us, rfl, hs1, q _ _ w1 S1 e1 g1 (fun w S ds i e' g hh => ?_) h3⟩
    cases q1 : asQ S d with
    | none => rw [q1] at hh; cases hh
    | some xs' =>
      rw [q1] at hh
      cases hh
      obtain ⟨b1, vs1, eb1, hsa, ra1⟩ := asQ_at g (e'.rp rv) q1
      cases eb1
      refine ⟨fun dd hd => ?_, fun hl => ⟨vs1, hsa, ?_⟩⟩
      · obtain ⟨x, hx1, rfl⟩ := enumD_get hd
        obtain ⟨vx, hvx, rvx⟩ := ra1.get hx1
        refine ⟨⟨vs1, vx, hsa, hvx⟩, fun z H' ⟨T, x', ez, hn, eH, fx⟩ => ?_⟩
        have f1 := fx vs1 hsa
        rw [hvx] at f1
        cases f1
        subst ez
        obtain ⟨w', ee, gg, eh, rr⟩ := tup_new g hn (.cons (.int (i : Int)) (.cons rvx .nil))
        exact ⟨w', ee, gg, by rw [eh, eH], rr⟩
      · rw [enumD_len] at hl
        rw [ra1.length]
        exact hl⟩
end
end DL
namespace DL
open PySem PySem.Spec PyProof.Rows L2
def sRaise (C : Addr) : TSd := fun D _ S => D.er S ⟨C, []⟩
theorem js_raise {X : Cx} {W : WX} {x m : Str} {C : Addr} {j : Nat} {p p2 pos pos' : Pos} (hc : X.calm = true) (tk : Takes X W) (q : PySem.W.excIn X.K C He.veBase "ValueError.__new__" = true) (gC : X.mg x = some (.ref C)) (kC : PySem.W.keepIn X.K (.ref C) = true)
    (b : PySem.W.subIn X.K (.ref C) (.type "BaseException") = some true) (t : PySem.W.typeIn X.K (.ref C) = some (.type "type")) (hg : Gl X x) (hdb : (x == ("__debug__" : Str)) = false := by decide) :
    JS X W (.Raise (some (.Call (.Name x p) [.Constant (.str m) j p2] [] pos')) none pos) (fun _ σ H => (fun (_ : L2.St) (H : Hp) (Q : XK) => Q (.ref C) none H) σ H fun cls d H' => W cls d σ H') (sRaise C) :=
  ⟨ps_raise hc tk (pmk_own PySem.F.excBase_ValueError q gC kC (raises_own b t) hg hdb), fun D' Γ S σ w D g sl h r => r.er σ (.ref C) none ⟨C, []⟩ w S (Ext.refl w) g ⟨rfl, rfl⟩ h⟩
def tyOf (S : Sto) : D → Option String
  | .non => some "NoneType"
  | .bl _ => some "bool"
  | .int _ => some "int"
  | .str _ => some "str"
  | .lst _ => some "list"
  | .sq _ => some "list"
  | .tup _ => some "tuple"
  | .dic _ => some "dict"
  | .own h => match S[h]? with
    | some (.lst _) => some "list"
    | _ => none
  | _ => none
def isTyB (a n : String) : Bool := a == n || (a == "bool" && n == "int")
def tys : List String := ["NoneType", "bool", "int", "str", "list", "tuple", "dict"]
def tyN : List String := ["int", "bool", "str", "list", "tuple", "dict"]
theorem kit_all : (tys.all fun a => tyN.all fun n => decide (kitB a n = some (isTyB a n))) = true := by decide +kernel
theorem kit_at {K : PySem.W.Frag} {a n : String} (ha : a ∈ tys) (hn : n ∈ tyN) : PySem.W.kitOne K (.type a) (.type n) = some (isTyB a n) := by
  have h := List.all_eq_true.mp kit_all a ha
  have h2 := List.all_eq_true.mp h n hn
  exact kit_ty (of_decide_eq_true h2)
theorem tyx_of {K : PySem.W.Frag} {w : Hs} {S : Sto} (g : Good K w S) {v : V} {d : D} {n : String} (r : Rv K w v d) (h : tyOf S d = some n) : TyX K w.H v (.type n) ∧ n ∈ tys := by
  cases d with
  | non => cases r; cases h; exact ⟨.base .non, by decide⟩
  | bl b => cases r; cases h; exact ⟨.base (.bl b), by decide⟩
  | int b => cases r; cases h; exact ⟨.base (.int b), by decide⟩
  | str b => cases r; cases h; exact ⟨.base (.str b), by decide⟩
  | lst ds =>
    cases h
    cases r with
    | lst h1 h2 => exact ⟨.base (.lst (g.sub _ _ h1)), by decide⟩
  | sq ds =>
    cases h
    cases r with
    | sq h1 h2 =>
      refine ⟨?_, by decide⟩
      rcases h1 with (h1 | ⟨o, h1⟩) | ⟨o, its, m, h1, hc, _⟩
      · exact .base (.lst (g.sub _ _ h1))
      · exact .base (.frz (g.sub _ _ h1))
      · exact .kList h1 hc
  | tup ds =>
    cases h
    cases r with
    | tup h1 h2 =>
      refine ⟨?_, by decide⟩
      rcases h1 with (h1 | ⟨o, h1⟩) | ⟨o, its, m, h1, hc, _⟩
      · exact .base (.tup (g.sub _ _ h1))
      · exact .fTuple (g.sub _ _ h1)
      · exact .kTuple h1 hc
  | dic ds =>
    cases h
    cases r with
    | dic h1 h2 => exact ⟨.base (.dK (g.sub _ _ h1)), by decide⟩
  | own hh =>
    have e2 : (match S[hh]? with
      | some (.lst _) => some "list"
      | _ => none) = some n := h
    cases q : S[hh]? with
    | none => rw [q] at e2; cases e2
    | some c =>
      rw [q] at e2
      cases c with
      | gone => cases e2
      | ins _ _ => cases e2
      | dct _ => cases e2
      | dck _ => cases e2
      | lck _ _ _ => cases e2
      | lst es =>
        cases e2
        obtain ⟨a, xs, rfl, _, h2, _⟩ := own_at g r q
        exact ⟨.base (.lst h2), by decide⟩
  | _ => cases h
def cIsi (ds : List D) (S : Sto) (Φ : KD) : Prop := match ds with
  | [d, .ty n] => ∃ a, tyOf S d = some a ∧ n ∈ tyN ∧ Φ S (.bl (isTyB a n))
  | _ => False
theorem two_of {K : PySem.W.Frag} {w : Hs} {vs : List V} {d e : D} (r : Ra K w vs [d, e]) : ∃ v u, vs = [v, u] ∧ Rv K w v d ∧ Rv K w u e := by
  cases r with
  | cons r1 r2 =>
    obtain ⟨u, rfl, ru⟩ := one_of r2
    exact ⟨_, _, rfl, r1, ru⟩
theorem rv_ty {K : PySem.W.Frag} {w : Hs} {v : V} {n : String} (r : Rv K w v (.ty n)) : v = .ty n := by cases r; rfl
theorem cd_isi {K : PySem.W.Frag} : CallD K (rIsi K) cIsi := fun w S vs ds Φ Q g r h q => by
  cases ds with
  | nil => exact h.elim
  | cons d t =>
    cases t with
    | nil => exact h.elim
    | cons e t2 =>
      cases t2 with
      | cons _ _ => cases e <;> exact h.elim
      | nil =>
        cases e with
        | ty n =>
          obtain ⟨a, h1, h2, h3⟩ := h
          obtain ⟨v, u, rfl, rv, ru⟩ := two_of r
          rw [rv_ty ru]
          obtain ⟨h4, h5⟩ := tyx_of g rv h1
          exact ⟨v, .ty n, .type a, .type n, isTyB a n, rfl, .ty n, h4, kit_at h5 h2, q _ _ w S (Ext.refl w) g (.bl _) h3⟩
        | _ => exact h.elim
def rRepr (K : PySem.W.Frag) : List V → Hp → VK → Prop := fun xs H Q => ∃ a p, xs = [.ref a] ∧ Dp K H (.ref a) p ∧ p.showable = true ∧ p.hasDict = false ∧ p.depth ≤ 60 ∧ p.shown.length ≤ sizeLine ∧ Q (.str p.shown) H
theorem call_reprD {X : Cx} (hG : X.A.guards = some []) (hu : X.A.units + 64 < cLine) : CallR X (.builtin "repr") (rRepr X.K) := by
  intro pins s σ H xs us Q I r h
  obtain ⟨a, p, rfl, hd, hs, hn, hdp, hl, q⟩ := h
  have e := Vals.ref1 r
  subst e
  obtain ⟨as, hr⟩ := Dp.reads I p (.ref a) (.ref a) hd rfl
  exact repr_of_reads' hr hs (PyData.noDict_hsm hn) hG (by omega) (fun _ _ e => e) (fun h' u tk hk => ⟨.str p.shown, H, I.kept hk, ⟨_, rfl⟩, q⟩) hl
/-- a list or tuple that == and repr take -/
structure Shw (p : PyData) : Prop where
  s : p.showable = true
  d : p.hasDict = false
  dp : p.depth ≤ 60
  l : p.shown.length ≤ sizeLine
def cRepr (ds : List D) (S : Sto) (Φ : KD) : Prop := match ds with
  | [d] => (∃ a, tyOf S d = some a ∧ (a = "list" ∨ a = "tuple")) ∧ ∃ p, PyR S d p ∧ Shw p ∧ Φ S (.str p.shown)
  | _ => False
theorem cd_repr {K : PySem.W.Frag} : CallD K (rRepr K) cRepr := fun w S vs ds Φ Q g r h q => by
  cases ds with
  | nil => exact h.elim
  | cons d t =>
    cases t with
    | cons _ _ => exact h.elim
    | nil =>
      obtain ⟨⟨a, h1, h2⟩, p, h3, h4, h5⟩ := h
      obtain ⟨v, rfl, rv⟩ := one_of r
      have hp := dp_of g p d v h3 rv
      have hv : ∃ b, v = .ref b := by
        cases rv <;> first
          | exact ⟨_, rfl⟩
          | (cases h1; rcases h2 with z | z <;> exact absurd z (by decide))
          | cases h1
      obtain ⟨b, rfl⟩ := hv
      exact ⟨b, p, rfl, hp, h4.s, h4.d, h4.dp, h4.l, q _ _ w S (Ext.refl w) g (.str _) h5⟩
/-- as FnOk, where the guards around are known to be none -/
structure FnOkG (P : Program) (wd : World) (K : PySem.W.Frag) (mg : Str → Option Value) (B : Heap) (cx : CXT) (k : Nat) (f : Addr) (fd : FuncData) (ps : List Str) (sp : Sp) : Prop where
  many : ∀ as H Q E, sp as H Q E → as.length = ps.length
  go : ∀ (Ar : Around) (out : List Env) (s0 : Shared) (H : Hp) (ar : Args) (us : List Value) (as : List V) (Q : VK) (E : XK),
    Ar.guards = some [] → Room k Ar → Env0 P wd K mg B Ar out s0 H → BindsTo s0 fd ar (ps.zip us) → Vals as us → sp as H Q E →
      codeAny (model P wd) Ar (.call (.ref f) ar) (CR cx out P wd H s0 Q E) s0
section
variable {P : Program} {wd : World} {K : PySem.W.Frag} {mg : Str → Option Value} {B : Heap} {cx : CXT} {k : Nat} {f : Addr} {fd : FuncData} {ps N : List Str} {sp : Sp}
theorem FnOkG.of (F : FnOk P wd K mg B cx k f fd ps sp) : FnOkG P wd K mg B cx k f fd ps sp where
  many := F.len
  go := fun Ar out s0 H ar us as Q E _ room en bi vs h => F.run Ar out s0 H ar us as Q E room en bi vs h
/-- how a body's end is a call's end -/
theorem end_of {qual : Str} {scope : Scope} {cdv : Value} {Ar : Around} {out : List Env} {s0 s1 : Shared} {H : Hp} {Q : VK} {E : XK} {fl : Flow}
    (h : SP (cxOf cx P wd K mg B N qual scope f cdv Ar out s0 H E) [] { nx := fun _ H1 => Q .non H1, rt := Q } fl s1) :
    match fl with
    | .ret u => CE out P wd H s0 Q u s1
    | .next => CE out P wd H s0 Q .none s1
    | _ => False := by
  cases fl with
  | ret u => exact let ⟨v, _, H1, J, r, q⟩ := h; ⟨v, H1, J.os, J.bare, J.base, J.hok, r, q⟩
  | next => exact let ⟨_, H1, J, q⟩ := h; ⟨.non, H1, J.os, J.bare, J.base, J.hok, rfl, q⟩
  | brk => exact let ⟨_, _, _, q⟩ := h; q.elim
  | cont => exact let ⟨_, _, _, q⟩ := h; q.elim
theorem fn_ofG {nm qual : Str} {pr : Arguments} {bd : List Stmt} {scope : Scope} {dV kV doc pm cdv ct oc : Value} {an od : Option Addr} {osl : Array (Option Value)}
    (there : K.lookup f = some ⟨oc, od, .func (PySem.W.fnOf nm qual pr bd scope dV kV doc pm an cdv ct), osl⟩) (code : PySem.W.codeIn K cdv qual = true) (Sc : FnScope N ps scope) (many : ∀ as H Q E, sp as H Q E → as.length = ps.length)
    (body : ∀ (Ar : Around) (out : List Env) (s0 : Shared) (H : Hp) (as : List V) (Q : VK) (E : XK), Ar.guards = some [] → Room k (Ar.deeper (envOfC qual scope s0.heap.objs.size f cdv)) → sp as H Q E →
      ∃ t, PSs (cxOf cx P wd K mg B N qual scope f cdv Ar out s0 H E) bd t ∧ t { nx := fun _ H1 => Q .non H1, rt := Q } (L2.start N as) H) :
    FnOkG P wd K mg B cx (k + 1) f (PySem.W.fnOf nm qual pr bd scope dV kV doc pm an cdv ct) ps sp where
  many := many
  go := by
    intro Ar out s0 H ar us as Q E gd room en bi vs hs
    obtain ⟨t, run, ask⟩ := body Ar out s0 H as Q E gd (room.deeper _) hs
    have up : ∀ c o, B.get? c = some o → s0.heap.get? c = some o := fun c o e => (en.bs c o e).1
    have kin : K.In s0.heap := en.mod.kin.keeps up
    have noLim := en.mod.nolimit.keeps up
    refine codeAny_call_function room.depth (kin _ _ there) rfl Sc.co Sc.gen rfl (PySem.W.codeRec_of kin code)
      (bi _ _ _ _ (wpAny_newFunctionEnv_cells Sc.kind (fun y hy => (Sc.par y.1 (List.of_mem_zip hy).1).elim .inl fun c => .inr ⟨c, PySem.W.cellsFrom_some _ _ _ (.inl c)⟩) ?_))
    intro env ee s1 inc
    subst ee
    refine ⟨noLim.keeps inc.toInCall.keep, codeAny_func ?_⟩
    refine wpAny_mono (run.run [] s1 (L2.start N as) H _ (inv_start Sc room.hd en (many _ _ _ _ hs) vs inc) ask) (fun fl s2 h => ?_) (fun _ _ h => h)
    have z := end_of (fl := fl) h
    cases fl <;> first | exact z | exact z.elim
end
section
variable {X : Cx} {W : WX} {e : Expr} {es : List Expr} {pos p : Pos} {tl : TA} {Tl : TL} {k : Nat} {f : Addr} {fd : FuncData} {ps : List Str} {sp : DSpec} {x : Str}
/-- the callee's run, its guards known -/
theorem goG {s0 : Sp} {pins : List (Addr × Obj)} {σ : L2.St} {H : Hp} {s : Shared} {Q : VK} {us : List Value} {vs : List V} (F : FnOkG X.prog X.w X.K X.mg X.base (L2.CX X.prog X.w) k f fd ps s0) (gd : X.A.guards = some []) (room : Room k X.A) (hb : Binds X.K fd ps []) (tk : Takes X W)
    (I : Inv X pins σ H s) (r : Vals vs us) (h : s0 vs H Q (WE W σ)) : wpAny (model X.prog X.w) X.A (call (.ref f) us) (EP X pins σ Q) X.xe s := by
  have many : (us ++ []).length = ps.length := by rw [List.append_nil, ← r.length, F.many _ _ _ _ h]
  have bi : BindsTo s fd ⟨us, []⟩ (ps.zip us) := by
    have z := hb s us I.kIn many
    rwa [List.append_nil] at z
  refine wpAny_call (codeAny_mono (F.go _ _ s H _ us vs Q _ gd room I.env0 bi r h) fun rr s2 hq => ?_)
  match rr, hq with
  | .error u, hq => exact passAt tk σ pins H s u s2 I hq
  | .ok (.ret u), hq => exact I.after hq
  | .ok .next, hq => exact False.elim hq
  | .ok .brk, hq => exact False.elim hq
  | .ok .cont, hq => exact False.elim hq
theorem je_callG (F : FnOkG X.prog X.w X.K X.mg X.base (L2.CX X.prog X.w) k f fd ps (spOf X.K sp)) (gd : X.A.guards = some []) (room : Room k X.A) (hg : Gl X x) (hm : X.mg x = some (.ref f)) (hk : PySem.W.keepIn X.K (.ref f) = true) (hb : Binds X.K fd ps [])
    (tk : Takes X W) (ha : JA X W (e :: es) tl Tl) (hdb : (x == ("__debug__" : Str)) = false := by decide) (he : starEach (e :: es) X.env = (false, eval e X.env) :: starEach es X.env := by rfl) (hpl : (backTo pos (starEach es X.env)).any (·.1) = false := by rfl) :
    JE X W (.Call (.Name x p) (e :: es) [] pos) (tCallS (spOf X.K sp) (WE W) tl) (dCall sp Tl) where
  sem := sem_call ha.sem
  pe := ⟨fun pins s σ H Q I h => wpAny_Call_Name_kw (ld_glob I hg hm (PySem.W.callWith_K (h₀ := X.base) I.ok.mod.kin hk
    (thn (ha.pa.run pos pins s σ H _ I h) fun us s1 ⟨vs, H1, I1, r, q⟩ => ⟨I1.kIn, goG F gd room hb tk I1 r q⟩) he hpl) hdb)⟩
end
end DL
namespace DL
open PySem PySem.Spec PyProof.Rows L2
section
variable {P : Program} {wd : World} {K : PySem.W.Frag} {mg mb : Str → Option Value} {k : Nat} {fa a : Addr} {fd : FuncData} {x : Str} {sp : DSpec} {s1 : Shared} {vs : List Value} {ns : List Int}
abbrev scrO (vs : List Value) : Obj := { cls := .type "list", data := .seq vs.toArray }
/-- the row's call, from what is tracked: nothing, or the script -/
theorem law_from {H : Hp} (hH : ∀ b u, H b = some u → b = a ∧ u = .frz (scrO vs) (.lst (ns.map V.int))) (hK : H a ≠ none → K.lookup a = none) (hS : SqL K H a (ns.map V.int))
    (kin : K.In s1.heap) (hns : s1.heap.Ns mainGlobals mg) (hb : s1.heap.Ns builtinsNs mb) (hbb : ∀ y : Str, y ≠ "__name__" → mb y = bootBuiltins y) (lim : s1.heap.NoLimit) (hg : s1.gens = #[]) (ha : s1.heap.get? a = some (scrO vs)) (hi : IntsAre vs ns) (hl : ns.length ≤ sizeLine)
    (room : Room k callerA) (F : ∀ base : Heap, K.In base → base.Ns mainGlobals mg → FnOkG P wd K mg base (L2.CX P wd) k fa fd [x] (spOf K sp)) (bind : ∀ (s : Shared) (u : Value), BindsTo s fd ⟨[u], []⟩ [(x, u)])
    (holds : sp [.sq (ns.map D.int)] [] (fun _ d => d = .bl true) fun _ _ => False) :
    codeAny (model P wd) callerA (.call (.ref fa) ⟨[.ref a], []⟩) (fun r s' => r = .ok (.ret (.bool true)) ∧ OldK s1.heap s'.heap ∧ s'.os = s1.os ∧ AllBare s'.gens) s1 := by
  have rv : Vals (ns.map V.int) vs := vals_ints hi
  have hok : HOk P wd H s1.heap := fun b u e => by
    obtain ⟨rfl, rfl⟩ := hH b u e
    exact ⟨ha, by rw [List.length_map]; exact hl, vs, _, rv, ha⟩
  have noD : ∀ {b : Addr} {o : Obj} {es : Array DictEntry} {n : Nat}, s1.heap.get? b = some o → o.data = .dict es n → H b = none := fun {b o es n} e d => by
    cases q : H b with
    | none => rfl
    | some u =>
      have z := (hH b u q).1
      rw [z, ha] at e
      rw [← Option.some.inj e] at d
      exact nomatch d
  have ns_ : ∀ {b : Addr} {m : Str → Option Value}, s1.heap.Ns b m → (hidT s1.heap H).Ns b m := fun {b m} n => by
    obtain ⟨o, es, ep, e, d, r⟩ := n
    exact ⟨o, es, ep, hidT_get e (noD e d), d, r⟩
  have kinB : K.In (hidT s1.heap H) := fun b o e => hidT_get (kin b o e) (by
    cases q : H b with
    | none => rfl
    | some u =>
      have z := (hH b u q).1
      have y := hK (by rw [← z, q]; exact fun t => nomatch t)
      rw [← z, e] at y
      exact nomatch y)
  have md : Mod K mg (hidT s1.heap H) := by
    obtain ⟨mc, l1, l2⟩ := lim
    exact ⟨kinB, ns_ hns, ⟨mb, ns_ hb, hbb⟩, ⟨mc, ns_ l1, l2⟩⟩
  have en : Env0 P wd K mg (hidT s1.heap H) callerA [] s1 H :=
    ⟨rfl, md, fun _ _ e => of_hidT e, Nat.le_of_eq (hidT_size _ _), trivial, (fun _ h => nomatch h), hok, .of_eq hg⟩
  have sps : spOf K sp [.ref a] H (fun v _ => v = .bl true) fun _ _ _ => False := by
    refine ⟨⟨H, [], H⟩, [], [.sq (ns.map D.int)], (fun _ d => d = .bl true), (fun _ _ => False), rfl, ⟨fun _ _ e => e, List.nodup_nil, rfl, fun h b c e => by simp at e, fun b h => nomatch h⟩, .cons (.sq hS ?_) .nil, holds, fun v d w' S' _ _ r q => ?_, fun _ _ _ _ _ _ _ _ z => z⟩
    · have e : ∀ l : List Int, RpA K H [] (l.map V.int) (l.map D.int) := fun l => by
        induction l with
        | nil => exact .nil
        | cons i l ih => exact .cons (.int i) ih
      exact e ns
    · have q : d = .bl true := q
      subst q
      exact rv_bl r
  refine codeAny_mono ((F _ kinB (ns_ hns)).go callerA [] s1 H ⟨[.ref a], []⟩ [.ref a] [.ref a] _ _ rfl room en (bind s1 _) (.cons rfl .nil) sps) fun r s2 h => ?_
  match r, h with
  | .ok (.ret u), h =>
    obtain ⟨v, H2, os, bare, un, hok2, r2, q⟩ := h
    have q : v = .bl true := q
    subst q
    have eu : u = Value.bool true := r2
    refine ⟨by rw [eu], OldK.of_keep fun b o e => ?_, os, bare⟩
    cases z : H b with
    | none => exact un.keep b o e z (fun t => nomatch t) (fun t => nomatch t)
    | some y =>
      obtain ⟨rfl, rfl⟩ := hH b y z
      have t1 := (hok2 b _ (un.frzs b _ _ z)).1
      rw [ha] at e
      rw [← Option.some.inj e]
      exact t1
  | .ok .next, h => exact False.elim h
  | .ok .brk, h => exact False.elim h
  | .ok .cont, h => exact False.elim h
  | .error e, h =>
    have h : L2.CX P wd [] H s1 (fun _ _ _ => False) e s2 := h
    obtain ⟨_, _, _, _, _, _, _, _, _, _, _, _, z⟩ := h
    exact z.elim
theorem law_end (kin : K.In s1.heap) (hns : s1.heap.Ns mainGlobals mg) (hb : s1.heap.Ns builtinsNs mb) (hbb : ∀ y : Str, y ≠ "__name__" → mb y = bootBuiltins y) (lim : s1.heap.NoLimit) (hg : s1.gens = #[]) (ha : s1.heap.get? a = some (scrO vs)) (hi : IntsAre vs ns) (hl : ns.length ≤ sizeLine)
    (room : Room k callerA) (F : ∀ base : Heap, K.In base → base.Ns mainGlobals mg → FnOkG P wd K mg base (L2.CX P wd) k fa fd [x] (spOf K sp)) (bind : ∀ (s : Shared) (u : Value), BindsTo s fd ⟨[u], []⟩ [(x, u)])
    (holds : sp [.sq (ns.map D.int)] [] (fun _ d => d = .bl true) fun _ _ => False) :
    codeAny (model P wd) callerA (.call (.ref fa) ⟨[.ref a], []⟩) (fun r s' => r = .ok (.ret (.bool true)) ∧ OldK s1.heap s'.heap ∧ s'.os = s1.os ∧ AllBare s'.gens) s1 := by
  cases q : K.lookup a with
  | some o =>
    have e := kin a o q
    rw [ha] at e
    have e2 := Option.some.inj e
    refine law_from (H := fun _ => none) (fun b u z => nomatch z) (fun z => absurd rfl z) (.inr ⟨o, vs.toArray, 0, q, ?_, ?_, ?_, ?_, ?_⟩) kin hns hb hbb lim hg ha hi hl room F bind holds
    · rw [← e2]
    · rw [← e2]
    · rw [← e2]
    · rw [List.size_toArray, hi.length]; exact hl
    · exact vals_ints hi
  | none =>
    refine law_from (H := fun b => if b = a then some (.frz (scrO vs) (.lst (ns.map V.int))) else none) (fun b u z => ?_) (fun _ => q) (.inl (.inr ⟨scrO vs, if_pos rfl⟩)) kin hns hb hbb lim hg ha hi hl room F bind holds
    by_cases e : b = a
    · exact ⟨e, (Option.some.inj ((if_pos e).symm.trans z)).symm⟩
    · exact nomatch (if_neg e).symm.trans z
end
/-- what the row's head leaves, from the law's promise by data -/
theorem walk_end {l : PySem.W.OpenLaw} {n k : Nat} {q : Program} {loose : List Str} {XP : (Str → Option Value) → Heap → Prop} {YP : World → Heap → Prop} {d : DefRec} {x : Str} (hn : l.most = some n) (hn2 : n ≤ sizeLine) (hdf : d.params.defaults = []) (room : Room k callerA)
    (F : ∀ (w : World) (mg : Str → Option Value) (fa : Addr) (h : Heap), YP w h → h.Ns mainGlobals mg → mg d.name = some (.ref fa) →
      ∃ (K : PySem.W.Frag) (fd : FuncData) (sp : DSpec), K.In h ∧ (∀ (s : Shared) (u : Value), BindsTo s fd ⟨[u], []⟩ [(x, u)]) ∧ (∀ ns : List Int, ns.length ≤ n → (∀ z ∈ ns, Builtin.Int.intBits z ≤ 1048576) → sp [.sq (ns.map D.int)] [] (fun _ d => d = .bl true) fun _ _ => False) ∧
        ∀ base : Heap, K.In base → base.Ns mainGlobals mg → FnOkG l.prog w K mg base (L2.CX l.prog w) k fa fd [x] (spOf K sp)) :
    PySem.W.WalkO q loose XP YP l.row.toRowW d [] (fun f vs => PySem.call f vs) := by
  refine Att.attach_callB hn hdf fun w s0 s1 mg mb fa o pm cd doc a vs ns G Y ho hd hcd hmg hobj hints hlen hbits hg => ?_
  obtain ⟨K, fd, sp, kin, hb, hs, hF⟩ := F w mg fa _ Y G.T.g hmg
  exact law_end kin G.T.g G.T.b G.T.builtins G.T.nolimit hg hobj hints (Nat.le_trans hlen hn2) room hF hb (hs ns hlen hbits)
end DL
namespace DL
open PySem PySem.Spec PyProof.Rows L2
def fzD (d : D) (S : Sto) (Φ : KD) : Prop := match d with
  | .own h => ∃ ds, S[h]? = some (.lst ds) ∧ Φ (S.set h .gone) (.lst ds)
  | d => Φ S d
def dFz (T : TD) : TD := fun Γ S Φ Ψ => T Γ S (fun S1 d => fzD d S1 Φ) Ψ
theorem fz_ok {K : PySem.W.Frag} {w : Hs} {S : Sto} (g : Good K w S) {Φ : KD} {Q : VK} {v : V} {d : D} (r : Rv K w v d) (h : fzD d S Φ) (q : OkD K w Φ Q) : Q v w.H := by
  have other : Φ S d → Q v w.H := fun z => q v d w S (Ext.refl w) g r z
  cases d with
  | own hh =>
    obtain ⟨ds, e, hΦ⟩ := h
    obtain ⟨a, xs, rfl, ha, hH, ra⟩ := own_at g r e
    have hm : a ∈ w.al := List.mem_of_getElem? ha
    have hF : w.F a = none := (g.cell hh a _ ha e).1
    have ee : Ext w (w.fz a (.lst xs)) := Ext.fz hm hF
    exact q (.ref a) (.lst ds) (w.fz a (.lst xs)) _ ee (g.fz ha e hH) (.lst upd_same (ee.ra ra)) hΦ
  | _ => exact other h
theorem je_fz {X : Cx} {W : WX} {e : Expr} {t : TE} {T : TD} (h : JE X W e t T) : JE X W e t (dFz T) := ⟨h.pe, fun Γ S Φ Ψ σ w g sl hT hx Q q =>
  h.sem Γ S _ Ψ σ w g sl hT hx Q fun v d w1 S1 e1 g1 r1 h1 => fz_ok g1 r1 h1 (q.ext e1)⟩
mutual
def D.low (n : Nat) : D → Bool
  | .own h => decide (h < n)
  | .lst ds => lowA n ds
  | .sq ds => lowA n ds
  | .tup ds => lowA n ds
  | .ins _ fs => lowF n fs
  | .dic kvs => lowK n kvs
  | .non => true
  | .bl _ => true
  | .int _ => true
  | .str _ => true
  | .obj _ => true
  | .ty _ => true
  | .exc _ fs => lowF n fs
def lowA (n : Nat) : List D → Bool
  | [] => true
  | d :: ds => D.low n d && lowA n ds
def lowF (n : Nat) : List (Str × D) → Bool
  | [] => true
  | (_, d) :: ds => D.low n d && lowF n ds
def lowK (n : Nat) : List (Key × D) → Bool
  | [] => true
  | (_, d) :: ds => D.low n d && lowK n ds
end
section
variable {K : PySem.W.Frag} {F : Hp} {al : List Addr}
mutual
theorem rp_low (n : Nat) : ∀ (d : D) (v : V), Rp K F al v d → d.low n = true → Rp K F (al.take n) v d
  | .non, _, h, _ => by cases h; exact .non
  | .bl _, _, h, _ => by cases h; exact .bl _
  | .int _, _, h, _ => by cases h; exact .int _
  | .str _, _, h, _ => by cases h; exact .str _
  | .lst ds, _, h, l => by
    cases h with
    | lst h1 h2 => exact .lst h1 (ra_low n ds _ h2 (by simpa [D.low] using l))
  | .sq ds, _, h, l => by
    cases h with
    | sq h1 h2 => exact .sq h1 (ra_low n ds _ h2 (by simpa [D.low] using l))
  | .tup ds, _, h, l => by
    cases h with
    | tup h1 h2 => exact .tup h1 (ra_low n ds _ h2 (by simpa [D.low] using l))
  | .ins C fs, _, h, l => by
    cases h with
    | ins h1 h2 => exact .ins h1 (rf_low n fs _ h2 (by simpa [D.low] using l))
  | .dic fs, _, h, l => by
    cases h with
    | dic h1 h2 => exact .dic h1 (rk_low n fs _ h2 (by simpa [D.low] using l))
  | .obj _, _, h, _ => by cases h; exact .obj _
  | .own m, _, h, l => by
    cases h with
    | own h1 =>
      have hm : m < n := by simpa [D.low] using l
      exact .own (by rw [List.getElem?_take_of_lt hm]; exact h1)
  | .ty _, _, h, _ => by cases h; exact .ty _
  | .exc C fs, _, h, l => by
    cases h with
    | exc0 h1 h2 h0 h3 => exact .exc0 h1 h2 h0 h3
    | excD h1 h2 h0 h3 h4 h5 => exact .excD h1 h2 h0 h3 h4 (rf_low n fs _ h5 (by simpa [D.low] using l))
theorem ra_low (n : Nat) : ∀ (ds : List D) (vs : List V), RpA K F al vs ds → lowA n ds = true → RpA K F (al.take n) vs ds
  | [], _, h, _ => by cases h; exact .nil
  | d :: ds, _, h, l => by
    rw [lowA, Bool.and_eq_true] at l
    cases h with
    | cons h1 h2 => exact .cons (rp_low n d _ h1 l.1) (ra_low n ds _ h2 l.2)
theorem rf_low (n : Nat) : ∀ (ds : List (Str × D)) (vs : List (Str × V)), RpF K F al vs ds → lowF n ds = true → RpF K F (al.take n) vs ds
  | [], _, h, _ => by cases h; exact .nil
  | (_, d) :: ds, _, h, l => by
    rw [lowF, Bool.and_eq_true] at l
    cases h with
    | cons h1 h2 => exact .cons (rp_low n d _ h1 l.1) (rf_low n ds _ h2 l.2)
theorem rk_low (n : Nat) : ∀ (ds : List (Key × D)) (vs : List (Key × V)), RpK K F al vs ds → lowK n ds = true → RpK K F (al.take n) vs ds
  | [], _, h, _ => by cases h; exact .nil
  | (_, d) :: ds, _, h, l => by
    rw [lowK, Bool.and_eq_true] at l
    cases h with
    | cons h1 h2 => exact .cons (rp_low n d _ h1 l.1) (rk_low n ds _ h2 l.2)
end
mutual
theorem low_of {n : Nat} (hn : al.length ≤ n) : ∀ (d : D) (v : V), Rp K F al v d → d.low n = true
  | .non, _, h => by simp [D.low]
  | .bl _, _, h => by simp [D.low]
  | .int _, _, h => by simp [D.low]
  | .str _, _, h => by simp [D.low]
  | .lst ds, _, h => by
    cases h with
    | lst h1 h2 => rw [D.low]; exact lowA_of hn ds _ h2
  | .sq ds, _, h => by
    cases h with
    | sq h1 h2 => rw [D.low]; exact lowA_of hn ds _ h2
  | .tup ds, _, h => by
    cases h with
    | tup h1 h2 => rw [D.low]; exact lowA_of hn ds _ h2
  | .ins C fs, _, h => by
    cases h with
    | ins h1 h2 => rw [D.low]; exact lowF_of hn fs _ h2
  | .dic fs, _, h => by
    cases h with
    | dic h1 h2 => rw [D.low]; exact lowK_of hn fs _ h2
  | .obj _, _, h => by simp [D.low]
  | .own m, _, h => by
    cases h with
    | own h1 =>
      have := (List.getElem?_eq_some_iff.mp h1).1
      rw [D.low, decide_eq_true_eq]
      omega
  | .ty _, _, h => by simp [D.low]
  | .exc C fs, _, h => by
    cases h with
    | exc0 h1 h2 h0 h3 => rw [D.low, lowF]
    | excD h1 h2 h0 h3 h4 h5 => rw [D.low]; exact lowF_of hn fs _ h5
theorem lowA_of {n : Nat} (hn : al.length ≤ n) : ∀ (ds : List D) (vs : List V), RpA K F al vs ds → lowA n ds = true
  | [], _, h => by rw [lowA]
  | d :: ds, _, h => by
    cases h with
    | cons h1 h2 => rw [lowA, low_of hn d _ h1, lowA_of hn ds _ h2] <;> rfl
theorem lowF_of {n : Nat} (hn : al.length ≤ n) : ∀ (ds : List (Str × D)) (vs : List (Str × V)), RpF K F al vs ds → lowF n ds = true
  | [], _, h => by rw [lowF]
  | (_, d) :: ds, _, h => by
    cases h with
    | cons h1 h2 => rw [lowF, low_of hn d _ h1, lowF_of hn ds _ h2] <;> rfl
theorem lowK_of {n : Nat} (hn : al.length ≤ n) : ∀ (ds : List (Key × D)) (vs : List (Key × V)), RpK K F al vs ds → lowK n ds = true
  | [], _, h => by rw [lowK]
  | (_, d) :: ds, _, h => by
    cases h with
    | cons h1 h2 => rw [lowK, low_of hn d _ h1, lowK_of hn ds _ h2] <;> rfl
end
end
def Cell.low (n : Nat) : Cell → Bool
  | .lst ds => lowA n ds
  | .ins _ fs => lowF n fs
  | .dct ks => ks.all fun p => p.2.low n
  | .dck ks => lowK n ks
  | .lck _ _ ks => lowK n ks
  | .gone => true
/-- behind a def: the cells of its own are left behind -/
def Cut (S0 S1 S' : Sto) : Prop := S0.length ≤ S1.length ∧ S1 <+: S' ∧ ∀ (h : Nat) (c : Cell), S1[h]? = some c → S0[h]? = some c ∨ c.low S1.length = true
def RetOk (S0 : Sto) (Φ : KD) : KD := fun S' d => Φ S' d ∨ ∃ S1, Cut S0 S1 S' ∧ d.low S1.length = true ∧ Φ S1 d
def ErOk (S0 : Sto) (Ψ : KX) : KX := fun S' x => Ψ S' x ∨ ∃ S1, Cut S0 S1 S' ∧ lowF S1.length x.fs = true ∧ Ψ S1 x
theorem Cut.same {S0 cs : Sto} : Cut S0 S0 (S0 ++ cs) := ⟨Nat.le_refl _, List.prefix_append _ _, fun h c e => .inl e⟩
theorem ret_cut {S0 cs : Sto} {Φ : KD} {d : D} (hl : d.low S0.length = true) (h : Φ S0 d) : RetOk S0 Φ (S0 ++ cs) d := .inr ⟨S0, Cut.same, hl, h⟩
theorem ret_now {S0 S : Sto} {Φ : KD} {d : D} (h : Φ S d) : RetOk S0 Φ S d := .inl h
section
variable {K : PySem.W.Frag} {w0 w' : Hs} {S0 S1 S' : Sto}
def Hs.tk (w : Hs) (n : Nat) : Hs := ⟨w.F, w.al.take n, w.H⟩
theorem cut_ok (g0 : Good K w0 S0) (e : Ext w0 w') (g' : Good K w' S') (c : Cut S0 S1 S') : Ext w0 (w'.tk S1.length) ∧ Good K (w'.tk S1.length) S1 := by
  obtain ⟨hl, ⟨cs, hp⟩, hc⟩ := c
  have hle : S1.length ≤ w'.al.length := by rw [g'.len, ← hp, List.length_append]; omega
  have get : ∀ (n : Nat) (a : Addr), (w'.al.take S1.length)[n]? = some a → n < S1.length ∧ w'.al[n]? = some a := fun n a q => by
    have h1 := (List.getElem?_eq_some_iff.mp q).1
    rw [List.length_take] at h1
    have h2 : n < S1.length := by omega
    rw [List.getElem?_take_of_lt h2] at q
    exact ⟨h2, q⟩
  refine ⟨⟨e.f, ?_, e.new, e.kp, e.dm⟩, ⟨g'.sub, g'.nd.sublist (List.take_sublist _ _), ?_, fun n a cc q1 q2 => ?_, fun a q => g'.dom a (List.mem_of_mem_take q)⟩⟩
  · obtain ⟨β, eb, hb⟩ := e.al
    refine ⟨β.take (S1.length - w0.al.length), ?_, fun b q => hb b (List.mem_of_mem_take q)⟩
    show w'.al.take S1.length = _
    rw [eb, List.take_append, List.take_of_length_le (by rw [g0.len]; exact hl)]
  · show (w'.al.take S1.length).length = _
    rw [List.length_take]; omega
  · obtain ⟨h2, q1⟩ := get n a q1
    have q3 : S'[n]? = some cc := by rw [← hp, List.getElem?_append_left h2]; exact q2
    have ok := g'.cell n a cc q1 q3
    cases cc with
    | gone => exact True.intro
    | lst ds =>
      obtain ⟨hF, xs, hH, ra⟩ := ok
      refine ⟨hF, xs, hH, ra_low _ ds xs ra ?_⟩
      rcases hc n _ q2 with z | z
      · have hn0 : n < w0.al.length := by rw [g0.len]; exact (List.getElem?_eq_some_iff.mp z).1
        have q0 : w0.al[n]? = some w0.al[n] := List.getElem?_eq_getElem hn0
        obtain ⟨_, ys, _, r0⟩ := g0.cell n _ _ q0 z
        exact lowA_of (by rw [g0.len]; exact hl) ds ys r0
      · exact z
    | ins C fs =>
      obtain ⟨hF, dx, xs, hH, ra⟩ := ok
      refine ⟨hF, dx, xs, hH, rf_low _ fs xs ra ?_⟩
      rcases hc n _ q2 with z | z
      · have hn0 : n < w0.al.length := by rw [g0.len]; exact (List.getElem?_eq_some_iff.mp z).1
        have q0 : w0.al[n]? = some w0.al[n] := List.getElem?_eq_getElem hn0
        obtain ⟨_, _, ys, _, r0⟩ := g0.cell n _ _ q0 z
        exact lowF_of (by rw [g0.len]; exact hl) fs ys r0
      · exact z
    | dct ks =>
      obtain ⟨hF, us, hH, ra⟩ := ok
      refine ⟨hF, us, hH, ra.1, fun i k d q => ?_⟩
      obtain ⟨v, q5, rv⟩ := ra.2 i k d q
      refine ⟨v, q5, rp_low _ d v rv ?_⟩
      rcases hc n _ q2 with z | z
      · have hn0 : n < w0.al.length := by rw [g0.len]; exact (List.getElem?_eq_some_iff.mp z).1
        have q0 : w0.al[n]? = some w0.al[n] := List.getElem?_eq_getElem hn0
        obtain ⟨_, ys, _, r0⟩ := g0.cell n _ _ q0 z
        obtain ⟨v0, _, rv0⟩ := r0.2 i k d q
        exact low_of (by rw [g0.len]; exact hl) d v0 rv0
      · have z : (ks.all fun p => p.2.low S1.length) = true := z
        rw [List.all_eq_true] at z
        exact z (k, d) (List.mem_of_getElem? q)
    | dck ks =>
      obtain ⟨hF, us, hH, ra⟩ := ok
      refine ⟨hF, us, hH, rk_low _ ks us ra ?_⟩
      rcases hc n _ q2 with z | z
      · have hn0 : n < w0.al.length := by rw [g0.len]; exact (List.getElem?_eq_some_iff.mp z).1
        have q0 : w0.al[n]? = some w0.al[n] := List.getElem?_eq_getElem hn0
        obtain ⟨_, ys, _, r0⟩ := g0.cell n _ _ q0 z
        exact lowK_of (by rw [g0.len]; exact hl) ks ys r0
      · exact z
    | lck o us ks =>
      obtain ⟨hF, hH, ra⟩ := ok
      refine ⟨hF, hH, rk_low _ ks us ra ?_⟩
      rcases hc n _ q2 with z | z
      · have hn0 : n < w0.al.length := by rw [g0.len]; exact (List.getElem?_eq_some_iff.mp z).1
        have q0 : w0.al[n]? = some w0.al[n] := List.getElem?_eq_getElem hn0
        obtain ⟨_, _, r0⟩ := g0.cell n _ _ q0 z
        exact lowK_of (by rw [g0.len]; exact hl) ks us r0
      · exact z
end
theorem body_ok2 {K : PySem.W.Frag} {N : List Str} {t : TS} {T : TSd} {sp : DSpec} {E : XK} (hb : SemS K (WD E) t T) (h : ∀ ds S Φ Ψ, sp ds S Φ Ψ → T { nx := fun _ S' => RetOk S Φ S' .non, rt := RetOk S Φ, er := ErOk S Ψ } (gstart N ds) S) {vs : List V} {H : Hp} {Q : VK} (hs : spOf K sp vs H Q E) :
    t { nx := fun _ H' => Q .non H', rt := Q } (L2.start N vs) H := by
  obtain ⟨w, S, ds, Φ, Ψ, rfl, g, r, h1, q, hx⟩ := hs
  have qr : OkD K w (RetOk S Φ) Q := fun v d w' S' e' g' r' hr => by
    rcases hr with hr | ⟨S1, c, hl, hr⟩
    · exact q v d w' S' e' g' r' hr
    · obtain ⟨e2, g2⟩ := cut_ok g e' g' c
      exact q v d (w'.tk S1.length) S1 e2 g2 (rp_low _ d v r' hl) hr
  refine hb _ _ S _ w _ g (slots_start r) (h ds S Φ Ψ h1) ⟨fun σ' Γ' w' S' e' g' _ h' => qr .non .non w' S' e' g' .non h', qr, fun _ _ _ _ _ _ _ z => z.elim, fun _ _ _ _ _ _ _ z => z.elim, fun _ cv dx x w' S' e' g' r' h' => ?_⟩
  rcases h' with h' | ⟨S1, c, hl, h'⟩
  · exact hx cv dx x w' S' e' g' r' h'
  · obtain ⟨e2, g2⟩ := cut_ok g e' g' c
    refine hx cv dx x (w'.tk S1.length) S1 e2 g2 ⟨r'.1, ?_⟩ h'
    cases dx with
    | none => exact r'.2
    | some a =>
      obtain ⟨vs, k1, k2⟩ := r'.2
      exact ⟨vs, k1, rf_low _ _ _ k2 hl⟩
abbrev FunS (K : PySem.W.Frag) (x : Str) (st : Stmt) (f : Addr) (fd : FuncData) : Prop := FunD K x x (defArgs st) (defBody st) (defScope st) [] [] f fd
section
variable (P : Program) (wd : World) (K : PySem.W.Frag) (mg : Str → Option Value) (base : Heap)
/-- a callee by its name -/
structure Cal (x : Str) (st : Stmt) (k : Nat) (ps : List Str) (sp : DSpec) : Prop where
  ex : ∃ (f : Addr) (fd : FuncData), FnOk P wd K mg base (L2.CX P wd) k f fd ps (spOf K sp) ∧ mg x = some (.ref f) ∧ FunS K x st f fd ∧ Binds K fd ps []
structure CalG (x : Str) (st : Stmt) (k : Nat) (ps : List Str) (sp : DSpec) : Prop where
  ex : ∃ (f : Addr) (fd : FuncData), FnOkG P wd K mg base (L2.CX P wd) k f fd ps (spOf K sp) ∧ mg x = some (.ref f) ∧ FunS K x st f fd ∧ Binds K fd ps []
/-- a class of errors -/
structure ExcF (x : Str) (C : Addr) : Prop where
  q : PySem.W.excIn K C He.veBase "ValueError.__new__" = true
  g : mg x = some (.ref C)
  k : PySem.W.keepIn K (.ref C) = true
  b : PySem.W.subIn K (.ref C) (.type "BaseException") = some true
  t : PySem.W.typeIn K (.ref C) = some (.type "type")
/-- a def of the text -/
structure Tx (x : Str) (st : Stmt) : Prop where
  ex : ∃ (f : Addr) (fd : FuncData), FunS K x st f fd ∧ mg x = some (.ref f)
end
section
variable {P : Program} {wd : World} {K : PySem.W.Frag} {mg : Str → Option Value} {base : Heap} {x : Str} {st : Stmt} {k : Nat} {ps : List Str} {sp : DSpec}
theorem Cal.g (c : Cal P wd K mg base x st k ps sp) : CalG P wd K mg base x st k ps sp := let ⟨f, fd, h, r⟩ := c.ex; ⟨f, fd, FnOkG.of h, r⟩
theorem binds_of {f : Addr} {fd : FuncData} (F : FunS K x st f fd)
    (h : ∀ (kV doc pm : Value) (an : Option Addr) (cdv ct : Value) (us : List Value), us.length = ps.length → bindArgs (PySem.W.fnOf x x (defArgs st) (defBody st) (defScope st) .none kV doc pm an cdv ct) ⟨us, []⟩ = pure (ps.zip us)) : Binds K fd ps [] := F.bindsN h
theorem calG_ok {N : List Str} (F : Tx K mg x st)
    (hbind : ∀ (kV doc pm : Value) (an : Option Addr) (cdv ct : Value) (us : List Value), us.length = ps.length → bindArgs (PySem.W.fnOf x x (defArgs st) (defBody st) (defScope st) .none kV doc pm an cdv ct) ⟨us, []⟩ = pure (ps.zip us))
    (Sc : FnScope N ps (defScope st)) (len : ∀ ds S Φ Ψ, sp ds S Φ Ψ → ds.length = ps.length)
    (hbody : ∀ (f : Addr) (cdv : Value) (A : Around) (outer : List Env) (s : Shared) (H : Hp) (E : XK), (A.deeper (envOfC x (defScope st) s.heap.objs.size f cdv)).guards = some [] → Room k (A.deeper (envOfC x (defScope st) s.heap.objs.size f cdv)) →
      ∃ t T, JB (cxOf (L2.CX P wd) P wd K mg base N x (defScope st) f cdv A outer s H E) (WD E) (defBody st) t T ∧ ∀ ds S Φ Ψ, sp ds S Φ Ψ → T { nx := fun _ S' => RetOk S Φ S' .non, rt := RetOk S Φ, er := ErOk S Ψ } (gstart N ds) S) :
    CalG P wd K mg base x st (k + 1) ps sp := by
  obtain ⟨f, fd, F, hm⟩ := F.ex
  refine ⟨f, fd, ?_, hm, F, binds_of F hbind⟩
  obtain ⟨_, _, _, _, _, _, _, cdv, _, _, e, lk, hcd, _, _⟩ := F.ex
  subst e
  refine fn_ofG lk hcd Sc (fun vs H Q E h => ?_) fun A outer s H vs Q E hG hr hs => ?_
  · obtain ⟨w, S, ds, Φ, Ψ, _, _, r, h1, _⟩ := h
    rw [r.length]
    exact len ds S Φ Ψ h1
  · obtain ⟨t, T, jb, hq⟩ := hbody f cdv A outer s H E (by show A.guards = some []; exact hG) hr
    exact ⟨t, jb.pss, body_ok2 jb.sem hq hs⟩
end
section
variable {X : Cx} {W : WX} {e : Expr} {es : List Expr} {pos p : Pos} {tl tk' : TA} {Tl Tk : TL} {k n : Nat} {ps ks : List Str} {sp : DSpec} {x : Str} {st : Stmt} {kws : List Keyword}
theorem je_callCG (c : CalG X.prog X.w X.K X.mg X.base x st k ps sp) (gd : X.A.guards = some []) (hr : Room k X.A) (hg : Gl X x) (tk : Takes X W) (ha : JA X W (e :: es) tl Tl) (hdb : (x == ("__debug__" : Str)) = false := by decide)
    (he : starEach (e :: es) X.env = (false, eval e X.env) :: starEach es X.env := by rfl) (hpl : (backTo pos (starEach es X.env)).any (·.1) = false := by rfl) : JE X W (.Call (.Name x p) (e :: es) [] pos) (tCallS (spOf X.K sp) (WE W) tl) (dCall sp Tl) := by
  obtain ⟨f, fd, F, hm, hk, hb⟩ := c.ex
  exact je_callG F gd hr hg hm hk.kp hb tk ha hdb he hpl
theorem js_raiseC {m : Str} {C : Addr} {j : Nat} {p2 pos' : Pos} (c : ExcF X.K X.mg x C) (hc : X.calm = true) (tk : Takes X W) (hg : Gl X x) (hdb : (x == ("__debug__" : Str)) = false := by decide) :
    JS X W (.Raise (some (.Call (.Name x p) [.Constant (.str m) j p2] [] pos')) none pos) (fun _ σ H => (fun (_ : L2.St) (H : Hp) (Q : XK) => Q (.ref C) none H) σ H fun cls d H' => W cls d σ H') (sRaise C) := js_raise hc tk c.q c.g c.k c.b c.t hg hdb
/-- keywords -/
structure JK (X : Cx) (W : WX) (kws : List Keyword) (t : TA) (T : TL) : Prop where
  pk : PK X kws t
  sem : SemA X.K W t T
theorem jk_nil : JK X W [] tNil lNil := ⟨pk_nil, (ja_nil (X := X)).sem⟩
theorem jk_cons {nm : Option Str} {kpos : Pos} {te : TE} {Te : TD} (ha : JE X W e te Te) (hr : JK X W kws tl Tl) : JK X W (⟨nm, e, kpos⟩ :: kws) (tCons te tl) (lCons Te Tl) := ⟨pk_cons ha.pe hr.pk, fun Γ S Φ Ψ σ w g sl h hx Q q =>
  ha.sem Γ S _ Ψ σ w g sl h hx _ fun v d w1 S1 e1 g1 r1 h1 => hr.sem Γ S1 _ Ψ σ w1 g1 (sl.ext e1) h1 (hx.ext e1) _ fun vs ds w2 S2 e2 g2 r2 h2 => q _ _ w2 S2 (e1.trans e2) g2 (.cons (e2.rp r1) r2) h2⟩
def dCallK (n m : Nat) (sp : DSpec) (g : List D → List D → List D) (T Tk : TL) : TD := fun Γ S Φ Ψ => T Γ S (fun S1 ds => Tk Γ S1 (fun S2 es => ds.length = n ∧ es.length = m ∧ sp (g ds es) S2 Φ Ψ) Ψ) Ψ
end
end DL
namespace DL
open PySem PySem.Spec PyProof.Rows L2
section
variable {X : Cx} {W : WX} {a b c : Expr} {pos : Pos} {tl : TA} {Tl : TL}
def sPar3 (i j l : Nat) (T : TL) : TSd := fun D Γ S => T Γ S (fun S1 ds => ∃ x y z, ds = [x, y, z] ∧ D.nx (((Γ.set i (some x)).set j (some y)).set l (some z)) S1) D.er
theorem js_par3 (i j l : Nat) {x y z : Str} {px py pz pt : Pos} {kt k2 pt2} (hc : X.calm = true) (hN : X.N.Nodup) (ha : JA X W [a, b, c] tl Tl) (hij : i ≠ j := by decide) (hil : i ≠ l := by decide) (hjl : j ≠ l := by decide) (hi : X.N[i]? = some x := by rfl) (hj : X.N[j]? = some y := by rfl) (hl : X.N[l]? = some z := by rfl)
    (hx : X.env.scope.names.lookup x = some .local := by rfl) (hy : X.env.scope.names.lookup y = some .local := by rfl) (hz : X.env.scope.names.lookup z = some .local := by rfl)
    (hw : swappedStores [.Tuple [.Name x px, .Name y py, .Name z pz] kt pt] (.Tuple [a, b, c] k2 pt2) X.env = pure (some [x, y, z]) := by rfl)
    (hsw : swapsWithSole [.Tuple [.Name x px, .Name y py, .Name z pz] kt pt] (.Tuple [a, b, c] k2 pt2) pos.line X.env = pure false := by rfl) :
    JS X W (.Assign [.Tuple [.Name x px, .Name y py, .Name z pz] kt pt] (.Tuple [a, b, c] k2 pt2) pos) (tPar3 i j l tl) (sPar3 i j l Tl) :=
  ⟨ps_par3 hc hN hi hj hl hij hil hjl hx hy hz ha.pa hw hsw, fun D' Γ S σ w D g sl hT r =>
    ha.sem Γ S _ _ σ w g sl hT (r.er σ) _ fun vs ds w1 S1 e1 g1 r1 ⟨x, y, z, e, h1⟩ => by
      subst e
      cases r1 with
      | cons ra rb =>
        obtain ⟨v2, v3, rfl, rc, rd⟩ := two_of rb
        exact ⟨_, _, _, rfl, r.nx _ _ w1 S1 e1 g1 ((((sl.ext e1).set ra i).set rc j).set rd l) h1⟩⟩
end
def pick {α : Type} (perm : List Nat) (as es : List α) : List α := perm.filterMap fun i => (as ++ es)[i]?
theorem pick_vals {vs zs : List V} {us ws : List Value} (h : Vals vs us) (h2 : Vals zs ws) : ∀ perm : List Nat, Vals (pick perm vs zs) (pick perm us ws)
  | [] => .nil
  | i :: r => by
    have ih := pick_vals h h2 r
    have ap := Vals.append h h2
    unfold pick at ih ⊢
    rw [List.filterMap_cons, List.filterMap_cons]
    cases e : (vs ++ zs)[i]? with
    | none => rw [ap.none_of e]; exact ih
    | some v =>
      obtain ⟨u, e2, r2⟩ := ap.get e
      rw [e2]
      exact .cons r2 ih
theorem pick_ra {K : PySem.W.Frag} {w : Hs} {vs zs : List V} {ds es : List D} (h : Ra K w vs ds) (h2 : Ra K w zs es) : ∀ perm : List Nat, Ra K w (pick perm vs zs) (pick perm ds es)
  | [] => .nil
  | i :: r => by
    have ih := pick_ra h h2 r
    have ap := RpA.append h h2
    unfold pick at ih ⊢
    rw [List.filterMap_cons, List.filterMap_cons]
    cases e : (vs ++ zs)[i]? with
    | none =>
      have e2 : (ds ++ es)[i]? = none := by
        have h1 := List.getElem?_eq_none_iff.mp e
        rw [ap.length] at h1
        exact List.getElem?_eq_none h1
      rw [e2]; exact ih
    | some v =>
      obtain ⟨u, e2, r2⟩ := ap.getV e
      rw [e2]
      exact .cons r2 ih
/-- x += e of ints -/
theorem ipd_int {K : PySem.W.Frag} {f : Int → Int → Int} : IpD K (ipI f) (iOp0 fun i j => .int (f i j)) := fun w S x y u v Φ Q g r1 r2 h q => by
  cases u with
  | int i =>
    cases v with
    | int j => exact ⟨i, j, rv_int r1, rv_int r2, q _ _ w S (Ext.refl w) g (.int _) h⟩
    | _ => exact h.elim
  | _ => cases v <;> exact h.elim
/-- an item by an open place: all items will do -/
theorem ix_all {α : Type} {xs : List α} {i : Int} (h0 : 0 ≤ i) (h1 : i < xs.length) : ∃ x, atI xs i = some x ∧ x ∈ xs := by
  refine ⟨xs[i.toNat]'(by omega), ?_, List.getElem_mem _⟩
  have e : ixN xs.length i = some i.toNat := by
    unfold ixN
    rw [if_pos h0, if_pos h1]
  unfold atI
  rw [e]
  exact List.getElem?_eq_getElem (by omega)
theorem lowA_map {α : Type} (n : Nat) (f : α → D) (h : ∀ x, (f x).low n = true) : ∀ xs : List α, lowA n (xs.map f) = true
  | [] => by simp [lowA]
  | x :: xs => by rw [List.map_cons, lowA, lowA_map n f h xs, h] <;> rfl
theorem get_app {S T : Sto} {h : Nat} {c : Cell} (e : S[h]? = some c) : (S ++ T)[h]? = some c := by
  rw [List.getElem?_append_left (List.getElem?_eq_some_iff.mp e).1]
  exact e
theorem get_at {S T : Sto} {c : Cell} : (S ++ c :: T)[S.length]? = some c := by
  rw [List.getElem?_append_right (Nat.le_refl _), Nat.sub_self] <;> rfl
theorem set_app {S T : Sto} {h : Nat} {c : Cell} (e : h < S.length) : (S ++ T).set h c = S.set h c ++ T := List.set_append_left h c e
theorem set_at {S T : Sto} {b c : Cell} : (S ++ b :: T).set S.length c = S ++ c :: T := by
  rw [List.set_append_right _ _ (Nat.le_refl _), Nat.sub_self] <;> rfl
def FdC (n : Nat) (c : Cell) : Prop := ∃ a b k : Int, c = .lst [.int a, .int b, .int k] ∧ 0 ≤ a ∧ 0 ≤ b ∧ b < 2 ^ 200 ∧ 0 ≤ k ∧ k ≤ n
def FdAt (S : Sto) (h : Nat) (n : Nat) : Prop := ∃ c, S[h]? = some c ∧ FdC n c
/-- S' is S but for the feed at h -/
def Fs (h n : Nat) (S S' : Sto) : Prop := ∃ c, FdC n c ∧ S' = S.set h c
theorem FdC.mono {n m : Nat} {c : Cell} (h : FdC n c) (l : n ≤ m) : FdC m c := by
  obtain ⟨a, b, k, e, h1, h2, h3, h4, h5⟩ := h
  exact ⟨a, b, k, e, h1, h2, h3, h4, by omega⟩
theorem FdAt.mono {S : Sto} {h n m : Nat} (f : FdAt S h n) (l : n ≤ m) : FdAt S h m := let ⟨c, e, q⟩ := f; ⟨c, e, q.mono l⟩
theorem FdAt.lt {S : Sto} {h n : Nat} (f : FdAt S h n) : h < S.length := let ⟨_, e, _⟩ := f; (List.getElem?_eq_some_iff.mp e).1
theorem Fs.mono {h n m : Nat} {S S' : Sto} (f : Fs h n S S') (l : n ≤ m) : Fs h m S S' := let ⟨c, q, e⟩ := f; ⟨c, q.mono l, e⟩
theorem Fs.at {h n : Nat} {S S' : Sto} (f : Fs h n S S') (hl : h < S.length) : FdAt S' h n := by
  obtain ⟨c, q, rfl⟩ := f
  exact ⟨c, by rw [List.getElem?_set_self hl], q⟩
theorem Fs.refl {h n : Nat} {S : Sto} (f : FdAt S h n) : Fs h n S S := by
  obtain ⟨c, e, q⟩ := f
  refine ⟨c, q, ?_⟩
  obtain ⟨hl, e2⟩ := List.getElem?_eq_some_iff.mp e
  rw [← e2, List.set_getElem_self]
theorem Fs.trans {h n m : Nat} {S S1 S2 : Sto} (a : Fs h n S S1) (b : Fs h m S1 S2) : Fs h m S S2 := by
  obtain ⟨c, _, rfl⟩ := a
  obtain ⟨c2, q, rfl⟩ := b
  exact ⟨c2, q, by rw [List.set_set]⟩
theorem Fs.len {h n : Nat} {S S' : Sto} (f : Fs h n S S') : S'.length = S.length := by
  obtain ⟨c, _, rfl⟩ := f
  rw [List.length_set]
/-- cells behind it stay -/
theorem Fs.app {h n : Nat} {S T S' : Sto} (f : Fs h n (S ++ T) S') (hl : h < S.length) : ∃ S1, Fs h n S S1 ∧ S' = S1 ++ T := by
  obtain ⟨c, q, rfl⟩ := f
  exact ⟨S.set h c, ⟨c, q, rfl⟩, set_app hl⟩
theorem FdAt.app {S T : Sto} {h n : Nat} (f : FdAt S h n) : FdAt (S ++ T) h n := let ⟨c, e, q⟩ := f; ⟨c, get_app e, q⟩
theorem Fs.get {h n i : Nat} {S S' : Sto} {c : Cell} (f : Fs h n S S') (e : S[i]? = some c) (hi : h ≠ i) : S'[i]? = some c := by
  obtain ⟨c2, _, rfl⟩ := f
  rw [List.getElem?_set_ne hi]
  exact e
/-- a def that draws: behind it the feed is a feed, by at most n draws more -/
theorem cut_feed {h n : Nat} {S S1 cs : Sto} (f : Fs h n S S1) : Cut S S1 (S1 ++ cs) := by
  refine ⟨by rw [f.len]; exact Nat.le_refl _, List.prefix_append _ _, fun i c e => ?_⟩
  obtain ⟨c2, ⟨a, b, k, ec, _⟩, rfl⟩ := f
  by_cases hi : h = i
  · subst hi
    by_cases hl : h < S.length
    · rw [List.getElem?_set_self hl] at e
      cases e
      subst ec
      exact .inr (by simp [Cell.low, lowA, D.low])
    · rw [List.getElem?_eq_none (by rw [List.length_set]; omega)] at e
      cases e
  · rw [List.getElem?_set_ne hi] at e
    exact .inl e
theorem ret_feed {h n : Nat} {S S1 cs : Sto} {Φ : KD} {d : D} (f : Fs h n S S1) (hl : d.low S1.length = true) (q : Φ S1 d) : RetOk S Φ (S1 ++ cs) d := .inr ⟨S1, cut_feed f, hl, q⟩
end DL
namespace DL
open PySem PySem.Spec PyProof.Rows L2
def fzLD : List D → Sto → (Sto → List D → Prop) → Prop
  | [], S, Φ => Φ S []
  | d :: ds, S, Φ => fzD d S fun S1 d' => fzLD ds S1 fun S2 ds' => Φ S2 (d' :: ds')
theorem fzL_ok {K : PySem.W.Frag} : ∀ {ds : List D} {vs : List V} {w : Hs} {S : Sto} {Φ : Sto → List D → Prop} {Q : List V → Hp → Prop}, Good K w S → Ra K w vs ds → fzLD ds S Φ → OkL K w Φ Q → Q vs w.H
  | [], _, w, S, Φ, Q, g, .nil, h, q => q [] [] w S (Ext.refl w) g .nil h
  | d :: ds, v :: vs, w, S, Φ, Q, g, .cons r1 r2, h, q => by
    refine fz_ok (Q := fun v' H' => Q (v' :: vs) H') g r1 h fun v' d' w' S' e' g' r' h' => ?_
    exact fzL_ok (Q := fun vs' H' => Q (v' :: vs') H') g' (e'.ra r2) h' fun vs2 ds2 w2 S2 e2 g2 ra2 h2 => q _ _ w2 S2 (e'.trans e2) g2 (.cons (e2.rp r') ra2) h2
def fzD2 (d : D) (S : Sto) (Φ : KD) : Prop := match d with
  | .own h => ∃ ds, S[h]? = some (.lst ds) ∧ fzLD ds (S.set h .gone) fun S' ds' => Φ S' (.lst ds')
  | d => Φ S d
def dFz2 (T : TD) : TD := fun Γ S Φ Ψ => T Γ S (fun S1 d => fzD2 d S1 Φ) Ψ
theorem fz2_ok {K : PySem.W.Frag} {w : Hs} {S : Sto} (g : Good K w S) {Φ : KD} {Q : VK} {v : V} {d : D} (r : Rv K w v d) (h : fzD2 d S Φ) (q : OkD K w Φ Q) : Q v w.H := by
  have other : Φ S d → Q v w.H := fun z => q v d w S (Ext.refl w) g r z
  cases d with
  | own hh =>
    obtain ⟨ds, e, hΦ⟩ := h
    obtain ⟨a, xs, rfl, ha, hH, ra⟩ := own_at g r e
    have hm : a ∈ w.al := List.mem_of_getElem? ha
    have hF : w.F a = none := (g.cell hh a _ ha e).1
    have ee : Ext w (w.fz a (.lst xs)) := Ext.fz hm hF
    refine fzL_ok (Q := fun vs' H' => vs' = xs → Q (.ref a) H') (w := w.fz a (.lst xs)) (g.fz ha e hH) (ee.ra ra) hΦ (fun vs' ds' w2 S2 e2 g2 r2 h2 hv => ?_) rfl
    subst hv
    exact q (.ref a) (.lst ds') w2 S2 (ee.trans e2) g2 (.lst (e2.f _ _ upd_same) r2) h2
  | _ => exact other h
theorem je_fz2 {X : Cx} {W : WX} {e : Expr} {t : TE} {T : TD} (h : JE X W e t T) : JE X W e t (dFz2 T) := ⟨h.pe, fun Γ S Φ Ψ σ w g sl hT hx Q q =>
  h.sem Γ S _ Ψ σ w g sl hT hx Q fun v d w1 S1 e1 g1 r1 h1 => fz2_ok g1 r1 h1 (q.ext e1)⟩
section
variable {S : Sto} {Φ : KD} {i j : Int} {ds es : List D} {k : Bool}
theorem ex1 {α : Type} {a : α} {P : α → Prop} : (∃ x, [a] = [x] ∧ P x) ↔ P a := ⟨fun ⟨x, e, h⟩ => by cases e; exact h, fun h => ⟨a, rfl, h⟩⟩
theorem ex2 {α : Type} {a b : α} {P : α → α → Prop} : (∃ x y, [a, b] = [x, y] ∧ P x y) ↔ P a b := ⟨fun ⟨x, y, e, h⟩ => by cases e; exact h, fun h => ⟨a, b, rfl, h⟩⟩
theorem ex3 {α : Type} {a b c : α} {P : α → α → α → Prop} : (∃ x y z, [a, b, c] = [x, y, z] ∧ P x y z) ↔ P a b c := ⟨fun ⟨x, y, z, e, h⟩ => by cases e; exact h, fun h => ⟨a, b, c, rfl, h⟩⟩
theorem exB {b : Bool} {P : Bool → Prop} : (∃ k, D.bl b = .bl k ∧ P k) ↔ P b := ⟨fun ⟨x, e, h⟩ => by cases e; exact h, fun h => ⟨b, rfl, h⟩⟩
theorem exI {b : Int} {P : Int → Prop} : (∃ k, D.int b = .int k ∧ P k) ↔ P b := ⟨fun ⟨x, e, h⟩ => by cases e; exact h, fun h => ⟨b, rfl, h⟩⟩
theorem exI1 {b : Int} {P : Int → Prop} : (∃ k, [D.int b] = [.int k] ∧ P k) ↔ P b := ⟨fun ⟨x, e, h⟩ => by cases e; exact h, fun h => ⟨b, rfl, h⟩⟩
theorem exI2 {a b : Int} {P : Int → Int → Prop} : (∃ i j, [D.int a, D.int b] = [.int i, .int j] ∧ P i j) ↔ P a b := ⟨fun ⟨x, y, e, h⟩ => by cases e; exact h, fun h => ⟨a, b, rfl, h⟩⟩
theorem exS {α : Type} {a : α} {P : α → Prop} : (∃ d, some a = some d ∧ P d) ↔ P a := ⟨fun ⟨x, e, h⟩ => by cases e; exact h, fun h => ⟨a, rfl, h⟩⟩
theorem exSS {α : Type} {a : α} {P : α → Prop} : (∃ d, some (some a) = some (some d) ∧ P d) ↔ P a := ⟨fun ⟨x, e, h⟩ => by cases e; exact h, fun h => ⟨a, rfl, h⟩⟩
theorem exT {ts : List D} {P : List D → Prop} : (∃ ds, D.tup ts = .tup ds ∧ P ds) ↔ P ts := ⟨fun ⟨x, e, h⟩ => by cases e; exact h, fun h => ⟨ts, rfl, h⟩⟩
theorem exC {α : Type} {a : α} {l : List α} {P : α → List α → Prop} : (∃ d r, a :: l = d :: r ∧ P d r) ↔ P a l := ⟨fun ⟨x, y, e, h⟩ => by cases e; exact h, fun h => ⟨a, l, rfl, h⟩⟩
theorem exL {a : List D} {P : List D → Prop} : (∃ d, some (Cell.lst a) = some (.lst d) ∧ P d) ↔ P a := ⟨fun ⟨x, e, h⟩ => by cases e; exact h, fun h => ⟨a, rfl, h⟩⟩
theorem exAs {a : List D} {P : List D → Prop} : (∃ xs, some a = some xs ∧ P xs) ↔ P a := ⟨fun ⟨x, e, h⟩ => by cases e; exact h, fun h => ⟨a, rfl, h⟩⟩
theorem dAdd_i : dAdd (.int i) (.int j) S Φ = Φ S (.int (i + j)) := rfl
theorem dAdd_l : dAdd (.lst ds) (.lst es) S Φ = (ds.length + es.length ≤ sizeLine ∧ Φ S (.lst (ds ++ es))) := by
  show (∃ xs ys, some ds = some xs ∧ some es = some ys ∧ xs.length + ys.length ≤ sizeLine ∧ Φ S (.lst (xs ++ ys))) = _
  exact propext ⟨fun ⟨_, _, e1, e2, h⟩ => by cases e1; cases e2; exact h, fun h => ⟨_, _, rfl, rfl, h⟩⟩
theorem dSub_i : dSub (.int i) (.int j) S Φ = Φ S (.int (i - j)) := rfl
theorem dMul_i : dMul (.int i) (.int j) S Φ = (CMulA i j ∧ Φ S (.int (i * j))) := rfl
theorem dMul_l : dMul (.lst ds) (.int j) S Φ = (-(2 ^ 63) ≤ j ∧ j < 2 ^ 63 ∧ ds.length * j.toNat ≤ sizeLine ∧ Φ S (.lst ((List.replicate j.toNat ds).flatten))) := by
  show (∃ xs, some ds = some xs ∧ _) = _
  exact propext exAs
theorem dMod_i : dMod (.int i) (.int j) S Φ = (0 < j ∧ Φ S (.int (i % j))) := rfl
theorem dDiv_i : dDiv (.int i) (.int j) S Φ = (CDivW i j ∧ Φ S (.int (i / j))) := rfl
theorem dPow_i : dPow (.int i) (.int j) S Φ = (CPowW i j ∧ Φ S (.int (i ^ j.toNat))) := rfl
theorem dLt_i : dLt (.int i) (.int j) S Φ = Φ S (.bl (decide (i < j))) := rfl
theorem dLe_i : dLe (.int i) (.int j) S Φ = Φ S (.bl (decide (i ≤ j))) := rfl
theorem dGt_i : dGt (.int i) (.int j) S Φ = Φ S (.bl (decide (j < i))) := rfl
theorem dGe_i : dGe (.int i) (.int j) S Φ = Φ S (.bl (decide (j ≤ i))) := rfl
theorem uNeg_i : uNeg (.int i) S Φ = Φ S (.int (-i)) := rfl
theorem cMax2_i : cMax2 [.int i, .int j] S Φ = Φ S (.int (if j > i then j else i)) := rfl
theorem cMin2_i : cMin2 [.int i, .int j] S Φ = Φ S (.int (if j < i then j else i)) := rfl
theorem cAbs_i : cAbs [.int i] S Φ = Φ S (.int (if i < 0 then -i else i)) := rfl
theorem cInt_i : cInt [.int i] S Φ = Φ S (.int i) := rfl
theorem cInt_b : cInt [.bl k] S Φ = Φ S (.int (if k then 1 else 0)) := rfl
theorem cLen_l : cLen [.lst ds] S Φ = Φ S (.int ds.length) := by
  show (∃ xs, some ds = some xs ∧ Φ S (.int xs.length)) = _
  exact propext exAs
theorem cLen_q : cLen [.sq ds] S Φ = Φ S (.int ds.length) := by
  show (∃ xs, some ds = some xs ∧ Φ S (.int xs.length)) = _
  exact propext exAs
theorem cLen_t : cLen [.tup ds] S Φ = Φ S (.int ds.length) := by
  show (∃ xs, some ds = some xs ∧ Φ S (.int xs.length)) = _
  exact propext exAs
theorem cList_l : cList [.lst ds] S Φ = Φ S (.lst ds) := propext exAs
theorem cList_q : cList [.sq ds] S Φ = Φ S (.lst ds) := propext exAs
theorem cList_t : cList [.tup ds] S Φ = Φ S (.lst ds) := propext exAs
theorem cListO_l : cListO [.lst ds] S Φ = Φ (S ++ [.lst ds]) (.own S.length) := propext exAs
theorem cListO_t : cListO [.tup ds] S Φ = Φ (S ++ [.lst ds]) (.own S.length) := propext exAs
theorem dIx_l : dIx (.lst ds) (.int i) S Φ = ∃ d, atI ds i = some d ∧ Φ S d := by
  show (∃ es d, some ds = some es ∧ atI es i = some d ∧ Φ S d) = _
  exact propext ⟨fun ⟨_, d, e, h⟩ => by cases e; exact ⟨d, h⟩, fun ⟨d, h⟩ => ⟨_, d, rfl, h⟩⟩
theorem dIx_q : dIx (.sq ds) (.int i) S Φ = ∃ d, atI ds i = some d ∧ Φ S d := by
  show (∃ es d, some ds = some es ∧ atI es i = some d ∧ Φ S d) = _
  exact propext ⟨fun ⟨_, d, e, h⟩ => by cases e; exact ⟨d, h⟩, fun ⟨d, h⟩ => ⟨_, d, rfl, h⟩⟩
theorem dIx_t : dIx (.tup ds) (.int i) S Φ = ∃ d, atI ds i = some d ∧ Φ S d := by
  show (∃ es d, some ds = some es ∧ atI es i = some d ∧ Φ S d) = _
  exact propext ⟨fun ⟨_, d, e, h⟩ => by cases e; exact ⟨d, h⟩, fun ⟨d, h⟩ => ⟨_, d, rfl, h⟩⟩
theorem dIx_o {h : Nat} : dIx (.own h) (.int i) S Φ = ∃ ds d, S[h]? = some (.lst ds) ∧ atI ds i = some d ∧ Φ S d := by
  show (∃ es d, asS S (.own h) = some es ∧ atI es i = some d ∧ Φ S d) = _
  refine propext ⟨fun ⟨es, d, e, q⟩ => ?_, fun ⟨es, d, e, q⟩ => ⟨es, d, ?_, q⟩⟩
  · have e : (match S[h]? with | some (.lst ds) => some ds | _ => none) = some es := e
    split at e
    · cases e; exact ⟨es, d, by assumption, q⟩
    · cases e
  · show (match S[h]? with | some (.lst ds) => some ds | _ => none) = some es
    rw [e]
theorem dSlL_l {lo hi : Option Int} : dSlL (.lst ds) lo hi S Φ = Φ S (.lst (cutD ds lo hi)) := propext exAs
theorem dSlL_q {lo hi : Option Int} : dSlL (.sq ds) lo hi S Φ = Φ S (.lst (cutD ds lo hi)) := propext exAs
theorem asQ_l : asQ S (.lst ds) = some ds := rfl
theorem asL_l : asL S (.lst ds) = some ds := rfl
theorem asL_at' {h : Nat} (e : S[h]? = some (.lst ds)) : asL S (.own h) = some ds := by
  show (match S[h]? with | some (.lst ds) => some ds | _ => none) = some ds
  rw [e]
theorem asQ_at' {h : Nat} (e : S[h]? = some (.lst ds)) : asQ S (.own h) = some ds := by
  show (match S[h]? with | some (.lst ds) => some ds | _ => none) = some ds
  rw [e]
theorem cIsi_of {d : D} {a n : String} (e : tyOf S d = some a) (h : n ∈ tyN := by decide) : cIsi [d, .ty n] S Φ = Φ S (.bl (isTyB a n)) := by
  show (∃ a, tyOf S d = some a ∧ n ∈ tyN ∧ Φ S (.bl (isTyB a n))) = _
  rw [e]
  exact propext ⟨fun ⟨_, e, _, z⟩ => by cases e; exact z, fun z => ⟨_, rfl, h, z⟩⟩
theorem isi_non_int  : cIsi [.non, .ty "int"] S Φ = Φ S (.bl false) := cIsi_of (a := "NoneType") rfl
theorem isi_non_bool  : cIsi [.non, .ty "bool"] S Φ = Φ S (.bl false) := cIsi_of (a := "NoneType") rfl
theorem isi_non_str  : cIsi [.non, .ty "str"] S Φ = Φ S (.bl false) := cIsi_of (a := "NoneType") rfl
theorem isi_non_list  : cIsi [.non, .ty "list"] S Φ = Φ S (.bl false) := cIsi_of (a := "NoneType") rfl
theorem isi_non_tuple  : cIsi [.non, .ty "tuple"] S Φ = Φ S (.bl false) := cIsi_of (a := "NoneType") rfl
theorem isi_non_dict  : cIsi [.non, .ty "dict"] S Φ = Φ S (.bl false) := cIsi_of (a := "NoneType") rfl
theorem isi_bl_int {b : Bool} : cIsi [.bl b, .ty "int"] S Φ = Φ S (.bl true) := cIsi_of (a := "bool") rfl
theorem isi_bl_bool {b : Bool} : cIsi [.bl b, .ty "bool"] S Φ = Φ S (.bl true) := cIsi_of (a := "bool") rfl
theorem isi_bl_str {b : Bool} : cIsi [.bl b, .ty "str"] S Φ = Φ S (.bl false) := cIsi_of (a := "bool") rfl
theorem isi_bl_list {b : Bool} : cIsi [.bl b, .ty "list"] S Φ = Φ S (.bl false) := cIsi_of (a := "bool") rfl
theorem isi_bl_tuple {b : Bool} : cIsi [.bl b, .ty "tuple"] S Φ = Φ S (.bl false) := cIsi_of (a := "bool") rfl
theorem isi_bl_dict {b : Bool} : cIsi [.bl b, .ty "dict"] S Φ = Φ S (.bl false) := cIsi_of (a := "bool") rfl
theorem isi_int_int  : cIsi [.int i, .ty "int"] S Φ = Φ S (.bl true) := cIsi_of (a := "int") rfl
theorem isi_int_bool  : cIsi [.int i, .ty "bool"] S Φ = Φ S (.bl false) := cIsi_of (a := "int") rfl
theorem isi_int_str  : cIsi [.int i, .ty "str"] S Φ = Φ S (.bl false) := cIsi_of (a := "int") rfl
theorem isi_int_list  : cIsi [.int i, .ty "list"] S Φ = Φ S (.bl false) := cIsi_of (a := "int") rfl
theorem isi_int_tuple  : cIsi [.int i, .ty "tuple"] S Φ = Φ S (.bl false) := cIsi_of (a := "int") rfl
theorem isi_int_dict  : cIsi [.int i, .ty "dict"] S Φ = Φ S (.bl false) := cIsi_of (a := "int") rfl
theorem isi_str_int {z : Str} : cIsi [.str z, .ty "int"] S Φ = Φ S (.bl false) := cIsi_of (a := "str") rfl
theorem isi_str_bool {z : Str} : cIsi [.str z, .ty "bool"] S Φ = Φ S (.bl false) := cIsi_of (a := "str") rfl
theorem isi_str_str {z : Str} : cIsi [.str z, .ty "str"] S Φ = Φ S (.bl true) := cIsi_of (a := "str") rfl
theorem isi_str_list {z : Str} : cIsi [.str z, .ty "list"] S Φ = Φ S (.bl false) := cIsi_of (a := "str") rfl
theorem isi_str_tuple {z : Str} : cIsi [.str z, .ty "tuple"] S Φ = Φ S (.bl false) := cIsi_of (a := "str") rfl
theorem isi_str_dict {z : Str} : cIsi [.str z, .ty "dict"] S Φ = Φ S (.bl false) := cIsi_of (a := "str") rfl
theorem isi_lst_int  : cIsi [.lst ds, .ty "int"] S Φ = Φ S (.bl false) := cIsi_of (a := "list") rfl
theorem isi_lst_bool  : cIsi [.lst ds, .ty "bool"] S Φ = Φ S (.bl false) := cIsi_of (a := "list") rfl
theorem isi_lst_str  : cIsi [.lst ds, .ty "str"] S Φ = Φ S (.bl false) := cIsi_of (a := "list") rfl
theorem isi_lst_list  : cIsi [.lst ds, .ty "list"] S Φ = Φ S (.bl true) := cIsi_of (a := "list") rfl
theorem isi_lst_tuple  : cIsi [.lst ds, .ty "tuple"] S Φ = Φ S (.bl false) := cIsi_of (a := "list") rfl
theorem isi_lst_dict  : cIsi [.lst ds, .ty "dict"] S Φ = Φ S (.bl false) := cIsi_of (a := "list") rfl
theorem isi_sq_int  : cIsi [.sq ds, .ty "int"] S Φ = Φ S (.bl false) := cIsi_of (a := "list") rfl
theorem isi_sq_bool  : cIsi [.sq ds, .ty "bool"] S Φ = Φ S (.bl false) := cIsi_of (a := "list") rfl
theorem isi_sq_str  : cIsi [.sq ds, .ty "str"] S Φ = Φ S (.bl false) := cIsi_of (a := "list") rfl
theorem isi_sq_list  : cIsi [.sq ds, .ty "list"] S Φ = Φ S (.bl true) := cIsi_of (a := "list") rfl
theorem isi_sq_tuple  : cIsi [.sq ds, .ty "tuple"] S Φ = Φ S (.bl false) := cIsi_of (a := "list") rfl
theorem isi_sq_dict  : cIsi [.sq ds, .ty "dict"] S Φ = Φ S (.bl false) := cIsi_of (a := "list") rfl
theorem isi_tup_int  : cIsi [.tup ds, .ty "int"] S Φ = Φ S (.bl false) := cIsi_of (a := "tuple") rfl
theorem isi_tup_bool  : cIsi [.tup ds, .ty "bool"] S Φ = Φ S (.bl false) := cIsi_of (a := "tuple") rfl
theorem isi_tup_str  : cIsi [.tup ds, .ty "str"] S Φ = Φ S (.bl false) := cIsi_of (a := "tuple") rfl
theorem isi_tup_list  : cIsi [.tup ds, .ty "list"] S Φ = Φ S (.bl false) := cIsi_of (a := "tuple") rfl
theorem isi_tup_tuple  : cIsi [.tup ds, .ty "tuple"] S Φ = Φ S (.bl true) := cIsi_of (a := "tuple") rfl
theorem isi_tup_dict  : cIsi [.tup ds, .ty "dict"] S Φ = Φ S (.bl false) := cIsi_of (a := "tuple") rfl
theorem isi_dic_int {kv : List (Key × D)} : cIsi [.dic kv, .ty "int"] S Φ = Φ S (.bl false) := cIsi_of (a := "dict") rfl
theorem isi_dic_bool {kv : List (Key × D)} : cIsi [.dic kv, .ty "bool"] S Φ = Φ S (.bl false) := cIsi_of (a := "dict") rfl
theorem isi_dic_str {kv : List (Key × D)} : cIsi [.dic kv, .ty "str"] S Φ = Φ S (.bl false) := cIsi_of (a := "dict") rfl
theorem isi_dic_list {kv : List (Key × D)} : cIsi [.dic kv, .ty "list"] S Φ = Φ S (.bl false) := cIsi_of (a := "dict") rfl
theorem isi_dic_tuple {kv : List (Key × D)} : cIsi [.dic kv, .ty "tuple"] S Φ = Φ S (.bl false) := cIsi_of (a := "dict") rfl
theorem isi_dic_dict {kv : List (Key × D)} : cIsi [.dic kv, .ty "dict"] S Φ = Φ S (.bl true) := cIsi_of (a := "dict") rfl
theorem at_0 {α : Type} {a : α} {l : List α} : atI (a :: l) 0 = some a := by
  unfold atI ixN
  rw [if_pos (by decide), if_pos (by rw [List.length_cons]; omega)]
  rfl
theorem at_nat {α : Type} {l : List α} {n : Nat} : atI l (n : Int) = l[n]? := by
  unfold atI ixN
  rw [if_pos (by omega)]
  by_cases h : n < l.length
  · rw [if_pos (by omega)]; rfl
  · rw [if_neg (by omega), List.getElem?_eq_none (by omega)] <;> rfl
theorem dIx_p {p : D → Prop} (h0 : 0 ≤ i) (h1 : i < ds.length) (hp : ∀ d ∈ ds, p d) (k : ∀ d, p d → Φ S d) : dIx (.lst ds) (.int i) S Φ := by
  rw [dIx_l]
  obtain ⟨x, e, m⟩ := ix_all h0 h1
  exact ⟨x, e, k x (hp x m)⟩
end
theorem strOk_lit {s : String} : PyData.strOk (Str.ofString s) = true := by
  unfold PyData.strOk
  rw [Str.ofString_eq_toList, List.all_toArray, List.all_eq_true]
  intro x hx
  obtain ⟨c, _, rfl⟩ := List.mem_map.mp hx
  have h : UInt32.isValidChar c.val := c.valid
  simp only [UInt32.isValidChar, Nat.isValidChar] at h
  rw [decide_eq_true_eq]
  show c.val.toNat < _
  omega
theorem strOk_app {a b : Str} (h : PyData.strOk a = true) (h2 : PyData.strOk b = true) : PyData.strOk (a ++ b) = true := by
  unfold PyData.strOk at h h2 ⊢
  show (a.cps ++ b.cps).all _ = true
  rw [Array.all_append, h, h2]
  rfl
theorem strOk_from : ∀ {ts : List Str} {k : Nat} {acc : Str}, PyData.strOk acc = true → (∀ t ∈ ts, PyData.strOk t = true) → PyData.strOk (textFrom k acc ts) = true
  | [], _, _, h, _ => h
  | t :: ts, k, acc, h, h2 => strOk_from (ts := ts) (k := k + 1) (acc := acc ++ (if k > 0 then ", " else "" : String) ++ t) (strOk_app (strOk_app h strOk_lit) (h2 t List.mem_cons_self)) fun u hu => h2 u (List.mem_cons_of_mem _ hu)
theorem strOk_listText {ts : List Str} (h : ∀ t ∈ ts, PyData.strOk t = true) : PyData.strOk (listText ts) = true := strOk_app (strOk_from strOk_lit h) strOk_lit
theorem len_app (a b : Str) : (a ++ b).length = a.length + b.length := strLen_append a b
theorem from_le {m : Nat} : ∀ {ts : List Str} {k : Nat} {acc : Str}, (∀ t ∈ ts, t.length ≤ m) → (textFrom k acc ts).length ≤ acc.length + ts.length * (m + 2)
  | [], _, acc, _ => by show acc.length ≤ _; omega
  | t :: ts, k, acc, h => by
    have ih := from_le (m := m) (ts := ts) (k := k + 1) (acc := acc ++ (if k > 0 then ", " else "" : String) ++ t) fun u hu => h u (List.mem_cons_of_mem _ hu)
    have h1 := h t List.mem_cons_self
    have e : (Str.ofString (if k > 0 then ", " else "")).length ≤ 2 := by
      split
      · rw [PySem.ofString_length]; decide
      · rw [PySem.ofString_length]; decide
    rw [len_app, len_app] at ih
    show (textFrom (k + 1) _ ts).length ≤ _
    rw [List.length_cons, Nat.succ_mul]
    omega
theorem listText_le {m : Nat} {ts : List Str} (h : ∀ t ∈ ts, t.length ≤ m) : (listText ts).length ≤ 2 + ts.length * (m + 2) := by
  unfold listText
  rw [len_app]
  have h1 := from_le (m := m) (k := 0) (acc := "[") h
  have e1 : (Str.ofString "[").length = 1 := by rw [PySem.ofString_length] <;> rfl
  have e2 : (Str.ofString "]").length = 1 := by rw [PySem.ofString_length] <;> rfl
  omega
/-- data of a depth and of a text within bounds -/
structure Fit (n m : Nat) (p : PyData) : Prop where
  can : p.canLay0 = true
  show_ : p.showable = true
  plain : p.hasDict = false
  deep : p.depth ≤ n
  text : PyData.strOk p.shown = true
  len : p.shown.length ≤ m
theorem Fit.mono {n m n' m' : Nat} {p : PyData} (h : Fit n m p) (a : n ≤ n') (b : m ≤ m') : Fit n' m' p := ⟨h.can, h.show_, h.plain, Nat.le_trans h.deep a, h.text, Nat.le_trans h.len b⟩
theorem shownAll_mem {t : Str} : ∀ {ps : List PyData}, t ∈ PyData.shownAll ps → ∃ p ∈ ps, p.shown = t
  | [], h => by rw [PyData.shownAll] at h; cases h
  | p :: ps, h => by
    rw [PyData.shownAll] at h
    rcases List.mem_cons.mp h with e | h
    · exact ⟨p, List.mem_cons_self, e.symm⟩
    · obtain ⟨q, hq, e⟩ := shownAll_mem h
      exact ⟨q, List.mem_cons_of_mem _ hq, e⟩
theorem shownAll_len : ∀ ps : List PyData, (PyData.shownAll ps).length = ps.length
  | [] => by rw [PyData.shownAll] <;> rfl
  | p :: ps => by rw [PyData.shownAll, List.length_cons, List.length_cons, shownAll_len ps]
theorem fits_all {n m : Nat} : ∀ {ps : List PyData}, (∀ p ∈ ps, Fit n m p) → PyData.canLayAll0 ps = true ∧ PyData.showableAll ps = true ∧ PyData.hasDictAll ps = false ∧ PyData.depthAll ps ≤ n
  | [], _ => by simp [PyData.canLayAll0, PyData.showableAll, PyData.hasDictAll, PyData.depthAll]
  | p :: ps, h => by
    obtain ⟨a, b, c, d⟩ := fits_all (n := n) (m := m) (ps := ps) fun q hq => h q (List.mem_cons_of_mem _ hq)
    have f := h p List.mem_cons_self
    rw [PyData.canLayAll0, PyData.showableAll, PyData.hasDictAll, PyData.depthAll, f.can, f.show_, f.plain, a, b, c]
    exact ⟨rfl, rfl, rfl, Nat.max_le.mpr ⟨f.deep, d⟩⟩
theorem fit_list {n m l : Nat} {ps : List PyData} (h : ∀ p ∈ ps, Fit n m p) (hl : ps.length ≤ l) : Fit (n + 1) (2 + l * (m + 2)) (.list ps) := by
  obtain ⟨a, b, c, d⟩ := fits_all h
  refine ⟨by rw [PyData.canLay0]; exact a, by rw [PyData.showable]; exact b, by rw [PyData.hasDict]; exact c, by rw [PyData.depth]; omega, ?_, ?_⟩
  · rw [PyData.shown]
    exact strOk_listText fun t ht => by
      obtain ⟨p, hp, rfl⟩ := shownAll_mem ht
      exact (h p hp).text
  · rw [PyData.shown]
    have := listText_le (m := m) (ts := PyData.shownAll ps) fun t ht => by
      obtain ⟨p, hp, rfl⟩ := shownAll_mem ht
      exact (h p hp).len
    rw [shownAll_len] at this
    have h2 : ps.length * (m + 2) ≤ l * (m + 2) := Nat.mul_le_mul_right _ hl
    omega
theorem fit_int {i : Int} {k : Nat} (h : i.natAbs < 10 ^ k) (h0 : 0 < k := by decide) (hk : k ≤ 500 := by decide) : Fit 0 (k + 1) (.int i) := by
  have h1 : i.natAbs.log2 < 1920 := by
    refine PySem.Flt.log2_lt_of (by decide : 0 < 1920) (Nat.lt_of_lt_of_le h (Nat.le_trans (Nat.pow_le_pow_right (by decide) hk) (by decide +kernel)))
  refine ⟨by rw [PyData.canLay0], by rw [PyData.showable, decide_eq_true h1], by rw [PyData.hasDict], by rw [PyData.depth] <;> omega, by rw [PyData.shown]; exact strOk_lit, ?_⟩
  rw [PyData.shown, PySem.ofString_length]
  exact int_text_length_le10 h0 h
theorem Fit.shw {n m : Nat} {p : PyData} (h : Fit n m p) (hn : n ≤ 60 := by decide) (hm : m ≤ sizeLine := by decide) : Shw p := ⟨h.show_, h.plain, Nat.le_trans h.deep hn, Nat.le_trans h.len hm⟩
theorem Fit.shaped {n m : Nat} {p : PyData} (h : Fit n m p) (hn : n ≤ 64 := by decide) : SeqAt.shaped p = true := by
  unfold SeqAt.shaped
  rw [h.can, Bool.true_and, decide_eq_true_eq]
  exact Nat.le_trans h.deep hn
theorem Fit.words {n m : Nat} {p : PyData} (h : Fit n m p) : SeqAt.shaped (.str p.shown) = true := by
  unfold SeqAt.shaped
  rw [PyData.canLay0, h.text, PyData.depth]
  rfl
/-- repr(x), an x that is read as p -/
theorem cRepr_at {S : Sto} {Φ : KD} {d : D} {a : String} {n m : Nat} {p : PyData} (e : tyOf S d = some a) (ha : a = "list" ∨ a = "tuple") (r : PyR S d p) (f : Fit n m p) (h : Φ S (.str p.shown)) (hn : n ≤ 60 := by decide) (hm : m ≤ sizeLine := by decide) : cRepr [d] S Φ := ⟨⟨a, e, ha⟩, p, r, f.shw hn hm, h⟩
/-- == of two texts that repr made -/
theorem eqs_at {S : Sto} {Φ : KD} {n m n' m' : Nat} {p q : PyData} (f : Fit n m p) (g : Fit n' m' q) (h : Φ S (.bl (p.shown == q.shown))) : dEq (.str p.shown) (.str q.shown) S Φ := ⟨_, _, .str _, .str _, f.words, g.words, by simpa [PyData.eqv] using h⟩
theorem nes_at {S : Sto} {Φ : KD} {n m n' m' : Nat} {p q : PyData} (f : Fit n m p) (g : Fit n' m' q) (h : Φ S (.bl (!(p.shown == q.shown)))) : dNe (.str p.shown) (.str q.shown) S Φ := ⟨_, _, .str _, .str _, f.words, g.words, by simpa [PyData.eqv] using h⟩
abbrev rowD (r : List Int) : D := .lst (r.map D.int)
abbrev rowP (r : List Int) : PyData := .list (r.map PyData.int)
abbrev tabD (t : List (List Int)) : D := .lst (t.map rowD)
abbrev tabP (t : List (List Int)) : PyData := .list (t.map rowP)
theorem pyra_map {α : Type} {S : Sto} {f : α → D} {g : α → PyData} (h : ∀ x, PyR S (f x) (g x)) : ∀ xs : List α, PyRA S (xs.map f) (xs.map g)
  | [] => .nil
  | x :: xs => .cons (h x) (pyra_map h xs)
theorem pyr_row {S : Sto} (r : List Int) : PyR S (rowD r) (rowP r) := .lst (pyra_map PyR.int r)
theorem pyr_tab {S : Sto} (t : List (List Int)) : PyR S (tabD t) (tabP t) := .lst (pyra_map pyr_row t)
theorem fit_row {r : List Int} {k l : Nat} (h : ∀ i ∈ r, i.natAbs < 10 ^ k) (hl : r.length ≤ l) (h0 : 0 < k := by decide) (hk : k ≤ 500 := by decide) : Fit 1 (2 + l * (k + 3)) (rowP r) := by
  refine fit_list (n := 0) (m := k + 1) (fun p hp => ?_) (by rw [List.length_map]; exact hl)
  obtain ⟨i, hi, rfl⟩ := List.mem_map.mp hp
  exact fit_int (h i hi) h0 hk
theorem fit_tab {t : List (List Int)} {k l n : Nat} (h : ∀ r ∈ t, ∀ i ∈ r, i.natAbs < 10 ^ k) (hl : ∀ r ∈ t, r.length ≤ l) (hn : t.length ≤ n) (h0 : 0 < k := by decide) (hk : k ≤ 500 := by decide) : Fit 2 (2 + n * (2 + l * (k + 3) + 2)) (tabP t) := by
  refine fit_list (n := 1) (m := 2 + l * (k + 3)) (fun p hp => ?_) (by rw [List.length_map]; exact hn)
  obtain ⟨r, hr, rfl⟩ := List.mem_map.mp hp
  exact fit_row (h r hr) (hl r hr) h0 hk
end DL
namespace DL
open PySem PySem.Spec PyProof.Rows L2
def forP (src : Src) (G : TGd) (B : TSd) : TSd := fun D Γ S1 => ∃ (P : Nat → Gam → Sto → Prop) (n : Nat), P 0 Γ S1 ∧
  (∀ i Γ' S', i ≤ n → P i Γ' S' → ∃ ds, src S' = some ds ∧ ds.length = n) ∧
  (∀ i Γ' S' ds d, P i Γ' S' → src S' = some ds → ds[i]? = some d → G d Γ' S' fun Γ2 S2 => B { D with nx := P (i + 1), ct := P (i + 1), bk := D.nx } Γ2 S2) ∧
  (∀ Γ' S', P n Γ' S' → D.nx Γ' S')
/-- marks: where ways meet again -/
def dJ (T : TD) : TD := T
def sJ (T : TSd) : TSd := T
theorem joinD {T : TD} {Γ : Gam} {S : Sto} {Φ : KD} {Ψ : KX} (J : KD) (h : ∀ S' d, J S' d → Φ S' d) (k : ∀ Φ' : KD, (∀ S' d, J S' d → Φ' S' d) → T Γ S Φ' Ψ) : dJ T Γ S Φ Ψ := k Φ h
theorem joinS {T : TSd} {Γ : Gam} {S : Sto} {E : EdD} (J : Gam → Sto → Prop) (h : ∀ Γ' S', J Γ' S' → E.nx Γ' S') (k : ∀ N : Gam → Sto → Prop, (∀ Γ' S', J Γ' S' → N Γ' S') → T { E with nx := N } Γ S) : sJ T E Γ S := k E.nx h
theorem sJ_e {T : TSd} {Γ : Gam} {S : Sto} {E : EdD} : sJ T E Γ S = T E Γ S := rfl
def lcP (src : Src) (G : TGd) (C : TB) (Te : TD) (vs : List Nat) (Fin : List D → Sto → KD → Prop) (Γ : Gam) (S1 : Sto) (Φ : KD) : Prop := ∃ (P : Nat → List D → Sto → Prop) (n : Nat), n ≤ sizeLine ∧ P 0 [] S1 ∧
  (∀ i acc S', i ≤ n → P i acc S' → ∃ ds, src S' = some ds ∧ ds.length = n) ∧
  (∀ i acc S' ds d, P i acc S' → src S' = some ds → ds[i]? = some d → G d (gwipe Γ vs) S' fun Γ2 S2 => C Γ2 S2 (fun S3 k => if k = true then Te Γ2 S3 (fun S4 y => P (i + 1) (acc ++ [y]) S4) (fun _ _ => False) else P (i + 1) acc S3) (fun _ _ => False)) ∧
  (∀ acc S', P n acc S' → Fin acc S' Φ)
section
variable {Γ : Gam} {S : Sto} {Φ : KD} {Ψ : KX}
theorem sNext_e {E : EdD} : sNext E Γ S = (E.nx Γ S) := rfl
theorem sSeq_e {E : EdD} {T U : TSd} : sSeq T U E Γ S = (T { E with nx := U E } Γ S) := rfl
theorem sBrk_e {E : EdD} : sBrk E Γ S = (E.bk Γ S) := rfl
theorem sCnt_e {E : EdD} : sCnt E Γ S = (E.ct Γ S) := rfl
theorem sDrop_e {E : EdD} {T : TD} : sDrop T E Γ S = (T Γ S (fun S1 _ => E.nx Γ S1) E.er) := rfl
theorem sRet_e {E : EdD} {T : TD} : sRet T E Γ S = (T Γ S E.rt E.er) := rfl
theorem sRetN_e {E : EdD} : sRetN E Γ S = (E.rt S .non) := rfl
theorem sIf_e {E : EdD} {C : TB} {T U : TSd} : sIf C T U E Γ S = (C Γ S (fun S1 k => if k = true then T E Γ S1 else U E Γ S1) E.er) := rfl
theorem sAsg_e {E : EdD} {T : TD} {G : TGd} : sAsg T G E Γ S = (T Γ S (fun S1 d => G d Γ S1 E.nx) E.er) := rfl
theorem sPar_e {E : EdD} {i j : Nat} {T : TL} : sPar i j T E Γ S = (T Γ S (fun S1 ds => ∃ x y, ds = [x, y] ∧ E.nx ((Γ.set i (some x)).set j (some y)) S1) E.er) := rfl
theorem sPar3_e {E : EdD} {i j l : Nat} {T : TL} : sPar3 i j l T E Γ S = (T Γ S (fun S1 ds => ∃ x y z, ds = [x, y, z] ∧ E.nx (((Γ.set i (some x)).set j (some y)).set l (some z)) S1) E.er) := rfl
theorem sAug_e {E : EdD} {i : Nat} {T : TD} {f : D → D → Sto → KD → Prop} : sAug i T f E Γ S = (∃ d, Γ[i]? = some (some d) ∧ T Γ S (fun S1 y => f d y S1 fun S2 z => E.nx (Γ.set i (some z)) S2) E.er) := rfl
theorem sRaise_e {E : EdD} {C : Addr} : sRaise C E Γ S = (E.er S ⟨C, []⟩) := rfl
theorem nmG_e {i : Nat} {d : D} {P : Gam → Sto → Prop} : nmG i d Γ S P = (P (Γ.set i (some d)) S) := rfl
theorem tupG_e {n : Nat} {T : TGs'} {d : D} {P : Gam → Sto → Prop} : tupG n T d Γ S P = (∃ ds, d = .tup ds ∧ ds.length = n ∧ T ds Γ S P) := rfl
theorem gsNil_e {ds : List D} {P : Gam → Sto → Prop} : gsNil ds Γ S P = (ds = [] ∧ P Γ S) := rfl
theorem gsCons_e {ds : List D} {T : TGd} {U : TGs'} {P : Gam → Sto → Prop} : gsCons T U ds Γ S P = (∃ d r, ds = d :: r ∧ T d Γ S fun Γ' S' => U r Γ' S' P) := rfl
theorem subG_e {f : D → D → D → Sto → (Sto → Prop) → Prop} {To Ti : TD} {d : D} {P : Gam → Sto → Prop} : subG f To Ti d Γ S P = (To Γ S (fun S1 o => Ti Γ S1 (fun S2 i => f o i d S2 fun S3 => P Γ S3) fun _ _ => False) fun _ _ => False) := rfl
theorem dVar_e {i : Nat} : dVar i Γ S Φ Ψ = (∃ d, Γ[i]? = some (some d) ∧ Φ S d) := rfl
theorem dC_e {d : D} : dC d Γ S Φ Ψ = (Φ S d) := rfl
theorem dOp_e {f : D → D → Sto → KD → Prop} {A B : TD} : dOp f A B Γ S Φ Ψ = (A Γ S (fun S1 x => B Γ S1 (fun S2 y => f x y S2 Φ) Ψ) Ψ) := rfl
theorem dUn_e {f : D → Sto → KD → Prop} {A : TD} : dUn f A Γ S Φ Ψ = (A Γ S (fun S1 d => f d S1 Φ) Ψ) := rfl
theorem dChain_e {f g : D → D → Sto → KD → Prop} {A B C : TD} : dChain f g A B C Γ S Φ Ψ = (A Γ S (fun S1 x => B Γ S1 (fun S2 y => f x y S2 fun S3 z => ∃ k, z = .bl k ∧ (if k = true then C Γ S3 (fun S4 u => g y u S4 Φ) Ψ else Φ S3 (.bl false))) Ψ) Ψ) := rfl
theorem bOf_e {A : TD} {Φ : Sto → Bool → Prop} : bOf A Γ S Φ Ψ = (A Γ S (fun S1 d => ∃ k, d = .bl k ∧ Φ S1 k) Ψ) := rfl
theorem bAnd_e {A B : TB} {Φ : Sto → Bool → Prop} : bAnd A B Γ S Φ Ψ = (A Γ S (fun S1 k => if k = true then B Γ S1 Φ Ψ else Φ S1 false) Ψ) := rfl
theorem bOr_e {A B : TB} {Φ : Sto → Bool → Prop} : bOr A B Γ S Φ Ψ = (A Γ S (fun S1 k => if k = true then Φ S1 true else B Γ S1 Φ Ψ) Ψ) := rfl
theorem bNot_e {A : TB} {Φ : Sto → Bool → Prop} : bNot A Γ S Φ Ψ = (A Γ S (fun S1 k => Φ S1 (!k)) Ψ) := rfl
theorem bYes_e {Φ : Sto → Bool → Prop} : bYes Γ S Φ Ψ = (Φ S true) := rfl
theorem dAnd_e {A B : TD} : dAnd A B Γ S Φ Ψ = (A Γ S (fun S1 x => ∃ k, x = .bl k ∧ if k = true then B Γ S1 Φ Ψ else Φ S1 (.bl false)) Ψ) := rfl
theorem dOr_e {A B : TD} : dOr A B Γ S Φ Ψ = (A Γ S (fun S1 x => ∃ k, x = .bl k ∧ if k = true then Φ S1 (.bl true) else B Γ S1 Φ Ψ) Ψ) := rfl
theorem dNot_e {A : TD} : dNot A Γ S Φ Ψ = (A Γ S (fun S1 x => ∃ k, x = .bl k ∧ Φ S1 (.bl (!k))) Ψ) := rfl
theorem dIf_e {C : TB} {A B : TD} : dIf C A B Γ S Φ Ψ = (C Γ S (fun S1 k => if k = true then A Γ S1 Φ Ψ else B Γ S1 Φ Ψ) Ψ) := rfl
theorem lNil_e {Φ : Sto → List D → Prop} : lNil Γ S Φ Ψ = (Φ S []) := rfl
theorem lCons_e {T : TD} {U : TL} {Φ : Sto → List D → Prop} : lCons T U Γ S Φ Ψ = (T Γ S (fun S1 x => U Γ S1 (fun S2 xs => Φ S2 (x :: xs)) Ψ) Ψ) := rfl
theorem dLst_e {T : TL} : dLst T Γ S Φ Ψ = (T Γ S (fun S1 ds => ds.length ≤ sizeLine ∧ Φ S1 (.lst ds)) Ψ) := rfl
theorem dLstO_e {T : TL} : dLstO T Γ S Φ Ψ = (T Γ S (fun S1 ds => ds.length ≤ sizeLine ∧ Φ (S1 ++ [.lst ds]) (.own S1.length)) Ψ) := rfl
theorem dTup_e {T : TL} : dTup T Γ S Φ Ψ = (T Γ S (fun S1 ds => ds.length ≤ sizeLine ∧ Φ S1 (.tup ds)) Ψ) := rfl
theorem dCB_e {f : List D → Sto → KD → Prop} {T : TL} : dCB f T Γ S Φ Ψ = (T Γ S (fun S1 ds => f ds S1 Φ) Ψ) := rfl
theorem dCall_e {sp : DSpec} {T : TL} : dCall sp T Γ S Φ Ψ = (T Γ S (fun S1 ds => sp ds S1 Φ Ψ) Ψ) := rfl
theorem dCallK_e {n m : Nat} {sp : DSpec} {g : List D → List D → List D} {T U : TL} : dCallK n m sp g T U Γ S Φ Ψ = (T Γ S (fun S1 ds => U Γ S1 (fun S2 es => ds.length = n ∧ es.length = m ∧ sp (g ds es) S2 Φ Ψ) Ψ) Ψ) := rfl
theorem oNone_e {Φ : Sto → Option Int → Prop} : oNone Γ S Φ Ψ = (Φ S none) := rfl
theorem oSome_e {T : TD} {Φ : Sto → Option Int → Prop} : oSome T Γ S Φ Ψ = (T Γ S (fun S1 d => ∃ i, d = .int i ∧ Φ S1 (some i)) Ψ) := rfl
theorem dSl_e {f : D → Option Int → Option Int → Sto → KD → Prop} {T : TD} {A B : TOd} : dSl f T A B Γ S Φ Ψ = (T Γ S (fun S1 d => A Γ S1 (fun S2 lo => B Γ S2 (fun S3 hi => f d lo hi S3 Φ) Ψ) Ψ) Ψ) := rfl
theorem dBM_e {f : D → List D → Sto → KD → Prop} {T : TD} {U : TL} : dBM f T U Γ S Φ Ψ = (T Γ S (fun S1 d => isLst S1 d ∧ U Γ S1 (fun S2 ds => f d ds S2 Φ) Ψ) Ψ) := rfl
theorem dBM0_e {f : D → List D → Sto → KD → Prop} {T : TD} : dBM0 f T Γ S Φ Ψ = (T Γ S (fun S1 d => isLst S1 d ∧ f d [] S1 Φ) Ψ) := rfl
theorem dFz_e {T : TD} : dFz T Γ S Φ Ψ = (T Γ S (fun S1 d => fzD d S1 Φ) Ψ) := rfl
theorem dFz2_e {T : TD} : dFz2 T Γ S Φ Ψ = (T Γ S (fun S1 d => fzD2 d S1 Φ) Ψ) := rfl
theorem iSeq_e {T : TD} {Φ : Sto → Src → Prop} : iSeq T Γ S Φ Ψ = (T Γ S (fun S1 d => (∃ ds, asQ S1 d = some ds) ∧ Φ S1 (fun S' => asQ S' d)) Ψ) := rfl
theorem iTupD_e {T : TD} {Φ : Sto → Src → Prop} : iTupD T Γ S Φ Ψ = (T Γ S (fun S1 d => ∃ ds, d = .tup ds ∧ Φ S1 (fun _ => some ds)) Ψ) := rfl
theorem iRg1_e {T : TL} {Φ : Sto → Src → Prop} : iRg1 T Γ S Φ Ψ = (T Γ S (fun S1 ds => ∃ j, ds = [.int j] ∧ -(2 ^ 62) ≤ j ∧ j < 2 ^ 62 ∧ Φ S1 (fun _ => some (rngD 0 j.toNat))) Ψ) := rfl
theorem iRg2_e {T : TL} {Φ : Sto → Src → Prop} : iRg2 T Γ S Φ Ψ = (T Γ S (fun S1 ds => ∃ i j, ds = [.int i, .int j] ∧ (-(2 ^ 62) ≤ i ∧ i < 2 ^ 62 ∧ -(2 ^ 62) ≤ j ∧ j < 2 ^ 62) ∧ Φ S1 (fun _ => some (rngD i (j - i).toNat))) Ψ) := rfl
theorem iZipD_e {T : TL} {Φ : Sto → Src → Prop} : iZipD T Γ S Φ Ψ = (T Γ S (fun S1 ds => ∃ d e, ds = [d, e] ∧ (∃ xs, asQ S1 d = some xs) ∧ (∃ ys, asQ S1 e = some ys) ∧ Φ S1 (fun S' => (asQ S' d).bind fun xs => (asQ S' e).map fun ys => zipD xs ys)) Ψ) := rfl
theorem iEnumD_e {T : TL} {Φ : Sto → Src → Prop} : iEnumD T Γ S Φ Ψ = (T Γ S (fun S1 ds => ∃ d, ds = [d] ∧ (∃ xs, asQ S1 d = some xs) ∧ Φ S1 (fun S' => (asQ S' d).map enumD)) Ψ) := rfl
theorem sFor_e {E : EdD} {I : TId} {G : TGd} {B : TSd} : sFor I G B E Γ S = (I Γ S (fun S1 src => forP src G B E Γ S1) E.er) := rfl
theorem dLc_e {I : TId} {G : TGd} {C : TB} {T : TD} {vs : List Nat} {Fin : List D → Sto → KD → Prop} : dLc I G C T vs Fin Γ S Φ Ψ = (I Γ S (fun S1 src => lcP src G C T vs Fin Γ S1 Φ) Ψ) := rfl
theorem finF_e {acc : List D} : finF acc S Φ = (Φ S (.lst acc)) := rfl
theorem finO_e {acc : List D} : finO acc S Φ = (Φ (S ++ [.lst acc]) (.own S.length)) := rfl
theorem fzD_l {ds : List D} : fzD (.lst ds) S Φ = (Φ S (.lst ds)) := rfl
theorem fzD_i {i : Int} : fzD (.int i) S Φ = (Φ S (.int i)) := rfl
theorem fzD_o {h : Nat} : fzD (.own h) S Φ = (∃ ds, S[h]? = some (.lst ds) ∧ Φ (S.set h .gone) (.lst ds)) := rfl
theorem fzD2_o {h : Nat} : fzD2 (.own h) S Φ = (∃ ds, S[h]? = some (.lst ds) ∧ fzLD ds (S.set h .gone) fun S' ds' => Φ S' (.lst ds')) := rfl
theorem dSetO_e {h : Nat} {k : Int} {v : D} {P : Sto → Prop} : dSetO (.own h) (.int k) v S P = (∃ ds, S[h]? = some (.lst ds) ∧ ∃ j, ixN ds.length k = some j ∧ P (S.set h (.lst (ds.set j v)))) := propext ⟨fun ⟨a, b, c, d⟩ => ⟨a, c, b, d⟩, fun ⟨a, c, b, d⟩ => ⟨a, b, c, d⟩⟩
theorem mAppend_e {h : Nat} {y : D} : mAppend (.own h) [y] S Φ = (∃ xs, S[h]? = some (.lst xs) ∧ xs.length < sizeLine ∧ Φ (S.set h (.lst (xs ++ [y]))) .non) := rfl
theorem mClear_e {h : Nat} : mClear (.own h) [] S Φ = (∃ xs, S[h]? = some (.lst xs) ∧ Φ (S.set h (.lst [])) .non) := rfl
theorem mReverse_e {h : Nat} : mReverse (.own h) [] S Φ = (∃ xs, S[h]? = some (.lst xs) ∧ Φ (S.set h (.lst xs.reverse)) .non) := rfl
end
section
variable {Γ : Gam} {S : Sto} {Φ : KD} {G : TGd} {B : TSd} {E : EdD} {C : TB} {Te : TD} {vs : List Nat} {Fin : List D → Sto → KD → Prop}
theorem for_l {ds : List D} (P : Nat → Gam → Sto → Prop) (h0 : P 0 Γ S) (hs : ∀ i Γ' S' (hi : i < ds.length), P i Γ' S' → G ds[i] Γ' S' fun Γ2 S2 => B { E with nx := P (i + 1), ct := P (i + 1), bk := E.nx } Γ2 S2) (hd : ∀ Γ' S', P ds.length Γ' S' → E.nx Γ' S') : forP (fun _ => some ds) G B E Γ S :=
  ⟨P, ds.length, h0, fun _ _ _ _ _ => ⟨ds, rfl, rfl⟩, fun i Γ' S' es d hp e hd => by
    cases e
    obtain ⟨hi, rfl⟩ := List.getElem?_eq_some_iff.mp hd
    exact hs i Γ' S' hi hp, hd⟩
theorem for_s {src : Src} {ds : List D} (P : Nat → Gam → Sto → Prop) (h0 : P 0 Γ S) (hl : ∀ i Γ' S', P i Γ' S' → src S' = some ds) (hs : ∀ i Γ' S' (hi : i < ds.length), P i Γ' S' → G ds[i] Γ' S' fun Γ2 S2 => B { E with nx := P (i + 1), ct := P (i + 1), bk := E.nx } Γ2 S2) (hd : ∀ Γ' S', P ds.length Γ' S' → E.nx Γ' S') : forP src G B E Γ S :=
  ⟨P, ds.length, h0, fun i Γ' S' _ hp => ⟨ds, hl i Γ' S' hp, rfl⟩, fun i Γ' S' es d hp e hd => by
    rw [hl i Γ' S' hp] at e
    cases e
    obtain ⟨hi, rfl⟩ := List.getElem?_eq_some_iff.mp hd
    exact hs i Γ' S' hi hp, hd⟩
theorem rng_len (lo : Int) (n : Nat) : (rngD lo n).length = n := by simp [rngD]
theorem rng_get {lo : Int} {n i : Nat} {d : D} (h : (rngD lo n)[i]? = some d) : i < n ∧ d = .int (lo + i) := by
  obtain ⟨hi, e⟩ := List.getElem?_eq_some_iff.mp h
  rw [rng_len] at hi
  refine ⟨hi, ?_⟩
  rw [← e]
  simp [rngD]
theorem for_r {lo : Int} {n : Nat} (P : Nat → Gam → Sto → Prop) (h0 : P 0 Γ S) (hs : ∀ (i : Nat) Γ' S', i < n → P i Γ' S' → G (.int (lo + (i : Int))) Γ' S' fun Γ2 S2 => B { E with nx := P (i + 1), ct := P (i + 1), bk := E.nx } Γ2 S2) (hd : ∀ Γ' S', P n Γ' S' → E.nx Γ' S') : forP (fun _ => some (rngD lo n)) G B E Γ S :=
  ⟨P, n, h0, fun _ _ _ _ _ => ⟨_, rfl, rng_len _ _⟩, fun i Γ' S' es d hp e hd => by
    cases e
    obtain ⟨hi, rfl⟩ := rng_get hd
    exact hs i Γ' S' hi hp, hd⟩
theorem for_r0 {n : Nat} (P : Nat → Gam → Sto → Prop) (h0 : P 0 Γ S) (hs : ∀ (i : Nat) Γ' S', i < n → P i Γ' S' → G (.int (i : Int)) Γ' S' fun Γ2 S2 => B { E with nx := P (i + 1), ct := P (i + 1), bk := E.nx } Γ2 S2) (hd : ∀ Γ' S', P n Γ' S' → E.nx Γ' S') : forP (fun _ => some (rngD 0 n)) G B E Γ S :=
  for_r P h0 (fun i Γ' S' hi hp => by rw [Int.zero_add]; exact hs i Γ' S' hi hp) hd
theorem lc_l {ds : List D} (P : Nat → List D → Sto → Prop) (hl : ds.length ≤ sizeLine) (h0 : P 0 [] S) (hs : ∀ i acc S' (hi : i < ds.length), P i acc S' → G ds[i] (gwipe Γ vs) S' fun Γ2 S2 => C Γ2 S2 (fun S3 k => if k = true then Te Γ2 S3 (fun S4 y => P (i + 1) (acc ++ [y]) S4) (fun _ _ => False) else P (i + 1) acc S3) (fun _ _ => False))
    (hd : ∀ acc S', P ds.length acc S' → Fin acc S' Φ) : lcP (fun _ => some ds) G C Te vs Fin Γ S Φ :=
  ⟨P, ds.length, hl, h0, fun _ _ _ _ _ => ⟨ds, rfl, rfl⟩, fun i acc S' es d hp e hd => by
    cases e
    obtain ⟨hi, rfl⟩ := List.getElem?_eq_some_iff.mp hd
    exact hs i acc S' hi hp, hd⟩
theorem lc_r0 {n : Nat} (P : Nat → List D → Sto → Prop) (hl : n ≤ sizeLine) (h0 : P 0 [] S) (hs : ∀ (i : Nat) acc S', i < n → P i acc S' → G (.int (i : Int)) (gwipe Γ vs) S' fun Γ2 S2 => C Γ2 S2 (fun S3 k => if k = true then Te Γ2 S3 (fun S4 y => P (i + 1) (acc ++ [y]) S4) (fun _ _ => False) else P (i + 1) acc S3) (fun _ _ => False))
    (hd : ∀ acc S', P n acc S' → Fin acc S' Φ) : lcP (fun _ => some (rngD 0 n)) G C Te vs Fin Γ S Φ :=
  ⟨P, n, hl, h0, fun _ _ _ _ _ => ⟨_, rfl, rng_len _ _⟩, fun i acc S' es d hp e hd => by
    cases e
    obtain ⟨hi, rfl⟩ := rng_get hd
    rw [Int.zero_add]
    exact hs i acc S' hi hp, hd⟩
theorem dIx_o' {h : Nat} {i : Int} {S : Sto} {Φ : KD} : dIx (.own h) (.int i) S Φ = (∃ ds, S[h]? = some (.lst ds) ∧ ∃ d, atI ds i = some d ∧ Φ S d) := by
  rw [dIx_o]
  exact propext ⟨fun ⟨a, b, c, d⟩ => ⟨a, c, b, d⟩, fun ⟨a, c, b, d⟩ => ⟨a, b, c, d⟩⟩
theorem at_1 {α : Type} {a b : α} {l : List α} : atI (a :: b :: l) 1 = some b := at_nat (n := 1)
theorem at_2 {α : Type} {a b c : α} {l : List α} : atI (a :: b :: c :: l) 2 = some c := at_nat (n := 2)
theorem at_3 {α : Type} {a b c d : α} {l : List α} : atI (a :: b :: c :: d :: l) 3 = some d := at_nat (n := 3)
theorem at_4 {α : Type} {a b c d e : α} {l : List α} : atI (a :: b :: c :: d :: e :: l) 4 = some e := at_nat (n := 4)
theorem Fs.last {S S' : Sto} {h n : Nat} {x : Cell} (f : Fs h n (S ++ [x]) S') (hl : h < S.length) : S'[S.length]? = some x ∧ ∀ y, Fs h n (S ++ [y]) (S'.set S.length y) := by
  obtain ⟨c, q, rfl⟩ := f
  rw [set_app hl]
  have e : S.length = (S.set h c).length := by rw [List.length_set]
  refine ⟨by rw [e]; exact get_at, fun y => ⟨c, q, ?_⟩⟩
  rw [set_app hl]
  conv => lhs; rw [e]
  exact set_at
theorem Fs.cell {S S' : Sto} {h n : Nat} (f : Fs h n S S') (x : Cell) (hl : h < S.length) : Fs h n (S ++ [x]) (S' ++ [x]) := by
  obtain ⟨c, q, rfl⟩ := f
  exact ⟨c, q, (set_app hl).symm⟩
theorem isLst_at {S : Sto} {h : Nat} {ds : List D} (e : S[h]? = some (.lst ds)) : isLst S (.own h) := ⟨ds, asL_at' e⟩
theorem isLst_l {S : Sto} {ds : List D} : isLst S (.lst ds) = True := propext ⟨fun _ => trivial, fun _ => ⟨ds, rfl⟩⟩
theorem ix_nat {n i : Nat} (h : i < n) : ixN n (i : Int) = some i := by
  unfold ixN
  rw [if_pos (by omega), if_pos (by omega)]
  rfl
theorem ix30 : ixN 3 0 = some 0 := ix_nat (i := 0) (by decide)
theorem ix31 : ixN 3 1 = some 1 := ix_nat (i := 1) (by decide)
theorem ix32 : ixN 3 2 = some 2 := ix_nat (i := 2) (by decide)
theorem cpw {i j : Int} (h0 : 0 ≤ j) (h1 : j ≤ 1000) (h : i.natAbs < 2 ^ 250) : CPowW i j := ⟨h0, h1, Nat.lt_of_lt_of_le h (Nat.pow_le_pow_right (by decide) (by decide))⟩
theorem cdw {i j : Int} (h0 : 0 < j) (h : j.natAbs < 2 ^ 250) : CDivW i j :=
  ⟨h0, PySem.Flt.log2_lt_of (by decide) (Nat.lt_of_lt_of_le h (Nat.pow_le_pow_right (by decide) (by decide)))⟩
theorem cmr {i j : Int} (h0 : -(2 ^ 64) < j) (h : j < 2 ^ 64) : CMulA i j := .inl (.inr ⟨h0, h⟩)
theorem cml {i j : Int} (h0 : -(2 ^ 64) < i) (h : i < 2 ^ 64) : CMulA i j := .inl (.inl ⟨h0, h⟩)
theorem small {n : Nat} (h : n ≤ 1000000 := by decide) : n ≤ sizeLine := Nat.le_trans h (by decide)
theorem exAny {α : Type} {a : α} : (∃ x, some a = some x) = True := propext ⟨fun _ => trivial, fun _ => ⟨a, rfl⟩⟩
theorem cut_to {α : Type} {xs : List α} {j : Nat} : cutD xs none (some (j : Int)) = xs.take j := by
  unfold cutD
  rw [HT.sIx_none, HT.sIx_nat, List.drop_zero, Nat.sub_zero]
  by_cases h : j ≤ xs.length
  · rw [Nat.min_eq_left h]
  · rw [Nat.min_eq_right (by omega), List.take_length, List.take_of_length_le (by omega)]
theorem cut_from {α : Type} {xs : List α} {j : Nat} : cutD xs (some (j : Int)) none = xs.drop j := by
  unfold cutD
  rw [HT.sIx_none, HT.sIx_nat, List.take_of_length_le (by rw [List.length_drop]; exact Nat.le_refl _)]
  by_cases h : j ≤ xs.length
  · rw [Nat.min_eq_left h]
  · rw [Nat.min_eq_right (by omega), List.drop_of_length_le (by omega), List.drop_of_length_le (by omega)]
theorem rep_0 : List.replicate 0 (none : Option D) = [] := rfl
theorem rep_s {n : Nat} : List.replicate (n + 1) (none : Option D) = none :: List.replicate n none := rfl
/-- a comprehension that changes no cell: the item x gives g x -/
theorem lc_map {α : Type} (xs : List α) (f g : α → D) (hl : xs.length ≤ sizeLine) (hs : ∀ x ∈ xs, ∀ R : KD, R S (g x) → G (f x) (gwipe Γ vs) S fun Γ2 S2 => Te Γ2 S2 R (fun _ _ => False)) (hd : Fin (xs.map g) S Φ) : lcP (fun _ => some (xs.map f)) G bYes Te vs Fin Γ S Φ := by
  refine lc_l (fun i acc S' => S' = S ∧ acc = (xs.map g).take i) (by rw [List.length_map]; exact hl) ⟨rfl, by simp⟩ (fun i acc S' hi hp => ?_) fun acc S' hp => ?_
  · obtain ⟨rfl, rfl⟩ := hp
    have hi2 : i < xs.length := by rw [List.length_map] at hi; exact hi
    rw [List.getElem_map]
    refine hs _ (List.getElem_mem hi2) _ ⟨rfl, ?_⟩
    have hi3 : i < (xs.map g).length := by rw [List.length_map]; exact hi2
    rw [List.take_add_one, List.getElem?_eq_getElem hi3, List.getElem_map]
    rfl
  · obtain ⟨rfl, rfl⟩ := hp
    rw [List.length_map, List.take_of_length_le (by rw [List.length_map]; exact Nat.le_refl _)]
    exact hd
end
end DL
namespace DL
open PySem PySem.Spec PyProof.Rows L2
section
variable {S T : Sto} {Φ : KD} {i j : Int} {d e : D} {xs ys : List D}
theorem asL_cases (h : asL S d = some xs) : d = .lst xs ∨ ∃ n, d = .own n ∧ S[n]? = some (.lst xs) := by
  cases d with
  | lst ds => cases h; exact .inl rfl
  | own n =>
    have h : (match S[n]? with | some (.lst ds) => some ds | _ => none) = some xs := h
    split at h
    · cases h; exact .inr ⟨n, rfl, by assumption⟩
    · cases h
  | _ => cases h
theorem asL_app (h : asL S d = some xs) : asL (S ++ T) d = some xs := by
  rcases asL_cases h with rfl | ⟨n, rfl, e⟩
  · rfl
  · exact asL_at' (get_app e)
theorem asQ_L (h : asL S d = some xs) : asQ S d = some xs := by
  rcases asL_cases h with rfl | ⟨n, rfl, e⟩
  · rfl
  · exact asQ_at' e
theorem asS_L (h : asL S d = some xs) : asS S d = some xs := by
  rcases asL_cases h with rfl | ⟨n, rfl, e⟩
  · rfl
  · exact asQ_at' e
theorem tyOf_L (h : asL S d = some xs) : tyOf S d = some "list" := by
  rcases asL_cases h with rfl | ⟨n, rfl, e⟩
  · rfl
  · show (match S[n]? with | some (.lst _) => some "list" | _ => none) = some "list"
    rw [e]
theorem cLen_L (h : asL S d = some xs) : cLen [d] S Φ = Φ S (.int xs.length) := by
  rcases asL_cases h with rfl | ⟨n, rfl, e⟩
  · exact cLen_l
  · show (∃ ys, asS S (.own n) = some ys ∧ Φ S (.int ys.length)) = _
    rw [asS_L h]
    exact propext exAs
theorem cListO_L (h : asL S d = some xs) : cListO [d] S Φ = Φ (S ++ [.lst xs]) (.own S.length) := by
  show (∃ ys, asS S d = some ys ∧ Φ (S ++ [.lst ys]) (.own S.length)) = _
  rw [asS_L h]
  exact propext exAs
theorem cList_L (h : asL S d = some xs) : cList [d] S Φ = Φ S (.lst xs) := by
  show (∃ ys, asS S d = some ys ∧ Φ S (.lst ys)) = _
  rw [asS_L h]
  exact propext exAs
theorem dSlL_L {lo hi : Option Int} (h : asL S d = some xs) : dSlL d lo hi S Φ = Φ S (.lst (cutD xs lo hi)) := by
  show (∃ ds, asQ S d = some ds ∧ Φ S (.lst (cutD ds lo hi))) = _
  rw [asQ_L h]
  exact propext exAs
theorem dIx_L (h : asL S d = some xs) : dIx d (.int i) S Φ = ∃ x, atI xs i = some x ∧ Φ S x := by
  rcases asL_cases h with rfl | ⟨n, rfl, e⟩
  · exact dIx_l
  · rw [dIx_o', e]
    exact propext exL
theorem dAdd_L (h : asL S d = some xs) (h2 : asL S e = some ys) : dAdd d e S Φ = (xs.length + ys.length ≤ sizeLine ∧ Φ S (.lst (xs ++ ys))) := by
  have w : dAdd d e S Φ = ∃ us vs, asL S d = some us ∧ asL S e = some vs ∧ us.length + vs.length ≤ sizeLine ∧ Φ S (.lst (us ++ vs)) := by
    rcases asL_cases h with rfl | ⟨n, rfl, e1⟩ <;> rcases asL_cases h2 with rfl | ⟨m, rfl, e2⟩ <;> rfl
  rw [w, h, h2]
  exact propext ⟨fun ⟨_, _, e1, e2, q⟩ => by cases e1; cases e2; exact q, fun q => ⟨_, _, rfl, rfl, q⟩⟩
theorem dEq_i : dEq (.int i) (.int j) S Φ = Φ S (.bl (i == j)) := propext
  ⟨fun ⟨p, q, h1, h2, _, _, h⟩ => by cases h1; cases h2; simpa [PyData.eqv] using h, fun h => ⟨_, _, .int i, .int j, by simp [SeqAt.shaped, PyData.canLay0, PyData.depth], by simp [SeqAt.shaped, PyData.canLay0, PyData.depth], by simpa [PyData.eqv] using h⟩⟩
end
section
variable {Γ : Gam} {S : Sto} {Φ : KD} {G : TGd} {C : TB} {Te : TD} {vs : List Nat} {Fin : List D → Sto → KD → Prop} {src : Src}
theorem lc_s {ds : List D} (P : Nat → List D → Sto → Prop) (hl : ds.length ≤ sizeLine) (h0 : P 0 [] S) (hsrc : ∀ i acc S', P i acc S' → src S' = some ds) (hs : ∀ i acc S' (hi : i < ds.length), P i acc S' → G ds[i] (gwipe Γ vs) S' fun Γ2 S2 => C Γ2 S2 (fun S3 k => if k = true then Te Γ2 S3 (fun S4 y => P (i + 1) (acc ++ [y]) S4) (fun _ _ => False) else P (i + 1) acc S3) (fun _ _ => False))
    (hd : ∀ acc S', P ds.length acc S' → Fin acc S' Φ) : lcP src G C Te vs Fin Γ S Φ :=
  ⟨P, ds.length, hl, h0, fun i acc S' _ hp => ⟨ds, hsrc i acc S' hp, rfl⟩, fun i acc S' es d hp e hd => by
    rw [hsrc i acc S' hp] at e
    cases e
    obtain ⟨hi, rfl⟩ := List.getElem?_eq_some_iff.mp hd
    exact hs i acc S' hi hp, hd⟩
theorem lc_mapS {α : Type} (xs : List α) (f g : α → D) (hsrc : src S = some (xs.map f)) (hl : xs.length ≤ sizeLine) (hs : ∀ x ∈ xs, ∀ R : KD, R S (g x) → G (f x) (gwipe Γ vs) S fun Γ2 S2 => Te Γ2 S2 R (fun _ _ => False)) (hd : Fin (xs.map g) S Φ) : lcP src G bYes Te vs Fin Γ S Φ := by
  refine lc_s (ds := xs.map f) (fun i acc S' => S' = S ∧ acc = (xs.map g).take i) (by rw [List.length_map]; exact hl) ⟨rfl, by simp⟩ (fun i acc S' hp => by rw [hp.1]; exact hsrc) (fun i acc S' hi hp => ?_) fun acc S' hp => ?_
  · obtain ⟨rfl, rfl⟩ := hp
    have hi2 : i < xs.length := by rw [List.length_map] at hi; exact hi
    rw [List.getElem_map]
    refine hs _ (List.getElem_mem hi2) _ ⟨rfl, ?_⟩
    have hi3 : i < (xs.map g).length := by rw [List.length_map]; exact hi2
    rw [List.take_add_one, List.getElem?_eq_getElem hi3, List.getElem_map]
    rfl
  · obtain ⟨rfl, rfl⟩ := hp
    rw [List.length_map, List.take_of_length_le (by rw [List.length_map]; exact Nat.le_refl _)]
    exact hd
theorem lc_idS (ds : List D) (g : D → D) (hsrc : src S = some ds) (hl : ds.length ≤ sizeLine) (hs : ∀ x ∈ ds, ∀ R : KD, R S (g x) → G x (gwipe Γ vs) S fun Γ2 S2 => Te Γ2 S2 R (fun _ _ => False)) (hd : Fin (ds.map g) S Φ) : lcP src G bYes Te vs Fin Γ S Φ :=
  lc_mapS ds id g (by rw [List.map_id]; exact hsrc) hl hs hd
end
theorem all_true {α : Type} (xs : List α) : (xs.map fun _ => true).all id = true := by
  rw [List.all_eq_true]
  intro x hx
  obtain ⟨_, _, rfl⟩ := List.mem_map.mp hx
  rfl
/-- rows of a table, read by the cells -/
inductive RowsS (S : Sto) : List D → List (List Int) → Prop
  | nil : RowsS S [] []
  | cons {d : D} {ds : List D} {r : List Int} {t : List (List Int)} : asL S d = some (r.map D.int) → RowsS S ds t → RowsS S (d :: ds) (r :: t)
def TabS (S : Sto) (d : D) (t : List (List Int)) : Prop := ∃ ds, asL S d = some ds ∧ RowsS S ds t
namespace RowsS
variable {S T : Sto} {ds es : List D} {t u : List (List Int)}
theorem len (h : RowsS S ds t) : ds.length = t.length := by
  induction h with
  | nil => rfl
  | cons _ _ ih => rw [List.length_cons, List.length_cons, ih]
theorem app (h : RowsS S ds t) : RowsS (S ++ T) ds t := by
  induction h with
  | nil => exact .nil
  | cons a _ ih => exact .cons (asL_app a) ih
theorem cat (h : RowsS S ds t) (h2 : RowsS S es u) : RowsS S (ds ++ es) (t ++ u) := by
  induction h with
  | nil => exact h2
  | cons a _ ih => exact .cons a ih
theorem take (h : RowsS S ds t) : ∀ n, RowsS S (ds.take n) (t.take n) := by
  induction h with
  | nil => intro n; rw [List.take_nil, List.take_nil]; exact .nil
  | cons a _ ih =>
    intro n
    cases n with
    | zero => exact .nil
    | succ n => exact .cons a (ih n)
theorem drop (h : RowsS S ds t) : ∀ n, RowsS S (ds.drop n) (t.drop n) := by
  induction h with
  | nil => intro n; rw [List.drop_nil, List.drop_nil]; exact .nil
  | cons a b ih =>
    intro n
    cases n with
    | zero => exact .cons a b
    | succ n => exact ih n
theorem get (h : RowsS S ds t) : ∀ {i : Nat} (hi : i < t.length) (hd : i < ds.length), asL S ds[i] = some ((t[i]).map D.int) := by
  induction h with
  | nil => intro i hi; exact absurd hi (by simp)
  | cons a b ih =>
    intro i hi hd
    cases i with
    | zero => exact a
    | succ i => exact ih (by simpa using hi) (by simpa using hd)
theorem mem (h : RowsS S ds t) {d : D} (hd : d ∈ ds) : ∃ r ∈ t, asL S d = some (r.map D.int) := by
  induction h with
  | nil => cases hd
  | cons a _ ih =>
    rcases List.mem_cons.mp hd with rfl | hd
    · exact ⟨_, List.mem_cons_self, a⟩
    · obtain ⟨r, hr, e⟩ := ih hd
      exact ⟨r, List.mem_cons_of_mem _ hr, e⟩
end RowsS
theorem rows_map {S : Sto} : ∀ t : List (List Int), RowsS S (t.map rowD) t
  | [] => .nil
  | _ :: t => .cons rfl (rows_map t)
theorem tabS_l {S : Sto} (t : List (List Int)) : TabS S (tabD t) t := ⟨_, rfl, rows_map t⟩
theorem TabS.app {S T : Sto} {d : D} {t : List (List Int)} (h : TabS S d t) : TabS (S ++ T) d t := let ⟨ds, e, r⟩ := h; ⟨ds, asL_app e, r.app⟩
theorem TabS.ty {S : Sto} {d : D} {t : List (List Int)} (h : TabS S d t) : tyOf S d = some "list" := let ⟨_, e, _⟩ := h; tyOf_L e
end DL
namespace DL
open PySem PySem.Spec PyProof.Rows L2
/-- an instance, frozen or a cell -/
def asI (S : Sto) : D → Option (Addr × List (Str × D))
  | .ins C fs => some (C, fs)
  | .own h => match S[h]? with
    | some (.ins C fs) => some (C, fs)
    | _ => none
  | _ => none
section
variable {K : PySem.W.Frag} {w : Hs} {S : Sto}
theorem asI_own {h : Nat} {C : Addr} {fs : List (Str × D)} (e : S[h]? = some (.ins C fs)) : asI S (.own h) = some (C, fs) := by
  show (match S[h]? with
    | some (.ins C fs) => some (C, fs)
    | _ => none) = some (C, fs)
  rw [e]
theorem own_ins {h : Nat} {C : Addr} {fs : List (Str × D)} (e : asI S (.own h) = some (C, fs)) : S[h]? = some (.ins C fs) := by
  unfold asI at e
  dsimp only at e
  split at e
  · cases e; assumption
  · cases e
theorem ins_at (g : Good K w S) {h : Nat} {v : V} {C : Addr} {fs : List (Str × D)} (r : Rv K w v (.own h)) (e : S[h]? = some (.ins C fs)) : ∃ a dx vs, v = .ref a ∧ w.al[h]? = some a ∧ w.H a = some (.ins C dx vs) ∧ RpF K w.F w.al vs fs := by
  cases r with
  | @own h a q =>
    obtain ⟨_, dx, vs, h2, h3⟩ := g.cell h a _ q e
    exact ⟨a, dx, vs, rfl, q, h2, h3⟩
theorem asI_at (g : Good K w S) {v : V} {d : D} {C : Addr} {fs : List (Str × D)} (r : Rv K w v d) (e : asI S d = some (C, fs)) : ∃ a dx vs, v = .ref a ∧ w.H a = some (.ins C dx vs) ∧ RpF K w.F w.al vs fs := by
  cases d with
  | ins C' fs' =>
    cases e
    cases r with
    | ins h1 h2 => exact ⟨_, _, _, rfl, g.sub _ _ h1, h2⟩
  | own h =>
    obtain ⟨a, dx, vs, e1, _, h2, h3⟩ := ins_at g r (own_ins e)
    exact ⟨a, dx, vs, e1, h2, h3⟩
  | _ => cases e
variable {F : Hp} {al : List Addr}
theorem rf_some {f : Str} {d : D} : ∀ {vs : List (Str × V)} {fs : List (Str × D)}, RpF K F al vs fs → fs.lookup f = some d → ∃ v, vs.lookup f = some v ∧ Rp K F al v d
  | _, _, .nil, e => by cases e
  | (n, v) :: vs, (_, d') :: fs, .cons r t, e => by
    rw [List.lookup_cons] at e ⊢
    cases q : (f == n) with
    | true =>
      rw [q] at e
      cases e
      exact ⟨v, rfl, r⟩
    | false =>
      rw [q] at e
      exact rf_some t e
theorem rf_none {f : Str} : ∀ {vs : List (Str × V)} {fs : List (Str × D)}, RpF K F al vs fs → fs.lookup f = none → vs.lookup f = none
  | _, _, .nil, _ => rfl
  | (n, v) :: vs, (_, d') :: fs, .cons r t, e => by
    rw [List.lookup_cons] at e ⊢
    cases q : (f == n) with
    | true => rw [q] at e; cases e
    | false =>
      rw [q] at e
      exact rf_none t e
theorem rf_len : ∀ {vs : List (Str × V)} {fs : List (Str × D)}, RpF K F al vs fs → vs.length = fs.length
  | _, _, .nil => rfl
  | _ :: _, _ :: _, .cons _ t => by rw [List.length_cons, List.length_cons, rf_len t]
/-- an attribute written -/
def putD (f : Str) (d : D) : List (Str × D) → List (Str × D)
  | [] => [(f, d)]
  | (g, x) :: r => if g = f then (g, d) :: r else (g, x) :: putD f d r
theorem rf_put {f : Str} {v : V} {d : D} (rv : Rp K F al v d) : ∀ {vs : List (Str × V)} {fs : List (Str × D)}, RpF K F al vs fs → RpF K F al (putF f v vs) (putD f d fs)
  | _, _, .nil => .cons rv .nil
  | (n, x) :: vs, (_, d') :: fs, .cons r t => by
    unfold putF putD
    by_cases h : n = f
    · rw [if_pos h, if_pos h]; exact .cons rv t
    · rw [if_neg h, if_neg h]; exact .cons r (rf_put rv t)
end
section
variable {X : Cx} {W : WX} {o e : Expr} {es : List Expr} {f m x : Str} {pos apos p : Pos} {to te : TE} {To Te : TD} {tl tk' : TA} {Tl Tk : TL} {C : Addr} {k : Nat} {sp : DSpec}
/-- o.f, o an instance of the class at C -/
def dFld (C : Addr) (f : Str) (T : TD) : TD := fun Γ S Φ Ψ => T Γ S (fun S1 d => ∃ fs, asI S1 d = some (C, fs) ∧ ∃ y, fs.lookup f = some y ∧ Φ S1 y) Ψ
theorem je_fld (cl : Cls X.K C) (na : NoAttr X.K C f) (he : JE X W o to To) (hb : attributeBase o f X.env (eval o X.env) = eval o X.env := by rfl) : JE X W (.Attribute o f pos) (tFld X.K to f) (dFld C f To) :=
  ⟨pe_fld he.pe hb, fun Γ S Φ Ψ σ w g sl h hx Q q => he.sem Γ S _ Ψ σ w g sl h hx _ fun v d w1 S1 e1 g1 r1 ⟨fs, e2, y, l, h1⟩ => by
    obtain ⟨a, dx, vs, rfl, hH, rf⟩ := asI_at g1 r1 e2
    obtain ⟨u, lu, ru⟩ := rf_some rf l
    exact ⟨a, C, dx, vs, u, rfl, hH, cl, na, lu, q u y w1 S1 e1 g1 ru h1⟩⟩
/-- o.f, a constant of o's class: by a table of classes -/
def dConI (tab : List (Addr × D)) (f : Str) (T : TD) : TD := fun Γ S Φ Ψ => T Γ S (fun S1 d => ∃ C fs, asI S1 d = some (C, fs) ∧ fs.lookup f = none ∧ ∃ y, (C, y) ∈ tab ∧ Φ S1 y) Ψ
/-- C.f, a constant read off a class -/
structure CValF (K : PySem.W.Frag) (C : Addr) (f : Str) (d : D) : Prop where
  ex : ∃ mc v u, ClX.CRead K C mc ∧ ClX.CVal K C mc f v u ∧ ∀ w : Hs, Rv K w v d
def dCVal (tab : List (Addr × D)) (f : Str) (T : TD) : TD := fun Γ S Φ Ψ => T Γ S (fun S1 d => ∃ C, d = .obj C ∧ ∃ y, (C, y) ∈ tab ∧ Φ S1 y) Ψ
theorem je_cval {tab : List (Addr × D)} (c : ∀ q ∈ tab, CValF X.K q.1 f q.2) (he : JE X W o to To) (hb : attributeBase o f X.env (eval o X.env) = eval o X.env := by rfl) : JE X W (.Attribute o f pos) (ClX.tCVal X.K to f) (dCVal tab f To) :=
  ⟨ClX.pe_cval he.pe hb, fun Γ S Φ Ψ σ w g sl h hx Q q => he.sem Γ S _ Ψ σ w g sl h hx _ fun v d w1 S1 e1 g1 r1 ⟨C, ed, y, ly, h1⟩ => by
    subst ed
    cases r1
    obtain ⟨mc, vv, u, c1, c2, rv⟩ := c _ ly
    exact ⟨C, mc, vv, u, rfl, c1, c2, q vv y w1 S1 e1 g1 (rv w1) h1⟩⟩
/-- o.f = e, o a cell -/
def sFldS (C : Addr) (f : Str) (To Te : TD) : TSd := fun D Γ S => Te Γ S (fun S1 y => To Γ S1 (fun S2 d => ∃ h fs, d = .own h ∧ S2[h]? = some (.ins C fs) ∧ fs.length < 1000 ∧ D.nx Γ (S2.set h (.ins C (putD f y fs)))) D.er) D.er
theorem js_fld {pos' : Pos} (cl : Cls X.K C) (na : NoAttr X.K C f) (ho : JE X W o to To) (he : JE X W e te Te) (hs : swapsWith e (some (.Attribute o f pos')) pos.line X.env = pure false := by rfl) : JS X W (.Assign [.Attribute o f pos'] e pos) (sFld X.K to te f) (sFldS C f To Te) :=
  ⟨ps_fld ho.pe he.pe hs, fun D' Γ S σ w D g sl h r => he.sem Γ S _ _ σ w g sl h (r.er σ) _ fun y dy w1 S1 e1 g1 r1 h1 => ho.sem Γ S1 _ _ σ w1 g1 (sl.ext e1) h1 ((r.er σ).ext e1) _ fun v d w2 S2 e2 g2 r2 ⟨hh, fs, ed, es, hl, h2⟩ => by
    subst ed
    obtain ⟨a, dx, vs, rfl, ha, hH, rf⟩ := ins_at g2 r2 es
    have e12 := e1.trans e2
    refine ⟨a, C, dx, vs, rfl, hH, cl, na, by rw [rf_len rf]; exact hl, ?_⟩
    have hm : a ∈ w2.al := List.mem_of_getElem? ha
    exact r.nx σ Γ (w2.wr a (.ins C dx (putF f y vs))) _ (e12.trans (Ext.wr _ hm)) (g2.wrI ha es (rf_put (e2.rp r1) rf)) ((sl.ext e12).ext (Ext.wr _ hm)) h2⟩
theorem at_last {al : List Addr} {p : Addr} {n : Nat} (h : al.length = n) : (al ++ [p])[n]? = some p := by
  rw [← h, List.getElem?_append_right (Nat.le_refl _), Nat.sub_self] <;> rfl
end
end DL
namespace DL
open PySem PySem.Spec PyProof.Rows L2
section
variable {M : Model} {A : Around} {E : Value → Shared → Prop} {s : Shared}
abbrev Keeps (M : Model) (f : Value) (h : Heap) : Prop := ∃ k, (k = Keeper.frame ∨ k = Keeper.machine ∨ k = Keeper.boundFrame) ∧ PySem.W.Looks M h (keeperOf f) k
theorem cw_any {f : Value} {first : List Value} {pos : Pos} {R : Value → Shared → Prop} {args : List (Bool × Sem Value)} {kws : List (Option Str × Sem Value)}
    (h : wpAny M A (evalArgs f true args kws) (fun a s1 => Keeps M f s1.heap ∧ wpAny M A (call f (first ++ a.pos) a.kw) R E s1) E s) : wpAny M A (callWith pos f first args kws) R E s := by
  cases st : (args.any (·.1) || kws.any (·.1.isNone)) with
  | false => exact PySem.W.callWith_of (P := Keeps M f) st (fun _ q => q) h
  | true =>
    unfold callWith
    refine wpAny_bind (wpAny_holding (wpAny_mono h (fun a s1 q => wpAny_bind (wpAny_standAt ?_)) fun _ _ z => z))
    obtain ⟨⟨k, hk, L⟩, q⟩ := q
    simp only [st]
    refine wpAny_bind (L.here ?_)
    have tail : ∀ {t : Sem Value}, wpAny M A t R E s1 → wpAny M A (t >>= fun r => holding [r] point >>= fun _ => pure r) R E s1 :=
      fun ht => wpAny_bind (wpAny_mono ht (fun r s2 hr => wpAny_bind (wpAny_holding (wpAny_point (wpAny_pure hr)))) fun _ _ y => y)
    have marked (mk : Value) : wpAny M A (callMarked mk f (first ++ a.pos) a.kw) R E s1 := by unfold callMarked; exact PySem.Calls.wpAny_keep q
    rcases hk with rfl | rfl | rfl <;> dsimp only <;> first | exact tail (marked _) | exact tail (wpAny_operating q)
theorem ea_lone {f : Value} {x : Sem Value} {pos : Pos} {kws : List (Option Str × Sem Value)} {Q : Args → Shared → Prop} (hall : kws.all (·.1.isSome) = true)
    (h : wpAny M A x (fun v s1 => wpAny M A (evalAll (kws.map (·.2))) (fun ks s2 => PySem.W.StarOf M A E v (fun vs s3 => Q ⟨vs, (kws.filterMap (·.1)).zip ks⟩ s3) s2) E s1) E s) :
    wpAny M A (evalArgs f true [(true, (do let v ← x; standAt pos; pure v))] kws) Q E s := by
  unfold evalArgs
  first
    | refine wpAny_bind (wpAny_bind (wpAny_mono h (fun v s1 q => wpAny_bind (wpAny_standAt (wpAny_pure ?_))) fun _ _ z => z))
    | refine wpAny_bind (wpAny_bind (wpAny_bind (wpAny_mono h (fun v s1 q => wpAny_bind (wpAny_standAt (wpAny_pure (wpAny_pure ?_)))) fun _ _ z => z)))
  refine wpAny_holding ?_
  simp only [hall, if_true]
  refine wpAny_bind (wpAny_mono q (fun ks s2 q2 => ?_) fun _ _ z => z)
  unfold PySem.W.StarOf at q2
  refine wpAny_bind (wpAny_bind (wpAny_mono q2 (fun b s3 q3 => ?_) fun _ _ z => z))
  obtain ⟨rfl, q4⟩ := q3
  have fin := wpAny_holding (vs := ((kws.filterMap (·.1)).zip ks).map (·.2)) (wpAny_mono q4 (fun vs s4 q5 => (wpAny_pure q5 : wpAny M A (pure (⟨vs, (kws.filterMap (·.1)).zip ks⟩ : Args)) Q E s4)) fun _ _ z => z)
  have fin2 := wpAny_mono (wpAny_holding (vs := ((kws.filterMap (·.1)).zip ks).map (·.2)) q4) (fun vs s4 q5 => (wpAny_pure q5 : wpAny M A (pure (⟨vs, (kws.filterMap (·.1)).zip ks⟩ : Args)) Q E s4)) fun _ _ z => z
  try simp only [Bool.false_eq_true, if_false]
  first
    | exact fin2
    | exact wpAny_bind (wpAny_pure fin2)
    | exact wpAny_bind fin2
    | exact fin
end
abbrev TA2 := L2.St → Hp → (List V → List V → Hp → Prop) → Prop
abbrev TL2 := Gam → Sto → (Sto → List D → List D → Prop) → KX → Prop
def SemA2 (K : PySem.W.Frag) (W : WX) (t : TA2) (T : TL2) : Prop := ∀ Γ S Φ Ψ σ w, Good K w S → Slots K w σ Γ → T Γ S Φ Ψ → OkX K W w Ψ σ → ∀ Q : List V → List V → Hp → Prop,
  (∀ vs zs ds es w' S', Ext w w' → Good K w' S' → Ra K w' vs ds → Ra K w' zs es → Φ S' ds es → Q vs zs w'.H) → t σ w.H Q
structure JC (X : Cx) (W : WX) (es : List Expr) (kws : List Keyword) (ks : List Str) (t : TA2) (T : TL2) : Prop where
  run : ∀ (pins : List (Addr × Obj)) (s : Shared) (σ : L2.St) (H : Hp) (Q : List V → List V → Hp → Prop) (f : Value) (first : List Value) (pos : Pos) (R : Value → Shared → Prop), Inv X pins σ H s → t σ H Q →
    (∀ s1 H1 us ws vs zs, Inv X pins σ H1 s1 → Vals vs us → Vals zs ws → zs.length = ks.length → Q vs zs H1 → Keeps (model X.prog X.w) f s1.heap ∧ wpAny (model X.prog X.w) X.A (call f (first ++ us) (ks.zip ws)) R X.xe s1) →
    wpAny (model X.prog X.w) X.A (callWith pos f first (backTo pos (starEach es X.env)) (backToKw pos (keywordEach kws X.env))) R X.xe s
  sem : SemA2 X.K W t T
def t2 (t tk : TA) (n : Nat) : TA2 := fun σ H Q => t σ H fun vs H1 => tk σ H1 fun zs H2 => zs.length = n ∧ Q vs zs H2
def d2 (T Tk : TL) (n : Nat) : TL2 := fun Γ S Φ Ψ => T Γ S (fun S1 ds => Tk Γ S1 (fun S2 es => es.length = n ∧ Φ S2 ds es) Ψ) Ψ
def tLone (K : PySem.W.Frag) (te : TE) (tk : TA) (n : Nat) : TA2 := fun σ H Q => te σ H fun x H1 => tk σ H1 fun zs H2 => zs.length = n ∧ ∃ p xs, x = V.ref p ∧ (SqT K H2 p xs ∨ SqL K H2 p xs) ∧ Q xs zs H2
def dLone (T : TD) (Tk : TL) (n : Nat) : TL2 := fun Γ S Φ Ψ => T Γ S (fun S1 d => Tk Γ S1 (fun S2 es => es.length = n ∧ ∃ ds, asS S2 d = some ds ∧ Φ S2 ds es) Ψ) Ψ
def lStar (T : TD) (U : TL) : TL := fun Γ S Φ Ψ => T Γ S (fun S1 d => ∃ ds, asS S1 d = some ds ∧ U Γ S1 (fun S2 xs => Φ S2 (ds ++ xs)) Ψ) Ψ
section
variable {X : Cx} {W : WX} {e : Expr} {es : List Expr} {kws : List Keyword} {ks : List Str} {te : TE} {Te : TD} {tl tk : TA} {Tl Tk : TL} {p : Pos}
theorem sem_t2 {K : PySem.W.Frag} {n : Nat} (h1 : SemA K W tl Tl) (h2 : SemA K W tk Tk) : SemA2 K W (t2 tl tk n) (d2 Tl Tk n) := fun Γ S Φ Ψ σ w g sl h hx Q q =>
  h1 Γ S _ Ψ σ w g sl h hx _ fun vs ds w1 S1 e1 g1 r1 k1 => h2 Γ S1 _ Ψ σ w1 g1 (sl.ext e1) k1 (hx.ext e1) _ fun zs es w2 S2 e2 g2 r2 ⟨hl, k2⟩ => ⟨by rw [r2.length]; exact hl, q vs zs ds es w2 S2 (e1.trans e2) g2 (e2.ra r1) r2 k2⟩
/-- the keywords' values -/
theorem kw_run {pos : Pos} {pins : List (Addr × Obj)} {s : Shared} {σ : L2.St} {H : Hp} {Q : List V → Hp → Prop} {Z : List Value → Shared → Prop} (hk : JK X W kws tk Tk) (I : Inv X pins σ H s) (h : tk σ H Q) (q : ∀ ws s1 zs H1, Inv X pins σ H1 s1 → Vals zs ws → Q zs H1 → Z ws s1) :
    wpAny (model X.prog X.w) X.A (evalAll ((backToKw pos (keywordEach kws X.env)).map (·.2))) Z X.xe s := thn (hk.pk.run pos pins s σ H Q I h) fun ws s1 ⟨zs, H1, I1, r, q1⟩ => q ws s1 zs H1 I1 r q1
/-- the first one is not starred -/
theorem jc_cons (ha : JA X W (e :: es) tl Tl) (hk : JK X W kws tk Tk) (hall : ∀ pos, (backToKw pos (keywordEach kws X.env)).all (·.1.isSome) = true := by intro _; rfl) (hks : ∀ pos, (backToKw pos (keywordEach kws X.env)).filterMap (·.1) = ks := by intro _; rfl)
    (he : starEach (e :: es) X.env = (false, eval e X.env) :: starEach es X.env := by rfl) : JC X W (e :: es) kws ks (t2 tl tk ks.length) (d2 Tl Tk ks.length) :=
  ⟨fun pins s σ H Q f first pos R I h q => cw_any (evalArgs_kw2 (hall pos) (thn (ha.pa.run pos pins s σ H _ I h) fun us s1 ⟨vs, H1, I1, r, h1⟩ => kw_run hk I1 h1 fun ws s2 zs H2 I2 rz h2 => by
    rw [hks pos]
    exact q s2 H2 us ws vs zs I2 r rz h2.1 h2.2) he), sem_t2 ha.sem hk.sem⟩
/-- no positional ones -/
theorem jc_nil (hk : JK X W kws tk Tk) (hall : ∀ pos, (backToKw pos (keywordEach kws X.env)).all (·.1.isSome) = true := by intro _; rfl) (hks : ∀ pos, (backToKw pos (keywordEach kws X.env)).filterMap (·.1) = ks := by intro _; rfl) :
    JC X W [] kws ks (t2 tNil tk ks.length) (d2 lNil Tk ks.length) :=
  ⟨fun pins s σ H Q f first pos R I h q => cw_any (evalArgs_kw2_nil (hall pos) (kw_run (Q := fun zs H2 => zs.length = ks.length ∧ Q [] zs H2) hk I h fun ws s2 zs H2 I2 rz h2 => by
    rw [hks pos]
    exact q s2 H2 [] ws [] zs I2 .nil rz h2.1 h2.2)), sem_t2 (ja_nil (X := X)).sem hk.sem⟩
/-- one starred one alone -/
theorem jc_lone (ha : JE X W e te Te) (hk : JK X W kws tk Tk) (hall : ∀ pos, (backToKw pos (keywordEach kws X.env)).all (·.1.isSome) = true := by intro _; rfl) (hks : ∀ pos, (backToKw pos (keywordEach kws X.env)).filterMap (·.1) = ks := by intro _; rfl)
    (he : starEach [.Starred e p] X.env = [(true, eval e X.env)] := by rfl) : JC X W [.Starred e p] kws ks (tLone X.K te tk ks.length) (dLone Te Tk ks.length) := by
  refine ⟨fun pins s σ H Q f first pos R I h q => ?_, fun Γ S Φ Ψ σ w g sl h hx Q q => ?_⟩
  · rw [he]
    refine cw_any (ea_lone (hall pos) (thn (ha.pe.run pins s σ H _ I h) fun u s1 ⟨x, H1, I1, rx, h1⟩ => kw_run hk I1 h1 fun ws s2 zs H2 I2 rz ⟨hl, a, xs, ex, hx, h2⟩ => ?_))
    subst ex
    obtain rfl : u = Value.ref a := rx
    refine StX.star_any I2 hx fun us s3 I3 rv => ?_
    rw [hks pos]
    exact q s3 H2 us ws xs zs I3 rv rz hl h2
  · refine ha.sem Γ S _ Ψ σ w g sl h hx _ fun v d w1 S1 e1 g1 r1 k1 => hk.sem Γ S1 _ Ψ σ w1 g1 (sl.ext e1) k1 (hx.ext e1) _ fun zs es w2 S2 e2 g2 r2 ⟨hl, ds, ed, k2⟩ => ⟨by rw [r2.length]; exact hl, ?_⟩
    obtain ⟨a, xs, rfl, hq, ra⟩ := asS_at g2 (e2.rp r1) ed
    exact ⟨a, xs, rfl, hq.symm, q xs zs ds es w2 S2 (e1.trans e2) g2 ra r2 k2⟩
/-- a starred one among others -/
theorem ja_star (ha : JE X W e te Te) (hr : JA X W es tl Tl) (hs : starEach (.Starred e p :: es) X.env = (true, eval e X.env) :: starEach es X.env := by rfl) : JA X W (.Starred e p :: es) (StX.tStar X.K te tl) (lStar Te Tl) :=
  ⟨StX.pa_star ha.pe hr.pa hs, fun Γ S Φ Ψ σ w g sl h hx Q q => ha.sem Γ S _ Ψ σ w g sl h hx _ fun v d w1 S1 e1 g1 r1 ⟨ds, ed, k1⟩ => by
    obtain ⟨a, xs, rfl, hq, ra⟩ := asS_at g1 r1 ed
    exact ⟨a, xs, rfl, hq.symm, hr.sem Γ S1 _ Ψ σ w1 g1 (sl.ext e1) k1 (hx.ext e1) _ fun vs ds2 w2 S2 e2 g2 r2 k2 => q _ _ w2 S2 (e1.trans e2) g2 ((e2.ra ra).append r2) k2⟩⟩
end
abbrev DSpK := List D → List D → Sto → KD → KX → Prop
def spK (K : PySem.W.Frag) (sp : DSpK) (vs zs : List V) (H : Hp) (Q : VK) (E : XK) : Prop := ∃ w S ds es Φ Ψ, w.H = H ∧ Good K w S ∧ Ra K w vs ds ∧ Ra K w zs es ∧ sp ds es S Φ Ψ ∧ OkD K w Φ Q ∧
  ∀ cv dx x w' S', Ext w w' → Good K w' S' → RpX K w' cv dx x → Ψ S' x → E cv dx w'.H
structure FnK (P : Program) (wd : World) (K : PySem.W.Frag) (mg : Str → Option Value) (base : Heap) (k : Nat) (f : Addr) (ks : List Str) (sp : DSpK) : Prop where
  kp : PySem.W.keepIn K (.ref f) = true
  go : ∀ (A : Around) (outer : List Env) (s : Shared) (H : Hp) (us ws : List Value) (vs zs : List V) (Q : VK) (E : XK), A.guards = some [] → Room k A → Env0 P wd K mg base A outer s H → Vals vs us → Vals zs ws → zs.length = ks.length → spK K sp vs zs H Q E →
    codeAny (model P wd) A (.call (.ref f) ⟨us, ks.zip ws⟩) (CR (L2.CX P wd) outer P wd H s Q E) s
/-- a def's promise, called with n values: the parameters' places in values, defaults, keywords; with a star parameter behind a values -/
def pkP (n : Nat) (perm : List Nat) (md : List D) (sp : DSpec) : DSpK := fun ds es S Φ Ψ => ds.length = n ∧ sp (pick perm (ds ++ md) es) S Φ Ψ
def pkS (b : Bool) (a : Nat) (perm : List Nat) (md : List D) (sp : DSpec) : DSpK := fun ds es S Φ Ψ => (ds.take a).length = a ∧ (b = false → ds.drop a = []) ∧ (ds.drop a).length ≤ sizeLine ∧ sp (pick perm (ds.take a ++ md) es ++ [.tup (ds.drop a)]) S Φ Ψ
/-- the names looked up, one behind another, then m -/
def KwTo {α : Type} (D : Addr) : List (Str × Value) → Sem α → Sem α → Prop
  | [], t, m => t = m
  | q :: l, t, m => ∃ (β γ : Type) (k1 : Option Value → Sem β) (k2 : β → Sem γ) (k3 : γ → Sem α) (a : β), t = ((nsGet D q.1 >>= k1) >>= k2) >>= k3 ∧ k1 (some q.2) = pure a ∧ KwTo D l (k2 a >>= k3) m
theorem KwTo.wp {α : Type} {K : PySem.W.Frag} {M : Model} {A : Around} {E : Value → Shared → Prop} {Q : α → Shared → Prop} {s : Shared} {D : Addr} (X : K.In s.heap) : ∀ {l : List (Str × Value)} {t m : Sem α}, (∀ q ∈ l, PySem.W.nsIn K D q.1 = some (some q.2)) → KwTo D l t m → wpAny M A m Q E s → wpAny M A t Q E s
  | [], t, m, _, e, h => by
    obtain rfl : t = m := e
    exact h
  | q :: l, t, m, hl, ⟨β, γ, k1, k2, k3, a, e1, e2, e3⟩, h => by
    have l1 : PySem.W.Looks M s.heap (nsGet D q.1 >>= k1) a := (PySem.W.looks_nsIn X (hl q List.mem_cons_self)).andThen (PySem.W.Looks.of_pure e2)
    rw [e1, bind_assoc]
    exact wpAny_bind (l1.here (KwTo.wp X (fun p hp => hl p (List.mem_cons_of_mem _ hp)) e3 h))
/-- the lacking keyword-only ones -/
theorem kwd_of {K : PySem.W.Frag} {kV : Value} {kws ms : List (Str × V)} (h : KwdV K kV kws) (hm : ∀ q ∈ ms, q ∈ kws) : ∃ (D : Addr) (mv : List Value), (ms = [] ∨ kV = .ref D) ∧ mv.length = ms.length ∧ Vals (ms.map (·.2)) mv ∧ ∀ q ∈ (ms.map (·.1)).zip mv, PySem.W.nsIn K D q.1 = some (some q.2) := by
  cases ms with
  | nil => exact ⟨0, [], .inl rfl, rfl, .nil, fun q hq => by cases hq⟩
  | cons m ms =>
    rcases h with e | ⟨D, e, hq⟩
    · subst e
      exact absurd (hm m List.mem_cons_self) (by simp)
    · obtain ⟨mv, hl, rk, hks⟩ := kwd_vals (ms := m :: ms) fun q hq2 => hq q (hm q hq2)
      exact ⟨D, mv, .inr e, hl, rk, hks⟩
theorem vals_pre : ∀ {vs : List V} {us : List Value} {n : Nat}, Vals vs us → ∃ u1 u2, us = u1 ++ u2 ∧ Vals (vs.take n) u1 ∧ Vals (vs.drop n) u2
  | vs, us, 0, r => ⟨[], us, rfl, .nil, r⟩
  | [], _, _ + 1, .nil => ⟨[], [], rfl, .nil, .nil⟩
  | v :: vs, _, n + 1, .cons a r => by
    obtain ⟨u1, u2, e, r1, r2⟩ := vals_pre (n := n) r
    exact ⟨_ :: u1, u2, by rw [e]; rfl, .cons a r1, r2⟩
section
variable {P : Program} {wd : World} {K : PySem.W.Frag} {mg : Str → Option Value} {base : Heap} {x qual : Str} {st : Stmt} {kws ms : List (Str × V)} {md : List D} {f : Addr} {fd : FuncData} {N ps ks : List Str} {k n : Nat} {perm : List Nat} {sp : DSpec}
abbrev BodyOk (P : Program) (wd : World) (K : PySem.W.Frag) (mg : Str → Option Value) (base : Heap) (N : List Str) (qual : Str) (st : Stmt) (f : Addr) (k : Nat) (sp : DSpec) : Prop :=
  ∀ (cdv : Value) (A : Around) (outer : List Env) (s : Shared) (H : Hp) (E : XK), (A.deeper (envOfC qual (defScope st) s.heap.objs.size f cdv)).guards = some [] → Room k (A.deeper (envOfC qual (defScope st) s.heap.objs.size f cdv)) →
    ∃ t T, JB (cxOf (L2.CX P wd) P wd K mg base N qual (defScope st) f cdv A outer s H E) (WD E) (defBody st) t T ∧ ∀ ds S Φ Ψ, sp ds S Φ Ψ → T { nx := fun _ S' => RetOk S Φ S' .non, rt := RetOk S Φ, er := ErOk S Ψ } (gstart N ds) S
/-- THE RULE: a def without a star parameter -/
theorem fnK_plain (F : FunD K x qual (defArgs st) (defBody st) (defScope st) [] kws f fd) (Sc : FnScope N ps (defScope st)) (hms : ∀ q ∈ ms, q ∈ kws) (hmd : ∀ w, Ra K w (ms.map (·.2)) md) (len : ∀ ds S Φ Ψ, sp ds S Φ Ψ → ds.length = ps.length)
    (hb : ∀ (D : Addr) (kV doc pm : Value) (an : Option Addr) (cdv ct : Value) (us mv ws : List Value), (ms = [] ∨ kV = .ref D) → us.length = n → mv.length = ms.length → ws.length = ks.length →
      KwTo D ((ms.map (·.1)).zip mv) (bindArgs (PySem.W.fnOf x qual (defArgs st) (defBody st) (defScope st) .none kV doc pm an cdv ct) ⟨us, ks.zip ws⟩) (pure (ps.zip (pick perm (us ++ mv) ws))))
    (hbody : BodyOk P wd K mg base N qual st f k sp) : FnK P wd K mg base (k + 1) f ks (pkP n perm md sp) := by
  refine ⟨F.kp, fun A outer s H us ws vs zs Q E gd hr e0 rv rz hl ⟨w, S, ds, es, Φ, Ψ, hH, g, r1, r2, ⟨hn, hsp⟩, q, hx⟩ => ?_⟩
  subst hH
  obtain ⟨oc, od, dV, kV, doc, pm, an, cdv, ct, osl, rfl, lk, hcd, hD, hK⟩ := F.ex
  obtain ⟨D, mv, h1, h2, rm, hks⟩ := kwd_of hK hms
  have KX : K.In s.heap := e0.mod.kin.keeps fun b o e => (e0.bs b o e).1
  have eD : dV = .none := hD.elim (fun z => z.2) fun z => absurd rfl z.1
  subst eD
  have bd := hb D kV doc pm an cdv ct us mv ws h1 (by rw [← rv.length, r1.length]; exact hn) (by rw [h2]) (by rw [← rz.length]; exact hl)
  have rr : Ra K w (pick perm (vs ++ ms.map (·.2)) zs) (pick perm (ds ++ md) es) := pick_ra (r1.append (hmd w)) r2 _
  have rp : Vals (pick perm (vs ++ ms.map (·.2)) zs) (pick perm (us ++ mv) ws) := pick_vals (rv.append rm) rz _
  have many := len _ _ _ _ hsp
  refine StX.run_bnd (N := N) (ps := ps) (G := fun xs H2 => xs = pick perm (vs ++ ms.map (·.2)) zs ∧ H2 = w.H) lk hcd Sc hr e0 (fun A' Ex Q' h => ?_) fun s2 H2 xs ⟨ex, eH⟩ hr' => ?_
  · exact KwTo.wp KX hks bd (wpAny_pure (h s w.H _ _ e0 Un.refl rfl (fun _ _ z => z) rp (by rw [rr.length]; exact many) ⟨rfl, rfl⟩))
  · subst ex eH
    obtain ⟨t, T, jb, hq⟩ := hbody cdv A outer s2 w.H E (by show A.guards = some []; exact gd) hr'
    exact ⟨t, jb.pss, body_ok2 jb.sem hq ⟨w, S, _, Φ, Ψ, rfl, g, rr, hsp, q, hx⟩⟩
/-- THE RULE: a def with a star parameter, behind a others -/
theorem fnK_star {pv : Str} {a : Nat} {b : Bool} (F : FunD K x qual (defArgs st) (defBody st) (defScope st) [] kws f fd) (Sc : FnScope N (ps ++ [pv]) (defScope st)) (hms : ∀ q ∈ ms, q ∈ kws) (hmd : ∀ w, Ra K w (ms.map (·.2)) md) (len : ∀ ds S Φ Ψ, sp ds S Φ Ψ → ds.length = ps.length + 1)
    (hb : ∀ (D : Addr) (kV doc pm : Value) (an : Option Addr) (cdv ct : Value) (us rest mv ws : List Value), (ms = [] ∨ kV = .ref D) → (b = false → rest = []) → us.length = a → mv.length = ms.length → ws.length = ks.length →
      KwTo D ((ms.map (·.1)).zip mv) (bindArgs (PySem.W.fnOf x qual (defArgs st) (defBody st) (defScope st) .none kV doc pm an cdv ct) ⟨us ++ rest, ks.zip ws⟩) (newTuple rest >>= fun t => pure (ps.zip (pick perm (us ++ mv) ws) ++ [(pv, t)])))
    (hbody : BodyOk P wd K mg base N qual st f k sp) : FnK P wd K mg base (k + 1) f ks (pkS b a perm md sp) := by
  refine ⟨F.kp, fun A outer s H us ws vs zs Q E gd hr e0 rv rz hl ⟨w, S, ds, es, Φ, Ψ, hH, g, r1, r2, ⟨hn, hb0, hz, hsp⟩, q, hx⟩ => ?_⟩
  subst hH
  obtain ⟨oc, od, dV, kV, doc, pm, an, cdv, ct, osl, rfl, lk, hcd, hD, hK⟩ := F.ex
  obtain ⟨D, mv, h1, h2, rm, hks⟩ := kwd_of hK hms
  have KX : K.In s.heap := e0.mod.kin.keeps fun b o e => (e0.bs b o e).1
  have eD : dV = .none := hD.elim (fun z => z.2) fun z => absurd rfl z.1
  subst eD
  obtain ⟨u1, u2, eu, ra1, ra2⟩ := vals_pre (n := a) rv
  subst eu
  have q1 : Ra K w (vs.take a) (ds.take a) := RpA.take a r1
  have q2 : Ra K w (vs.drop a) (ds.drop a) := RpA.drop a r1
  have bd := hb D kV doc pm an cdv ct u1 u2 mv ws h1 (fun e => List.eq_nil_of_length_eq_zero (by rw [← ra2.length, q2.length, hb0 e]; rfl)) (by rw [← ra1.length, q1.length]; exact hn) (by rw [h2]) (by rw [← rz.length]; exact hl)
  have rr : Ra K w (pick perm (vs.take a ++ ms.map (·.2)) zs) (pick perm (ds.take a ++ md) es) := pick_ra (q1.append (hmd w)) r2 _
  have rp : Vals (pick perm (vs.take a ++ ms.map (·.2)) zs) (pick perm (u1 ++ mv) ws) := pick_vals (ra1.append rm) rz _
  have many := len _ _ _ _ hsp
  rw [List.length_append] at many
  have many2 : (pick perm (ds.take a ++ md) es).length = ps.length := by simpa using many
  have lp : (pick perm (u1 ++ mv) ws).length = ps.length := by rw [← rp.length, rr.length]; exact many2
  have hz2 : u2.length ≤ sizeLine := by rw [← ra2.length, q2.length]; exact hz
  have hnew : w.H s.heap.objs.size = Option.none := e0.hok.fresh (Nat.le_refl _)
  refine StX.run_bnd (N := N) (ps := ps ++ [pv]) (G := fun xs H2 => ∃ p, w.H p = Option.none ∧ xs = pick perm (vs.take a ++ ms.map (·.2)) zs ++ [V.ref p] ∧ H2 = upd w.H p (.tup (vs.drop a))) lk hcd Sc hr e0 (fun A' Ex Q' h => ?_) fun s2 H2 xs ⟨p, hp, ex, eH⟩ hr' => ?_
  · refine KwTo.wp KX hks bd (wpAny_bind (wpAny_newTuple (wpAny_pure ?_) hz2))
    have made : ObjOk P wd (upd w.H s.heap.objs.size (.tup (vs.drop a))) (s.heap.push ({ cls := .type "tuple", data := .seq u2.toArray } : Obj)) s.heap.objs.size (.tup (vs.drop a)) := ⟨by rw [q2.length]; exact hz, u2, ra2, ⟨_, Heap.get?_push_size _ rfl, rfl, _, rfl⟩⟩
    have un := StX.un_laid (fs := frs outer) (s := s) (o := ({ cls := .type "tuple", data := .seq u2.toArray } : Obj)) (u := .tup (vs.drop a)) hnew
    have z := h _ _ (pick perm (vs.take a ++ ms.map (·.2)) zs ++ [V.ref s.heap.objs.size]) (pick perm (u1 ++ mv) ws ++ [Value.ref s.heap.objs.size]) (StX.env0_laid e0 made) un rfl
      (fun e s' => StX.cxUp outer s w.H _ _ E e s' un (fun b o q => Heap.get?_push_of_some _ q) rfl) (rp.append (.cons rfl .nil)) (by rw [List.length_append, List.length_append, rr.length, many2] <;> rfl) ⟨_, hnew, rfl, rfl⟩
    rw [List.zip_append lp.symm] at z
    exact z
  · subst ex eH
    obtain ⟨t, T, jb, hq⟩ := hbody cdv A outer s2 _ E (by show A.guards = some []; exact gd) hr'
    have ee := Ext.frz g (.tup (vs.drop a)) hp
    refine ⟨t, jb.pss, body_ok2 jb.sem hq ⟨w.frz p (.tup (vs.drop a)), S, _, Φ, Ψ, rfl, g.frz _ hp, (ee.ra rr).append (.cons (.tup (.inl (.inl upd_same)) (ee.ra q2)) .nil), hsp, q.ext ee, fun cv dx x w' S' e gg r hΨ => hx cv dx x w' S' (ee.trans e) gg r hΨ⟩⟩
end
end DL
namespace DL
open PySem PySem.Spec PyProof.Rows L2
theorem under_guards {A : Around} {C : Addr} {us : List Value} {kw : List (Str × Value)} : (A.under (.builtin "type.__call__" ⟨.ref C :: us, kw⟩)).guards = A.guards := by
  first | rfl | simp [Around.under, Code.weight, Code.isCreation, Code.isGuard, Code.isCaller, Code.frames, Code.isFrame, guardIds]
def dCallA (sp : DSpK) (T : TL2) : TD := fun Γ S Φ Ψ => T Γ S (fun S1 ds es => sp ds es S1 Φ Ψ) Ψ
def tMakeA (K : PySem.W.Frag) (C : Addr) (sp : DSpK) (W : WX) (t : TA2) : TE := fun σ H Q => t σ H fun vs zs H1 => ∀ x dx, H1 x = none → H1 dx = none → dx ≠ x → spK K sp (.ref x :: vs) zs (upd (upd H1 dx (.own x)) x (.ins C dx [])) (fun v H2 => v = .non ∧ Q (.ref x) H2) (WE W σ)
def dMakeA (C : Addr) (sp : DSpK) (T : TL2) : TD := fun Γ S Φ Ψ => T Γ S (fun S1 ds es => sp (.own S1.length :: ds) es (S1 ++ [.ins C []]) (fun S2 d => d = .non ∧ Φ S2 (.own S1.length)) Ψ) Ψ
def tMethA (K : PySem.W.Frag) (C : Addr) (m : Str) (sp : DSpK) (W : WX) (to : TE) (t : TA2) : TE := fun σ H Q => to σ H fun x H1 => ∃ a dx fs, x = .ref a ∧ H1 a = some (.ins C dx fs) ∧ fs.lookup m = none ∧ t σ H1 fun vs zs H2 => spK K sp (x :: vs) zs H2 Q (WE W σ)
def dMethA (C : Addr) (m : Str) (sp : DSpK) (To : TD) (T : TL2) : TD := fun Γ S Φ Ψ => To Γ S (fun S1 d => ∃ fs, asI S1 d = some (C, fs) ∧ fs.lookup m = none ∧ T Γ S1 (fun S2 ds es => sp (d :: ds) es S2 Φ Ψ) Ψ) Ψ
def tCMethA (K : PySem.W.Frag) (C : Addr) (sp : DSpK) (W : WX) (to : TE) (t : TA2) : TE := fun σ H Q => to σ H fun x H1 => x = .ref C ∧ t σ H1 fun vs zs H2 => spK K sp (.ref C :: vs) zs H2 Q (WE W σ)
def dCMethA (C : Addr) (sp : DSpK) (To : TD) (T : TL2) : TD := fun Γ S Φ Ψ => To Γ S (fun S1 d => d = .obj C ∧ T Γ S1 (fun S2 ds es => sp (.obj C :: ds) es S2 Φ Ψ) Ψ) Ψ
def tPropA (K : PySem.W.Frag) (C : Addr) (sp : DSpK) (to : TE) : TE := fun σ H Q => to σ H fun x H1 => ∃ a dx fs, x = .ref a ∧ H1 a = some (.ins C dx fs) ∧ spK K sp [x] [] H1 Q (fun _ _ _ => False)
def dPropA (C : Addr) (sp : DSpK) (To : TD) : TD := fun Γ S Φ Ψ => To Γ S (fun S1 d => ∃ fs, asI S1 d = some (C, fs) ∧ sp [d] [] S1 Φ (fun _ _ => False)) Ψ
/-- the class in a local name: cls(..) -/
def tMakeV (K : PySem.W.Frag) (i : Nat) (C : Addr) (sp : DSpK) (W : WX) (t : TA2) : TE := fun σ H Q => σ[i]? = some (some (.ref C)) ∧ tMakeA K C sp W t σ H Q
def dMakeV (i : Nat) (C : Addr) (sp : DSpK) (T : TL2) : TD := fun Γ S Φ Ψ => Γ[i]? = some (some (.obj C)) ∧ dMakeA C sp T Γ S Φ Ψ
section
variable {K : PySem.W.Frag} {W : WX} {sp : DSpK} {t : TA2} {T : TL2} {to : TE} {To : TD} {C : Addr} {m : Str}
theorem spk_of {w : Hs} {S : Sto} {vs zs : List V} {ds es : List D} {Φ : KD} {Ψ : KX} {Q : VK} {σ : L2.St} {w0 : Hs} (g : Good K w S) (r : Ra K w vs ds) (rz : Ra K w zs es) (h : sp ds es S Φ Ψ) (q : OkD K w Φ Q) (e : Ext w0 w) (hx : OkX K W w0 Ψ σ) : spK K sp vs zs w.H Q (WE W σ) :=
  ⟨w, S, ds, es, Φ, Ψ, rfl, g, r, rz, h, q, fun cv dx x w' S' e2 gg rr hΨ => hx cv dx x w' S' (e.trans e2) gg rr hΨ⟩
theorem sem_makeA (h : SemA2 K W t T) : SemE K W (tMakeA K C sp W t) (dMakeA C sp T) := fun Γ S Φ Ψ σ w g sl hT hx Q q =>
  h Γ S _ Ψ σ w g sl hT hx _ fun vs zs ds es w1 S1 e1 g1 r1 r2 h1 => fun x dx h0 hd _ => by
    have e2 : Ext w1 (w1.celI x dx C) := Ext.celI g1 h0 hd
    have own : Rv K (w1.celI x dx C) (.ref x) (.own S1.length) := .own (at_last g1.len)
    refine spk_of (g1.celI h0 hd) (.cons own (e2.ra r1)) (e2.ra r2) h1 ?_ (e1.trans e2) hx
    rintro v d w3 S3 e3 g3 r3 ⟨ed, h3⟩
    subst ed
    exact ⟨rv_non r3, q (.ref x) (.own S1.length) w3 S3 ((e1.trans e2).trans e3) g3 (e3.rp own) h3⟩
theorem sem_makeV {i : Nat} (h : SemA2 K W t T) : SemE K W (tMakeV K i C sp W t) (dMakeV i C sp T) := fun Γ S Φ Ψ σ w g sl ⟨hi, hT⟩ hx Q q => by
  obtain ⟨v, hv, r⟩ := sl.2 i _ hi
  cases r
  exact ⟨hv, sem_makeA h Γ S Φ Ψ σ w g sl hT hx Q q⟩
theorem sem_methA (ho : SemE K W to To) (h : SemA2 K W t T) : SemE K W (tMethA K C m sp W to t) (dMethA C m sp To T) := fun Γ S Φ Ψ σ w g sl hT hx Q q =>
  ho Γ S _ Ψ σ w g sl hT hx _ fun v d w1 S1 e1 g1 r1 ⟨fs, e2, l, h1⟩ => by
    obtain ⟨a, dx, vs, rfl, hH, rf⟩ := asI_at g1 r1 e2
    exact ⟨a, dx, vs, rfl, hH, rf_none rf l, h Γ S1 _ Ψ σ w1 g1 (sl.ext e1) h1 (hx.ext e1) _ fun us zs ds es w2 S2 e3 g2 r2 r3 h2 => spk_of g2 (.cons (e3.rp r1) r2) r3 h2 (q.ext (e1.trans e3)) (e1.trans e3) hx⟩
theorem sem_cmethA (ho : SemE K W to To) (h : SemA2 K W t T) : SemE K W (tCMethA K C sp W to t) (dCMethA C sp To T) := fun Γ S Φ Ψ σ w g sl hT hx Q q =>
  ho Γ S _ Ψ σ w g sl hT hx _ fun v d w1 S1 e1 g1 r1 ⟨ed, h1⟩ => by
    subst ed
    cases r1
    exact ⟨rfl, h Γ S1 _ Ψ σ w1 g1 (sl.ext e1) h1 (hx.ext e1) _ fun us zs ds es w2 S2 e3 g2 r2 r3 h2 => spk_of g2 (.cons (.obj C) r2) r3 h2 (q.ext (e1.trans e3)) (e1.trans e3) hx⟩
theorem sem_propA (ho : SemE K W to To) : SemE K W (tPropA K C sp to) (dPropA C sp To) := fun Γ S Φ Ψ σ w g sl hT hx Q q =>
  ho Γ S _ Ψ σ w g sl hT hx _ fun v d w1 S1 e1 g1 r1 ⟨fs, e2, h1⟩ => by
    obtain ⟨a, dx, vs, rfl, hH, rf⟩ := asI_at g1 r1 e2
    exact ⟨a, dx, vs, rfl, hH, w1, S1, [d], [], Φ, _, rfl, g1, .cons r1 .nil, .nil, h1, q.ext e1, fun _ _ _ _ _ _ _ _ z => z.elim⟩
end
section
variable {X : Cx} {W : WX} {o : Expr} {es : List Expr} {kws : List Keyword} {ks : List Str} {t : TA2} {T : TL2} {to : TE} {To : TD} {C : Addr} {m x : Str} {pos apos p : Pos} {k : Nat} {sp : DSpK} {f : Addr}
/-- the callee's run -/
theorem runK {pins : List (Addr × Obj)} {σ : L2.St} {H : Hp} {s : Shared} {Q : VK} {us ws : List Value} {vs zs : List V} (F : FnK X.prog X.w X.K X.mg X.base k f ks sp) (gd : X.A.guards = some []) (hr : Room k X.A) (tk : Takes X W) (I : Inv X pins σ H s) (r : Vals vs us) (rz : Vals zs ws) (hl : zs.length = ks.length)
    (h : spK X.K sp vs zs H Q (WE W σ)) : codeAny (model X.prog X.w) X.A (.call (.ref f) ⟨us, ks.zip ws⟩) (fun r s' => match r with | .ok (.ret v) => EP X pins σ Q v s' | .ok _ => False | .error e => X.xe e s') s := by
  refine codeAny_mono (F.go X.A X.stack s H us ws vs zs Q _ gd hr I.env0 r rz hl h) fun rr s2 hq => ?_
  match rr, hq with
  | .error u, hq => exact passAt tk σ pins H s u s2 I hq
  | .ok (.ret u), hq => exact I.after hq
  | .ok .next, hq => exact False.elim hq
  | .ok .brk, hq => exact False.elim hq
  | .ok .cont, hq => exact False.elim hq
/-- a class and its __init__ -/
structure CtorK (P : Program) (wd : World) (K : PySem.W.Frag) (mg : Str → Option Value) (base : Heap) (C : Addr) (k : Nat) (ks : List Str) (sp : DSpK) : Prop where
  ex : ∃ fi, Mk K C fi ∧ FnK P wd K mg base k fi ks sp
theorem goCtor {pins : List (Addr × Obj)} {σ : L2.St} {H : Hp} {s : Shared} {Q : VK} {us ws : List Value} {vs zs : List V} (c : CtorK X.prog X.w X.K X.mg X.base C k ks sp) (gd : X.A.guards = some []) (hr : Room (k + 1) X.A) (tk : Takes X W) (I : Inv X pins σ H s) (r : Vals vs us) (rz : Vals zs ws) (hl : zs.length = ks.length)
    (h : ∀ x dx, H x = none → H dx = none → dx ≠ x → spK X.K sp (.ref x :: vs) zs (upd (upd H dx (.own x)) x (.ins C dx [])) (fun v H2 => v = .non ∧ Q (.ref x) H2) (WE W σ)) : Keeps (model X.prog X.w) (.ref C) s.heap ∧ wpAny (model X.prog X.w) X.A (call (.ref C) us (ks.zip ws)) (EP X pins σ Q) X.xe s := by
  obtain ⟨fi, M, F⟩ := c.ex
  refine ⟨PySem.W.keeps_K M.kp _ I.kIn, ?_⟩
  have hs := h (s.heap.objs.size + 1) s.heap.objs.size (I.hok.fresh (Nat.le_succ _)) (I.hok.fresh (Nat.le_refl _)) (Nat.ne_of_lt (Nat.lt_succ_self _))
  have J := Inv.made (C := C) I
  have rr : Vals (V.ref (s.heap.objs.size + 1) :: vs) (Value.ref (s.heap.objs.size + 1) :: us) := .cons rfl r
  refine wpAny_call (make_map (f := fi) I.kIn M.makes M.init (beq_iff_eq.mp M.fn) (codeAny_mono (F.go _ X.stack _ _ _ ws _ zs _ _ (under_guards.trans gd) (hr.make C us (ks.zip ws)) (J.env0.make C us (ks.zip ws)) rr rz hl hs) fun z s2 hz => ?_))
  match z, hz with
  | .error u, hz => exact passAt tk σ pins _ _ u s2 J hz
  | .ok (.ret u), hz =>
    obtain ⟨v, H2, J2, rv, ev, q2⟩ := J.after hz
    subst ev
    exact ⟨rv, ⟨V.ref (s.heap.objs.size + 1), H2, J2, rfl, q2⟩⟩
  | .ok .next, hz => exact False.elim hz
  | .ok .brk, hz => exact False.elim hz
  | .ok .cont, hz => exact False.elim hz
theorem je_makeA (c : CtorK X.prog X.w X.K X.mg X.base C k ks sp) (hm : X.mg x = some (.ref C)) (gd : X.A.guards = some []) (hr : Room (k + 1) X.A) (hg : Gl X x) (tk : Takes X W) (ha : JC X W es kws ks t T) (hdb : (x == ("__debug__" : Str)) = false := by decide) :
    JE X W (.Call (.Name x p) es kws pos) (tMakeA X.K C sp W t) (dMakeA C sp T) :=
  ⟨⟨fun pins s σ H Q I h => wpAny_Call_Name_kw (ld_glob I hg hm (ha.run pins s σ H _ _ [] pos _ I h fun s1 H1 us ws vs zs I1 r rz hl h1 => goCtor c gd hr tk I1 r rz hl h1) hdb)⟩, sem_makeA ha.sem⟩
theorem je_makeV (i : Nat) (c : CtorK X.prog X.w X.K X.mg X.base C k ks sp) (gd : X.A.guards = some []) (hr : Room (k + 1) X.A) (tk : Takes X W) (ha : JC X W es kws ks t T) (hN : X.N[i]? = some x := by rfl) (hv : Vis X.env.scope x := by first | exact Or.inl rfl | exact Or.inr (Or.inl rfl) | exact Or.inr (Or.inr rfl))
    (hdb : (x == ("__debug__" : Str)) = false := by decide) (hcd : (x == ("__classdict__" : Str)) = false := by decide) : JE X W (.Call (.Name x p) es kws pos) (tMakeV X.K i C sp W t) (dMakeV i C sp T) := by
  refine ⟨⟨fun pins s σ H Q I ⟨hi, h⟩ => wpAny_Call_Name_kw (thn ((pe_var (pos := p) hN hv hdb hcd).run pins s σ H (fun v H1 => v = .ref C ∧ H1 = H) I ⟨.ref C, hi, rfl, rfl⟩) fun u s1 ⟨v, H1, I1, r1, q1⟩ => ?_)⟩, sem_makeV ha.sem⟩
  obtain ⟨rfl, rfl⟩ := q1
  cases r1
  exact ha.run pins s1 σ _ _ _ [] pos _ I1 h fun s2 H2 us ws vs zs I2 r rz hl h1 => goCtor c gd hr tk I2 r rz hl h1
/-- a method -/
structure MethK (P : Program) (wd : World) (K : PySem.W.Frag) (mg : Str → Option Value) (base : Heap) (C : Addr) (m : Str) (k : Nat) (ks : List Str) (sp : DSpK) : Prop where
  cl : Cls K C
  ex : ∃ f, Meth K C m f ∧ FnK P wd K mg base k f ks sp
theorem je_methA {pl : Sem Bool} (c : MethK X.prog X.w X.K X.mg X.base C m k ks sp) (gd : X.A.guards = some []) (hr : Room k X.A) (tk : Takes X W) (ho : JE X W o to To) (ha : JC X W es kws ks t T)
    (ht : eval (.Call (.Attribute o m apos) es kws pos) X.env = (do
      let ov ← eval o X.env
      standAt apos.atName
      let (f, first) ← holding [ov] (getMethod ov m pl)
      callWith pos f first (backTo pos (starEach es X.env)) (backToKw pos (keywordEach kws X.env))) := by rfl) :
    JE X W (.Call (.Attribute o m apos) es kws pos) (tMethA X.K C m sp W to t) (dMethA C m sp To T) := by
  obtain ⟨f, hm, F⟩ := c.ex
  refine ⟨⟨fun pins s σ H Q I h => PySem.W.methodCall_KW (pl := pl) (thn (ho.pe.run pins s σ H _ I h) fun u s1 ⟨y, H1, I1, rx, a, dx, fs, ex, ea, l, q⟩ => ?_) ht⟩, sem_methA ho.sem ha.sem⟩
  subst ex
  obtain rfl : u = Value.ref a := rx
  exact getmeth_ok I1 ea c.cl hm l (ha.run pins s1 σ H1 _ _ [.ref a] pos _ I1 q fun s2 H2 us ws vs zs I2 r rz hl h1 => ⟨PySem.W.keeps_K hm.kp _ I2.kIn, wpAny_call (runK (us := .ref a :: us) (vs := .ref a :: vs) F gd hr tk I2 (.cons rfl r) rz hl h1)⟩)
/-- a class method, read off the class -/
structure CMetK (P : Program) (wd : World) (K : PySem.W.Frag) (mg : Str → Option Value) (base : Heap) (C : Addr) (m : Str) (k : Nat) (ks : List Str) (sp : DSpK) : Prop where
  ex : ∃ mc p g, ClX.CRead K C mc ∧ ClX.CMet K C mc m p g ∧ FnK P wd K mg base k g ks sp
theorem je_cmethA {pl : Sem Bool} (c : CMetK X.prog X.w X.K X.mg X.base C m k ks sp) (gd : X.A.guards = some []) (hr : Room k X.A) (tk : Takes X W) (ho : JE X W o to To) (ha : JC X W es kws ks t T)
    (ht : eval (.Call (.Attribute o m apos) es kws pos) X.env = (do
      let ov ← eval o X.env
      standAt apos.atName
      let (f, first) ← holding [ov] (getMethod ov m pl)
      callWith pos f first (backTo pos (starEach es X.env)) (backToKw pos (keywordEach kws X.env))) := by rfl) :
    JE X W (.Call (.Attribute o m apos) es kws pos) (tCMethA X.K C sp W to t) (dCMethA C sp To T) := by
  obtain ⟨mc, pp, g, cr, cm, F⟩ := c.ex
  refine ⟨⟨fun pins s σ H Q I h => PySem.W.methodCall_KW (pl := pl) (thn (ho.pe.run pins s σ H _ I h) fun u s1 ⟨y, H1, I1, rx, ex, q⟩ => ?_) ht⟩, sem_cmethA ho.sem ha.sem⟩
  subst ex
  obtain rfl : u = Value.ref C := rx
  refine ClX.getmethcm_ok I1 cr cm fun s2 I2 => ha.run _ s2 σ H1 _ _ [] pos _ I2 q fun s3 H2 us ws vs zs I3 r rz hl h1 => ⟨PySem.W.keeps_M cm.fi _ ⟨ClX.pin_at I3, I3.kIn⟩, ?_⟩
  exact thn (wpAny_call (PySem.W.method_call (ClX.pin_at I3) (runK (us := .ref C :: us) (vs := .ref C :: vs) F gd hr tk I3 (.cons rfl r) rz hl h1))) fun _ _ y => ClX.unpinE y
/-- a property -/
structure PropK (P : Program) (wd : World) (K : PySem.W.Frag) (mg : Str → Option Value) (base : Heap) (C : Addr) (m : Str) (k : Nat) (sp : DSpK) : Prop where
  cl : Cls K C
  ex : ∃ p g, PropOf K C m p g ∧ FnK P wd K mg base k g [] sp
theorem je_propA (c : PropK X.prog X.w X.K X.mg X.base C m k sp) (gd : X.A.guards = some []) (hr : Room (k + 1) X.A) (ho : JE X W o to To) (hb : attributeBase o m X.env (eval o X.env) = eval o X.env := by rfl) : JE X W (.Attribute o m pos) (tPropA X.K C sp to) (dPropA C sp To) := by
  obtain ⟨pp, g, hp, F⟩ := c.ex
  refine ⟨⟨fun pins s σ H Q I h => attr_of hb (thn (ho.pe.run pins s σ H _ I h) fun u s1 ⟨y, H1, I1, rx, a, dx, fs, ex, ea, q⟩ => ?_)⟩, sem_propA ho.sem⟩
  subst ex
  obtain rfl : u = Value.ref a := rx
  obtain ⟨mA, O, _, _, _, _⟩ := ins_get I1.hok ea
  obtain ⟨od, J, _⟩ := O.look
  obtain ⟨rest, hrec⟩ := hp.rec_
  have I2 := I1.tok (s1.toks + 1)
  have hc : (PySem.W.clsIn X.K C).isSome = true := by
    obtain ⟨cd, hc, _⟩ := PySem.W.any_some c.cl.hd
    rw [hc]
    rfl
  refine PySem.W.get_bind I1.kIn J (PySem.W.plainGet_of (c.cl.get m)).1 (PySem.W.findObj_data hc hp.at_ hp.get hp.tak) (PySem.W.plainGet_of (c.cl.get m)).2 (wpAny_call (PySem.W.prop_get (s := { s1 with toks := s1.toks + 1 }) I1.kIn hrec ?_))
  refine codeAny_mono (F.go X.A.in1 X.stack { s1 with toks := s1.toks + 1 } H1 [.ref a] [] [.ref a] [] Q _ gd hr.in1 I2.env0.in1 (.cons rfl .nil) .nil rfl q) fun rr s2 hq => ?_
  match rr, hq with
  | .error u, ⟨_, _, _, _, _, _, _, _, _, _, _, _, z⟩ => exact z.elim
  | .ok (.ret u), hq =>
    obtain ⟨v, H', I3, rv, q3⟩ := I2.after hq
    show wpAny _ _ (handedOut u) _ _ _
    rw [PySem.W.handedOut_of (handed_of rv)]
    exact wpAny_pure ⟨v, H', I3, rv, q3⟩
  | .ok .next, hq => exact False.elim hq
  | .ok .brk, hq => exact False.elim hq
  | .ok .cont, hq => exact False.elim hq
end
def fzID (d : D) (S : Sto) (Φ : KD) : Prop := match d with
  | .own h => ∃ C fs, S[h]? = some (.ins C fs) ∧ Φ (S.set h .gone) (.ins C fs)
  | d => Φ S d
def dFzI (T : TD) : TD := fun Γ S Φ Ψ => T Γ S (fun S1 d => fzID d S1 Φ) Ψ
theorem fzI_ok {K : PySem.W.Frag} {w : Hs} {S : Sto} (g : Good K w S) {Φ : KD} {Q : VK} {v : V} {d : D} (r : Rv K w v d) (h : fzID d S Φ) (q : OkD K w Φ Q) : Q v w.H := by
  have other : Φ S d → Q v w.H := fun z => q v d w S (Ext.refl w) g r z
  cases d with
  | own hh =>
    obtain ⟨C, fs, e, hΦ⟩ := h
    obtain ⟨a, dx, vs, rfl, ha, hH, rf⟩ := ins_at g r e
    have hm : a ∈ w.al := List.mem_of_getElem? ha
    have hF : w.F a = none := (g.cell hh a _ ha e).1
    have ee : Ext w (w.fz a (.ins C dx vs)) := Ext.fz hm hF
    exact q (.ref a) (.ins C fs) (w.fz a (.ins C dx vs)) _ ee (g.fzC ha e (fun z => nomatch z) hH) (.ins upd_same (RpF.mono ee.f ee.alx fs vs rf)) hΦ
  | _ => exact other h
theorem je_fzI {X : Cx} {W : WX} {e : Expr} {t : TE} {T : TD} (h : JE X W e t T) : JE X W e t (dFzI T) := ⟨h.pe, fun Γ S Φ Ψ σ w g sl hT hx Q q =>
  h.sem Γ S _ Ψ σ w g sl hT hx Q fun v d w1 S1 e1 g1 r1 h1 => fzI_ok g1 r1 h1 (q.ext e1)⟩
end DL
namespace DL
open PySem PySem.Spec PyProof.Rows L2
/-- what a class must say, so that its instances are compared by identity -/
structure IdC (K : PySem.W.Frag) (C : Addr) : Prop where
  mo : PySem.W.mroIn K C (.type "object") = some true
  eq : PySem.W.findIn K (.ref C) "__eq__" = some (some (.builtin "object.__eq__"))
  ne : PySem.W.findIn K (.ref C) "__ne__" = some (some (.builtin "object.__ne__"))
section
variable {M : Model} {prog : Program} {w : World} {A : Around} {E : Value → Shared → Prop} {s : Shared} {K : PySem.W.Frag} {x y C : Addr} {ox oy : Obj} {od oe : Option Obj}
theorem ie_call (X : K.In s.heap) (I : PySem.W.InstAt s.heap x ox C od) (J : PySem.W.InstAt s.heap y oy C oe) (c : IdC K C) {Q : Value → Shared → Prop} (hq : Q (if x = y then .bool true else .notImplemented) s) :
    wpAny (model prog w) A (call (.builtin "object.__eq__") [.ref x, .ref y]) Q E s := by
  refine wpAny_call (codeAny_call_builtin F.cmp_object.eq.plain F.cmpEntry_eq (PySem.W.check_slot F.cmpKind_eq F.cmpSplit_eq (I.type.andThen (PySem.W.looks_mroIn X c.mo)) (F.cmpArgs_eq _ _) ?_))
  by_cases h : x = y
  · subst h
    rw [if_pos rfl] at hq
    exact objEq_entry_same hq
  · rw [if_neg h] at hq
    exact objEq_entry_other h I.1 J.1 (by rw [I.cls]; intro z; cases z) hq
theorem ie_try (X : K.In s.heap) (I : PySem.W.InstAt s.heap x ox C od) (J : PySem.W.InstAt s.heap y oy C oe) (c : IdC K C) {Q : Option Value → Shared → Prop} (hq : Q (if x = y then some (.bool true) else none) s) :
    wpAny (model prog w) A (tryCompare (.ref x) "__eq__" (.ref y)) Q E s := by
  unfold tryCompare
  refine wpAny_bind (HN.ifBound_objEq X I c.eq (ie_call X I J c ?_))
  by_cases h : x = y
  · rw [if_pos h] at hq ⊢
    exact wpAny_pure hq
  · rw [if_neg h] at hq ⊢
    exact wpAny_pure hq
theorem ie_rich (hu : A.units < cLine) (X : K.In s.heap) (I : PySem.W.InstAt s.heap x ox C od) (J : PySem.W.InstAt s.heap y oy C oe) (c : IdC K C) {Q : Value → Shared → Prop} (hq : Q (.bool (decide (x = y))) s) :
    wpAny (model prog w) A (richCompare .Eq (.ref x) (.ref y)) Q E s := by
  simp only [richCompare, cmpInfo_Eq, oneThing_ref]
  refine wpAny_holding (wpAny_bind (wpAny_cRoomFor hu ?_))
  refine wpAny_bind (I.type.here (wpAny_bind (J.type.here ?_)))
  rw [if_neg (show ¬ ((Value.ref C != Value.ref C) = true) from by simp)]
  refine wpAny_bind (wpAny_pure ?_)
  simp only [Bool.false_eq_true, if_false, Bool.not_false, if_true]
  refine wpAny_bind (ie_try X I J c ?_)
  by_cases h : x = y
  · rw [if_pos h]
    rw [decide_eq_true h] at hq
    exact wpAny_pure hq
  · rw [if_neg h]
    rw [decide_eq_false h] at hq
    refine wpAny_bind (ie_try X J I c ?_)
    rw [if_neg fun z => h z.symm]
    refine wpAny_bind (wpAny_rule (wpAny_bind ?_))
    exact wpAny_isSame_ref_other h I.1 J.1 (by rw [I.cls]; intro z; cases z) (wpAny_pure hq)
end
/-- two instances of one class, compared -/
def rIdI (K : PySem.W.Frag) (neg : Bool) : R2 := fun x y H Q => ∃ a b C dx dy fs gs, x = .ref a ∧ y = .ref b ∧ H a = some (.ins C dx fs) ∧ H b = some (.ins C dy gs) ∧ IdC K C ∧ Q (.bl (if neg then !decide (a = b) else decide (a = b))) H
section
variable {X : Cx}
theorem op_idE (hu : X.A.units + 64 < cLine) : OpR X (compareOp .Eq) (rIdI X.K false) := fun pins s σ H x y v u Q I r1 r2 ⟨a, b, C, dx, dy, fs, gs, e1, e2, h1, h2, c, q⟩ => by
  subst e1 e2
  obtain rfl : v = Value.ref a := r1
  obtain rfl : u = Value.ref b := r2
  obtain ⟨_, O1, _⟩ := ins_get I.hok h1
  obtain ⟨_, O2, _⟩ := ins_get I.hok h2
  obtain ⟨_, J1, _⟩ := O1.look
  obtain ⟨_, J2, _⟩ := O2.look
  exact ie_rich (by omega) I.kIn J1 J2 c ⟨.bl _, H, I, rfl, q⟩
end
/-- by data: cells, of classes in the list -/
def dIdI (Cs : List Addr) (neg : Bool) (x y : D) (S : Sto) (Φ : KD) : Prop := ∃ h g C fs gs, x = .own h ∧ y = .own g ∧ S[h]? = some (.ins C fs) ∧ S[g]? = some (.ins C gs) ∧ C ∈ Cs ∧ Φ S (.bl (if neg then !decide (h = g) else decide (h = g)))
theorem opd_idI {K : PySem.W.Frag} {Cs : List Addr} {neg : Bool} (c : ∀ C ∈ Cs, IdC K C) : OpD K (rIdI K neg) (dIdI Cs neg) := fun w S x y u v Φ Q g r1 r2 ⟨hh, gg, C, fs, gs, e1, e2, h1, h2, hC, h⟩ q => by
  subst e1 e2
  obtain ⟨a, dx, vs, rfl, ha, hA, _⟩ := ins_at g r1 h1
  obtain ⟨b, dy, us, rfl, hb, hB, _⟩ := ins_at g r2 h2
  have e : decide (a = b) = decide (hh = gg) := by
    by_cases z : hh = gg
    · subst z
      rw [ha] at hb
      cases hb
      rw [decide_eq_true rfl, decide_eq_true rfl]
    · rw [decide_eq_false z, decide_eq_false]
      intro y
      subst y
      obtain ⟨l1, e1⟩ := List.getElem?_eq_some_iff.mp ha
      obtain ⟨l2, e2⟩ := List.getElem?_eq_some_iff.mp hb
      exact z ((List.getElem_inj g.nd).mp (e1.trans e2.symm))
  exact ⟨a, b, C, dx, dy, vs, us, rfl, rfl, hA, hB, c C hC, q _ _ w S (Ext.refl w) g (.bl _) (by rw [e]; exact h)⟩
end DL
namespace DL
open PySem PySem.Spec PyProof.Rows L2
abbrev FaX : Type := PySem.W.Frag → Bool
def obsX (fa : List FaX) (fn : List He5.DefA) (K : PySem.W.Frag) : He.AlD := ((fa.all fun f => f K) && fn.all fun d => d.ok K, fn.map fun d => He5.fnA K (d.at_ K))
def SaysX (fa : List FaX) (fn : List He5.DefA) (K : PySem.W.Frag) : Prop := obsX fa fn K = He5.valA fn
def obsXG (n : Nat) (fa : List FaX) (fn : List He5.DefA) (g : Addr → Option Obj) : He.AlD := obsX fa fn (He.frG g (He5.asA g n))
def hookX (n : Nat) (fa : List FaX) (fn : List He5.DefA) : PySem.W.Hook where
  α := He.AlD
  obs := fun s => obsXG n fa fn s.heap.get?
  val := fun _ => He5.valA fn
  says := fun _ h => ∃ K : PySem.W.Frag, K.In h ∧ SaysX fa fn K
  of := fun _ _ e => ⟨_, He.frG_in, e⟩
  keeps := fun _ _ _ ⟨K, hK, c⟩ k => ⟨K, PySem.W.Frag.In.keeps hK k, c⟩
theorem obsXG_eq {n : Nat} {fa : List FaX} {fn : List He5.DefA} {g : Addr → Option Obj} {s : Shared} (h : ∀ a, g a = s.heap.get? a) : obsXG n fa fn g = (hookX n fa fn).obs s := by
  have e : g = s.heap.get? := funext h
  rw [e] <;> rfl
section
variable {fa : List FaX} {fn : List He5.DefA} {K : PySem.W.Frag}
theorem SaysX.all (c : SaysX fa fn K) : (fa.all fun f => f K) = true ∧ (fn.all fun d => d.ok K) = true := by
  have c1 : ((fa.all fun f => f K) && fn.all fun d => d.ok K) = true := congrArg (fun z : He.AlD => z.1) c
  exact Bool.and_eq_true_iff.mp c1
theorem SaysX.fact (c : SaysX fa fn K) (i : Nat) {f : FaX} (h : fa[i]? = some f := by rfl) : f K = true := List.all_eq_true.mp c.all.1 f (List.mem_of_getElem? h)
theorem SaysX.def_ (c : SaysX fa fn K) (i : Nat) {d : He5.DefA} (h : fn[i]? = some d := by rfl) : ∃ fd, FunD K d.name d.qual d.params d.body d.scope (d.dvs K) (d.kws K) (d.at_ K) fd := by
  have e : fn.map (fun d => He5.fnA K (d.at_ K)) = fn.map He5.DefA.val := congrArg (fun z : He.AlD => z.2) c
  have e2 : (fn.map fun d => He5.fnA K (d.at_ K))[i]? = (fn.map He5.DefA.val)[i]? := by rw [e]
  rw [List.getElem?_map, List.getElem?_map, h] at e2
  exact He5.DefA.funD (Option.some.inj e2) (List.all_eq_true.mp c.all.2 d (List.mem_of_getElem? h))
end
section
variable {K : PySem.W.Frag} {x f m : Str}
open He
def bProp (x f : Str) : FaX := fun K => eqO (PySem.W.findIn K (.ref (ga K x)) f) (some (some (.ref (ma K (ga K x) f)))) && (eqO (PySem.W.specialIn K (.ref (ma K (ga K x) f)) "__get__") (some (some (.builtin "property.__get__"))) && (decide (PySem.W.takesIn K (.ref (ma K (ga K x) f)) = some true) &&
  (match PySem.W.recIn K (ma K (ga K x) f) "property" with
    | some (.ref _ :: _) => true
    | _ => false)))
theorem bProp_ok (h : bProp x f K = true) : PropOf K (ga K x) f (ma K (ga K x) f) (He5.wf K (ga K x) "property" f) := by
  obtain ⟨h1, h⟩ := ba h
  obtain ⟨h2, h⟩ := ba h
  obtain ⟨h3, h4⟩ := ba h
  refine ⟨eqO_ok h1, eqO_ok h2, of_decide_eq_true h3, ?_⟩
  unfold He5.wf
  split at h4
  · rename_i g r e
    exact ⟨r, by rw [e]⟩
  · cases h4
def bCMet (x m : Str) : FaX := fun K => He5.wrapB K (ga K x) "classmethod" "classmethod.__get__" m && PySem.W.fnIn K (He5.wf K (ga K x) "classmethod" m)
theorem bCMet_ok (h : bCMet x m K = true) : ClX.CMet K (ga K x) (.type "type") m (ma K (ga K x) m) (He5.wf K (ga K x) "classmethod" m) := by
  obtain ⟨h1, h2⟩ := ba h
  obtain ⟨k1, k2⟩ := He5.wrapB_ok h1
  exact ⟨k1, k2, h2⟩
def bCRd (x : Str) : FaX := fun K => PySem.W.readsIn K (ga K x) (.type "type") && eqO (PySem.W.specialIn K (.ref (ga K x)) "__getattribute__") (some (some (.builtin "type.__getattribute__")))
theorem bCRd_ok (h : bCRd x K = true) : ClX.CRead K (ga K x) (.type "type") := ⟨(ba h).1, eqO_ok (ba h).2⟩
def bId (x : Str) : FaX := fun K => decide (PySem.W.mroIn K (ga K x) (.type "object") = some true) && (eqO (PySem.W.findIn K (.ref (ga K x)) "__eq__") (some (some (.builtin "object.__eq__"))) && eqO (PySem.W.findIn K (.ref (ga K x)) "__ne__") (some (some (.builtin "object.__ne__"))))
theorem bId_ok (h : bId x K = true) : IdC K (ga K x) := ⟨of_decide_eq_true (ba h).1, eqO_ok (ba (ba h).2).1, eqO_ok (ba (ba h).2).2⟩
end
end DL
namespace DL
open PySem PySem.Spec PyProof.Rows L2
/-- a, b, .. = a list of that length -/
def lstG (n : Nat) (T : TGs') : TGd := fun d Γ S P => ∃ ds, asQ S d = some ds ∧ ds.length = n ∧ T ds Γ S P
section
variable {Γ : Gam} {S : Sto} {Φ : KD} {Ψ : KX}
theorem lstG_e {n : Nat} {T : TGs'} {d : D} {P : Gam → Sto → Prop} : lstG n T d Γ S P = (∃ ds, asQ S d = some ds ∧ ds.length = n ∧ T ds Γ S P) := rfl
theorem d2_e {T Tk : TL} {n : Nat} {Φ : Sto → List D → List D → Prop} : d2 T Tk n Γ S Φ Ψ = (T Γ S (fun S1 ds => Tk Γ S1 (fun S2 es => es.length = n ∧ Φ S2 ds es) Ψ) Ψ) := rfl
theorem dLone_e {T : TD} {Tk : TL} {n : Nat} {Φ : Sto → List D → List D → Prop} : dLone T Tk n Γ S Φ Ψ = (T Γ S (fun S1 d => Tk Γ S1 (fun S2 es => es.length = n ∧ ∃ ds, asS S2 d = some ds ∧ Φ S2 ds es) Ψ) Ψ) := rfl
theorem lStar_e {T : TD} {U : TL} {Φ : Sto → List D → Prop} : lStar T U Γ S Φ Ψ = (T Γ S (fun S1 d => ∃ ds, asS S1 d = some ds ∧ U Γ S1 (fun S2 xs => Φ S2 (ds ++ xs)) Ψ) Ψ) := rfl
theorem dCallA_e {sp : DSpK} {T : TL2} : dCallA sp T Γ S Φ Ψ = (T Γ S (fun S1 ds es => sp ds es S1 Φ Ψ) Ψ) := rfl
theorem dMakeA_e {C : Addr} {sp : DSpK} {T : TL2} : dMakeA C sp T Γ S Φ Ψ = (T Γ S (fun S1 ds es => sp (.own S1.length :: ds) es (S1 ++ [.ins C []]) (fun S2 d => d = .non ∧ Φ S2 (.own S1.length)) Ψ) Ψ) := rfl
theorem dMakeV_e {i : Nat} {C : Addr} {sp : DSpK} {T : TL2} : dMakeV i C sp T Γ S Φ Ψ = (Γ[i]? = some (some (.obj C)) ∧ dMakeA C sp T Γ S Φ Ψ) := rfl
theorem dMethA_e {C : Addr} {m : Str} {sp : DSpK} {To : TD} {T : TL2} : dMethA C m sp To T Γ S Φ Ψ = (To Γ S (fun S1 d => ∃ fs, asI S1 d = some (C, fs) ∧ fs.lookup m = none ∧ T Γ S1 (fun S2 ds es => sp (d :: ds) es S2 Φ Ψ) Ψ) Ψ) := rfl
theorem dCMethA_e {C : Addr} {sp : DSpK} {To : TD} {T : TL2} : dCMethA C sp To T Γ S Φ Ψ = (To Γ S (fun S1 d => d = .obj C ∧ T Γ S1 (fun S2 ds es => sp (.obj C :: ds) es S2 Φ Ψ) Ψ) Ψ) := rfl
theorem dPropA_e {C : Addr} {sp : DSpK} {To : TD} : dPropA C sp To Γ S Φ Ψ = (To Γ S (fun S1 d => ∃ fs, asI S1 d = some (C, fs) ∧ sp [d] [] S1 Φ (fun _ _ => False)) Ψ) := rfl
theorem dFld_e {C : Addr} {f : Str} {T : TD} : dFld C f T Γ S Φ Ψ = (T Γ S (fun S1 d => ∃ fs, asI S1 d = some (C, fs) ∧ ∃ y, fs.lookup f = some y ∧ Φ S1 y) Ψ) := rfl
theorem sFldS_e {E : EdD} {C : Addr} {f : Str} {To Te : TD} : sFldS C f To Te E Γ S = (Te Γ S (fun S1 y => To Γ S1 (fun S2 d => ∃ h fs, d = .own h ∧ S2[h]? = some (.ins C fs) ∧ fs.length < 1000 ∧ E.nx Γ (S2.set h (.ins C (putD f y fs)))) E.er) E.er) := rfl
theorem dFzI_e {T : TD} : dFzI T Γ S Φ Ψ = (T Γ S (fun S1 d => fzID d S1 Φ) Ψ) := rfl
theorem fzID_o {h : Nat} : fzID (.own h) S Φ = (∃ C fs, S[h]? = some (.ins C fs) ∧ Φ (S.set h .gone) (.ins C fs)) := rfl
theorem pkP_e {n : Nat} {perm : List Nat} {md ds es : List D} {sp : DSpec} : pkP n perm md sp ds es S Φ Ψ = (ds.length = n ∧ sp (pick perm (ds ++ md) es) S Φ Ψ) := rfl
theorem pkS_e {b : Bool} {a : Nat} {perm : List Nat} {md ds es : List D} {sp : DSpec} : pkS b a perm md sp ds es S Φ Ψ = ((ds.take a).length = a ∧ (b = false → ds.drop a = []) ∧ (ds.drop a).length ≤ sizeLine ∧ sp (pick perm (ds.take a ++ md) es ++ [.tup (ds.drop a)]) S Φ Ψ) := rfl
theorem asI_i {C : Addr} {fs : List (Str × D)} : asI S (.ins C fs) = some (C, fs) := rfl
end
end DL
namespace DL
open PySem PySem.Spec PyProof.Rows L2
/-- try: e / except c as n: y = n; all that e raises is of the classes Cs -/
def sKeep (Cs : List Addr) (i j : Nat) (T : TD) : TSd := fun E Γ S => T Γ S (fun S1 _ => E.nx Γ S1) (fun S1 x => x.cls ∈ Cs ∧ i < Γ.length ∧ E.nx (((Γ.set i (some (.exc x.cls x.fs))).set j (some (.exc x.cls x.fs))).set i none) S1)
end DL
namespace DL
open PySem PySem.Spec PyProof.Rows L2
/-- C() -/
def dMk0 (C : Addr) : TD := fun _ S Φ _ => Φ (S ++ [.ins C []]) (.own S.length)
end DL
namespace DL
open PySem PySem.Spec PyProof.Rows L2
def dSlS (d : D) (lo hi : Option Int) (S : Sto) (Φ : KD) : Prop := ∃ z, d = .str z ∧ z.length ≤ sizeLine ∧ Φ S (.str (cutS z lo hi))
/-- tuple(x), x a list -/
def cTup (ds : List D) (S : Sto) (Φ : KD) : Prop := match ds with
  | [d] => ∃ xs, asQ S d = some xs ∧ Φ S (.tup xs)
  | _ => False
end DL
namespace DL
open PySem PySem.Spec PyProof.Rows L2
section
variable {K : PySem.W.Frag} {x y f : Str}
open He
def bExm (x y : Str) : FaX := fun K => decide (PySem.W.exmOne K (.ref (ga K x)) (.ref (ga K y)) = some true)
theorem bExm_ok (h : bExm x y K = true) : PySem.W.exmOne K (.ref (ga K x)) (.ref (ga K y)) = some true := of_decide_eq_true h
/-- a text; a tuple of texts -/
def isS (s : Str) : Value → Bool
  | .str z _ => z == s
  | _ => false
def areS : List Str → List Value → Bool
  | [], [] => true
  | s :: r, u :: q => isS s u && areS r q
  | _, _ => false
def isT (K : PySem.W.Frag) (ss : List Str) : Value → Bool
  | .ref a => match K.lookup a with
    | some ⟨.type "tuple", _, .seq its _, _⟩ => decide (its.size ≤ 1000) && areS ss its.toList
    | _ => false
  | _ => false
theorem isS_ok {s : Str} {u : Value} (h : isS s u = true) : RelV (.str s) u := by
  cases u <;> first | (cases h; done) | skip
  rename_i z t
  have : z = s := beq_iff_eq.mp h
  subst this
  exact ⟨t, rfl⟩
theorem areS_ok {K : PySem.W.Frag} : ∀ {ss : List Str} {us : List Value}, areS ss us = true → Vals (ss.map V.str) us
  | [], [], _ => .nil
  | s :: r, u :: q, h => .cons (isS_ok (ba h).1) (areS_ok (K := K) (ba h).2)
  | [], _ :: _, h => by cases h
  | _ :: _, [], h => by cases h
theorem isT_ok {ss : List Str} {u : Value} (h : isT K ss u = true) : ∃ a, u = .ref a ∧ ∀ H : Hp, SqT K H a (ss.map V.str) := by
  unfold isT at h
  split at h
  · split at h
    · rename_i a _ dd its n sl e
      obtain ⟨h1, h2⟩ := ba h
      refine ⟨_, rfl, fun H => .inr ⟨_, its, n, e, rfl, rfl, ?_, areS_ok (K := K) h2⟩⟩
      exact Nat.le_trans (of_decide_eq_true h1) (by decide)
    · cases h
  · cases h
theorem rv_tupS {w : Hs} {a : Addr} {ss : List Str} (h : ∀ H : Hp, SqT K H a (ss.map V.str)) : Rv K w (.ref a) (.tup (ss.map D.str)) := by
  refine .tup (h _) ?_
  clear h
  induction ss with
  | nil => exact .nil
  | cons s r ih => exact .cons (.str s) ih
def cvOf (K : PySem.W.Frag) (x f : Str) (p : Value → Bool) : Bool := match PySem.W.findCls K (.ref (ga K x)) (.type "type") f with
  | some (.val u) => p u
  | _ => false
theorem cvOf_ok {p : Value → Bool} (h : cvOf K x f p = true) : ∃ u, p u = true ∧ ∀ v, RelV v u → ClX.CVal K (ga K x) (.type "type") f v u := by
  unfold cvOf at h
  split at h
  · rename_i u e
    exact ⟨u, h, fun v r => ⟨e, r⟩⟩
  · cases h
def bCVT (x f : Str) (ss : List Str) : FaX := fun K => bCRd x K && cvOf K x f (isT K ss)
theorem bCVT_ok {ss : List Str} (h : bCVT x f ss K = true) : CValF K (ga K x) f (.tup (ss.map D.str)) := by
  obtain ⟨h1, h2⟩ := ba h
  obtain ⟨u, h3, h4⟩ := cvOf_ok h2
  obtain ⟨a, rfl, h5⟩ := isT_ok h3
  exact ⟨_, .ref a, _, bCRd_ok h1, h4 _ rfl, fun w => rv_tupS h5⟩
end
end DL
namespace DL
open PySem PySem.Spec PyProof.Rows L2
section
variable {Γ : Gam} {S : Sto} {Φ : KD} {Ψ : KX}
theorem dMk0_e {C : Addr} : dMk0 C Γ S Φ Ψ = Φ (S ++ [.ins C []]) (.own S.length) := rfl
theorem sKeep_e {E : EdD} {Cs : List Addr} {i j : Nat} {T : TD} : sKeep Cs i j T E Γ S = T Γ S (fun S1 _ => E.nx Γ S1) (fun S1 x => x.cls ∈ Cs ∧ i < Γ.length ∧ E.nx (((Γ.set i (some (.exc x.cls x.fs))).set j (some (.exc x.cls x.fs))).set i none) S1) := rfl
theorem dCVal_e {tab : List (Addr × D)} {f : Str} {T : TD} : dCVal tab f T Γ S Φ Ψ = T Γ S (fun S1 d => ∃ C, d = .obj C ∧ ∃ y, (C, y) ∈ tab ∧ Φ S1 y) Ψ := rfl
theorem dConI_e {tab : List (Addr × D)} {f : Str} {T : TD} : dConI tab f T Γ S Φ Ψ = T Γ S (fun S1 d => ∃ C fs, asI S1 d = some (C, fs) ∧ fs.lookup f = none ∧ ∃ y, (C, y) ∈ tab ∧ Φ S1 y) Ψ := rfl
theorem cLen_s {z : Str} : cLen [.str z] S Φ = (z.length ≤ sizeLine ∧ Φ S (.int z.length)) := rfl
theorem dIx_s {z : Str} {i : Int} : dIx (.str z) (.int i) S Φ = (z.length ≤ sizeLine ∧ ∃ c, atI z.cps.toList i = some c ∧ Φ S (.str ⟨#[c]⟩)) := rfl
theorem dSlS_s {z : Str} {lo hi : Option Int} : dSlS (.str z) lo hi S Φ = (z.length ≤ sizeLine ∧ Φ S (.str (cutS z lo hi))) := propext ⟨fun ⟨_, e, h1, h2⟩ => by cases e; exact ⟨h1, h2⟩, fun h => ⟨z, rfl, h.1, h.2⟩⟩
theorem dAdd_s {a b : Str} : dAdd (.str a) (.str b) S Φ = (a.length + b.length ≤ sizeLine ∧ Φ S (.str (a ++ b))) := rfl
theorem cTup_l {ds : List D} : cTup [.lst ds] S Φ = Φ S (.tup ds) := propext ⟨fun ⟨_, e, h⟩ => by cases e; exact h, fun h => ⟨ds, rfl, h⟩⟩
end
end DL
namespace DL
open PySem PySem.Spec PyProof.Rows L2
section
variable {X : Cx} {W : WX} {o e : Expr} {to te : TE} {To Te : TD}
def dM1 (f : D → List D → Sto → KD → Prop) (To Te : TD) : TD := fun Γ S Φ Ψ => To Γ S (fun S1 d => (∃ a, d = .str a) ∧ Te Γ S1 (fun S2 y => f d [y] S2 Φ) Ψ) Ψ
def mSplit (d : D) (ds : List D) (S : Sto) (Φ : KD) : Prop := ∃ a b, d = .str a ∧ ds = [.str b] ∧ (b.length == 0) = false ∧ a.length + 2 ≤ sizeLine ∧ Φ S (.lst ((Txt.split a b).map D.str))
def cIntS (ds : List D) (S : Sto) (Φ : KD) : Prop := ∃ a n, ds = [.str a] ∧ PySem.intText? a = some n ∧ a.length ≤ 640 ∧ Φ S (.int n)
def cStrI (ds : List D) (S : Sto) (Φ : KD) : Prop := ∃ i : Int, ds = [.int i] ∧ i.natAbs.log2 < 1920 ∧ Φ S (.str (toString i))
theorem cd_strI {K : PySem.W.Frag} : CallD K (fun xs H Q => ∃ i : Int, xs = [.int i] ∧ i.natAbs.log2 < 1920 ∧ Q (.str (toString i)) H) cStrI := fun w S vs ds Φ Q g r ⟨i, e, h1, h⟩ q => by
  subst e
  exact ⟨i, ra_ints (ns := [i]) r, h1, q _ _ w S (Ext.refl w) g (.str _) h⟩
def dSign (neg : Bool) (x y : D) (S : Sto) (Φ : KD) : Prop := ∃ (c : Nat) (z : Str), x = .str ⟨#[c]⟩ ∧ y = .str z ∧ Φ S (.bl (if neg then !decide (c ∈ z.cps.toList) else decide (c ∈ z.cps.toList)))
def signsD (z : Str) : List D := z.cps.toList.map fun c => D.str ⟨#[c]⟩
def iStrD (T : TD) : TId := fun Γ S Φ Ψ => T Γ S (fun S1 d => ∃ z, d = .str z ∧ Φ S1 (fun _ => some (signsD z))) Ψ
end
end DL
namespace DL
open PySem PySem.Spec PyProof.Rows L2
section
variable {X : Cx} {W : WX} {c : Expr} {body : List Stmt} {pos : Pos} {tt : TT} {tb : TS} {C : TB} {B : TSd}
theorem sem_while {K : PySem.W.Frag} (hc : SemT K W tt C) (hb : SemS K W tb B) : SemS K W (tWhile tt tb) (sWhile C B) := fun D' Γ S σ w D g sl ⟨P, ⟨m0, h0⟩, hs⟩ r => by
  refine ⟨fun m σ' H' => ∃ w' Γ' S', H' = w'.H ∧ Ext w w' ∧ Good K w' S' ∧ Slots K w' σ' Γ' ∧ P m Γ' S', ⟨m0, w, Γ, S, rfl, Ext.refl w, g, sl, h0⟩, ?_⟩
  rintro m σ' H' ⟨w', Γ', S', rfl, e', g', sl', p⟩
  refine hc Γ' S' _ _ σ' w' g' sl' (hs m Γ' S' p) ((r.ext e').er σ') _ fun k w2 S2 e2 g2 h2 => ?_
  have e02 := e'.trans e2
  cases k with
  | false => exact r.nx σ' Γ' w2 S2 e02 g2 (sl'.ext e2) h2
  | true =>
    refine ⟨fun σ3 H3 => ∃ m', m' < m ∧ ∃ w3 Γ3 S3, H3 = w3.H ∧ Ext w w3 ∧ Good K w3 S3 ∧ Slots K w3 σ3 Γ3 ∧ P m' Γ3 S3, fun _ _ x => x, ?_⟩
    have step : OkN K w2 (fun Γ2 S2 => ∃ m', m' < m ∧ P m' Γ2 S2) (fun σ3 H3 => ∃ m', m' < m ∧ ∃ w3 Γ3 S3, H3 = w3.H ∧ Ext w w3 ∧ Good K w3 S3 ∧ Slots K w3 σ3 Γ3 ∧ P m' Γ3 S3) :=
      fun σ3 Γ3 w3 S3 e3 g3 sl3 ⟨m', l, hp⟩ => ⟨m', l, w3, Γ3, S3, rfl, e02.trans e3, g3, sl3, hp⟩
    have r2 := r.ext e02
    exact hb _ Γ' S2 σ' w2 _ g2 (sl'.ext e2) h2 ⟨step, r2.rt, r2.nx, step, r2.er⟩
theorem js_while (hp : PassesOwn (model X.prog X.w) X.A X.env X.xe) (hc : JT X W c tt C) (hb : JB X W body tb B) : JS X W (.While c body [] pos) (tWhile tt tb) (sWhile C B) := ⟨ps_while hp hc.pt hb.pss, sem_while hc.sem hb.sem⟩
theorem sWhile_e {D : EdD} {Γ : Gam} {S : Sto} : sWhile C B D Γ S = ∃ P : Nat → Gam → Sto → Prop, (∃ m, P m Γ S) ∧ ∀ m Γ' S', P m Γ' S' → C Γ' S' (fun S1 k => if k = true then B { D with nx := fun Γ2 S2 => ∃ m', m' < m ∧ P m' Γ2 S2, ct := fun Γ2 S2 => ∃ m', m' < m ∧ P m' Γ2 S2, bk := D.nx } Γ' S1 else D.nx Γ' S1) D.er := rfl
end
end DL
namespace DL
open PySem PySem.Spec PyProof.Rows L2
def sRaiseI (C : Addr) (f : Str) (T : TD) : TSd := fun D Γ S => T Γ S (fun S1 d => D.er S1 ⟨C, [(f, d)]⟩) D.er
end DL
namespace DL
open PySem PySem.Spec PyProof.Rows L2
section
variable {X : Cx} {W : WX} {e : Expr} {te : TE} {Te : TD} {f : Str} {pos : Pos}
/-- x.f, x a kept exception of one of the classes Cs -/
def dXFld (Cs : List Addr) (f : Str) (T : TD) : TD := fun Γ S Φ Ψ => T Γ S (fun S1 d => ∃ D fs y, d = .exc D fs ∧ D ∈ Cs ∧ fs.lookup f = some y ∧ Φ S1 y) Ψ
end
end DL
namespace DL
open PySem PySem.Spec PyProof.Rows L2
theorem sRaiseI_e {C : Addr} {f : Str} {T : TD} {D : EdD} {Γ : Gam} {S : Sto} : sRaiseI C f T D Γ S = T Γ S (fun S1 d => D.er S1 ⟨C, [(f, d)]⟩) D.er := rfl
end DL
namespace DL
open PySem PySem.Spec PyProof.Rows L2
theorem RpA.dropLast {K : PySem.W.Frag} {F : Hp} {al : List Addr} {vs : List V} {ds : List D} (r : RpA K F al vs ds) : RpA K F al vs.dropLast ds.dropLast := by
  rw [List.dropLast_eq_take, List.dropLast_eq_take, r.length]
  exact r.take _
theorem RpA.eraseIdx {K : PySem.W.Frag} {F : Hp} {al : List Addr} {vs : List V} {ds : List D} (r : RpA K F al vs ds) (k : Nat) : RpA K F al (vs.eraseIdx k) (ds.eraseIdx k) := by
  rw [List.eraseIdx_eq_take_drop_succ, List.eraseIdx_eq_take_drop_succ]
  exact (r.take _).append (r.drop _)
def mPop (d : D) (ds : List D) (S : Sto) (Φ : KD) : Prop := ∃ h xs y, d = .own h ∧ ds = [] ∧ S[h]? = some (.lst xs) ∧ xs[xs.length - 1]? = some y ∧ Φ (S.set h (.lst xs.dropLast)) y
theorem mtd_pop {K : PySem.W.Frag} : MtD K rPop mPop := fun w S x vs d ds Φ Q g r1 r2 ⟨hh, xs, y, e, ed, e1, e2, h⟩ q => by
  subst e ed
  obtain ⟨a, ys, rfl, ha, hH, ra⟩ := own_at g r1 e1
  cases r2
  obtain ⟨u, hu, ru⟩ := ra.get e2
  refine ⟨a, ys, u, rfl, rfl, hH, by rw [ra.length]; exact hu, ?_⟩
  exact q u y (w.wr a (.lst ys.dropLast)) _ (Ext.wr _ (List.mem_of_getElem? ha)) (g.wr ha e1 ra.dropLast) ru h
def mPopAt (d : D) (ds : List D) (S : Sto) (Φ : KD) : Prop := ∃ h xs i k y, d = .own h ∧ ds = [.int i] ∧ S[h]? = some (.lst xs) ∧ -(2 ^ 63) ≤ i ∧ i < 2 ^ 63 ∧ seqIndex? i xs.length = some k ∧ xs[k]? = some y ∧ Φ (S.set h (.lst (xs.eraseIdx k))) y
theorem mtd_popAt {K : PySem.W.Frag} : MtD K rPopAt mPopAt := fun w S x vs d ds Φ Q g r1 r2 ⟨hh, xs, i, k, y, e, ed, e1, h1, h2, h3, e2, h⟩ q => by
  subst e ed
  obtain ⟨a, ys, rfl, ha, hH, ra⟩ := own_at g r1 e1
  have ev := ra_ints (ns := [i]) r2
  obtain ⟨u, hu, ru⟩ := ra.get e2
  refine ⟨a, ys, i, k, u, rfl, ev, hH, h1, h2, by rw [ra.length]; exact h3, hu, ?_⟩
  exact q u y (w.wr a (.lst (ys.eraseIdx k))) _ (Ext.wr _ (List.mem_of_getElem? ha)) (g.wr ha e1 (ra.eraseIdx k)) ru h
def rInsert : V → List V → Hp → VK → Prop := fun x vs H Q => ∃ (l : Addr) (xs : List V) (i : Int) (y : V), x = .ref l ∧ vs = [.int i, y] ∧ H l = some (.lst xs) ∧ xs.length < sizeLine ∧ 0 ≤ i ∧ i < 2 ^ 63 ∧
    Q .non (upd H l (.lst (xs.take i.toNat ++ [y] ++ xs.drop i.toNat)))
def mIns (d : D) (ds : List D) (S : Sto) (Φ : KD) : Prop := ∃ h xs i y, d = .own h ∧ ds = [.int i, y] ∧ S[h]? = some (.lst xs) ∧ xs.length < sizeLine ∧ 0 ≤ i ∧ i < 2 ^ 63 ∧ Φ (S.set h (.lst (xs.take i.toNat ++ [y] ++ xs.drop i.toNat))) .non
theorem mtd_ins {K : PySem.W.Frag} : MtD K rInsert mIns := fun w S x vs d ds Φ Q g r1 r2 ⟨hh, xs, i, y, e, ed, e1, h1, h2, h3, h⟩ q => by
  subst e ed
  obtain ⟨a, ys, rfl, ha, hH, ra⟩ := own_at g r1 e1
  obtain ⟨v, u, rfl, rv, ru⟩ := two_of r2
  have ev := rv_int rv
  subst ev
  refine ⟨a, ys, i, u, rfl, rfl, hH, by rw [ra.length]; exact h1, h2, h3, ?_⟩
  exact q .non .non (w.wr a (.lst (ys.take i.toNat ++ [u] ++ ys.drop i.toNat))) _ (Ext.wr _ (List.mem_of_getElem? ha)) (g.wr ha e1 (((ra.take _).append (.cons ru .nil)).append (ra.drop _))) .non h
section
variable {X : Cx} {W : WX} {o e : Expr} {to te : TE} {To Te : TD}
def dM0 (f : D → List D → Sto → KD → Prop) (To : TD) : TD := fun Γ S Φ Ψ => To Γ S (fun S1 d => (∃ a, d = .str a) ∧ f d [] S1 Φ) Ψ
def mUpper (d : D) (ds : List D) (S : Sto) (Φ : KD) : Prop := ∃ a, d = .str a ∧ ds = [] ∧ a.length ≤ 5592405 ∧ Φ S (.str (Txt.upper a))
def dRev (T : TD) : TD := fun Γ S Φ Ψ => T Γ S (fun S1 d => ∃ ds, asQ S1 d = some ds ∧ Φ S1 (.lst ds.reverse)) Ψ
theorem je_rev {k : Nat} {p1 p2 p3 pos : Pos} (he : JE X W e te Te) : JE X W (.Subscript e (.Slice none none (some (.UnaryOp .USub (.Constant (.int 1) k p1) p2)) p3) pos) (tRevL X.K te) (dRev Te) :=
  ⟨pe_revL he.pe, fun Γ S Φ Ψ σ w g sl h hx Q q => he.sem Γ S _ Ψ σ w g sl h hx _ fun v d w1 S1 e1 g1 r1 ⟨ds, ed, h1⟩ => by
    obtain ⟨a, xs, rfl, hs, ra⟩ := asQ_at g1 r1 ed
    exact ⟨a, xs, rfl, hs, new_lst g1 (q.ext e1) ra.reverse h1⟩⟩
end
/-- a new list in a cell -/
def dAddO (x y : D) (S : Sto) (Φ : KD) : Prop := ∃ xs ys, asL S x = some xs ∧ asL S y = some ys ∧ xs.length + ys.length ≤ sizeLine ∧ Φ (S ++ [.lst (xs ++ ys)]) (.own S.length)
def plainD : D → D → Bool
  | .str _, .str _ | .int _, .int _ | .non, .non | .int _, .non | .non, .int _ | .str _, .non | .non, .str _ | .int _, .str _ | .str _, .int _ | .bl _, .bl _ => true
  | _, _ => false
def dEqF (x y : D) (S : Sto) (Φ : KD) : Prop := plainD x y = true ∧ Φ S (.bl (eqD x y))
def dNeF (x y : D) (S : Sto) (Φ : KD) : Prop := plainD x y = true ∧ Φ S (.bl (!eqD x y))
theorem opd_eqF {K : PySem.W.Frag} : OpD K rEq dEqF := fun w S x y u v Φ Q g r1 r2 ⟨hp, h⟩ q => by
  cases u <;> cases v <;> first | (exact absurd hp Bool.false_ne_true) | (cases r1; cases r2; exact ⟨by rfl, by
    first | (rw [dec_str]; exact q _ _ w S (Ext.refl w) g (.bl _) h) | (rw [dec_int]; exact q _ _ w S (Ext.refl w) g (.bl _) h) | (rw [dec_bl]; exact q _ _ w S (Ext.refl w) g (.bl _) h) | (simp only [decide_true, decide_false, reduceCtorEq]; exact q _ _ w S (Ext.refl w) g (.bl _) h)⟩)
theorem opd_neF {K : PySem.W.Frag} : OpD K rNe dNeF := fun w S x y u v Φ Q g r1 r2 ⟨hp, h⟩ q => by
  cases u <;> cases v <;> first | (exact absurd hp Bool.false_ne_true) | (cases r1; cases r2; exact ⟨by rfl, by
    first | (rw [dec_str]; exact q _ _ w S (Ext.refl w) g (.bl _) h) | (rw [dec_int]; exact q _ _ w S (Ext.refl w) g (.bl _) h) | (rw [dec_bl]; exact q _ _ w S (Ext.refl w) g (.bl _) h) | (simp only [decide_true, decide_false, reduceCtorEq]; exact q _ _ w S (Ext.refl w) g (.bl _) h)⟩)
section
variable {Γ : Gam} {S : Sto} {Φ : KD} {Ψ : KX}
theorem dM1_e {f : D → List D → Sto → KD → Prop} {To Te : TD} : dM1 f To Te Γ S Φ Ψ = To Γ S (fun S1 d => (∃ a, d = .str a) ∧ Te Γ S1 (fun S2 y => f d [y] S2 Φ) Ψ) Ψ := rfl
theorem dM0_e {f : D → List D → Sto → KD → Prop} {To : TD} : dM0 f To Γ S Φ Ψ = To Γ S (fun S1 d => (∃ a, d = .str a) ∧ f d [] S1 Φ) Ψ := rfl
theorem dRev_e {T : TD} : dRev T Γ S Φ Ψ = T Γ S (fun S1 d => ∃ ds, asQ S1 d = some ds ∧ Φ S1 (.lst ds.reverse)) Ψ := rfl
theorem mSplit_s {a b : Str} : mSplit (.str a) [.str b] S Φ = ((b.length == 0) = false ∧ a.length + 2 ≤ sizeLine ∧ Φ S (.lst ((Txt.split a b).map D.str))) := propext ⟨fun ⟨_, _, e1, e2, h⟩ => by cases e1; cases e2; exact h, fun h => ⟨a, b, rfl, rfl, h⟩⟩
theorem mUpper_s {a : Str} : mUpper (.str a) [] S Φ = (a.length ≤ 5592405 ∧ Φ S (.str (Txt.upper a))) := propext ⟨fun ⟨_, e1, _, h⟩ => by cases e1; exact h, fun h => ⟨a, rfl, rfl, h⟩⟩
theorem exZ {a : Str} {P : Str → Prop} : (∃ z, D.str a = .str z ∧ P z) ↔ P a := ⟨fun ⟨_, e, h⟩ => by cases e; exact h, fun h => ⟨a, rfl, h⟩⟩
theorem exStr {a : Str} : (∃ z, D.str a = .str z) = True := eq_true ⟨a, rfl⟩
theorem cStrI_i {i : Int} : cStrI [.int i] S Φ = (i.natAbs.log2 < 1920 ∧ Φ S (.str (toString i))) := propext ⟨fun ⟨_, e, h⟩ => by cases e; exact h, fun h => ⟨i, rfl, h⟩⟩
theorem cIntS_s {a : Str} : cIntS [.str a] S Φ = (∃ n, PySem.intText? a = some n ∧ a.length ≤ 640 ∧ Φ S (.int n)) := propext ⟨fun ⟨_, n, e, h⟩ => by cases e; exact ⟨n, h⟩, fun ⟨n, h⟩ => ⟨a, n, rfl, h⟩⟩
theorem iStrD_e {T : TD} {Ω : Sto → (Sto → Option (List D)) → Prop} : iStrD T Γ S Ω Ψ = T Γ S (fun S1 d => ∃ z, d = .str z ∧ Ω S1 (fun _ => some (signsD z))) Ψ := rfl
theorem dEqF_s {a b : Str} : dEqF (.str a) (.str b) S Φ = Φ S (.bl (a == b)) := propext ⟨fun h => h.2, fun h => ⟨rfl, h⟩⟩
theorem dNeF_s {a b : Str} : dNeF (.str a) (.str b) S Φ = Φ S (.bl (!(a == b))) := propext ⟨fun h => h.2, fun h => ⟨rfl, h⟩⟩
theorem dEqF_i {a b : Int} : dEqF (.int a) (.int b) S Φ = Φ S (.bl (a == b)) := propext ⟨fun h => h.2, fun h => ⟨rfl, h⟩⟩
theorem dNeF_i {a b : Int} : dNeF (.int a) (.int b) S Φ = Φ S (.bl (!(a == b))) := propext ⟨fun h => h.2, fun h => ⟨rfl, h⟩⟩
theorem dXFld_e {Cs : List Addr} {f : Str} {T : TD} : dXFld Cs f T Γ S Φ Ψ = T Γ S (fun S1 d => ∃ D fs y, d = .exc D fs ∧ D ∈ Cs ∧ fs.lookup f = some y ∧ Φ S1 y) Ψ := rfl
theorem mPop_e {h : Nat} : mPop (.own h) [] S Φ = (∃ xs y, S[h]? = some (.lst xs) ∧ xs[xs.length - 1]? = some y ∧ Φ (S.set h (.lst xs.dropLast)) y) := propext ⟨fun ⟨_, xs, y, e, _, h⟩ => by cases e; exact ⟨xs, y, h⟩, fun ⟨xs, y, h'⟩ => ⟨h, xs, y, rfl, rfl, h'⟩⟩
theorem dAddO_l {ds es : List D} : dAddO (.lst ds) (.lst es) S Φ = (ds.length + es.length ≤ sizeLine ∧ Φ (S ++ [.lst (ds ++ es)]) (.own S.length)) := propext ⟨fun ⟨_, _, e1, e2, h⟩ => by cases e1; cases e2; exact h, fun h => ⟨ds, es, rfl, rfl, h⟩⟩
theorem dAddO_o {h : Nat} {es : List D} : dAddO (.own h) (.lst es) S Φ = (∃ ds, S[h]? = some (.lst ds) ∧ ds.length + es.length ≤ sizeLine ∧ Φ (S ++ [.lst (ds ++ es)]) (.own S.length)) := propext ⟨fun ⟨ds, _, e1, e2, h⟩ => by cases e2; exact ⟨ds, asL_own e1, h⟩, fun ⟨ds, e, h'⟩ => ⟨ds, es, asL_at' e, rfl, h'⟩⟩
theorem dSign_s {neg : Bool} {c : Nat} {z : Str} : dSign neg (.str ⟨#[c]⟩) (.str z) S Φ = Φ S (.bl (if neg then !decide (c ∈ z.cps.toList) else decide (c ∈ z.cps.toList))) := propext ⟨fun ⟨_, _, e1, e2, h⟩ => by cases e1; cases e2; exact h, fun h => ⟨c, z, rfl, rfl, h⟩⟩
end
end DL
namespace DL
open PySem PySem.Spec PyProof.Rows L2
section
variable {Γ : Gam} {S : Sto} {Φ : KD} {Ψ : KX} {P : Gam → Sto → Prop}
theorem dv0 {d : D} : dVar 0 (some d :: Γ) S Φ Ψ = Φ S d := propext ⟨fun ⟨_, e, h⟩ => by cases e; exact h, fun h => ⟨d, rfl, h⟩⟩
theorem nm0 {o : Option D} {d : D} : nmG 0 d (o :: Γ) S P = P (some d :: Γ) S := rfl
theorem dv1 {a0 : Option D} {d : D} : dVar 1 (a0 :: some d :: Γ) S Φ Ψ = Φ S d := propext ⟨fun ⟨_, e, h⟩ => by cases e; exact h, fun h => ⟨d, rfl, h⟩⟩
theorem nm1 {a0 : Option D} {o : Option D} {d : D} : nmG 1 d (a0 :: o :: Γ) S P = P (a0 :: some d :: Γ) S := rfl
theorem dv2 {a0 a1 : Option D} {d : D} : dVar 2 (a0 :: a1 :: some d :: Γ) S Φ Ψ = Φ S d := propext ⟨fun ⟨_, e, h⟩ => by cases e; exact h, fun h => ⟨d, rfl, h⟩⟩
theorem nm2 {a0 a1 : Option D} {o : Option D} {d : D} : nmG 2 d (a0 :: a1 :: o :: Γ) S P = P (a0 :: a1 :: some d :: Γ) S := rfl
theorem dv3 {a0 a1 a2 : Option D} {d : D} : dVar 3 (a0 :: a1 :: a2 :: some d :: Γ) S Φ Ψ = Φ S d := propext ⟨fun ⟨_, e, h⟩ => by cases e; exact h, fun h => ⟨d, rfl, h⟩⟩
theorem nm3 {a0 a1 a2 : Option D} {o : Option D} {d : D} : nmG 3 d (a0 :: a1 :: a2 :: o :: Γ) S P = P (a0 :: a1 :: a2 :: some d :: Γ) S := rfl
theorem dv4 {a0 a1 a2 a3 : Option D} {d : D} : dVar 4 (a0 :: a1 :: a2 :: a3 :: some d :: Γ) S Φ Ψ = Φ S d := propext ⟨fun ⟨_, e, h⟩ => by cases e; exact h, fun h => ⟨d, rfl, h⟩⟩
theorem nm4 {a0 a1 a2 a3 : Option D} {o : Option D} {d : D} : nmG 4 d (a0 :: a1 :: a2 :: a3 :: o :: Γ) S P = P (a0 :: a1 :: a2 :: a3 :: some d :: Γ) S := rfl
theorem dv5 {a0 a1 a2 a3 a4 : Option D} {d : D} : dVar 5 (a0 :: a1 :: a2 :: a3 :: a4 :: some d :: Γ) S Φ Ψ = Φ S d := propext ⟨fun ⟨_, e, h⟩ => by cases e; exact h, fun h => ⟨d, rfl, h⟩⟩
theorem nm5 {a0 a1 a2 a3 a4 : Option D} {o : Option D} {d : D} : nmG 5 d (a0 :: a1 :: a2 :: a3 :: a4 :: o :: Γ) S P = P (a0 :: a1 :: a2 :: a3 :: a4 :: some d :: Γ) S := rfl
theorem dv6 {a0 a1 a2 a3 a4 a5 : Option D} {d : D} : dVar 6 (a0 :: a1 :: a2 :: a3 :: a4 :: a5 :: some d :: Γ) S Φ Ψ = Φ S d := propext ⟨fun ⟨_, e, h⟩ => by cases e; exact h, fun h => ⟨d, rfl, h⟩⟩
theorem nm6 {a0 a1 a2 a3 a4 a5 : Option D} {o : Option D} {d : D} : nmG 6 d (a0 :: a1 :: a2 :: a3 :: a4 :: a5 :: o :: Γ) S P = P (a0 :: a1 :: a2 :: a3 :: a4 :: a5 :: some d :: Γ) S := rfl
theorem dv7 {a0 a1 a2 a3 a4 a5 a6 : Option D} {d : D} : dVar 7 (a0 :: a1 :: a2 :: a3 :: a4 :: a5 :: a6 :: some d :: Γ) S Φ Ψ = Φ S d := propext ⟨fun ⟨_, e, h⟩ => by cases e; exact h, fun h => ⟨d, rfl, h⟩⟩
theorem nm7 {a0 a1 a2 a3 a4 a5 a6 : Option D} {o : Option D} {d : D} : nmG 7 d (a0 :: a1 :: a2 :: a3 :: a4 :: a5 :: a6 :: o :: Γ) S P = P (a0 :: a1 :: a2 :: a3 :: a4 :: a5 :: a6 :: some d :: Γ) S := rfl
theorem dv8 {a0 a1 a2 a3 a4 a5 a6 a7 : Option D} {d : D} : dVar 8 (a0 :: a1 :: a2 :: a3 :: a4 :: a5 :: a6 :: a7 :: some d :: Γ) S Φ Ψ = Φ S d := propext ⟨fun ⟨_, e, h⟩ => by cases e; exact h, fun h => ⟨d, rfl, h⟩⟩
theorem nm8 {a0 a1 a2 a3 a4 a5 a6 a7 : Option D} {o : Option D} {d : D} : nmG 8 d (a0 :: a1 :: a2 :: a3 :: a4 :: a5 :: a6 :: a7 :: o :: Γ) S P = P (a0 :: a1 :: a2 :: a3 :: a4 :: a5 :: a6 :: a7 :: some d :: Γ) S := rfl
theorem dv9 {a0 a1 a2 a3 a4 a5 a6 a7 a8 : Option D} {d : D} : dVar 9 (a0 :: a1 :: a2 :: a3 :: a4 :: a5 :: a6 :: a7 :: a8 :: some d :: Γ) S Φ Ψ = Φ S d := propext ⟨fun ⟨_, e, h⟩ => by cases e; exact h, fun h => ⟨d, rfl, h⟩⟩
theorem nm9 {a0 a1 a2 a3 a4 a5 a6 a7 a8 : Option D} {o : Option D} {d : D} : nmG 9 d (a0 :: a1 :: a2 :: a3 :: a4 :: a5 :: a6 :: a7 :: a8 :: o :: Γ) S P = P (a0 :: a1 :: a2 :: a3 :: a4 :: a5 :: a6 :: a7 :: a8 :: some d :: Γ) S := rfl
theorem dv10 {a0 a1 a2 a3 a4 a5 a6 a7 a8 a9 : Option D} {d : D} : dVar 10 (a0 :: a1 :: a2 :: a3 :: a4 :: a5 :: a6 :: a7 :: a8 :: a9 :: some d :: Γ) S Φ Ψ = Φ S d := propext ⟨fun ⟨_, e, h⟩ => by cases e; exact h, fun h => ⟨d, rfl, h⟩⟩
theorem nm10 {a0 a1 a2 a3 a4 a5 a6 a7 a8 a9 : Option D} {o : Option D} {d : D} : nmG 10 d (a0 :: a1 :: a2 :: a3 :: a4 :: a5 :: a6 :: a7 :: a8 :: a9 :: o :: Γ) S P = P (a0 :: a1 :: a2 :: a3 :: a4 :: a5 :: a6 :: a7 :: a8 :: a9 :: some d :: Γ) S := rfl
theorem dv11 {a0 a1 a2 a3 a4 a5 a6 a7 a8 a9 a10 : Option D} {d : D} : dVar 11 (a0 :: a1 :: a2 :: a3 :: a4 :: a5 :: a6 :: a7 :: a8 :: a9 :: a10 :: some d :: Γ) S Φ Ψ = Φ S d := propext ⟨fun ⟨_, e, h⟩ => by cases e; exact h, fun h => ⟨d, rfl, h⟩⟩
theorem nm11 {a0 a1 a2 a3 a4 a5 a6 a7 a8 a9 a10 : Option D} {o : Option D} {d : D} : nmG 11 d (a0 :: a1 :: a2 :: a3 :: a4 :: a5 :: a6 :: a7 :: a8 :: a9 :: a10 :: o :: Γ) S P = P (a0 :: a1 :: a2 :: a3 :: a4 :: a5 :: a6 :: a7 :: a8 :: a9 :: a10 :: some d :: Γ) S := rfl
theorem dv12 {a0 a1 a2 a3 a4 a5 a6 a7 a8 a9 a10 a11 : Option D} {d : D} : dVar 12 (a0 :: a1 :: a2 :: a3 :: a4 :: a5 :: a6 :: a7 :: a8 :: a9 :: a10 :: a11 :: some d :: Γ) S Φ Ψ = Φ S d := propext ⟨fun ⟨_, e, h⟩ => by cases e; exact h, fun h => ⟨d, rfl, h⟩⟩
theorem nm12 {a0 a1 a2 a3 a4 a5 a6 a7 a8 a9 a10 a11 : Option D} {o : Option D} {d : D} : nmG 12 d (a0 :: a1 :: a2 :: a3 :: a4 :: a5 :: a6 :: a7 :: a8 :: a9 :: a10 :: a11 :: o :: Γ) S P = P (a0 :: a1 :: a2 :: a3 :: a4 :: a5 :: a6 :: a7 :: a8 :: a9 :: a10 :: a11 :: some d :: Γ) S := rfl
theorem dv13 {a0 a1 a2 a3 a4 a5 a6 a7 a8 a9 a10 a11 a12 : Option D} {d : D} : dVar 13 (a0 :: a1 :: a2 :: a3 :: a4 :: a5 :: a6 :: a7 :: a8 :: a9 :: a10 :: a11 :: a12 :: some d :: Γ) S Φ Ψ = Φ S d := propext ⟨fun ⟨_, e, h⟩ => by cases e; exact h, fun h => ⟨d, rfl, h⟩⟩
theorem nm13 {a0 a1 a2 a3 a4 a5 a6 a7 a8 a9 a10 a11 a12 : Option D} {o : Option D} {d : D} : nmG 13 d (a0 :: a1 :: a2 :: a3 :: a4 :: a5 :: a6 :: a7 :: a8 :: a9 :: a10 :: a11 :: a12 :: o :: Γ) S P = P (a0 :: a1 :: a2 :: a3 :: a4 :: a5 :: a6 :: a7 :: a8 :: a9 :: a10 :: a11 :: a12 :: some d :: Γ) S := rfl
theorem dv14 {a0 a1 a2 a3 a4 a5 a6 a7 a8 a9 a10 a11 a12 a13 : Option D} {d : D} : dVar 14 (a0 :: a1 :: a2 :: a3 :: a4 :: a5 :: a6 :: a7 :: a8 :: a9 :: a10 :: a11 :: a12 :: a13 :: some d :: Γ) S Φ Ψ = Φ S d := propext ⟨fun ⟨_, e, h⟩ => by cases e; exact h, fun h => ⟨d, rfl, h⟩⟩
theorem nm14 {a0 a1 a2 a3 a4 a5 a6 a7 a8 a9 a10 a11 a12 a13 : Option D} {o : Option D} {d : D} : nmG 14 d (a0 :: a1 :: a2 :: a3 :: a4 :: a5 :: a6 :: a7 :: a8 :: a9 :: a10 :: a11 :: a12 :: a13 :: o :: Γ) S P = P (a0 :: a1 :: a2 :: a3 :: a4 :: a5 :: a6 :: a7 :: a8 :: a9 :: a10 :: a11 :: a12 :: a13 :: some d :: Γ) S := rfl
theorem dv15 {a0 a1 a2 a3 a4 a5 a6 a7 a8 a9 a10 a11 a12 a13 a14 : Option D} {d : D} : dVar 15 (a0 :: a1 :: a2 :: a3 :: a4 :: a5 :: a6 :: a7 :: a8 :: a9 :: a10 :: a11 :: a12 :: a13 :: a14 :: some d :: Γ) S Φ Ψ = Φ S d := propext ⟨fun ⟨_, e, h⟩ => by cases e; exact h, fun h => ⟨d, rfl, h⟩⟩
theorem nm15 {a0 a1 a2 a3 a4 a5 a6 a7 a8 a9 a10 a11 a12 a13 a14 : Option D} {o : Option D} {d : D} : nmG 15 d (a0 :: a1 :: a2 :: a3 :: a4 :: a5 :: a6 :: a7 :: a8 :: a9 :: a10 :: a11 :: a12 :: a13 :: a14 :: o :: Γ) S P = P (a0 :: a1 :: a2 :: a3 :: a4 :: a5 :: a6 :: a7 :: a8 :: a9 :: a10 :: a11 :: a12 :: a13 :: a14 :: some d :: Γ) S := rfl
theorem dv16 {a0 a1 a2 a3 a4 a5 a6 a7 a8 a9 a10 a11 a12 a13 a14 a15 : Option D} {d : D} : dVar 16 (a0 :: a1 :: a2 :: a3 :: a4 :: a5 :: a6 :: a7 :: a8 :: a9 :: a10 :: a11 :: a12 :: a13 :: a14 :: a15 :: some d :: Γ) S Φ Ψ = Φ S d := propext ⟨fun ⟨_, e, h⟩ => by cases e; exact h, fun h => ⟨d, rfl, h⟩⟩
theorem nm16 {a0 a1 a2 a3 a4 a5 a6 a7 a8 a9 a10 a11 a12 a13 a14 a15 : Option D} {o : Option D} {d : D} : nmG 16 d (a0 :: a1 :: a2 :: a3 :: a4 :: a5 :: a6 :: a7 :: a8 :: a9 :: a10 :: a11 :: a12 :: a13 :: a14 :: a15 :: o :: Γ) S P = P (a0 :: a1 :: a2 :: a3 :: a4 :: a5 :: a6 :: a7 :: a8 :: a9 :: a10 :: a11 :: a12 :: a13 :: a14 :: a15 :: some d :: Γ) S := rfl
theorem dv17 {a0 a1 a2 a3 a4 a5 a6 a7 a8 a9 a10 a11 a12 a13 a14 a15 a16 : Option D} {d : D} : dVar 17 (a0 :: a1 :: a2 :: a3 :: a4 :: a5 :: a6 :: a7 :: a8 :: a9 :: a10 :: a11 :: a12 :: a13 :: a14 :: a15 :: a16 :: some d :: Γ) S Φ Ψ = Φ S d := propext ⟨fun ⟨_, e, h⟩ => by cases e; exact h, fun h => ⟨d, rfl, h⟩⟩
theorem nm17 {a0 a1 a2 a3 a4 a5 a6 a7 a8 a9 a10 a11 a12 a13 a14 a15 a16 : Option D} {o : Option D} {d : D} : nmG 17 d (a0 :: a1 :: a2 :: a3 :: a4 :: a5 :: a6 :: a7 :: a8 :: a9 :: a10 :: a11 :: a12 :: a13 :: a14 :: a15 :: a16 :: o :: Γ) S P = P (a0 :: a1 :: a2 :: a3 :: a4 :: a5 :: a6 :: a7 :: a8 :: a9 :: a10 :: a11 :: a12 :: a13 :: a14 :: a15 :: a16 :: some d :: Γ) S := rfl
theorem dv18 {a0 a1 a2 a3 a4 a5 a6 a7 a8 a9 a10 a11 a12 a13 a14 a15 a16 a17 : Option D} {d : D} : dVar 18 (a0 :: a1 :: a2 :: a3 :: a4 :: a5 :: a6 :: a7 :: a8 :: a9 :: a10 :: a11 :: a12 :: a13 :: a14 :: a15 :: a16 :: a17 :: some d :: Γ) S Φ Ψ = Φ S d := propext ⟨fun ⟨_, e, h⟩ => by cases e; exact h, fun h => ⟨d, rfl, h⟩⟩
theorem nm18 {a0 a1 a2 a3 a4 a5 a6 a7 a8 a9 a10 a11 a12 a13 a14 a15 a16 a17 : Option D} {o : Option D} {d : D} : nmG 18 d (a0 :: a1 :: a2 :: a3 :: a4 :: a5 :: a6 :: a7 :: a8 :: a9 :: a10 :: a11 :: a12 :: a13 :: a14 :: a15 :: a16 :: a17 :: o :: Γ) S P = P (a0 :: a1 :: a2 :: a3 :: a4 :: a5 :: a6 :: a7 :: a8 :: a9 :: a10 :: a11 :: a12 :: a13 :: a14 :: a15 :: a16 :: a17 :: some d :: Γ) S := rfl
theorem dv19 {a0 a1 a2 a3 a4 a5 a6 a7 a8 a9 a10 a11 a12 a13 a14 a15 a16 a17 a18 : Option D} {d : D} : dVar 19 (a0 :: a1 :: a2 :: a3 :: a4 :: a5 :: a6 :: a7 :: a8 :: a9 :: a10 :: a11 :: a12 :: a13 :: a14 :: a15 :: a16 :: a17 :: a18 :: some d :: Γ) S Φ Ψ = Φ S d := propext ⟨fun ⟨_, e, h⟩ => by cases e; exact h, fun h => ⟨d, rfl, h⟩⟩
theorem nm19 {a0 a1 a2 a3 a4 a5 a6 a7 a8 a9 a10 a11 a12 a13 a14 a15 a16 a17 a18 : Option D} {o : Option D} {d : D} : nmG 19 d (a0 :: a1 :: a2 :: a3 :: a4 :: a5 :: a6 :: a7 :: a8 :: a9 :: a10 :: a11 :: a12 :: a13 :: a14 :: a15 :: a16 :: a17 :: a18 :: o :: Γ) S P = P (a0 :: a1 :: a2 :: a3 :: a4 :: a5 :: a6 :: a7 :: a8 :: a9 :: a10 :: a11 :: a12 :: a13 :: a14 :: a15 :: a16 :: a17 :: a18 :: some d :: Γ) S := rfl
theorem dv20 {a0 a1 a2 a3 a4 a5 a6 a7 a8 a9 a10 a11 a12 a13 a14 a15 a16 a17 a18 a19 : Option D} {d : D} : dVar 20 (a0 :: a1 :: a2 :: a3 :: a4 :: a5 :: a6 :: a7 :: a8 :: a9 :: a10 :: a11 :: a12 :: a13 :: a14 :: a15 :: a16 :: a17 :: a18 :: a19 :: some d :: Γ) S Φ Ψ = Φ S d := propext ⟨fun ⟨_, e, h⟩ => by cases e; exact h, fun h => ⟨d, rfl, h⟩⟩
theorem nm20 {a0 a1 a2 a3 a4 a5 a6 a7 a8 a9 a10 a11 a12 a13 a14 a15 a16 a17 a18 a19 : Option D} {o : Option D} {d : D} : nmG 20 d (a0 :: a1 :: a2 :: a3 :: a4 :: a5 :: a6 :: a7 :: a8 :: a9 :: a10 :: a11 :: a12 :: a13 :: a14 :: a15 :: a16 :: a17 :: a18 :: a19 :: o :: Γ) S P = P (a0 :: a1 :: a2 :: a3 :: a4 :: a5 :: a6 :: a7 :: a8 :: a9 :: a10 :: a11 :: a12 :: a13 :: a14 :: a15 :: a16 :: a17 :: a18 :: a19 :: some d :: Γ) S := rfl
theorem dv21 {a0 a1 a2 a3 a4 a5 a6 a7 a8 a9 a10 a11 a12 a13 a14 a15 a16 a17 a18 a19 a20 : Option D} {d : D} : dVar 21 (a0 :: a1 :: a2 :: a3 :: a4 :: a5 :: a6 :: a7 :: a8 :: a9 :: a10 :: a11 :: a12 :: a13 :: a14 :: a15 :: a16 :: a17 :: a18 :: a19 :: a20 :: some d :: Γ) S Φ Ψ = Φ S d := propext ⟨fun ⟨_, e, h⟩ => by cases e; exact h, fun h => ⟨d, rfl, h⟩⟩
theorem nm21 {a0 a1 a2 a3 a4 a5 a6 a7 a8 a9 a10 a11 a12 a13 a14 a15 a16 a17 a18 a19 a20 : Option D} {o : Option D} {d : D} : nmG 21 d (a0 :: a1 :: a2 :: a3 :: a4 :: a5 :: a6 :: a7 :: a8 :: a9 :: a10 :: a11 :: a12 :: a13 :: a14 :: a15 :: a16 :: a17 :: a18 :: a19 :: a20 :: o :: Γ) S P = P (a0 :: a1 :: a2 :: a3 :: a4 :: a5 :: a6 :: a7 :: a8 :: a9 :: a10 :: a11 :: a12 :: a13 :: a14 :: a15 :: a16 :: a17 :: a18 :: a19 :: a20 :: some d :: Γ) S := rfl
theorem dv22 {a0 a1 a2 a3 a4 a5 a6 a7 a8 a9 a10 a11 a12 a13 a14 a15 a16 a17 a18 a19 a20 a21 : Option D} {d : D} : dVar 22 (a0 :: a1 :: a2 :: a3 :: a4 :: a5 :: a6 :: a7 :: a8 :: a9 :: a10 :: a11 :: a12 :: a13 :: a14 :: a15 :: a16 :: a17 :: a18 :: a19 :: a20 :: a21 :: some d :: Γ) S Φ Ψ = Φ S d := propext ⟨fun ⟨_, e, h⟩ => by cases e; exact h, fun h => ⟨d, rfl, h⟩⟩
theorem nm22 {a0 a1 a2 a3 a4 a5 a6 a7 a8 a9 a10 a11 a12 a13 a14 a15 a16 a17 a18 a19 a20 a21 : Option D} {o : Option D} {d : D} : nmG 22 d (a0 :: a1 :: a2 :: a3 :: a4 :: a5 :: a6 :: a7 :: a8 :: a9 :: a10 :: a11 :: a12 :: a13 :: a14 :: a15 :: a16 :: a17 :: a18 :: a19 :: a20 :: a21 :: o :: Γ) S P = P (a0 :: a1 :: a2 :: a3 :: a4 :: a5 :: a6 :: a7 :: a8 :: a9 :: a10 :: a11 :: a12 :: a13 :: a14 :: a15 :: a16 :: a17 :: a18 :: a19 :: a20 :: a21 :: some d :: Γ) S := rfl
theorem dv23 {a0 a1 a2 a3 a4 a5 a6 a7 a8 a9 a10 a11 a12 a13 a14 a15 a16 a17 a18 a19 a20 a21 a22 : Option D} {d : D} : dVar 23 (a0 :: a1 :: a2 :: a3 :: a4 :: a5 :: a6 :: a7 :: a8 :: a9 :: a10 :: a11 :: a12 :: a13 :: a14 :: a15 :: a16 :: a17 :: a18 :: a19 :: a20 :: a21 :: a22 :: some d :: Γ) S Φ Ψ = Φ S d := propext ⟨fun ⟨_, e, h⟩ => by cases e; exact h, fun h => ⟨d, rfl, h⟩⟩
theorem nm23 {a0 a1 a2 a3 a4 a5 a6 a7 a8 a9 a10 a11 a12 a13 a14 a15 a16 a17 a18 a19 a20 a21 a22 : Option D} {o : Option D} {d : D} : nmG 23 d (a0 :: a1 :: a2 :: a3 :: a4 :: a5 :: a6 :: a7 :: a8 :: a9 :: a10 :: a11 :: a12 :: a13 :: a14 :: a15 :: a16 :: a17 :: a18 :: a19 :: a20 :: a21 :: a22 :: o :: Γ) S P = P (a0 :: a1 :: a2 :: a3 :: a4 :: a5 :: a6 :: a7 :: a8 :: a9 :: a10 :: a11 :: a12 :: a13 :: a14 :: a15 :: a16 :: a17 :: a18 :: a19 :: a20 :: a21 :: a22 :: some d :: Γ) S := rfl
theorem dv24 {a0 a1 a2 a3 a4 a5 a6 a7 a8 a9 a10 a11 a12 a13 a14 a15 a16 a17 a18 a19 a20 a21 a22 a23 : Option D} {d : D} : dVar 24 (a0 :: a1 :: a2 :: a3 :: a4 :: a5 :: a6 :: a7 :: a8 :: a9 :: a10 :: a11 :: a12 :: a13 :: a14 :: a15 :: a16 :: a17 :: a18 :: a19 :: a20 :: a21 :: a22 :: a23 :: some d :: Γ) S Φ Ψ = Φ S d := propext ⟨fun ⟨_, e, h⟩ => by cases e; exact h, fun h => ⟨d, rfl, h⟩⟩
theorem nm24 {a0 a1 a2 a3 a4 a5 a6 a7 a8 a9 a10 a11 a12 a13 a14 a15 a16 a17 a18 a19 a20 a21 a22 a23 : Option D} {o : Option D} {d : D} : nmG 24 d (a0 :: a1 :: a2 :: a3 :: a4 :: a5 :: a6 :: a7 :: a8 :: a9 :: a10 :: a11 :: a12 :: a13 :: a14 :: a15 :: a16 :: a17 :: a18 :: a19 :: a20 :: a21 :: a22 :: a23 :: o :: Γ) S P = P (a0 :: a1 :: a2 :: a3 :: a4 :: a5 :: a6 :: a7 :: a8 :: a9 :: a10 :: a11 :: a12 :: a13 :: a14 :: a15 :: a16 :: a17 :: a18 :: a19 :: a20 :: a21 :: a22 :: a23 :: some d :: Γ) S := rfl
theorem dv25 {a0 a1 a2 a3 a4 a5 a6 a7 a8 a9 a10 a11 a12 a13 a14 a15 a16 a17 a18 a19 a20 a21 a22 a23 a24 : Option D} {d : D} : dVar 25 (a0 :: a1 :: a2 :: a3 :: a4 :: a5 :: a6 :: a7 :: a8 :: a9 :: a10 :: a11 :: a12 :: a13 :: a14 :: a15 :: a16 :: a17 :: a18 :: a19 :: a20 :: a21 :: a22 :: a23 :: a24 :: some d :: Γ) S Φ Ψ = Φ S d := propext ⟨fun ⟨_, e, h⟩ => by cases e; exact h, fun h => ⟨d, rfl, h⟩⟩
theorem nm25 {a0 a1 a2 a3 a4 a5 a6 a7 a8 a9 a10 a11 a12 a13 a14 a15 a16 a17 a18 a19 a20 a21 a22 a23 a24 : Option D} {o : Option D} {d : D} : nmG 25 d (a0 :: a1 :: a2 :: a3 :: a4 :: a5 :: a6 :: a7 :: a8 :: a9 :: a10 :: a11 :: a12 :: a13 :: a14 :: a15 :: a16 :: a17 :: a18 :: a19 :: a20 :: a21 :: a22 :: a23 :: a24 :: o :: Γ) S P = P (a0 :: a1 :: a2 :: a3 :: a4 :: a5 :: a6 :: a7 :: a8 :: a9 :: a10 :: a11 :: a12 :: a13 :: a14 :: a15 :: a16 :: a17 :: a18 :: a19 :: a20 :: a21 :: a22 :: a23 :: a24 :: some d :: Γ) S := rfl
theorem dv26 {a0 a1 a2 a3 a4 a5 a6 a7 a8 a9 a10 a11 a12 a13 a14 a15 a16 a17 a18 a19 a20 a21 a22 a23 a24 a25 : Option D} {d : D} : dVar 26 (a0 :: a1 :: a2 :: a3 :: a4 :: a5 :: a6 :: a7 :: a8 :: a9 :: a10 :: a11 :: a12 :: a13 :: a14 :: a15 :: a16 :: a17 :: a18 :: a19 :: a20 :: a21 :: a22 :: a23 :: a24 :: a25 :: some d :: Γ) S Φ Ψ = Φ S d := propext ⟨fun ⟨_, e, h⟩ => by cases e; exact h, fun h => ⟨d, rfl, h⟩⟩
theorem nm26 {a0 a1 a2 a3 a4 a5 a6 a7 a8 a9 a10 a11 a12 a13 a14 a15 a16 a17 a18 a19 a20 a21 a22 a23 a24 a25 : Option D} {o : Option D} {d : D} : nmG 26 d (a0 :: a1 :: a2 :: a3 :: a4 :: a5 :: a6 :: a7 :: a8 :: a9 :: a10 :: a11 :: a12 :: a13 :: a14 :: a15 :: a16 :: a17 :: a18 :: a19 :: a20 :: a21 :: a22 :: a23 :: a24 :: a25 :: o :: Γ) S P = P (a0 :: a1 :: a2 :: a3 :: a4 :: a5 :: a6 :: a7 :: a8 :: a9 :: a10 :: a11 :: a12 :: a13 :: a14 :: a15 :: a16 :: a17 :: a18 :: a19 :: a20 :: a21 :: a22 :: a23 :: a24 :: a25 :: some d :: Γ) S := rfl
theorem dv27 {a0 a1 a2 a3 a4 a5 a6 a7 a8 a9 a10 a11 a12 a13 a14 a15 a16 a17 a18 a19 a20 a21 a22 a23 a24 a25 a26 : Option D} {d : D} : dVar 27 (a0 :: a1 :: a2 :: a3 :: a4 :: a5 :: a6 :: a7 :: a8 :: a9 :: a10 :: a11 :: a12 :: a13 :: a14 :: a15 :: a16 :: a17 :: a18 :: a19 :: a20 :: a21 :: a22 :: a23 :: a24 :: a25 :: a26 :: some d :: Γ) S Φ Ψ = Φ S d := propext ⟨fun ⟨_, e, h⟩ => by cases e; exact h, fun h => ⟨d, rfl, h⟩⟩
theorem nm27 {a0 a1 a2 a3 a4 a5 a6 a7 a8 a9 a10 a11 a12 a13 a14 a15 a16 a17 a18 a19 a20 a21 a22 a23 a24 a25 a26 : Option D} {o : Option D} {d : D} : nmG 27 d (a0 :: a1 :: a2 :: a3 :: a4 :: a5 :: a6 :: a7 :: a8 :: a9 :: a10 :: a11 :: a12 :: a13 :: a14 :: a15 :: a16 :: a17 :: a18 :: a19 :: a20 :: a21 :: a22 :: a23 :: a24 :: a25 :: a26 :: o :: Γ) S P = P (a0 :: a1 :: a2 :: a3 :: a4 :: a5 :: a6 :: a7 :: a8 :: a9 :: a10 :: a11 :: a12 :: a13 :: a14 :: a15 :: a16 :: a17 :: a18 :: a19 :: a20 :: a21 :: a22 :: a23 :: a24 :: a25 :: a26 :: some d :: Γ) S := rfl
theorem dv28 {a0 a1 a2 a3 a4 a5 a6 a7 a8 a9 a10 a11 a12 a13 a14 a15 a16 a17 a18 a19 a20 a21 a22 a23 a24 a25 a26 a27 : Option D} {d : D} : dVar 28 (a0 :: a1 :: a2 :: a3 :: a4 :: a5 :: a6 :: a7 :: a8 :: a9 :: a10 :: a11 :: a12 :: a13 :: a14 :: a15 :: a16 :: a17 :: a18 :: a19 :: a20 :: a21 :: a22 :: a23 :: a24 :: a25 :: a26 :: a27 :: some d :: Γ) S Φ Ψ = Φ S d := propext ⟨fun ⟨_, e, h⟩ => by cases e; exact h, fun h => ⟨d, rfl, h⟩⟩
theorem nm28 {a0 a1 a2 a3 a4 a5 a6 a7 a8 a9 a10 a11 a12 a13 a14 a15 a16 a17 a18 a19 a20 a21 a22 a23 a24 a25 a26 a27 : Option D} {o : Option D} {d : D} : nmG 28 d (a0 :: a1 :: a2 :: a3 :: a4 :: a5 :: a6 :: a7 :: a8 :: a9 :: a10 :: a11 :: a12 :: a13 :: a14 :: a15 :: a16 :: a17 :: a18 :: a19 :: a20 :: a21 :: a22 :: a23 :: a24 :: a25 :: a26 :: a27 :: o :: Γ) S P = P (a0 :: a1 :: a2 :: a3 :: a4 :: a5 :: a6 :: a7 :: a8 :: a9 :: a10 :: a11 :: a12 :: a13 :: a14 :: a15 :: a16 :: a17 :: a18 :: a19 :: a20 :: a21 :: a22 :: a23 :: a24 :: a25 :: a26 :: a27 :: some d :: Γ) S := rfl
theorem dv29 {a0 a1 a2 a3 a4 a5 a6 a7 a8 a9 a10 a11 a12 a13 a14 a15 a16 a17 a18 a19 a20 a21 a22 a23 a24 a25 a26 a27 a28 : Option D} {d : D} : dVar 29 (a0 :: a1 :: a2 :: a3 :: a4 :: a5 :: a6 :: a7 :: a8 :: a9 :: a10 :: a11 :: a12 :: a13 :: a14 :: a15 :: a16 :: a17 :: a18 :: a19 :: a20 :: a21 :: a22 :: a23 :: a24 :: a25 :: a26 :: a27 :: a28 :: some d :: Γ) S Φ Ψ = Φ S d := propext ⟨fun ⟨_, e, h⟩ => by cases e; exact h, fun h => ⟨d, rfl, h⟩⟩
theorem nm29 {a0 a1 a2 a3 a4 a5 a6 a7 a8 a9 a10 a11 a12 a13 a14 a15 a16 a17 a18 a19 a20 a21 a22 a23 a24 a25 a26 a27 a28 : Option D} {o : Option D} {d : D} : nmG 29 d (a0 :: a1 :: a2 :: a3 :: a4 :: a5 :: a6 :: a7 :: a8 :: a9 :: a10 :: a11 :: a12 :: a13 :: a14 :: a15 :: a16 :: a17 :: a18 :: a19 :: a20 :: a21 :: a22 :: a23 :: a24 :: a25 :: a26 :: a27 :: a28 :: o :: Γ) S P = P (a0 :: a1 :: a2 :: a3 :: a4 :: a5 :: a6 :: a7 :: a8 :: a9 :: a10 :: a11 :: a12 :: a13 :: a14 :: a15 :: a16 :: a17 :: a18 :: a19 :: a20 :: a21 :: a22 :: a23 :: a24 :: a25 :: a26 :: a27 :: a28 :: some d :: Γ) S := rfl
theorem dv30 {a0 a1 a2 a3 a4 a5 a6 a7 a8 a9 a10 a11 a12 a13 a14 a15 a16 a17 a18 a19 a20 a21 a22 a23 a24 a25 a26 a27 a28 a29 : Option D} {d : D} : dVar 30 (a0 :: a1 :: a2 :: a3 :: a4 :: a5 :: a6 :: a7 :: a8 :: a9 :: a10 :: a11 :: a12 :: a13 :: a14 :: a15 :: a16 :: a17 :: a18 :: a19 :: a20 :: a21 :: a22 :: a23 :: a24 :: a25 :: a26 :: a27 :: a28 :: a29 :: some d :: Γ) S Φ Ψ = Φ S d := propext ⟨fun ⟨_, e, h⟩ => by cases e; exact h, fun h => ⟨d, rfl, h⟩⟩
theorem nm30 {a0 a1 a2 a3 a4 a5 a6 a7 a8 a9 a10 a11 a12 a13 a14 a15 a16 a17 a18 a19 a20 a21 a22 a23 a24 a25 a26 a27 a28 a29 : Option D} {o : Option D} {d : D} : nmG 30 d (a0 :: a1 :: a2 :: a3 :: a4 :: a5 :: a6 :: a7 :: a8 :: a9 :: a10 :: a11 :: a12 :: a13 :: a14 :: a15 :: a16 :: a17 :: a18 :: a19 :: a20 :: a21 :: a22 :: a23 :: a24 :: a25 :: a26 :: a27 :: a28 :: a29 :: o :: Γ) S P = P (a0 :: a1 :: a2 :: a3 :: a4 :: a5 :: a6 :: a7 :: a8 :: a9 :: a10 :: a11 :: a12 :: a13 :: a14 :: a15 :: a16 :: a17 :: a18 :: a19 :: a20 :: a21 :: a22 :: a23 :: a24 :: a25 :: a26 :: a27 :: a28 :: a29 :: some d :: Γ) S := rfl
theorem dv31 {a0 a1 a2 a3 a4 a5 a6 a7 a8 a9 a10 a11 a12 a13 a14 a15 a16 a17 a18 a19 a20 a21 a22 a23 a24 a25 a26 a27 a28 a29 a30 : Option D} {d : D} : dVar 31 (a0 :: a1 :: a2 :: a3 :: a4 :: a5 :: a6 :: a7 :: a8 :: a9 :: a10 :: a11 :: a12 :: a13 :: a14 :: a15 :: a16 :: a17 :: a18 :: a19 :: a20 :: a21 :: a22 :: a23 :: a24 :: a25 :: a26 :: a27 :: a28 :: a29 :: a30 :: some d :: Γ) S Φ Ψ = Φ S d := propext ⟨fun ⟨_, e, h⟩ => by cases e; exact h, fun h => ⟨d, rfl, h⟩⟩
theorem nm31 {a0 a1 a2 a3 a4 a5 a6 a7 a8 a9 a10 a11 a12 a13 a14 a15 a16 a17 a18 a19 a20 a21 a22 a23 a24 a25 a26 a27 a28 a29 a30 : Option D} {o : Option D} {d : D} : nmG 31 d (a0 :: a1 :: a2 :: a3 :: a4 :: a5 :: a6 :: a7 :: a8 :: a9 :: a10 :: a11 :: a12 :: a13 :: a14 :: a15 :: a16 :: a17 :: a18 :: a19 :: a20 :: a21 :: a22 :: a23 :: a24 :: a25 :: a26 :: a27 :: a28 :: a29 :: a30 :: o :: Γ) S P = P (a0 :: a1 :: a2 :: a3 :: a4 :: a5 :: a6 :: a7 :: a8 :: a9 :: a10 :: a11 :: a12 :: a13 :: a14 :: a15 :: a16 :: a17 :: a18 :: a19 :: a20 :: a21 :: a22 :: a23 :: a24 :: a25 :: a26 :: a27 :: a28 :: a29 :: a30 :: some d :: Γ) S := rfl
theorem dv32 {a0 a1 a2 a3 a4 a5 a6 a7 a8 a9 a10 a11 a12 a13 a14 a15 a16 a17 a18 a19 a20 a21 a22 a23 a24 a25 a26 a27 a28 a29 a30 a31 : Option D} {d : D} : dVar 32 (a0 :: a1 :: a2 :: a3 :: a4 :: a5 :: a6 :: a7 :: a8 :: a9 :: a10 :: a11 :: a12 :: a13 :: a14 :: a15 :: a16 :: a17 :: a18 :: a19 :: a20 :: a21 :: a22 :: a23 :: a24 :: a25 :: a26 :: a27 :: a28 :: a29 :: a30 :: a31 :: some d :: Γ) S Φ Ψ = Φ S d := propext ⟨fun ⟨_, e, h⟩ => by cases e; exact h, fun h => ⟨d, rfl, h⟩⟩
theorem nm32 {a0 a1 a2 a3 a4 a5 a6 a7 a8 a9 a10 a11 a12 a13 a14 a15 a16 a17 a18 a19 a20 a21 a22 a23 a24 a25 a26 a27 a28 a29 a30 a31 : Option D} {o : Option D} {d : D} : nmG 32 d (a0 :: a1 :: a2 :: a3 :: a4 :: a5 :: a6 :: a7 :: a8 :: a9 :: a10 :: a11 :: a12 :: a13 :: a14 :: a15 :: a16 :: a17 :: a18 :: a19 :: a20 :: a21 :: a22 :: a23 :: a24 :: a25 :: a26 :: a27 :: a28 :: a29 :: a30 :: a31 :: o :: Γ) S P = P (a0 :: a1 :: a2 :: a3 :: a4 :: a5 :: a6 :: a7 :: a8 :: a9 :: a10 :: a11 :: a12 :: a13 :: a14 :: a15 :: a16 :: a17 :: a18 :: a19 :: a20 :: a21 :: a22 :: a23 :: a24 :: a25 :: a26 :: a27 :: a28 :: a29 :: a30 :: a31 :: some d :: Γ) S := rfl
theorem dv33 {a0 a1 a2 a3 a4 a5 a6 a7 a8 a9 a10 a11 a12 a13 a14 a15 a16 a17 a18 a19 a20 a21 a22 a23 a24 a25 a26 a27 a28 a29 a30 a31 a32 : Option D} {d : D} : dVar 33 (a0 :: a1 :: a2 :: a3 :: a4 :: a5 :: a6 :: a7 :: a8 :: a9 :: a10 :: a11 :: a12 :: a13 :: a14 :: a15 :: a16 :: a17 :: a18 :: a19 :: a20 :: a21 :: a22 :: a23 :: a24 :: a25 :: a26 :: a27 :: a28 :: a29 :: a30 :: a31 :: a32 :: some d :: Γ) S Φ Ψ = Φ S d := propext ⟨fun ⟨_, e, h⟩ => by cases e; exact h, fun h => ⟨d, rfl, h⟩⟩
theorem nm33 {a0 a1 a2 a3 a4 a5 a6 a7 a8 a9 a10 a11 a12 a13 a14 a15 a16 a17 a18 a19 a20 a21 a22 a23 a24 a25 a26 a27 a28 a29 a30 a31 a32 : Option D} {o : Option D} {d : D} : nmG 33 d (a0 :: a1 :: a2 :: a3 :: a4 :: a5 :: a6 :: a7 :: a8 :: a9 :: a10 :: a11 :: a12 :: a13 :: a14 :: a15 :: a16 :: a17 :: a18 :: a19 :: a20 :: a21 :: a22 :: a23 :: a24 :: a25 :: a26 :: a27 :: a28 :: a29 :: a30 :: a31 :: a32 :: o :: Γ) S P = P (a0 :: a1 :: a2 :: a3 :: a4 :: a5 :: a6 :: a7 :: a8 :: a9 :: a10 :: a11 :: a12 :: a13 :: a14 :: a15 :: a16 :: a17 :: a18 :: a19 :: a20 :: a21 :: a22 :: a23 :: a24 :: a25 :: a26 :: a27 :: a28 :: a29 :: a30 :: a31 :: a32 :: some d :: Γ) S := rfl
theorem dv34 {a0 a1 a2 a3 a4 a5 a6 a7 a8 a9 a10 a11 a12 a13 a14 a15 a16 a17 a18 a19 a20 a21 a22 a23 a24 a25 a26 a27 a28 a29 a30 a31 a32 a33 : Option D} {d : D} : dVar 34 (a0 :: a1 :: a2 :: a3 :: a4 :: a5 :: a6 :: a7 :: a8 :: a9 :: a10 :: a11 :: a12 :: a13 :: a14 :: a15 :: a16 :: a17 :: a18 :: a19 :: a20 :: a21 :: a22 :: a23 :: a24 :: a25 :: a26 :: a27 :: a28 :: a29 :: a30 :: a31 :: a32 :: a33 :: some d :: Γ) S Φ Ψ = Φ S d := propext ⟨fun ⟨_, e, h⟩ => by cases e; exact h, fun h => ⟨d, rfl, h⟩⟩
theorem nm34 {a0 a1 a2 a3 a4 a5 a6 a7 a8 a9 a10 a11 a12 a13 a14 a15 a16 a17 a18 a19 a20 a21 a22 a23 a24 a25 a26 a27 a28 a29 a30 a31 a32 a33 : Option D} {o : Option D} {d : D} : nmG 34 d (a0 :: a1 :: a2 :: a3 :: a4 :: a5 :: a6 :: a7 :: a8 :: a9 :: a10 :: a11 :: a12 :: a13 :: a14 :: a15 :: a16 :: a17 :: a18 :: a19 :: a20 :: a21 :: a22 :: a23 :: a24 :: a25 :: a26 :: a27 :: a28 :: a29 :: a30 :: a31 :: a32 :: a33 :: o :: Γ) S P = P (a0 :: a1 :: a2 :: a3 :: a4 :: a5 :: a6 :: a7 :: a8 :: a9 :: a10 :: a11 :: a12 :: a13 :: a14 :: a15 :: a16 :: a17 :: a18 :: a19 :: a20 :: a21 :: a22 :: a23 :: a24 :: a25 :: a26 :: a27 :: a28 :: a29 :: a30 :: a31 :: a32 :: a33 :: some d :: Γ) S := rfl
theorem dv35 {a0 a1 a2 a3 a4 a5 a6 a7 a8 a9 a10 a11 a12 a13 a14 a15 a16 a17 a18 a19 a20 a21 a22 a23 a24 a25 a26 a27 a28 a29 a30 a31 a32 a33 a34 : Option D} {d : D} : dVar 35 (a0 :: a1 :: a2 :: a3 :: a4 :: a5 :: a6 :: a7 :: a8 :: a9 :: a10 :: a11 :: a12 :: a13 :: a14 :: a15 :: a16 :: a17 :: a18 :: a19 :: a20 :: a21 :: a22 :: a23 :: a24 :: a25 :: a26 :: a27 :: a28 :: a29 :: a30 :: a31 :: a32 :: a33 :: a34 :: some d :: Γ) S Φ Ψ = Φ S d := propext ⟨fun ⟨_, e, h⟩ => by cases e; exact h, fun h => ⟨d, rfl, h⟩⟩
theorem nm35 {a0 a1 a2 a3 a4 a5 a6 a7 a8 a9 a10 a11 a12 a13 a14 a15 a16 a17 a18 a19 a20 a21 a22 a23 a24 a25 a26 a27 a28 a29 a30 a31 a32 a33 a34 : Option D} {o : Option D} {d : D} : nmG 35 d (a0 :: a1 :: a2 :: a3 :: a4 :: a5 :: a6 :: a7 :: a8 :: a9 :: a10 :: a11 :: a12 :: a13 :: a14 :: a15 :: a16 :: a17 :: a18 :: a19 :: a20 :: a21 :: a22 :: a23 :: a24 :: a25 :: a26 :: a27 :: a28 :: a29 :: a30 :: a31 :: a32 :: a33 :: a34 :: o :: Γ) S P = P (a0 :: a1 :: a2 :: a3 :: a4 :: a5 :: a6 :: a7 :: a8 :: a9 :: a10 :: a11 :: a12 :: a13 :: a14 :: a15 :: a16 :: a17 :: a18 :: a19 :: a20 :: a21 :: a22 :: a23 :: a24 :: a25 :: a26 :: a27 :: a28 :: a29 :: a30 :: a31 :: a32 :: a33 :: a34 :: some d :: Γ) S := rfl
theorem dv36 {a0 a1 a2 a3 a4 a5 a6 a7 a8 a9 a10 a11 a12 a13 a14 a15 a16 a17 a18 a19 a20 a21 a22 a23 a24 a25 a26 a27 a28 a29 a30 a31 a32 a33 a34 a35 : Option D} {d : D} : dVar 36 (a0 :: a1 :: a2 :: a3 :: a4 :: a5 :: a6 :: a7 :: a8 :: a9 :: a10 :: a11 :: a12 :: a13 :: a14 :: a15 :: a16 :: a17 :: a18 :: a19 :: a20 :: a21 :: a22 :: a23 :: a24 :: a25 :: a26 :: a27 :: a28 :: a29 :: a30 :: a31 :: a32 :: a33 :: a34 :: a35 :: some d :: Γ) S Φ Ψ = Φ S d := propext ⟨fun ⟨_, e, h⟩ => by cases e; exact h, fun h => ⟨d, rfl, h⟩⟩
theorem nm36 {a0 a1 a2 a3 a4 a5 a6 a7 a8 a9 a10 a11 a12 a13 a14 a15 a16 a17 a18 a19 a20 a21 a22 a23 a24 a25 a26 a27 a28 a29 a30 a31 a32 a33 a34 a35 : Option D} {o : Option D} {d : D} : nmG 36 d (a0 :: a1 :: a2 :: a3 :: a4 :: a5 :: a6 :: a7 :: a8 :: a9 :: a10 :: a11 :: a12 :: a13 :: a14 :: a15 :: a16 :: a17 :: a18 :: a19 :: a20 :: a21 :: a22 :: a23 :: a24 :: a25 :: a26 :: a27 :: a28 :: a29 :: a30 :: a31 :: a32 :: a33 :: a34 :: a35 :: o :: Γ) S P = P (a0 :: a1 :: a2 :: a3 :: a4 :: a5 :: a6 :: a7 :: a8 :: a9 :: a10 :: a11 :: a12 :: a13 :: a14 :: a15 :: a16 :: a17 :: a18 :: a19 :: a20 :: a21 :: a22 :: a23 :: a24 :: a25 :: a26 :: a27 :: a28 :: a29 :: a30 :: a31 :: a32 :: a33 :: a34 :: a35 :: some d :: Γ) S := rfl
theorem dv37 {a0 a1 a2 a3 a4 a5 a6 a7 a8 a9 a10 a11 a12 a13 a14 a15 a16 a17 a18 a19 a20 a21 a22 a23 a24 a25 a26 a27 a28 a29 a30 a31 a32 a33 a34 a35 a36 : Option D} {d : D} : dVar 37 (a0 :: a1 :: a2 :: a3 :: a4 :: a5 :: a6 :: a7 :: a8 :: a9 :: a10 :: a11 :: a12 :: a13 :: a14 :: a15 :: a16 :: a17 :: a18 :: a19 :: a20 :: a21 :: a22 :: a23 :: a24 :: a25 :: a26 :: a27 :: a28 :: a29 :: a30 :: a31 :: a32 :: a33 :: a34 :: a35 :: a36 :: some d :: Γ) S Φ Ψ = Φ S d := propext ⟨fun ⟨_, e, h⟩ => by cases e; exact h, fun h => ⟨d, rfl, h⟩⟩
theorem nm37 {a0 a1 a2 a3 a4 a5 a6 a7 a8 a9 a10 a11 a12 a13 a14 a15 a16 a17 a18 a19 a20 a21 a22 a23 a24 a25 a26 a27 a28 a29 a30 a31 a32 a33 a34 a35 a36 : Option D} {o : Option D} {d : D} : nmG 37 d (a0 :: a1 :: a2 :: a3 :: a4 :: a5 :: a6 :: a7 :: a8 :: a9 :: a10 :: a11 :: a12 :: a13 :: a14 :: a15 :: a16 :: a17 :: a18 :: a19 :: a20 :: a21 :: a22 :: a23 :: a24 :: a25 :: a26 :: a27 :: a28 :: a29 :: a30 :: a31 :: a32 :: a33 :: a34 :: a35 :: a36 :: o :: Γ) S P = P (a0 :: a1 :: a2 :: a3 :: a4 :: a5 :: a6 :: a7 :: a8 :: a9 :: a10 :: a11 :: a12 :: a13 :: a14 :: a15 :: a16 :: a17 :: a18 :: a19 :: a20 :: a21 :: a22 :: a23 :: a24 :: a25 :: a26 :: a27 :: a28 :: a29 :: a30 :: a31 :: a32 :: a33 :: a34 :: a35 :: a36 :: some d :: Γ) S := rfl
theorem dv38 {a0 a1 a2 a3 a4 a5 a6 a7 a8 a9 a10 a11 a12 a13 a14 a15 a16 a17 a18 a19 a20 a21 a22 a23 a24 a25 a26 a27 a28 a29 a30 a31 a32 a33 a34 a35 a36 a37 : Option D} {d : D} : dVar 38 (a0 :: a1 :: a2 :: a3 :: a4 :: a5 :: a6 :: a7 :: a8 :: a9 :: a10 :: a11 :: a12 :: a13 :: a14 :: a15 :: a16 :: a17 :: a18 :: a19 :: a20 :: a21 :: a22 :: a23 :: a24 :: a25 :: a26 :: a27 :: a28 :: a29 :: a30 :: a31 :: a32 :: a33 :: a34 :: a35 :: a36 :: a37 :: some d :: Γ) S Φ Ψ = Φ S d := propext ⟨fun ⟨_, e, h⟩ => by cases e; exact h, fun h => ⟨d, rfl, h⟩⟩
theorem nm38 {a0 a1 a2 a3 a4 a5 a6 a7 a8 a9 a10 a11 a12 a13 a14 a15 a16 a17 a18 a19 a20 a21 a22 a23 a24 a25 a26 a27 a28 a29 a30 a31 a32 a33 a34 a35 a36 a37 : Option D} {o : Option D} {d : D} : nmG 38 d (a0 :: a1 :: a2 :: a3 :: a4 :: a5 :: a6 :: a7 :: a8 :: a9 :: a10 :: a11 :: a12 :: a13 :: a14 :: a15 :: a16 :: a17 :: a18 :: a19 :: a20 :: a21 :: a22 :: a23 :: a24 :: a25 :: a26 :: a27 :: a28 :: a29 :: a30 :: a31 :: a32 :: a33 :: a34 :: a35 :: a36 :: a37 :: o :: Γ) S P = P (a0 :: a1 :: a2 :: a3 :: a4 :: a5 :: a6 :: a7 :: a8 :: a9 :: a10 :: a11 :: a12 :: a13 :: a14 :: a15 :: a16 :: a17 :: a18 :: a19 :: a20 :: a21 :: a22 :: a23 :: a24 :: a25 :: a26 :: a27 :: a28 :: a29 :: a30 :: a31 :: a32 :: a33 :: a34 :: a35 :: a36 :: a37 :: some d :: Γ) S := rfl
theorem dv39 {a0 a1 a2 a3 a4 a5 a6 a7 a8 a9 a10 a11 a12 a13 a14 a15 a16 a17 a18 a19 a20 a21 a22 a23 a24 a25 a26 a27 a28 a29 a30 a31 a32 a33 a34 a35 a36 a37 a38 : Option D} {d : D} : dVar 39 (a0 :: a1 :: a2 :: a3 :: a4 :: a5 :: a6 :: a7 :: a8 :: a9 :: a10 :: a11 :: a12 :: a13 :: a14 :: a15 :: a16 :: a17 :: a18 :: a19 :: a20 :: a21 :: a22 :: a23 :: a24 :: a25 :: a26 :: a27 :: a28 :: a29 :: a30 :: a31 :: a32 :: a33 :: a34 :: a35 :: a36 :: a37 :: a38 :: some d :: Γ) S Φ Ψ = Φ S d := propext ⟨fun ⟨_, e, h⟩ => by cases e; exact h, fun h => ⟨d, rfl, h⟩⟩
theorem nm39 {a0 a1 a2 a3 a4 a5 a6 a7 a8 a9 a10 a11 a12 a13 a14 a15 a16 a17 a18 a19 a20 a21 a22 a23 a24 a25 a26 a27 a28 a29 a30 a31 a32 a33 a34 a35 a36 a37 a38 : Option D} {o : Option D} {d : D} : nmG 39 d (a0 :: a1 :: a2 :: a3 :: a4 :: a5 :: a6 :: a7 :: a8 :: a9 :: a10 :: a11 :: a12 :: a13 :: a14 :: a15 :: a16 :: a17 :: a18 :: a19 :: a20 :: a21 :: a22 :: a23 :: a24 :: a25 :: a26 :: a27 :: a28 :: a29 :: a30 :: a31 :: a32 :: a33 :: a34 :: a35 :: a36 :: a37 :: a38 :: o :: Γ) S P = P (a0 :: a1 :: a2 :: a3 :: a4 :: a5 :: a6 :: a7 :: a8 :: a9 :: a10 :: a11 :: a12 :: a13 :: a14 :: a15 :: a16 :: a17 :: a18 :: a19 :: a20 :: a21 :: a22 :: a23 :: a24 :: a25 :: a26 :: a27 :: a28 :: a29 :: a30 :: a31 :: a32 :: a33 :: a34 :: a35 :: a36 :: a37 :: a38 :: some d :: Γ) S := rfl
theorem sPar_n {E : EdD} {i j : Nat} {T : TL} : sPar i j T E Γ S = (T Γ S (fun S1 ds => ∃ x y, ds = [x, y] ∧ nmG i x Γ S1 fun Γ' S' => nmG j y Γ' S' E.nx) E.er) := rfl
theorem sPar3_n {E : EdD} {i j l : Nat} {T : TL} : sPar3 i j l T E Γ S = (T Γ S (fun S1 ds => ∃ x y z, ds = [x, y, z] ∧ nmG i x Γ S1 fun Γ' S' => nmG j y Γ' S' fun Γ2 S2 => nmG l z Γ2 S2 E.nx) E.er) := rfl
theorem sAug_n {E : EdD} {i : Nat} {T : TD} {f : D → D → Sto → KD → Prop} : sAug i T f E Γ S = dVar i Γ S (fun _ d => T Γ S (fun S1 y => f d y S1 fun S2 z => nmG i z Γ S2 E.nx) E.er) E.er := rfl
end
end DL
namespace DL
open PySem PySem.Spec PyProof.Rows L2
def rLenI (K : PySem.W.Frag) (C : Addr) (sp : DSpK) : List V → Hp → VK → Prop := fun xs H Q => ∃ a dx fs, xs = [V.ref a] ∧ H a = some (.ins C dx fs) ∧ spK K sp [V.ref a] [] H (fun v H2 => ∃ n : Int, v = .int n ∧ 0 ≤ n ∧ n < 2 ^ 63 ∧ Q v H2) (fun _ _ _ => False)
/-- the class has a __len__ of its own -/
structure LenK (P : Program) (wd : World) (K : PySem.W.Frag) (mg : Str → Option Value) (base : Heap) (C : Addr) (k : Nat) (sp : DSpK) : Prop where
  ex : ∃ f, Meth K C "__len__" f ∧ FnK P wd K mg base k f [] sp
section
variable {X : Cx} {C : Addr} {k : Nat} {sp : DSpK}
theorem call_lenI (c : LenK X.prog X.w X.K X.mg X.base C k sp) (gd : X.A.guards = some []) (hr : Room (k + 1) X.A) : CallR X (.builtin "len") (rLenI X.K C sp) := by
  intro pins s σ H xs us Q I r h
  obtain ⟨a, dx, fs, rfl, ea, q⟩ := h
  obtain ⟨f, hm, F⟩ := c.ex
  obtain ⟨u, rfl, ru⟩ := r.one
  obtain rfl : u = Value.ref a := ru
  obtain ⟨mA, O, _, _, _, _⟩ := ins_get I.hok ea
  obtain ⟨od, J, _⟩ := O.look
  refine Calls.call_function_entry kind_len plain_len entry_len (args_len1 _) ?_
  unfold Builtin.«len»
  refine wpAny_bind (m := oneArg "len" _) (wpAny_pure ?_)
  refine wpAny_bind (m := callSpecial? (.ref a) (Str.ofString "__len__")) ?_
  unfold callSpecial? specialOf
  refine wpAny_bind (wpAny_bind (J.type.here ((PySem.W.looks_findIn I.kIn hm.at_).here ?_)))
  refine wpAny_holding ?_
  refine wpAny_bind ((PySem.W.bind_fn I.kIn _ (beq_iff_eq.mp hm.fn)).here ?_)
  refine wpAny_bind (wpAny_call (codeAny_mono (F.go X.A.in1 X.stack s H [.ref a] [] [.ref a] [] _ _ gd hr.in1 I.env0.in1 (.cons rfl .nil) .nil rfl q) fun rr s2 hq => ?_))
  match rr, hq with
  | .error u, ⟨_, _, _, _, _, _, _, _, _, _, _, _, z⟩ => exact z.elim
  | .ok (.ret u), hq =>
    obtain ⟨v, H', I3, rv, n, ev, h0, h1, q3⟩ := I.after hq
    subst ev
    obtain ⟨t, rfl⟩ := rv
    refine wpAny_pure ?_
    refine wpAny_bind (wpAny_holding (wpAny_pure ?_))
    refine wpAny_bind (wpAny_letGo ?_)
    show wpAny _ _ (if (n : Int) < 0 then _ else _) _ _ _
    rw [if_neg (by omega)]
    show wpAny _ _ (if (n : Int) ≥ 2 ^ 63 then _ else _) _ _ _
    rw [if_neg (by omega)]
    exact wpAny_bind (wpAny_mkInt (wpAny_pure ⟨_, rfl, .int n, H', I3.tok _, ⟨_, rfl⟩, q3⟩))
  | .ok .next, hq => exact False.elim hq
  | .ok .brk, hq => exact False.elim hq
  | .ok .cont, hq => exact False.elim hq
end
def cLenI (C : Addr) (sp : DSpK) (ds : List D) (S : Sto) (Φ : KD) : Prop := ∃ d fs, ds = [d] ∧ asI S d = some (C, fs) ∧ sp [d] [] S (fun S2 v => ∃ n : Int, v = .int n ∧ 0 ≤ n ∧ n < 2 ^ 63 ∧ Φ S2 v) (fun _ _ => False)
theorem cd_lenI {K : PySem.W.Frag} {C : Addr} {sp : DSpK} : CallD K (rLenI K C sp) (cLenI C sp) := fun w S vs ds Φ Q g r ⟨d, fs, e, ed, h⟩ q => by
  subst e
  obtain ⟨v, rfl, rv⟩ := one_of r
  obtain ⟨a, dx, vs', rfl, hH, _⟩ := asI_at g rv ed
  refine ⟨a, dx, vs', rfl, hH, w, S, [d], [], _, _, rfl, g, .cons rv .nil, .nil, h, ?_, fun _ _ _ _ _ _ _ _ z => z.elim⟩
  intro v2 d2 w2 S2 e2 g2 r2 ⟨n, en, h0, h1, hq⟩
  subst en
  have ev := rv_int r2
  subst ev
  exact ⟨n, rfl, h0, h1, q (.int n) (.int n) w2 S2 e2 g2 r2 hq⟩
end DL
namespace DL
open PySem PySem.Spec PyProof.Rows L2
/-- try: e / except c: return b; all that e raises is of the classes Cs -/
def sTryB (Cs : List Addr) (b : Bool) (T : TD) : TSd := fun E Γ S => T Γ S (fun S1 _ => E.nx Γ S1) (fun S1 x => x.cls ∈ Cs ∧ E.rt S1 (.bl b))
abbrev wNo : WX := fun _ _ _ _ => False
theorem js_tryB {X : Cx} {W : WX} {x : Str} {c : Value} {Cs : List Addr} {b : Bool} {e eb : Expr} {te : WX → List (Addr × Obj) → (Value → Shared → Prop) → TE} {tb : TE} {Te : TD} {np p1 p2 pos pos' : Pos} (hx : X.ex = []) (hs : X.stack = X.env :: X.outer) (hf : X.env.frame = some X.env.locals) (hc : Names X x c)
    (hm : ∀ C ∈ Cs, PySem.W.exmOne X.K (.ref C) c = some true) (he : ∀ (W' : WX) (pn : List (Addr × Obj)) (xe : Value → Shared → Prop), Takes (X.tr pn xe) W' → JE (X.tr pn xe) W' e (te W' pn xe) Te)
    (hb : ∀ (a : Addr) (oe : Obj) (pn : List (Addr × Obj)), JE (X.suite a ((a, oe) :: pn)) wNo eb tb (dC (.bl b)))
    (h1 : swapsWith e none p1.line X.env = pure false := by rfl)
    (ee : ∀ W' pn xe, te W' pn xe = te W' [] (fun _ _ => True) := by intros; rfl) :
    JS X W (.Try [.Expr e p1] [.ExceptHandler (some (.Name x np)) none [.Return (some eb) p2] pos'] [] [] pos) (fun D σ H => tDrop (te (wOnly X.K c (fun _ _ _ => tRet tb) wNo D) [] (fun _ _ => True)) D σ H) (sTryB Cs b Te) := by
  refine ⟨ps_try_only (tb := fun W' => tDrop (te W' [] (fun _ _ => True))) (ts := fun _ _ _ => tRet tb) (Wout := wNo) hs hf hc ?_ (fun W' pn xe tk _ => pss_one (ps_expr (ee W' pn xe ▸ (he W' pn xe tk).pe) h1)) (fun a oe cls d pn _ _ => pss_one (ps_ret (hb a oe pn).pe)), ?_⟩
  · rintro _ s1 ⟨a, B, sI, pins', σ1, H1, cls, d, rfl, J0, nb, up, sky, na, os, ag, z⟩
    exact z.elim
  intro E Γ S σ w D g sl h r
  refine (he (wOnly X.K c (fun _ _ _ => tRet tb) wNo D) [] (fun _ _ => True) fun _ _ _ => trivial).sem Γ S _ _ σ w g sl h ?_ _ fun v d w1 S1 e1 g1 _ h1 => r.nx σ Γ w1 S1 e1 g1 (sl.ext e1) h1
  rintro cv dx ex w1 S1 e1 g1 rx ⟨hC, hrt⟩
  obtain ⟨rfl, rd⟩ := rx
  refine ⟨true, hm _ hC, fun _ a na => ?_, fun z => nomatch z⟩
  exact (hb a default []).sem Γ S1 E.rt (fun _ _ => False) σ w1 g1 (sl.ext e1) hrt (fun _ _ _ _ _ _ _ _ z => z.elim) D.rt fun v d w2 S2 e2 g2 r2 h2 => r.rt v d w2 S2 (e1.trans e2) g2 r2 h2
end DL
namespace DL
open PySem PySem.Spec PyProof.Rows L2
section
variable {X : Cx} {W : WX} {e : Expr} {te : TE} {Te : TD}
def dLRg (T : TD) : TD := fun Γ S Φ Ψ => T Γ S (fun S1 d => ∃ n : Nat, d = .int n ∧ n ≤ 1000000 ∧ Φ S1 (.lst (rngD 0 n))) Ψ
def dLRgO (T : TD) : TD := fun Γ S Φ Ψ => T Γ S (fun S1 d => ∃ n : Nat, d = .int n ∧ n ≤ 1000000 ∧ Φ (S1 ++ [.lst (rngD 0 n)]) (.own S1.length)) Ψ
end
section
variable {X : Cx} {W : WX} {e : Expr} {es : List Expr} {x y : Str} {st : Stmt} {k : Nat} {ps : List Str} {sp : DSpec} {tl : TA} {Tl : TL}
theorem je_callAl {p pos : Pos} (c : CalG X.prog X.w X.K X.mg X.base x st k ps sp) (al : X.mg y = X.mg x) (gd : X.A.guards = some []) (hr : Room k X.A) (hg : Gl X y) (tk : Takes X W) (ha : JA X W (e :: es) tl Tl) (hdb : (y == ("__debug__" : Str)) = false := by decide)
    (he : starEach (e :: es) X.env = (false, eval e X.env) :: starEach es X.env := by rfl) (hpl : (backTo pos (starEach es X.env)).any (·.1) = false := by rfl) : JE X W (.Call (.Name y p) (e :: es) [] pos) (tCallS (spOf X.K sp) (WE W) tl) (dCall sp Tl) := by
  obtain ⟨f, fd, F, hm, hk, hb⟩ := c.ex
  exact je_callG F gd hr hg (al.trans hm) hk.kp hb tk ha hdb he hpl
end
def bAli (x y : Str) : FaX := fun K => decide (He.ga K x = He.ga K y)
theorem bAli_ok {K : PySem.W.Frag} {mg : Str → Option Value} {x y : Str} (h : bAli x y K = true) (hx : mg x = some (.ref (He.ga K x))) (hy : mg y = some (.ref (He.ga K y))) : mg x = mg y := by
  have e : He.ga K x = He.ga K y := of_decide_eq_true h
  rw [hx, hy, e]
def dAddI := iOp0 fun i j => D.int (i + j)
def dSubI := iOp0 fun i j => D.int (i - j)
theorem ipd_addI {K : PySem.W.Frag} : IpD K (ipI fun i j => i + j) dAddI := ipd_int
theorem dAddI_i {i j : Int} {S : Sto} {Φ : KD} : dAddI (.int i) (.int j) S Φ = Φ S (.int (i + j)) := rfl
theorem dSubI_i {i j : Int} {S : Sto} {Φ : KD} : dSubI (.int i) (.int j) S Φ = Φ S (.int (i - j)) := rfl
section
variable {Γ : Gam} {S : Sto} {Φ : KD} {Ψ : KX}
theorem dLRg_e {T : TD} : dLRg T Γ S Φ Ψ = T Γ S (fun S1 d => ∃ n : Nat, d = .int n ∧ n ≤ 1000000 ∧ Φ S1 (.lst (rngD 0 n))) Ψ := rfl
theorem dLRgO_e {T : TD} : dLRgO T Γ S Φ Ψ = T Γ S (fun S1 d => ∃ n : Nat, d = .int n ∧ n ≤ 1000000 ∧ Φ (S1 ++ [.lst (rngD 0 n)]) (.own S1.length)) Ψ := rfl
end
end DL
namespace DL
open PySem PySem.Spec PyProof.Rows L2
def putT (ks : List (List Key × D)) (k : List Key) (d : D) : List (List Key × D) :=
  if (ks.any fun kv => decide (kv.1 = k)) = true then ks.map (fun kv => if kv.1 = k then (kv.1, d) else kv) else ks ++ [(k, d)]
def dMulO (x y : D) (S : Sto) (Φ : KD) : Prop := ∃ xs, ∃ k : Nat, asL S x = some xs ∧ y = .int k ∧ xs.length * k ≤ 1000000 ∧ k ≤ 1000000 ∧ Φ (S ++ [.lst (List.replicate k xs).flatten]) (.own S.length)
def dNew : TD := fun Γ S Φ Ψ => Φ (S ++ [.dct []]) (.own S.length)
section
variable {X : Cx} {W : WX}
def sDct (Tv To : TD) (Tl : TL) : TSd := fun E Γ S => Tv Γ S (fun S1 v => To Γ S1 (fun S2 o => Tl Γ S2 (fun S3 ds => ∃ h ks, ∃ ns : List Int, o = .own h ∧ ds = ns.map D.int ∧ S3[h]? = some (.dct ks) ∧ ks.length < 1000000 ∧ ns.length ≤ 1000 ∧ E.nx Γ (S3.set h (.dct (putT ks (ns.map Sum.inl) v)))) E.er) E.er) E.er
end
section
variable {Γ : Gam} {S : Sto} {Φ : KD} {Ψ : KX}
theorem dNew_e : dNew Γ S Φ Ψ = Φ (S ++ [Cell.dct []]) (.own S.length) := rfl
theorem sDct_e {E : EdD} {Tv To : TD} {Tl : TL} : sDct Tv To Tl E Γ S = Tv Γ S (fun S1 v => To Γ S1 (fun S2 o => Tl Γ S2 (fun S3 ds => ∃ h ks, ∃ ns : List Int, o = .own h ∧ ds = ns.map D.int ∧ S3[h]? = some (.dct ks) ∧ ks.length < 1000000 ∧ ns.length ≤ 1000 ∧ E.nx Γ (S3.set h (.dct (putT ks (ns.map Sum.inl) v)))) E.er) E.er) E.er := rfl
theorem dMulO_l {xs : List D} {k : Nat} : dMulO (.lst xs) (.int k) S Φ = (xs.length * k ≤ 1000000 ∧ k ≤ 1000000 ∧ Φ (S ++ [.lst (List.replicate k xs).flatten]) (.own S.length)) := propext ⟨fun ⟨_, _, e1, e2, h⟩ => by cases e1; cases e2; exact h, fun h => ⟨_, _, rfl, rfl, h⟩⟩
end
end DL
namespace DL
open PySem PySem.Spec PyProof.Rows L2
section
variable {X : Cx} {W : WX} {e : Expr} {es : List Expr} {te : TE} {Te : TD} {tl : TA} {Tl : TL}
def dIsiT (T : TD) (Tl : TL) : TD := fun Γ S Φ Ψ => T Γ S (fun S1 d => Tl Γ S1 (fun S2 ds => ∃ a, ∃ ns : List String, ds = ns.map D.ty ∧ tyOf S2 d = some a ∧ ns.length ≤ 1000 ∧ (∀ n ∈ ns, n ∈ tyN) ∧ Φ S2 (.bl (ns.any (isTyB a)))) Ψ) Ψ
end
theorem dIsiT_e {Γ : Gam} {S : Sto} {Φ : KD} {Ψ : KX} {T : TD} {Tl : TL} : dIsiT T Tl Γ S Φ Ψ = T Γ S (fun S1 d => Tl Γ S1 (fun S2 ds => ∃ a, ∃ ns : List String, ds = ns.map D.ty ∧ tyOf S2 d = some a ∧ ns.length ≤ 1000 ∧ (∀ n ∈ ns, n ∈ tyN) ∧ Φ S2 (.bl (ns.any (isTyB a)))) Ψ) Ψ := rfl
end DL
namespace DL
open PySem PySem.Spec PyProof.Rows L2
def prD (p : Int × Int) : D := .tup [.int p.1, .int p.2]
section
variable {X : Cx} {W : WX} {e : Expr} {te : TE} {Te : TD}
def dLenSet (T : TD) : TD := fun Γ S Φ Ψ => T Γ S (fun S1 d => ∃ ns : List Int, asQ S1 d = some (ns.map D.int) ∧ ns.Nodup ∧ ns.length ≤ 4000 ∧ Φ S1 (.int ns.length)) Ψ
variable {Γ : Gam} {S : Sto} {Φ : KD} {Ψ : KX}
theorem dLenSet_e {T : TD} : dLenSet T Γ S Φ Ψ = T Γ S (fun S1 d => ∃ ns : List Int, asQ S1 d = some (ns.map D.int) ∧ ns.Nodup ∧ ns.length ≤ 4000 ∧ Φ S1 (.int ns.length)) Ψ := rfl
end
section
variable {X : Cx} {W : WX} {a b c d : Expr} {ta tb tc td : TE} {Ta Tb Tc Td : TD} {pos : Pos}
def bChain3 (f g h : D → D → Sto → KD → Prop) (Ta Tb Tc Td : TD) : TB := fun Γ S Φ Ψ => Ta Γ S (fun S1 x => Tb Γ S1 (fun S2 y => f x y S2 fun S3 z => ∃ k, z = .bl k ∧ (if k = true then Tc Γ S3 (fun S4 u => g y u S4 fun S5 z2 => ∃ k2, z2 = .bl k2 ∧ (if k2 = true then Td Γ S5 (fun S6 v => h u v S6 fun S7 z3 => ∃ k3, z3 = .bl k3 ∧ Φ S7 k3) Ψ else Φ S5 false)) Ψ else Φ S3 false)) Ψ) Ψ
variable {Γ : Gam} {S : Sto} {Φ : Sto → Bool → Prop} {Ψ : KX}
theorem bChain3_e {f g h : D → D → Sto → KD → Prop} : bChain3 f g h Ta Tb Tc Td Γ S Φ Ψ = Ta Γ S (fun S1 x => Tb Γ S1 (fun S2 y => f x y S2 fun S3 z => ∃ k, z = .bl k ∧ (if k = true then Tc Γ S3 (fun S4 u => g y u S4 fun S5 z2 => ∃ k2, z2 = .bl k2 ∧ (if k2 = true then Td Γ S5 (fun S6 v => h u v S6 fun S7 z3 => ∃ k3, z3 = .bl k3 ∧ Φ S7 k3) Ψ else Φ S5 false)) Ψ else Φ S3 false)) Ψ) Ψ := rfl
end
section
variable {X : Cx} {W : WX} {e e2 : Expr} {te te2 : TE} {Te Te2 : TD}
def dLRg2 (T U : TD) : TD := fun Γ S Φ Ψ => T Γ S (fun S1 x => U Γ S1 (fun S2 y => ∃ i n : Nat, x = .int i ∧ y = .int ((i + n : Nat) : Int) ∧ i + n ≤ 1000000 ∧ Φ S2 (.lst (rngD i n))) Ψ) Ψ
variable {Γ : Gam} {S : Sto} {Φ : KD} {Ψ : KX}
theorem dLRg2_e {T U : TD} : dLRg2 T U Γ S Φ Ψ = T Γ S (fun S1 x => U Γ S1 (fun S2 y => ∃ i n : Nat, x = .int i ∧ y = .int ((i + n : Nat) : Int) ∧ i + n ≤ 1000000 ∧ Φ S2 (.lst (rngD i n))) Ψ) Ψ := rfl
end
section
def dwD (i : Int) (n : Nat) : List D := (List.range n).map fun (k : Nat) => D.int (i - (k : Int))
theorem dwD_len (i : Int) (n : Nat) : (dwD i n).length = n := by
  unfold dwD
  rw [List.length_map, List.length_range]
theorem dwD_get {lo : Int} {n i : Nat} {d : D} (h : (dwD lo n)[i]? = some d) : i < n ∧ d = .int (lo - (i : Int)) := by
  unfold dwD at h
  rw [List.getElem?_map] at h
  cases q : (List.range n)[i]? with
  | none => rw [q] at h; cases h
  | some j =>
    rw [q] at h
    obtain ⟨h1, h2⟩ := List.getElem?_eq_some_iff.mp q
    rw [List.getElem_range] at h2
    rw [List.length_range] at h1
    subst h2
    cases h
    exact ⟨h1, rfl⟩
theorem src_dw {K : PySem.W.Frag} {w0 : Hs} {lo : Int} {n : Nat} : SrcOk K w0 (Itc lo (-1) n) (fun _ => some (dwD lo n)) := fun w S ds i e' g h => by
  cases h
  refine ⟨fun d hd => ?_, fun hl => by rw [dwD_len] at hl; exact hl⟩
  obtain ⟨h1, rfl⟩ := dwD_get hd
  exact ⟨h1, fun x H' ⟨e1, e2⟩ => ⟨w, Ext.refl w, g, e1.symm, by
    rw [e2, show lo + (i : Int) * (-1) = lo - (i : Int) by omega]
    exact .int _⟩⟩
def iRg3 (T : TL) : TId := fun Γ S Φ Ψ => T Γ S (fun S1 ds => ∃ i j, ds = [.int i, .int j, .int (-1)] ∧ (-(2 ^ 62) ≤ i ∧ i < 2 ^ 62 ∧ -(2 ^ 62) ≤ j ∧ j < 2 ^ 62) ∧ Φ S1 (fun _ => some (dwD i (i - j).toNat))) Ψ
variable {X : Cx} {W : WX} {a b c tg : Expr} {tl : TA} {Tl : TL} {p pos : Pos}
theorem ji_range3 (hg : Gl X "range") (hm : X.mg "range" = none) (ha : JA X W [a, b, c] tl Tl) (hs : starEach [a, b, c] X.env = (false, eval a X.env) :: starEach [b, c] X.env := by rfl) (hpl : (backTo pos (starEach [b, c] X.env)).any (·.1) = false := by rfl) :
    JI X W tg (.Call (.Name "range" p) [a, b, c] [] pos) (iRng3 tl) (iRg3 Tl) := ⟨pi_range3 hg hm ha.pa hs hpl, fun Γ S Φ Ψ σ w g sl hT hx Q q =>
  ha.sem Γ S _ Ψ σ w g sl hT hx _ fun vs ds w1 S1 e1 g1 r1 ⟨i, j, ed, h1, h3⟩ => by
    subst ed
    cases r1 with
    | cons ra rb =>
      cases rb with
      | cons rb rc =>
        obtain ⟨v, rfl, rv⟩ := one_of rc
        exact ⟨i, j, -1, (i - j).toNat, by rw [rv_int ra, rv_int rb, rv_int rv], RgC.neg h1.1 h1.2.1 h1.2.2.1 h1.2.2.2, q _ _ w1 S1 e1 g1 src_dw h3⟩⟩
variable {Γ : Gam} {S : Sto} {Ψ : KX}
theorem iRg3_e {T : TL} {Φ : Sto → Src → Prop} : iRg3 T Γ S Φ Ψ = T Γ S (fun S1 ds => ∃ i j, ds = [.int i, .int j, .int (-1)] ∧ (-(2 ^ 62) ≤ i ∧ i < 2 ^ 62 ∧ -(2 ^ 62) ≤ j ∧ j < 2 ^ 62) ∧ Φ S1 (fun _ => some (dwD i (i - j).toNat))) Ψ := rfl
end
end DL
namespace DL
open PySem PySem.Spec PyProof.Rows L2
section
variable {X : Cx} {W : WX}
/-- [elt for tg in iter if .. for tg1 in iter1 if ..] -/
def dLc2 (I : TId) (G : TGd) (C : TB) (T1 : TD) (G1 : TGd) (C1 : TB) (Te : TD) (vs vs1 : List Nat) (Fin : List D → Sto → KD → Prop) : TD := fun Γ S Φ Ψ => I Γ S (fun S1 src => ∃ (P : Nat → List D → Sto → Prop) (n : Nat), P 0 [] S1 ∧
  (∀ i acc S', i ≤ n → P i acc S' → ∃ ds, src S' = some ds ∧ ds.length = n) ∧
  (∀ i acc S' ds d, P i acc S' → src S' = some ds → ds[i]? = some d → G d (gwipe Γ vs) S' fun Γ2 S2 => C Γ2 S2 (fun S3 k => if k = true then
      T1 Γ2 S3 (fun S4 d4 => (∃ ds, asQ S4 d4 = some ds) ∧ ∃ (P1 : Nat → List D → Sto → Prop) (n1 : Nat), P1 0 acc S4 ∧
        (∀ j acc1 S5, j ≤ n1 → P1 j acc1 S5 → ∃ ds1, asQ S5 d4 = some ds1 ∧ ds1.length = n1) ∧
        (∀ j acc1 S5 ds1 d1, P1 j acc1 S5 → asQ S5 d4 = some ds1 → ds1[j]? = some d1 → G1 d1 (gwipe Γ2 vs1) S5 fun Γ3 S6 => C1 Γ3 S6 (fun S7 k1 => if k1 = true then Te Γ3 S7 (fun S8 y => acc1.length < sizeLine ∧ P1 (j + 1) (acc1 ++ [y]) S8) (fun _ _ => False) else P1 (j + 1) acc1 S7) (fun _ _ => False)) ∧
        (∀ acc1 S5, P1 n1 acc1 S5 → P (i + 1) acc1 S5)) (fun _ _ => False) else P (i + 1) acc S3) (fun _ _ => False)) ∧
  (∀ acc S', P n acc S' → Fin acc S' Φ)) Ψ
end
/-- a part of a tuple, not the whole -/
def dSlT (d : D) (lo hi : Option Int) (S : Sto) (Φ : KD) : Prop := ∃ ds, d = .tup ds ∧ ¬ (HT.sIx ds.length 0 lo = 0 ∧ HT.sIx ds.length ds.length hi = ds.length) ∧ Φ S (.tup (cutD ds lo hi))
section
variable {Γ : Gam} {S : Sto} {Φ : KD} {Ψ : KX}
theorem dSlT_t {ds : List D} {lo hi : Option Int} : dSlT (.tup ds) lo hi S Φ = (¬ (HT.sIx ds.length 0 lo = 0 ∧ HT.sIx ds.length ds.length hi = ds.length) ∧ Φ S (.tup (cutD ds lo hi))) := propext ⟨fun ⟨_, e, h⟩ => by cases e; exact h, fun h => ⟨_, rfl, h⟩⟩
theorem dLc2_e {I : TId} {G G1 : TGd} {C C1 : TB} {T1 Te : TD} {vs vs1 : List Nat} {Fin : List D → Sto → KD → Prop} : dLc2 I G C T1 G1 C1 Te vs vs1 Fin Γ S Φ Ψ = I Γ S (fun S1 src => ∃ (P : Nat → List D → Sto → Prop) (n : Nat), P 0 [] S1 ∧
  (∀ i acc S', i ≤ n → P i acc S' → ∃ ds, src S' = some ds ∧ ds.length = n) ∧
  (∀ i acc S' ds d, P i acc S' → src S' = some ds → ds[i]? = some d → G d (gwipe Γ vs) S' fun Γ2 S2 => C Γ2 S2 (fun S3 k => if k = true then
      T1 Γ2 S3 (fun S4 d4 => (∃ ds, asQ S4 d4 = some ds) ∧ ∃ (P1 : Nat → List D → Sto → Prop) (n1 : Nat), P1 0 acc S4 ∧
        (∀ j acc1 S5, j ≤ n1 → P1 j acc1 S5 → ∃ ds1, asQ S5 d4 = some ds1 ∧ ds1.length = n1) ∧
        (∀ j acc1 S5 ds1 d1, P1 j acc1 S5 → asQ S5 d4 = some ds1 → ds1[j]? = some d1 → G1 d1 (gwipe Γ2 vs1) S5 fun Γ3 S6 => C1 Γ3 S6 (fun S7 k1 => if k1 = true then Te Γ3 S7 (fun S8 y => acc1.length < sizeLine ∧ P1 (j + 1) (acc1 ++ [y]) S8) (fun _ _ => False) else P1 (j + 1) acc1 S7) (fun _ _ => False)) ∧
        (∀ acc1 S5, P1 n1 acc1 S5 → P (i + 1) acc1 S5)) (fun _ _ => False) else P (i + 1) acc S3) (fun _ _ => False)) ∧
  (∀ acc S', P n acc S' → Fin acc S' Φ)) Ψ := rfl
end
end DL
namespace DL
open PySem PySem.Spec PyProof.Rows L2
/-- the dict of the modules is known as such -/
def ModK (K : PySem.W.Frag) : Prop := ∃ o, K.lookup sysModules = some o ∧ o.cls = .type "dict"
def keyP : Key → PyData
  | .inl i => .int i
  | .inr x => .str x
mutual
inductive DpX (K : PySem.W.Frag) (H : Hp) : V → PyData → Prop
  | non : DpX K H .non .none
  | bl (b : Bool) : DpX K H (.bl b) (.bool b)
  | int (i : Int) : DpX K H (.int i) (.int i)
  | str (x : Str) : DpX K H (.str x) (.str x)
  | lst {a : Addr} {xs : List V} {ds : List PyData} : SqL K H a xs → DpXA K H xs ds → DpX K H (.ref a) (.list ds)
  | tup {a : Addr} {xs : List V} {ds : List PyData} : SqT K H a xs → DpXA K H xs ds → DpX K H (.ref a) (.tuple ds)
  | dic {a : Addr} {vs : List (Key × V)} {ps : List (PyData × PyData)} : H a = some (.dK vs) → DpXK K H vs ps → DpX K H (.ref a) (.dict ps)
inductive DpXA (K : PySem.W.Frag) (H : Hp) : List V → List PyData → Prop
  | nil : DpXA K H [] []
  | cons {v : V} {vs : List V} {d : PyData} {ds : List PyData} : DpX K H v d → DpXA K H vs ds → DpXA K H (v :: vs) (d :: ds)
inductive DpXK (K : PySem.W.Frag) (H : Hp) : List (Key × V) → List (PyData × PyData) → Prop
  | nil : DpXK K H [] []
  | cons {k : Key} {v : V} {vs : List (Key × V)} {d : PyData} {ds : List (PyData × PyData)} : DpX K H v d → DpXK K H vs ds → DpXK K H ((k, v) :: vs) ((keyP k, d) :: ds)
end
section
variable {X : Cx} {pins : List (Addr × Obj)} {σ : L2.St} {H : Hp} {s : Shared}
theorem mod_free (I : L2.Inv X pins σ H s) (hM : ModK X.K) : H sysModules = none := by
  obtain ⟨o, e, _⟩ := hM
  have b := I.ok.mod.kin _ _ e
  obtain ⟨h1, h2⟩ := I.ok.bs _ _ b
  exact I.base.free _ _ h1 h2 (I.ok.noex _ _ b)
theorem not_mod (I : L2.Inv X pins σ H s) (hM : ModK X.K) {a : Addr} {xs : List V} (h : SqL X.K H a xs) : a ≠ sysModules := by
  rintro rfl
  rcases h with (h | ⟨o, h⟩) | ⟨o, _, _, h, hc, _⟩
  · rw [mod_free I hM] at h; cases h
  · rw [mod_free I hM] at h; cases h
  · obtain ⟨o2, e, c⟩ := hM
    rw [e] at h
    cases h
    rw [hc] at c
    injection c with c
    exact absurd c (by decide)
theorem key_reads {h : Heap} {k : Key} {u : Value} (e : keyIs k u = true) : Reads h u (keyP k) [] := by
  cases k with
  | inl i =>
    cases u <;> first | (exact absurd e Bool.false_ne_true) | (have e : (_ == _) = true := e; rw [beq_iff_eq] at e; subst e; exact .int _ _)
  | inr x =>
    cases u <;> first | (exact absurd e Bool.false_ne_true) | (have e : (_ == _) = true := e; rw [beq_iff_eq] at e; subst e; exact .str _ _)
mutual
theorem DpX.reads (I : L2.Inv X pins σ H s) (hM : ModK X.K) : ∀ (d : PyData) (v : V) (u : Value), DpX X.K H v d → RelV v u → ∃ as, Reads s.heap u d as ∧ sysModules ∉ as
  | .none, _, u, h, r => by
    cases h
    have r : u = .none := r
    subst r
    exact ⟨[], .none, fun z => nomatch z⟩
  | .bool b, _, u, h, r => by
    cases h
    have r : u = .bool b := r
    subst r
    exact ⟨[], .bool b, fun z => nomatch z⟩
  | .int i, _, u, h, r => by
    cases h
    obtain ⟨t, r⟩ : ∃ t, u = .int i t := r
    subst r
    exact ⟨[], .int i t, fun z => nomatch z⟩
  | .str x, _, u, h, r => by
    cases h
    obtain ⟨t, r⟩ : ∃ t, u = .str x t := r
    subst r
    exact ⟨[], .str x t, fun z => nomatch z⟩
  | .list ds, _, u, h, r => by
    cases h with
    | @lst a xs _ hs ha =>
      have r : u = .ref a := r
      subst r
      obtain ⟨its, rv, pl, _⟩ := I.list hs
      obtain ⟨as, h1, h2⟩ := DpXA.reads I hM ds xs its ha rv
      obtain ⟨o, n, ho, hc, _, hd⟩ := pl
      exact ⟨a :: as, .list ho hc hd (by rw [List.toList_toArray]; exact h1), fun z => (List.mem_cons.mp z).elim (fun e => not_mod I hM hs e.symm) h2⟩
  | .tuple ds, _, u, h, r => by
    cases h with
    | @tup a xs _ hs ha =>
      have r : u = .ref a := r
      subst r
      obtain ⟨its, rv, pl, _⟩ := I.tuple hs
      obtain ⟨as, h1, h2⟩ := DpXA.reads I hM ds xs its ha rv
      obtain ⟨o, ho, hc, n, hd⟩ := pl
      exact ⟨as, .tuple ho hc hd (by rw [List.toList_toArray]; exact h1), h2⟩
  | .dict ps, _, u, h, r => by
    cases h with
    | @dic a vs _ hs ha =>
      have r : u = .ref a := r
      subst r
      obtain ⟨_, ne, ws, kv, o, es, ep, ho, ⟨c1, _, _⟩, hd, _, pr, _⟩ := I.hok a _ hs
      obtain ⟨as, h1, h2, h3⟩ := DpXK.reads I hM ps vs ws es.toList ha kv pr
      exact ⟨a :: [] ++ as, .dict ho c1 hd h1 h2, fun z => (List.mem_cons.mp z).elim (fun e => by rw [e] at ne; simp at ne) h3⟩
theorem DpXA.reads (I : L2.Inv X pins σ H s) (hM : ModK X.K) : ∀ (ds : List PyData) (vs : List V) (us : List Value), DpXA X.K H vs ds → Vals vs us → ∃ as, ReadsAll s.heap us ds as ∧ sysModules ∉ as
  | [], _, us, h, r => by
    cases h
    cases r
    exact ⟨[], .nil, fun z => nomatch z⟩
  | d :: ds, _, us, h, r => by
    cases h with
    | cons h1 h2 =>
      cases r with
      | cons r1 r2 =>
        obtain ⟨as, a1, a2⟩ := DpX.reads I hM d _ _ h1 r1
        obtain ⟨bs, b1, b2⟩ := DpXA.reads I hM ds _ _ h2 r2
        exact ⟨as ++ bs, .cons a1 b1, fun z => (List.mem_append.mp z).elim a2 b2⟩
theorem DpXK.reads (I : L2.Inv X pins σ H s) (hM : ModK X.K) : ∀ (ps : List (PyData × PyData)) (vs : List (Key × V)) (ws : List (Key × Value)) (es : List DictEntry), DpXK X.K H vs ps → KV vs ws → Pairs (mixKind X.prog X.w) es ws →
    ∃ as, ReadsAll s.heap (es.map (·.key)) (ps.map (·.1)) [] ∧ ReadsAll s.heap (es.map (·.val)) (ps.map (·.2)) as ∧ sysModules ∉ as
  | [], _, ws, es, h, r, q => by
    cases h
    cases r
    cases q
    exact ⟨[], .nil, .nil, fun z => nomatch z⟩
  | p :: ps, _, ws, es, h, r, q => by
    cases h with
    | cons h1 h2 =>
      cases r with
      | cons r1 r2 =>
        cases q with
        | cons q1 q2 q3 =>
          obtain ⟨e1, e2⟩ := r1
          obtain ⟨as, a1, a2⟩ := DpX.reads I hM _ _ _ h1 e2
          obtain ⟨bs, b1, b2, b3⟩ := DpXK.reads I hM ps _ _ _ h2 r2 q3
          refine ⟨as ++ bs, ?_, ?_, fun z => (List.mem_append.mp z).elim a2 b3⟩
          · have k1 := key_reads (h := s.heap) (show keyIs _ _ = true from q1)
            rw [← e1] at k1
            exact .cons (as := []) k1 b1
          · rw [List.map_cons, List.map_cons, q2]
            exact .cons a1 b2
end
end
/-- what repr takes -/
structure ShwX (p : PyData) : Prop where
  s : p.showable = true
  dp : p.depth ≤ 60
  l : p.shown.length ≤ sizeLine
def dDic1 (T : TD) (k : Str) : TD := fun Γ S Φ Ψ => T Γ S (fun S1 d => Φ S1 (.dic [(.inr k, d)])) Ψ
def dDic0 : TD := fun Γ S Φ Ψ => Φ S (.dic [])
section
variable {X : Cx} {W : WX} {e : Expr} {te : TE} {Te : TD} {pos p : Pos} {j : Nat} {k : Str}
/-- an object in the making, tracked from here on -/
theorem Good.made {K : PySem.W.Frag} {w : Hs} {S : Sto} (g : Good K w S) {p : Addr} (o : HO) (hF : w.F p = none) (hA : p ∉ w.al) : Good K ⟨upd w.F p o, w.al, upd w.H p o⟩ S := by
  refine ⟨fun a x q => ?_, g.nd, g.len, fun n a c q1 q2 => ?_, fun a q => ?_⟩
  · have q2 : upd w.F p o a = some x := q
    show upd w.H p o a = some x
    by_cases z : a = p
    · subst z; rw [upd_same] at q2 ⊢; exact q2
    · rw [upd_ne z] at q2 ⊢; exact g.sub a x q2
  · have hne : a ≠ p := fun z => hA (z ▸ List.mem_of_getElem? q1)
    have eF : ∀ b x, w.F b = some x → upd w.F p o b = some x := updF hF
    cases c with
    | gone => exact True.intro
    | lst ds =>
      obtain ⟨h1, ys, h2, h3⟩ := g.cell n a _ q1 q2
      exact ⟨by show upd w.F p o a = none; rw [upd_ne hne]; exact h1, ys, by show upd w.H p o a = _; rw [upd_ne hne]; exact h2, RpA.mono eF (fun _ _ z => z) ds ys h3⟩
    | ins C fs =>
      obtain ⟨h1, dx, ys, h2, h3⟩ := g.cell n a _ q1 q2
      exact ⟨by show upd w.F p o a = none; rw [upd_ne hne]; exact h1, dx, ys, by show upd w.H p o a = _; rw [upd_ne hne]; exact h2, RpF.mono eF (fun _ _ z => z) fs ys h3⟩
    | dct ks =>
      obtain ⟨h1, us, h2, h3⟩ := g.cell n a _ q1 q2
      exact ⟨by show upd w.F p o a = none; rw [upd_ne hne]; exact h1, us, by show upd w.H p o a = _; rw [upd_ne hne]; exact h2, h3.mono eF (fun _ _ z => z)⟩
    | dck ks =>
      obtain ⟨h1, us, h2, h3⟩ := g.cell n a _ q1 q2
      exact ⟨by show upd w.F p o a = none; rw [upd_ne hne]; exact h1, us, by show upd w.H p o a = _; rw [upd_ne hne]; exact h2, RpK.mono eF (fun _ _ z => z) ks us h3⟩
    | lck o' us ks =>
      obtain ⟨h1, h2, h3⟩ := g.cell n a _ q1 q2
      exact ⟨by show upd w.F p o a = none; rw [upd_ne hne]; exact h1, by show upd w.H p o a = _; rw [upd_ne hne]; exact h2, RpK.mono eF (fun _ _ z => z) ks us h3⟩
  · show upd w.H p o a ≠ none
    by_cases z : a = p
    · rw [z, upd_same]; exact fun z => nomatch z
    · rw [upd_ne z]; exact g.dom a q
theorem Ext.made {w0 w : Hs} (e : Ext w0 w) {p : Addr} (o : HO) (h0 : w0.H p = none) (hF : w.F p = none) : Ext w0 ⟨upd w.F p o, w.al, upd w.H p o⟩ := by
  refine ⟨fun a x z => updF hF a x (e.f a x z), e.al, fun a x z => ?_, fun a x q n => ?_, fun a q => ?_⟩
  · by_cases y : a = p
    · subst y; exact .inr (.inl h0)
    · have z : upd w.F p o a = some x := z
      rw [upd_ne y] at z
      exact e.new a x z
  · show upd w.H p o a = some x
    rw [upd_ne (ne_of_none q h0)]; exact e.kp a x q n
  · show upd w.H p o a ≠ none
    by_cases z : a = p
    · rw [z, upd_same]; exact fun z => nomatch z
    · rw [upd_ne z]; exact e.dm a q
end
section
variable {Γ : Gam} {S : Sto} {Φ : KD} {Ψ : KX}
theorem dDic0_e : dDic0 Γ S Φ Ψ = Φ S (.dic []) := rfl
theorem dDic1_e {T : TD} {k : Str} : dDic1 T k Γ S Φ Ψ = T Γ S (fun S1 d => Φ S1 (.dic [(.inr k, d)])) Ψ := rfl
end
end DL
namespace DL
open PySem PySem.Spec PyProof.Rows L2
/-- as Room, whatever is handled -/
structure RoomH (k : Nat) (A : Around) : Prop where
  dp : A.depth + 3 * k + 5 < recursionLimit
  un : A.units + 16 * k + 200 < cLine
theorem RoomH.mono {k n : Nat} {A : Around} (r : RoomH k A) (h : n ≤ k) : RoomH n A := ⟨by have := r.dp; omega, by have := r.un; omega⟩
theorem RoomH.deeper {k : Nat} {A : Around} (r : RoomH (k + 1) A) (env : Env) : RoomH k (A.deeper env) :=
  ⟨by have := r.dp; show A.depth + 1 + 3 * k + 5 < _; omega, by have := r.un; show A.units + 3 + 16 * k + 200 < _; omega⟩
theorem RoomH.depth {k : Nat} {A : Around} (r : RoomH k A) : A.depth < recursionLimit := by have := r.dp; omega
theorem RoomH.units {k : Nat} {A : Around} (r : RoomH k A) : A.units + 64 < cLine := by have := r.un; omega
end DL
namespace DL
open PySem PySem.Spec PyProof.Rows L2
section
variable (K : PySem.W.Frag) (W : WX)
structure RlF (σ : L2.St) (Γ : Gam) (w : Hs) (D' : EdD) (D : Ends) : Prop where
  nx : ∀ w' S', Ext w w' → Good K w' S' → D'.nx Γ S' → D.nx σ w'.H
  rt : OkD K w D'.rt D.rt
  er : OkX K W w D'.er σ
end
section
variable {K : PySem.W.Frag} {W : WX} {w w' : Hs}
theorem RlF.ext {σ : L2.St} {Γ : Gam} {D' : EdD} {D : Ends} (h : RlF K W σ Γ w D' D) (e : Ext w w') : RlF K W σ Γ w' D' D := ⟨fun w2 S2 e2 => h.nx w2 S2 (e.trans e2), h.rt.ext e, h.er.ext e⟩
end
/-- try: T / except of Cs as the name at i: U -/
def sTryH (Cs : List Addr) (i : Nat) (T U : TSd) : TSd := fun E Γ S => T { nx := E.nx, rt := E.rt, er := fun S1 x => x.cls ∈ Cs ∧ i < Γ.length ∧ U { nx := fun Γ' S' => E.nx (Γ'.set i none) S', rt := E.rt, er := fun _ _ => False } (Γ.set i (some (.exc x.cls x.fs))) S1 } Γ S
end DL
namespace DL
open PySem PySem.Spec PyProof.Rows L2
/-- the different ones among ns -/
def uniqI (ns : List Int) : List Int := PyProof.Rows.firstMet (fun i => ns.getD i 0) ns.length
section
variable {X : Cx} {W : WX} {e : Expr} {te : TE} {Te : TD}
def dLenSetG (T : TD) : TD := fun Γ S Φ Ψ => T Γ S (fun S1 d => ∃ ns : List Int, asQ S1 d = some (ns.map D.int) ∧ ns.length ≤ 4000 ∧ Φ S1 (.int (uniqI ns).length)) Ψ
variable {Γ : Gam} {S : Sto} {Φ : KD} {Ψ : KX}
theorem dLenSetG_e {T : TD} : dLenSetG T Γ S Φ Ψ = T Γ S (fun S1 d => ∃ ns : List Int, asQ S1 d = some (ns.map D.int) ∧ ns.length ≤ 4000 ∧ Φ S1 (.int (uniqI ns).length)) Ψ := rfl
end
end DL
namespace DL
open PySem PySem.Spec PyProof.Rows L2
def dIsB (x y : D) (S : Sto) (Φ : KD) : Prop := match x, y with
  | .bl a, .bl b => Φ S (.bl (decide (a = b)))
  | _, _ => False
theorem dIsB_b {a b : Bool} {S : Sto} {Φ : KD} : dIsB (.bl a) (.bl b) S Φ = Φ S (.bl (decide (a = b))) := rfl
/-- showable, of depth n at most, its text m long at most -/
structure FitX (n m : Nat) (p : PyData) : Prop where
  show_ : p.showable = true
  deep : p.depth ≤ n
  len : p.shown.length ≤ m
theorem FitX.mono {n m n' m' : Nat} {p : PyData} (h : FitX n m p) (a : n ≤ n') (b : m ≤ m') : FitX n' m' p := ⟨h.show_, Nat.le_trans h.deep a, Nat.le_trans h.len b⟩
theorem FitX.shw {n m : Nat} {p : PyData} (h : FitX n m p) (hn : n ≤ 60 := by decide) (hm : m ≤ sizeLine := by decide) : ShwX p := ⟨h.show_, Nat.le_trans h.deep hn, Nat.le_trans h.len hm⟩
end DL
namespace DL
open PySem PySem.Spec PyProof.Rows L2
theorem sTryH_e {E : EdD} {Cs : List Addr} {i : Nat} {T U : TSd} {Γ : Gam} {S : Sto} : sTryH Cs i T U E Γ S = T { nx := E.nx, rt := E.rt, er := fun S1 x => x.cls ∈ Cs ∧ i < Γ.length ∧ U { nx := fun Γ' S' => E.nx (Γ'.set i none) S', rt := E.rt, er := fun _ _ => False } (Γ.set i (some (.exc x.cls x.fs))) S1 } Γ S := rfl
end DL
namespace DL
open PySem PySem.Spec PyProof.Rows L2
/-- a tuple behind a tuple, both of something -/
def dAddT (x y : D) (S : Sto) (Φ : KD) : Prop := ∃ ds es, x = .tup ds ∧ y = .tup es ∧ ds ≠ [] ∧ es ≠ [] ∧ ds.length + es.length ≤ sizeLine ∧ Φ S (.tup (ds ++ es))
section
variable {S : Sto} {Φ : KD}
theorem dAddT_t {ds es : List D} : dAddT (.tup ds) (.tup es) S Φ = (ds ≠ [] ∧ es ≠ [] ∧ ds.length + es.length ≤ sizeLine ∧ Φ S (.tup (ds ++ es))) := propext ⟨fun ⟨_, _, e1, e2, h⟩ => by cases e1; cases e2; exact h, fun h => ⟨_, _, rfl, rfl, h⟩⟩
end
end DL
namespace DL
open PySem PySem.Spec PyProof.Rows L2
section
variable {X : Cx} {W : WX} {a b e : Expr} {ta : TA} {te : TE} {p p2 pos pos2 tpos : Pos} {elts : List Expr} {kk : Nat}
/-- zip(range(a, b), e) -/
def iZrD (T : TL) (U : TD) : TId := fun Γ S Φ Ψ => T Γ S (fun S1 ds => ∃ i j : Int, ds = [.int i, .int j] ∧ (-(2 ^ 62) ≤ i ∧ i < 2 ^ 62 ∧ -(2 ^ 62) ≤ j ∧ j < 2 ^ 62) ∧ U Γ S1 (fun S2 d => (∃ ys, asQ S2 d = some ys) ∧ Φ S2 (fun S' => (asQ S' d).map fun ys => zipD (rngD i (j - i).toNat) ys)) Ψ) Ψ
section
variable {Γ : Gam} {S : Sto} {Ψ : KX}
theorem iZrD_e {T : TL} {U : TD} {Φ : Sto → Src → Prop} : iZrD T U Γ S Φ Ψ = T Γ S (fun S1 ds => ∃ i j : Int, ds = [.int i, .int j] ∧ (-(2 ^ 62) ≤ i ∧ i < 2 ^ 62 ∧ -(2 ^ 62) ≤ j ∧ j < 2 ^ 62) ∧ U Γ S1 (fun S2 d => (∃ ys, asQ S2 d = some ys) ∧ Φ S2 (fun S' => (asQ S' d).map fun ys => zipD (rngD i (j - i).toNat) ys)) Ψ) Ψ := rfl
end
end
end DL
namespace DL
open PySem PySem.Spec PyProof.Rows L2
def kD : Key → D
  | .inl i => .int i
  | .inr x => .str x
theorem kD_inj : ∀ {k j : Key}, kD k = kD j → k = j
  | .inl _, .inl _, e => by cases e; rfl
  | .inr _, .inr _, e => by cases e; rfl
  | .inl _, .inr _, e => by cases e
  | .inr _, .inl _, e => by cases e
def atD (ks : List (Key × D)) (k : Key) : Option D := (ks.find? fun p => decide (p.1 = k)).map (·.2)
def pKD (ks : List (Key × D)) (k : Key) (d : D) : List (Key × D) :=
  if (ks.any fun p => decide (p.1 = k)) = true then ks.map (fun p => if p.1 = k then (p.1, d) else p) else ks ++ [(k, d)]
section
variable {K : PySem.W.Frag} {F : Hp} {al : List Addr}
theorem RpK.len : ∀ {us : List (Key × V)} {ks : List (Key × D)}, RpK K F al us ks → us.length = ks.length
  | _, _, .nil => rfl
  | _, _, .cons _ t => by rw [List.length_cons, List.length_cons, RpK.len t]
end
def dNewK : TD := fun Γ S Φ Ψ => Φ (S ++ [.dck []]) (.own S.length)
/-- {k: v} -/
def dDis1 (Tk Tv : TD) : TD := fun Γ S Φ Ψ => Tk Γ S (fun S1 y => Tv Γ S1 (fun S2 z => ∃ k, y = kD k ∧ Φ (S2 ++ [.dck [(k, z)]]) (.own S2.length)) Ψ) Ψ
section
variable {X : Cx} {W : WX} {e k v o i f value : Expr} {pos pos' apos cpos mpos p : Pos} {te tk tv to ti tx : TE} {Te Tk Tv To Ti Tx : TD}
/-- d[k] = v -/
def sDkp (Tv To Ti : TD) : TSd := fun E Γ S => Tv Γ S (fun S1 v => To Γ S1 (fun S2 o => Ti Γ S2 (fun S3 y => ∃ h ks k, o = .own h ∧ y = kD k ∧ S3[h]? = some (.dck ks) ∧ ks.length < 1000000 ∧ E.nx Γ (S3.set h (.dck (pKD ks k v)))) E.er) E.er) E.er
/-- d[k] -/
def dDGet (To Ti : TD) : TD := fun Γ S Φ Ψ => To Γ S (fun S1 o => Ti Γ S1 (fun S2 y => ∃ h ks k d, o = .own h ∧ y = kD k ∧ S2[h]? = some (.dck ks) ∧ atD ks k = some d ∧ Φ S2 d) Ψ) Ψ
/-- d.get(k, x) -/
def dDGet2 (To Ti Tx : TD) : TD := fun Γ S Φ Ψ => To Γ S (fun S1 o => ∃ h ks, o = .own h ∧ S1[h]? = some (.dck ks) ∧ Ti Γ S1 (fun S2 y => Tx Γ S2 (fun S3 z => ∃ ks k, y = kD k ∧ S3[h]? = some (.dck ks) ∧ Φ S3 ((atD ks k).getD z)) Ψ) Ψ) Ψ
def dLVals (To : TD) : TD := fun Γ S Φ Ψ => To Γ S (fun S1 o => ∃ h ks, o = .own h ∧ S1[h]? = some (.dck ks) ∧ Φ S1 (.lst (ks.map (·.2)))) Ψ
end
section
variable {Γ : Gam} {S : Sto} {Φ : KD} {Ψ : KX} {To Ti Tx Tk Tv : TD}
theorem dNewK_e : dNewK Γ S Φ Ψ = Φ (S ++ [Cell.dck []]) (.own S.length) := rfl
theorem dDis1_e : dDis1 Tk Tv Γ S Φ Ψ = Tk Γ S (fun S1 y => Tv Γ S1 (fun S2 z => ∃ k, y = kD k ∧ Φ (S2 ++ [.dck [(k, z)]]) (.own S2.length)) Ψ) Ψ := rfl
theorem sDkp_e {E : EdD} : sDkp Tv To Ti E Γ S = Tv Γ S (fun S1 v => To Γ S1 (fun S2 o => Ti Γ S2 (fun S3 y => ∃ h ks k, o = .own h ∧ y = kD k ∧ S3[h]? = some (.dck ks) ∧ ks.length < 1000000 ∧ E.nx Γ (S3.set h (.dck (pKD ks k v)))) E.er) E.er) E.er := rfl
theorem dDGet_e : dDGet To Ti Γ S Φ Ψ = To Γ S (fun S1 o => Ti Γ S1 (fun S2 y => ∃ h ks k d, o = .own h ∧ y = kD k ∧ S2[h]? = some (.dck ks) ∧ atD ks k = some d ∧ Φ S2 d) Ψ) Ψ := rfl
theorem dDGet2_e : dDGet2 To Ti Tx Γ S Φ Ψ = To Γ S (fun S1 o => ∃ h ks, o = .own h ∧ S1[h]? = some (.dck ks) ∧ Ti Γ S1 (fun S2 y => Tx Γ S2 (fun S3 z => ∃ ks k, y = kD k ∧ S3[h]? = some (.dck ks) ∧ Φ S3 ((atD ks k).getD z)) Ψ) Ψ) Ψ := rfl
theorem dLVals_e : dLVals To Γ S Φ Ψ = To Γ S (fun S1 o => ∃ h ks, o = .own h ∧ S1[h]? = some (.dck ks) ∧ Φ S1 (.lst (ks.map (·.2)))) Ψ := rfl
/-- a key that is an int -/
theorem kD_ex_i {i : Int} {P : Key → Prop} : (∃ k, D.int i = kD k ∧ P k) = P (.inl i) := by
  refine propext ⟨fun h => ?_, fun h => ⟨.inl i, rfl, h⟩⟩
  obtain ⟨k, e, h⟩ := h
  have e2 : k = .inl i := kD_inj (k := k) (j := .inl i) e.symm
  rw [← e2]
  exact h
end
end DL
namespace DL
open PySem PySem.Spec PyProof.Rows L2
def ltP (a b : Int × Int) : Prop := a.1 < b.1 ∨ (a.1 = b.1 ∧ a.2 < b.2)
def dSS (I : TId) (G : TGd) (Te : TD) (vs : List Nat) : TD := fun Γ S Φ Ψ => I Γ S (fun S1 src => ∃ (ps : List (Int × Int)) (ds : List D), src S1 = some ds ∧ ds.length = ps.length ∧ ps.length < 64 ∧ (∀ p ∈ ps, 0 ≤ p.1 ∧ 0 ≤ p.2) ∧
  (∀ (i : Nat) (d : D) (p : Int × Int), ds[i]? = some d → ps[i]? = some p → G d (gwipe Γ vs) S1 fun Γ2 S2 => S2 = S1 ∧ Te Γ2 S1 (fun S3 z => S3 = S1 ∧ z = prD p) (fun _ _ => False)) ∧
  (∀ qs : List (Int × Int), (∀ p, p ∈ qs ↔ p ∈ ps) → qs.Pairwise ltP → Φ S1 (.lst (qs.map prD)))) Ψ
section
variable {Γ : Gam} {S : Sto} {Φ : KD} {Ψ : KX}
theorem dSS_e {I : TId} {G : TGd} {Te : TD} {vs : List Nat} : dSS I G Te vs Γ S Φ Ψ = I Γ S (fun S1 src => ∃ (ps : List (Int × Int)) (ds : List D), src S1 = some ds ∧ ds.length = ps.length ∧ ps.length < 64 ∧ (∀ p ∈ ps, 0 ≤ p.1 ∧ 0 ≤ p.2) ∧
  (∀ (i : Nat) (d : D) (p : Int × Int), ds[i]? = some d → ps[i]? = some p → G d (gwipe Γ vs) S1 fun Γ2 S2 => S2 = S1 ∧ Te Γ2 S1 (fun S3 z => S3 = S1 ∧ z = prD p) (fun _ _ => False)) ∧
  (∀ qs : List (Int × Int), (∀ p, p ∈ qs ↔ p ∈ ps) → qs.Pairwise ltP → Φ S1 (.lst (qs.map prD)))) Ψ := rfl
end
end DL
namespace DL
open PySem PySem.Spec PyProof.Rows L2
def dMulI (x y : D) (S : Sto) (Φ : KD) : Prop := ∃ i j, x = .int i ∧ y = .int j ∧ CMulA i j ∧ Φ S (.int (i * j))
section
variable {S : Sto} {Φ : KD}
theorem dMulI_i {i j : Int} : dMulI (.int i) (.int j) S Φ = (CMulA i j ∧ Φ S (.int (i * j))) := propext ⟨fun ⟨_, _, e1, e2, h⟩ => by cases e1; cases e2; exact h, fun h => ⟨_, _, rfl, rfl, h⟩⟩
end
end DL
namespace DL
open PySem PySem.Spec PyProof.Rows L2
def dST (T : TD) : TD := fun Γ S Φ Ψ => T Γ S (fun S1 d => ∃ ps : List (Int × Int), asQ S1 d = some (ps.map prD) ∧ ps.length < 64 ∧ (∀ p ∈ ps, 0 ≤ p.1 ∧ 0 ≤ p.2) ∧ ∀ qs : List (Int × Int), (∀ p, p ∈ qs ↔ p ∈ ps) → qs.Pairwise ltP → Φ S1 (.lst (qs.map prD))) Ψ
section
variable {Γ : Gam} {S : Sto} {Φ : KD} {Ψ : KX}
theorem dST_e {T : TD} : dST T Γ S Φ Ψ = T Γ S (fun S1 d => ∃ ps : List (Int × Int), asQ S1 d = some (ps.map prD) ∧ ps.length < 64 ∧ (∀ p ∈ ps, 0 ≤ p.1 ∧ 0 ≤ p.2) ∧ ∀ qs : List (Int × Int), (∀ p, p ∈ qs ↔ p ∈ ps) → qs.Pairwise ltP → Φ S1 (.lst (qs.map prD))) Ψ := rfl
end
end DL
namespace L2
open PySem PySem.Spec PyProof.Rows
end L2
namespace DL
open PySem PySem.Spec PyProof.Rows L2
/-- sorted(set(xs)): all members, rising -/
def dSI (T : TD) : TD := fun Γ S Φ Ψ => T Γ S (fun S1 d => ∃ ns ms : List Int, asQ S1 d = some (ns.map D.int) ∧ ns.length ≤ 4000 ∧ ms.length < 64 ∧ (∀ k ∈ ns, k ∈ ms) ∧ ∀ qs : List Int, (∀ k, k ∈ qs ↔ k ∈ ns) → qs.Pairwise (· < ·) → Φ S1 (.lst (qs.map D.int))) Ψ
section
variable {Γ : Gam} {S : Sto} {Φ : KD} {Ψ : KX}
theorem dSI_e {T : TD} : dSI T Γ S Φ Ψ = T Γ S (fun S1 d => ∃ ns ms : List Int, asQ S1 d = some (ns.map D.int) ∧ ns.length ≤ 4000 ∧ ms.length < 64 ∧ (∀ k ∈ ns, k ∈ ms) ∧ ∀ qs : List Int, (∀ k, k ∈ qs ↔ k ∈ ns) → qs.Pairwise (· < ·) → Φ S1 (.lst (qs.map D.int))) Ψ := rfl
end
end DL
namespace L2
open PySem PySem.Spec PyProof.Rows
end L2
namespace L2
open PySem PySem.Spec PyProof.Rows
end L2
namespace DL
open PySem PySem.Spec PyProof.Rows L2
section
variable {X : Cx} {es : List Expr}
def lsG (n : Nat) (T : TGs') : TGd := fun d Γ S P => ∃ ds, asQ S d = some ds ∧ ds.length = n ∧ T ds Γ S P
theorem lsG_e {n : Nat} {T : TGs'} {d : D} {Γ : Gam} {S : Sto} {P : Gam → Sto → Prop} : lsG n T d Γ S P = (∃ ds, asQ S d = some ds ∧ ds.length = n ∧ T ds Γ S P) := rfl
end
end DL
namespace DL
open PySem PySem.Spec PyProof.Rows L2
def top (i : Nat) : Stmt := PySem.Challenge.pw_runtabs_k55_twins_and_passed_lists.main.body.getD i (.Pass ⟨0, 0, 0, 0⟩)
abbrev s_is_integer : Stmt := (top 13)
abbrev s_is_cell : Stmt := (top 14)
abbrev s_is_line : Stmt := (top 19)
abbrev s_is_table : Stmt := (top 20)
abbrev s_need_table : Stmt := (top 21)
abbrev s_need_line : Stmt := (top 22)
abbrev s_copy_of : Stmt := (top 23)
abbrev s_tabs_in : Stmt := (top 24)
abbrev s_blocks_of_column : Stmt := (top 26)
abbrev s_blocks_by_tabs : Stmt := (top 27)
abbrev s_blocks_in : Stmt := (top 28)
abbrev s_greatest_in : Stmt := (top 30)
abbrev s_room_of : Stmt := (top 31)
abbrev s_rooms_in : Stmt := (top 32)
abbrev s_stops_in : Stmt := (top 33)
abbrev s_ends_in : Stmt := (top 34)
abbrev s_width_in : Stmt := (top 35)
abbrev s_stops : Stmt := (top 36)
abbrev s_width_of : Stmt := (top 38)
abbrev s_need_cell : Stmt := (top 40)
abbrev s_changed : Stmt := (top 41)
abbrev s_with_cell : Stmt := (top 42)
abbrev s_with_line : Stmt := (top 43)
abbrev s_without_line : Stmt := (top 44)
abbrev s_Page___init__ : Stmt := (inClass (top 46) 0)
abbrev s_Page_of : Stmt := (inClass (top 46) 1)
abbrev s_Page_table : Stmt := (inClass (top 46) 2)
abbrev s_Page_go_on : Stmt := (inClass (top 46) 3)
abbrev s_Page_change : Stmt := (inClass (top 46) 4)
abbrev s_Page_put : Stmt := (inClass (top 46) 5)
abbrev s_Page_drop : Stmt := (inClass (top 46) 6)
abbrev s_Page_width : Stmt := (inClass (top 46) 7)
abbrev s_Page_stops : Stmt := (inClass (top 46) 8)
abbrev s_Page_undo : Stmt := (inClass (top 46) 10)
abbrev s_Page_mark : Stmt := (inClass (top 46) 11)
abbrev s_Page_undo_to : Stmt := (inClass (top 46) 12)
abbrev s_Page___len__ : Stmt := (inClass (top 46) 13)
abbrev s_Page_twin : Stmt := (inClass (top 46) 14)
abbrev s_are_kinds : Stmt := (top 49)
abbrev s_Style___init__ : Stmt := (inClass (top 50) 0)
abbrev s_Style_of : Stmt := (inClass (top 50) 1)
abbrev s_Style_gap : Stmt := (inClass (top 50) 3)
abbrev s_Style_least : Stmt := (inClass (top 50) 4)
abbrev s__law_stock : Stmt := (top 52)
abbrev s__law_roll : Stmt := (top 53)
abbrev s__law_row : Stmt := (top 54)
abbrev s__law_grid : Stmt := (top 55)
abbrev s__law_look : Stmt := (top 56)
abbrev s__law_copied : Stmt := (top 57)
abbrev s__law_edit : Stmt := (top 58)
abbrev s__law_same : Stmt := (top 59)
abbrev s__law_marked : Stmt := (top 60)
abbrev s__law_emptied : Stmt := (top 61)
abbrev s__law_right : Stmt := (top 62)
abbrev s__law_single_right : Stmt := (top 63)
abbrev s__law_sixty : Stmt := (top 64)
abbrev s__law_sixty_one : Stmt := (top 65)
abbrev s__law_twelve : Stmt := (top 66)
abbrev s__law_many_right : Stmt := (top 67)
abbrev s__law_lists_right : Stmt := (top 68)
abbrev s_law : Stmt := (top 69)
def dd_is_integer : He5.DefA := ⟨(fun K => He.ga K "is_integer"), "is_integer", "is_integer", defArgs s_is_integer, defBody s_is_integer, defScope s_is_integer, [], []⟩
def dd_is_cell : He5.DefA := ⟨(fun K => He.ga K "is_cell"), "is_cell", "is_cell", defArgs s_is_cell, defBody s_is_cell, defScope s_is_cell, [], []⟩
def dd_is_line : He5.DefA := ⟨(fun K => He.ga K "is_line"), "is_line", "is_line", defArgs s_is_line, defBody s_is_line, defScope s_is_line, [], []⟩
def dd_is_table : He5.DefA := ⟨(fun K => He.ga K "is_table"), "is_table", "is_table", defArgs s_is_table, defBody s_is_table, defScope s_is_table, [], []⟩
def dd_need_table : He5.DefA := ⟨(fun K => He.ga K "need_table"), "need_table", "need_table", defArgs s_need_table, defBody s_need_table, defScope s_need_table, [], []⟩
def dd_need_line : He5.DefA := ⟨(fun K => He.ga K "need_line"), "need_line", "need_line", defArgs s_need_line, defBody s_need_line, defScope s_need_line, [], []⟩
def dd_copy_of : He5.DefA := ⟨(fun K => He.ga K "copy_of"), "copy_of", "copy_of", defArgs s_copy_of, defBody s_copy_of, defScope s_copy_of, [], []⟩
def dd_tabs_in : He5.DefA := ⟨(fun K => He.ga K "tabs_in"), "tabs_in", "tabs_in", defArgs s_tabs_in, defBody s_tabs_in, defScope s_tabs_in, [], []⟩
def dd_blocks_of_column : He5.DefA := ⟨(fun K => He.ga K "blocks_of_column"), "blocks_of_column", "blocks_of_column", defArgs s_blocks_of_column, defBody s_blocks_of_column, defScope s_blocks_of_column, [], []⟩
def dd_blocks_by_tabs : He5.DefA := ⟨(fun K => He.ga K "blocks_by_tabs"), "blocks_by_tabs", "blocks_by_tabs", defArgs s_blocks_by_tabs, defBody s_blocks_by_tabs, defScope s_blocks_by_tabs, [], []⟩
def dd_blocks_in : He5.DefA := ⟨(fun K => He.ga K "blocks_in"), "blocks_in", "blocks_in", defArgs s_blocks_in, defBody s_blocks_in, defScope s_blocks_in, [], []⟩
def dd_greatest_in : He5.DefA := ⟨(fun K => He.ga K "greatest_in"), "greatest_in", "greatest_in", defArgs s_greatest_in, defBody s_greatest_in, defScope s_greatest_in, [], []⟩
def dd_room_of : He5.DefA := ⟨(fun K => He.ga K "room_of"), "room_of", "room_of", defArgs s_room_of, defBody s_room_of, defScope s_room_of, [], []⟩
def dd_rooms_in : He5.DefA := ⟨(fun K => He.ga K "rooms_in"), "rooms_in", "rooms_in", defArgs s_rooms_in, defBody s_rooms_in, defScope s_rooms_in, [], []⟩
def dd_stops_in : He5.DefA := ⟨(fun K => He.ga K "stops_in"), "stops_in", "stops_in", defArgs s_stops_in, defBody s_stops_in, defScope s_stops_in, [], []⟩
def dd_ends_in : He5.DefA := ⟨(fun K => He.ga K "ends_in"), "ends_in", "ends_in", defArgs s_ends_in, defBody s_ends_in, defScope s_ends_in, [], []⟩
def dd_width_in : He5.DefA := ⟨(fun K => He.ga K "width_in"), "width_in", "width_in", defArgs s_width_in, defBody s_width_in, defScope s_width_in, [], []⟩
def dd_stops : He5.DefA := ⟨(fun K => He.ga K "stops"), "stops", "stops", defArgs s_stops, defBody s_stops, defScope s_stops, [], []⟩
def dd_width_of : He5.DefA := ⟨(fun K => He.ga K "width_of"), "width_of", "width_of", defArgs s_width_of, defBody s_width_of, defScope s_width_of, [], []⟩
def dd_need_cell : He5.DefA := ⟨(fun K => He.ga K "need_cell"), "need_cell", "need_cell", defArgs s_need_cell, defBody s_need_cell, defScope s_need_cell, [], []⟩
def dd_changed : He5.DefA := ⟨(fun K => He.ga K "changed"), "changed", "changed", defArgs s_changed, defBody s_changed, defScope s_changed, [], []⟩
def dd_with_cell : He5.DefA := ⟨(fun K => He.ga K "with_cell"), "with_cell", "with_cell", defArgs s_with_cell, defBody s_with_cell, defScope s_with_cell, [], []⟩
def dd_with_line : He5.DefA := ⟨(fun K => He.ga K "with_line"), "with_line", "with_line", defArgs s_with_line, defBody s_with_line, defScope s_with_line, [], []⟩
def dd_without_line : He5.DefA := ⟨(fun K => He.ga K "without_line"), "without_line", "without_line", defArgs s_without_line, defBody s_without_line, defScope s_without_line, [], []⟩
def dd_Page___init__ : He5.DefA := ⟨(fun K => He.ma K (He.ga K "Page") "__init__"), "__init__", "Page.__init__", defArgs s_Page___init__, defBody s_Page___init__, defScope s_Page___init__, [], []⟩
def dd_Page_of : He5.DefA := ⟨(fun K => He5.wf K (He.ga K "Page") "classmethod" "of"), "of", "Page.of", defArgs s_Page_of, defBody s_Page_of, defScope s_Page_of, [], []⟩
def dd_Page_table : He5.DefA := ⟨(fun K => He5.wf K (He.ga K "Page") "property" "table"), "table", "Page.table", defArgs s_Page_table, defBody s_Page_table, defScope s_Page_table, [], []⟩
def dd_Page_go_on : He5.DefA := ⟨(fun K => He.ma K (He.ga K "Page") "go_on"), "go_on", "Page.go_on", defArgs s_Page_go_on, defBody s_Page_go_on, defScope s_Page_go_on, [], []⟩
def dd_Page_change : He5.DefA := ⟨(fun K => He.ma K (He.ga K "Page") "change"), "change", "Page.change", defArgs s_Page_change, defBody s_Page_change, defScope s_Page_change, [], []⟩
def dd_Page_put : He5.DefA := ⟨(fun K => He.ma K (He.ga K "Page") "put"), "put", "Page.put", defArgs s_Page_put, defBody s_Page_put, defScope s_Page_put, [], []⟩
def dd_Page_drop : He5.DefA := ⟨(fun K => He.ma K (He.ga K "Page") "drop"), "drop", "Page.drop", defArgs s_Page_drop, defBody s_Page_drop, defScope s_Page_drop, [], []⟩
def dd_Page_width : He5.DefA := ⟨(fun K => He.ma K (He.ga K "Page") "width"), "width", "Page.width", defArgs s_Page_width, defBody s_Page_width, defScope s_Page_width, [], []⟩
def dd_Page_stops : He5.DefA := ⟨(fun K => He.ma K (He.ga K "Page") "stops"), "stops", "Page.stops", defArgs s_Page_stops, defBody s_Page_stops, defScope s_Page_stops, [], []⟩
def dd_Page_undo : He5.DefA := ⟨(fun K => He.ma K (He.ga K "Page") "undo"), "undo", "Page.undo", defArgs s_Page_undo, defBody s_Page_undo, defScope s_Page_undo, [], []⟩
def dd_Page_mark : He5.DefA := ⟨(fun K => He.ma K (He.ga K "Page") "mark"), "mark", "Page.mark", defArgs s_Page_mark, defBody s_Page_mark, defScope s_Page_mark, [], []⟩
def dd_Page_undo_to : He5.DefA := ⟨(fun K => He.ma K (He.ga K "Page") "undo_to"), "undo_to", "Page.undo_to", defArgs s_Page_undo_to, defBody s_Page_undo_to, defScope s_Page_undo_to, [], []⟩
def dd_Page___len__ : He5.DefA := ⟨(fun K => He.ma K (He.ga K "Page") "__len__"), "__len__", "Page.__len__", defArgs s_Page___len__, defBody s_Page___len__, defScope s_Page___len__, [], []⟩
def dd_Page_twin : He5.DefA := ⟨(fun K => He.ma K (He.ga K "Page") "twin"), "twin", "Page.twin", defArgs s_Page_twin, defBody s_Page_twin, defScope s_Page_twin, [], []⟩
def dd_are_kinds : He5.DefA := ⟨(fun K => He.ga K "are_kinds"), "are_kinds", "are_kinds", defArgs s_are_kinds, defBody s_are_kinds, defScope s_are_kinds, [], []⟩
def dd_Style___init__ : He5.DefA := ⟨(fun K => He.ma K (He.ga K "Style") "__init__"), "__init__", "Style.__init__", defArgs s_Style___init__, defBody s_Style___init__, defScope s_Style___init__, [], [("gap", .int 1), ("least", .int 0)]⟩
def dd_Style_of : He5.DefA := ⟨(fun K => He5.wf K (He.ga K "Style") "classmethod" "of"), "of", "Style.of", defArgs s_Style_of, defBody s_Style_of, defScope s_Style_of, [], []⟩
def dd_Style_gap : He5.DefA := ⟨(fun K => He5.wf K (He.ga K "Style") "property" "gap"), "gap", "Style.gap", defArgs s_Style_gap, defBody s_Style_gap, defScope s_Style_gap, [], []⟩
def dd_Style_least : He5.DefA := ⟨(fun K => He5.wf K (He.ga K "Style") "property" "least"), "least", "Style.least", defArgs s_Style_least, defBody s_Style_least, defScope s_Style_least, [], []⟩
def dd__law_stock : He5.DefA := ⟨(fun K => He.ga K "_law_stock"), "_law_stock", "_law_stock", defArgs s__law_stock, defBody s__law_stock, defScope s__law_stock, [], []⟩
def dd__law_roll : He5.DefA := ⟨(fun K => He.ga K "_law_roll"), "_law_roll", "_law_roll", defArgs s__law_roll, defBody s__law_roll, defScope s__law_roll, [], []⟩
def dd__law_row : He5.DefA := ⟨(fun K => He.ga K "_law_row"), "_law_row", "_law_row", defArgs s__law_row, defBody s__law_row, defScope s__law_row, [], []⟩
def dd__law_grid : He5.DefA := ⟨(fun K => He.ga K "_law_grid"), "_law_grid", "_law_grid", defArgs s__law_grid, defBody s__law_grid, defScope s__law_grid, [], []⟩
def dd__law_look : He5.DefA := ⟨(fun K => He.ga K "_law_look"), "_law_look", "_law_look", defArgs s__law_look, defBody s__law_look, defScope s__law_look, [], []⟩
def dd__law_copied : He5.DefA := ⟨(fun K => He.ga K "_law_copied"), "_law_copied", "_law_copied", defArgs s__law_copied, defBody s__law_copied, defScope s__law_copied, [], []⟩
def dd__law_edit : He5.DefA := ⟨(fun K => He.ga K "_law_edit"), "_law_edit", "_law_edit", defArgs s__law_edit, defBody s__law_edit, defScope s__law_edit, [], []⟩
def dd__law_same : He5.DefA := ⟨(fun K => He.ga K "_law_same"), "_law_same", "_law_same", defArgs s__law_same, defBody s__law_same, defScope s__law_same, [], []⟩
def dd__law_marked : He5.DefA := ⟨(fun K => He.ga K "_law_marked"), "_law_marked", "_law_marked", defArgs s__law_marked, defBody s__law_marked, defScope s__law_marked, [], []⟩
def dd__law_emptied : He5.DefA := ⟨(fun K => He.ga K "_law_emptied"), "_law_emptied", "_law_emptied", defArgs s__law_emptied, defBody s__law_emptied, defScope s__law_emptied, [], []⟩
def dd__law_right : He5.DefA := ⟨(fun K => He.ga K "_law_right"), "_law_right", "_law_right", defArgs s__law_right, defBody s__law_right, defScope s__law_right, [], []⟩
def dd__law_single_right : He5.DefA := ⟨(fun K => He.ga K "_law_single_right"), "_law_single_right", "_law_single_right", defArgs s__law_single_right, defBody s__law_single_right, defScope s__law_single_right, [], []⟩
def dd__law_sixty : He5.DefA := ⟨(fun K => He.ga K "_law_sixty"), "_law_sixty", "_law_sixty", defArgs s__law_sixty, defBody s__law_sixty, defScope s__law_sixty, [], []⟩
def dd__law_sixty_one : He5.DefA := ⟨(fun K => He.ga K "_law_sixty_one"), "_law_sixty_one", "_law_sixty_one", defArgs s__law_sixty_one, defBody s__law_sixty_one, defScope s__law_sixty_one, [], []⟩
def dd__law_twelve : He5.DefA := ⟨(fun K => He.ga K "_law_twelve"), "_law_twelve", "_law_twelve", defArgs s__law_twelve, defBody s__law_twelve, defScope s__law_twelve, [], []⟩
def dd__law_many_right : He5.DefA := ⟨(fun K => He.ga K "_law_many_right"), "_law_many_right", "_law_many_right", defArgs s__law_many_right, defBody s__law_many_right, defScope s__law_many_right, [], []⟩
def dd__law_lists_right : He5.DefA := ⟨(fun K => He.ga K "_law_lists_right"), "_law_lists_right", "_law_lists_right", defArgs s__law_lists_right, defBody s__law_lists_right, defScope s__law_lists_right, [], []⟩
def dd_law : He5.DefA := ⟨(fun K => He.ga K "law"), "law", "law", defArgs s_law, defBody s_law, defScope s_law, [], []⟩
def fnL : List He5.DefA := (([dd_is_integer, dd_is_cell, dd_is_line, dd_is_table, dd_need_table, dd_need_line, dd_copy_of, dd_tabs_in, dd_blocks_of_column, dd_blocks_by_tabs, dd_blocks_in, dd_greatest_in, dd_room_of, dd_rooms_in, dd_stops_in, dd_ends_in, dd_width_in, dd_stops, dd_width_of, dd_need_cell] : List He5.DefA) ++ ([dd_changed, dd_with_cell, dd_with_line, dd_without_line, dd_Page___init__, dd_Page_of, dd_Page_table, dd_Page_go_on, dd_Page_change, dd_Page_put, dd_Page_drop, dd_Page_width, dd_Page_stops, dd_Page_undo, dd_Page_mark, dd_Page_undo_to, dd_Page___len__, dd_Page_twin, dd_are_kinds, dd_Style___init__] : List He5.DefA) ++ ([dd_Style_of, dd_Style_gap, dd_Style_least, dd__law_stock, dd__law_roll, dd__law_row, dd__law_grid, dd__law_look, dd__law_copied, dd__law_edit, dd__law_same, dd__law_marked, dd__law_emptied, dd__law_right, dd__law_single_right, dd__law_sixty, dd__law_sixty_one, dd__law_twelve, dd__law_many_right, dd__law_lists_right] : List He5.DefA) ++ ([dd_law] : List He5.DefA))
def faL : List FaX := (([(fun K => (He.Fa.glo "is_integer").ok K), (fun K => (He.Fa.glo "is_cell").ok K), (fun K => (He.Fa.glo "is_line").ok K), (fun K => (He.Fa.glo "is_table").ok K), (fun K => (He.Fa.glo "need_table").ok K), (fun K => (He.Fa.glo "need_line").ok K), (fun K => (He.Fa.glo "copy_of").ok K), (fun K => (He.Fa.glo "tabs_in").ok K), (fun K => (He.Fa.glo "blocks_of_column").ok K), (fun K => (He.Fa.glo "blocks_by_tabs").ok K), (fun K => (He.Fa.glo "blocks_in").ok K), (fun K => (He.Fa.glo "greatest_in").ok K), (fun K => (He.Fa.glo "room_of").ok K), (fun K => (He.Fa.glo "rooms_in").ok K), (fun K => (He.Fa.glo "stops_in").ok K), (fun K => (He.Fa.glo "ends_in").ok K), (fun K => (He.Fa.glo "width_in").ok K), (fun K => (He.Fa.glo "stops").ok K), (fun K => (He.Fa.glo "width_of").ok K), (fun K => (He.Fa.glo "need_cell").ok K)] : List FaX) ++ ([(fun K => (He.Fa.glo "changed").ok K), (fun K => (He.Fa.glo "with_cell").ok K), (fun K => (He.Fa.glo "with_line").ok K), (fun K => (He.Fa.glo "without_line").ok K), (fun K => (He.Fa.glo "are_kinds").ok K), (fun K => (He.Fa.glo "_law_stock").ok K), (fun K => (He.Fa.glo "_law_roll").ok K), (fun K => (He.Fa.glo "_law_row").ok K), (fun K => (He.Fa.glo "_law_grid").ok K), (fun K => (He.Fa.glo "_law_look").ok K), (fun K => (He.Fa.glo "_law_copied").ok K), (fun K => (He.Fa.glo "_law_edit").ok K), (fun K => (He.Fa.glo "_law_same").ok K), (fun K => (He.Fa.glo "_law_marked").ok K), (fun K => (He.Fa.glo "_law_emptied").ok K), (fun K => (He.Fa.glo "_law_right").ok K), (fun K => (He.Fa.glo "_law_single_right").ok K), (fun K => (He.Fa.glo "_law_sixty").ok K), (fun K => (He.Fa.glo "_law_sixty_one").ok K), (fun K => (He.Fa.glo "_law_twelve").ok K)] : List FaX) ++ ([(fun K => (He.Fa.glo "_law_many_right").ok K), (fun K => (He.Fa.glo "_law_lists_right").ok K), (fun K => (He.Fa.glo "law").ok K), (fun K => (He.Fa.free "int").ok K), (fun K => (He.Fa.free "isinstance").ok K), (fun K => (He.Fa.free "bool").ok K), (fun K => (He.Fa.int "MOST_CELL" 1000000000000000000000000000000).ok K), (fun K => (He.Fa.free "list").ok K), (fun K => (He.Fa.free "len").ok K), (fun K => (He.Fa.int "MOST_CELLS" 12).ok K), (fun K => (He.Fa.free "all").ok K), (fun K => (He.Fa.int "MOST_LINES" 60).ok K), (fun K => (He.Fa.glo "InvalidTable").ok K), (fun K => (He.Fa.exc "InvalidTable").ok K), (fun K => (He.Fa.glo "InvalidLine").ok K), (fun K => (He.Fa.exc "InvalidLine").ok K), (fun K => (He.Fa.free "enumerate").ok K), (fun K => (He.Fa.free "range").ok K), (fun K => (He.Fa.free "max").ok K), (fun K => (He.Fa.cls "Style").ok K)] : List FaX) ++ ([(bProp "Style" "least"), (bProp "Style" "gap"), (fun K => (He.Fa.free "zip").ok K), (fun K => (He.Fa.glo "InvalidColumn").ok K), (fun K => (He.Fa.exc "InvalidColumn").ok K), (fun K => (He.Fa.glo "InvalidCell").ok K), (fun K => (He.Fa.exc "InvalidCell").ok K), (fun K => (He.Fa.cls "Page").ok K), (fun K => (He.Fa.noat "Page" "own_style").ok K), (fun K => (He.Fa.noat "Page" "own_lines").ok K), (fun K => (He.Fa.noat "Page" "earlier").ok K), (fun K => (He.Fa.noat "Page" "marked").ok K), (fun K => (He.Fa.mkr "Page").ok K), (fun K => (He.Fa.meth "Page" "go_on").ok K), (fun K => (He.Fa.glo "stops_layout").ok K), (bAli "stops_layout" "stops"), (fun K => (He.Fa.glo "NothingToUndo").ok K), (fun K => (He.Fa.exc "NothingToUndo").ok K), (fun K => (He.Fa.glo "InvalidNumber").ok K), (fun K => (He.Fa.exc "InvalidNumber").ok K)] : List FaX) ++ ([(fun K => (He.Fa.glo "Page").ok K), (fun K => (He.Fa.int "MOST_KINDS" 12).ok K), (fun K => (He.Fa.free "str").ok K), (fun K => (He.Fa.glo "Kind").ok K), (bCVT "Kind" "NAMES" ["left", "right", "center"]), (fun K => (He.Fa.str "LEFT" "left").ok K), (fun K => (He.Fa.glo "InvalidStyle").ok K), (fun K => (He.Fa.exc "InvalidStyle").ok K), (fun K => (He.Fa.noat "Style" "held_kinds").ok K), (fun K => (He.Fa.noat "Style" "held_gap").ok K), (fun K => (He.Fa.noat "Style" "held_least").ok K), (fun K => (He.Fa.mkr "Style").ok K), (fun K => (He.Fa.free "abs").ok K), (fun K => (He.Fa.meth "Page" "change").ok K), (fun K => (He.Fa.meth "Page" "drop").ok K), (fun K => (He.Fa.meth "Page" "put").ok K), (bProp "Page" "table"), (fun K => (He.Fa.free "repr").ok K), (fun K => (He.Fa.meth "Page" "__len__").ok K), (fun K => (He.Fa.meth "Page" "mark").ok K)] : List FaX) ++ ([(fun K => (He.Fa.meth "Page" "undo_to").ok K), (fun K => (He.Fa.meth "Page" "undo").ok K), (fun K => (He.Fa.glo "Style").ok K), (bCRd "Style"), (bCMet "Style" "of"), (bCRd "Page"), (bCMet "Page" "of"), (bId "Page"), (fun K => (He.Fa.meth "Page" "twin").ok K), (bExm "InvalidTable" "InvalidTable"), (fun K => (He.Fa.meth "Page" "width").ok K), (fun K => (He.Fa.meth "Page" "stops").ok K), (fun K => (He.Fa.free "min").ok K)] : List FaX))
abbrev RR : PySem.W.OpenRow := PySem.W.OpenLaw.row PySem.Challenge.rw_runtabs_k55_twins_and_passed_lists
abbrev hkL : PySem.W.Hook := hookX 7 faL fnL
def obL (s : PySem.W.SharedT) : He.AlD := obsXG 7 faL fnL (HandSHeadRun.getT s)
theorem obL_eq (s : PySem.W.SharedT) : obL s = hkL.obs s.abs := obsXG_eq (HandSHeadRun.getT_eq s)
def othersL : List Str := ((["_wall", "PageError", "InvalidTable", "InvalidStyle", "InvalidLine", "InvalidColumn", "InvalidCell", "InvalidNumber", "NothingToUndo", "MOST_CELL", "LEFT", "is_integer", "is_cell", "Kind", "MOST_LINES", "MOST_CELLS", "is_line", "is_table", "need_table", "need_line"] : List Str) ++ (["copy_of", "tabs_in", "blocks_of_column", "blocks_by_tabs", "blocks_in", "greatest_in", "room_of", "rooms_in", "stops_in", "ends_in", "width_in", "stops", "stops_layout", "width_of", "need_cell", "changed", "with_cell", "with_line", "without_line", "Page"] : List Str) ++ (["MOST_KINDS", "are_kinds", "Style", "_law_stock", "_law_roll", "_law_row", "_law_grid", "_law_look", "_law_copied", "_law_edit", "_law_same", "_law_marked", "_law_emptied", "_law_right", "_law_single_right", "_law_sixty", "_law_sixty_one", "_law_twelve", "_law_many_right", "_law_lists_right"] : List Str))
theorem runL (w : World) : HandSHeadRun.RunEq RR (PySem.W.view RR.prog [69]) hkL obL 8000 othersL w := by
  intro os
  kernel_rfl
end DL
namespace DL
open PySem PySem.Spec PyProof.Rows L2
def asOk (z : Str) : Bool := z.cps.all (· < 128)
theorem asOk_app {a b : Str} (h : asOk a = true) (h2 : asOk b = true) : asOk (a ++ b) = true := by
  unfold asOk at *
  show (a.cps ++ b.cps).all _ = true
  rw [Array.all_append, h, h2]
  rfl
theorem asOk_iff {z : Str} : asOk z = true ↔ ∀ c ∈ z.cps.toList, c < 128 := by
  unfold asOk
  rw [Array.all_eq_true']
  simp
/-- a text of at most n signs -/
def TOk (n : Nat) (z : Str) : Prop := asOk z = true ∧ z.length ≤ n
theorem TOk.mono {n m : Nat} {z : Str} (h : TOk n z) (l : n ≤ m) : TOk m z := ⟨h.1, Nat.le_trans h.2 l⟩
theorem TOk.app {n m : Nat} {a b : Str} (h : TOk n a) (h2 : TOk m b) : TOk (n + m) (a ++ b) := ⟨asOk_app h.1 h2.1, by rw [len_app]; exact Nat.add_le_add h.2 h2.2⟩
theorem asOk_str {z : Str} (h : asOk z = true) : PyData.strOk z = true := by
  unfold PyData.strOk
  rw [Array.all_eq_true']
  intro c hc
  have := asOk_iff.mp h c (Array.mem_toList_iff.mpr hc)
  exact decide_eq_true (by omega)
theorem TOk.str {n : Nat} {z : Str} (h : TOk n z) : PyData.strOk z = true := asOk_str h.1
def h0 (w : Str) : Bool := (⟨#[w.cps.toList.headD 0]⟩ : Str) == ("0" : Str)
abbrev GREAT : Int := 1000000000000000000000000000000
def sp__law_stock : DSpec := fun ds S Φ _ => ∃ ns : List Int, ds = [.sq (ns.map D.int)] ∧ ∀ c, FdC 0 c → Φ (S ++ [c]) (.own S.length)
def sp__law_roll : DSpec := fun ds S Φ _ => ∃ h n m, ds = [.own h, .int m] ∧ FdAt S h n ∧ n < 2 ^ 100 ∧ 0 < m ∧ m < 2 ^ 200 ∧ ∀ S' v, Fs h (n + 1) S S' → 0 ≤ v → v < m → Φ S' (.int v)
abbrev kindsL : List Str := ["left", "right", "center"]
def inB (v lo hi : Int) : Bool := decide (lo ≤ v) && decide (v ≤ hi)
structure LookOk (ks : List Str) (g l : Int) : Prop where
  lo : 1 ≤ ks.length
  hi : ks.length ≤ 12
  at_ : ∀ k ∈ ks, k ∈ kindsL
  g0 : 0 ≤ g
  g1 : g ≤ GREAT
  l0 : 0 ≤ l
  l1 : l ≤ GREAT
def styF (ks : List Str) (g l : Int) : List (Str × D) := [("held_kinds", .lst (ks.map D.str)), ("held_gap", .int g), ("held_least", .int l)]
def sp_is_integer : DSpec := fun ds S Φ _ => ∃ v lo hi, ds = [.int v, .int lo, .int hi] ∧ Φ S (.bl (inB v lo hi))
def sp_is_cell : DSpec := fun ds S Φ _ => ∃ v, ds = [.int v] ∧ Φ S (.bl (inB v 0 GREAT))
def sp_are_kinds : DSpec := fun ds S Φ _ => ∃ ks : List Str, ds = [.lst (ks.map D.str)] ∧ 1 ≤ ks.length ∧ ks.length ≤ 12 ∧ (∀ k ∈ ks, k ∈ kindsL) ∧ Φ S (.bl true)
def kindsOr (ks : List Str) : List Str := if ks = [] then ["left"] else ks
def sp_Style___init__ (C : Addr) : DSpec := fun ds S Φ _ => ∃ h ks g l, ds = [.own h, .int g, .int l, .tup (ks.map D.str)] ∧ S[h]? = some (.ins C []) ∧ LookOk (kindsOr ks) g l ∧ Φ (S.set h (.ins C (styF (kindsOr ks) g l))) .non
def sp_Style_of (C : Addr) : DSpec := fun ds S Φ _ => ∃ ks g l, ds = [.obj C, .lst (ks.map D.str), .int g, .int l] ∧ LookOk ks g l ∧ Φ (S ++ [.ins C (styF ks g l)]) (.own S.length)
def sp_Style_gap (C : Addr) : DSpec := fun ds S Φ _ => ∃ d ks g l, ds = [d] ∧ asI S d = some (C, styF ks g l) ∧ Φ S (.int g)
def sp_Style_least (C : Addr) : DSpec := fun ds S Φ _ => ∃ d ks g l, ds = [d] ∧ asI S d = some (C, styF ks g l) ∧ Φ S (.int l)
def sp__law_look : DSpec := fun ds S Φ _ => ∃ h n, ds = [.own h] ∧ FdAt S h n ∧ n < 2 ^ 90 ∧ ∀ S' ks g l, Fs h (n + 40) S S' → LookOk ks g l → Φ S' (.tup [.lst (ks.map D.str), .int g, .int l])
structure RowOk (r : List Int) : Prop where
  lo : 1 ≤ r.length
  hi : r.length ≤ 12
  at_ : ∀ x ∈ r, 0 ≤ x ∧ x ≤ GREAT
structure TabOk (t : List (List Int)) : Prop where
  lo : 1 ≤ t.length
  hi : t.length ≤ 60
  row : ∀ r ∈ t, RowOk r
def sp_is_line : DSpec := fun ds S Φ _ => ∃ d r, ds = [d] ∧ asL S d = some (r.map D.int) ∧ RowOk r ∧ Φ S (.bl true)
def sp_is_table : DSpec := fun ds S Φ _ => ∃ d t, ds = [d] ∧ TabS S d t ∧ ((TabOk t ∧ Φ S (.bl true)) ∨ (60 < t.length ∧ t.length ≤ 100 ∧ Φ S (.bl false)))
def sp_need_table : DSpec := fun ds S Φ _ => ∃ d t, ds = [d] ∧ TabS S d t ∧ TabOk t ∧ Φ S .non
def sp_need_line : DSpec := fun ds S Φ _ => ∃ d t, ∃ i : Nat, ds = [d, .int i] ∧ TabS S d t ∧ i < t.length ∧ Φ S .non
def ownsD (n m : Nat) : List D := (List.range m).map fun j => D.own (n + j)
def cellsD (t : List (List Int)) : Sto := t.map fun r => Cell.lst (r.map D.int)
/-- a table, cell of cells, behind S -/
def newTab (t : List (List Int)) (S : Sto) (Φ : KD) : Prop := Φ (S ++ cellsD t ++ [.lst (ownsD S.length t.length)]) (.own (S.length + t.length))
def sp_copy_of : DSpec := fun ds S Φ _ => ∃ d t, ds = [d] ∧ TabS S d t ∧ t.length ≤ 100 ∧ newTab t S Φ
def putAt (t : List (List Int)) (i : Nat) (r : List Int) : List (List Int) := t.take i ++ r :: t.drop i
def cutAt (t : List (List Int)) (i : Nat) : List (List Int) := t.take i ++ t.drop (i + 1)
def setAt (t : List (List Int)) (i j : Nat) (v : Int) : List (List Int) := t.set i ((t.getD i []).set j v)
def sp_with_line : DSpec := fun ds S Φ _ => ∃ d t, ∃ i : Nat, ∃ e r, ds = [d, .int i, e] ∧ TabS S d t ∧ TabOk t ∧ i ≤ t.length ∧ t.length < 60 ∧ asL S e = some (r.map D.int) ∧ RowOk r ∧ newTab (putAt t i r) S Φ
def sp_without_line : DSpec := fun ds S Φ _ => ∃ d t, ∃ i : Nat, ds = [d, .int i] ∧ TabS S d t ∧ TabOk t ∧ i < t.length ∧ 1 < t.length ∧ newTab (cutAt t i) S Φ
def sp_changed : DSpec := fun ds S Φ _ => ∃ t i j v, ds = [tabD t, .int (i : Nat), .int (j : Nat), .int v] ∧ TabOk t ∧ i < t.length ∧ j < (t.getD i []).length ∧ newTab (setAt t i j v) S Φ
def sp_need_cell : DSpec := fun ds S Φ _ => ∃ t i j v, ds = [tabD t, .int (i : Nat), .int (j : Nat), .int v] ∧ TabOk t ∧ i < t.length ∧ j < (t.getD i []).length ∧ 0 ≤ v ∧ v ≤ GREAT ∧ Φ S .non
def sp_with_cell : DSpec := fun ds S Φ _ => ∃ t i j v, ds = [tabD t, .int (i : Nat), .int (j : Nat), .int v] ∧ TabOk t ∧ i < t.length ∧ j < (t.getD i []).length ∧ 0 ≤ v ∧ v ≤ GREAT ∧ newTab (setAt t i j v) S Φ
/-- a table in cells: the outer list at b, the rows at hs -/
structure TabH (S : Sto) (b : Nat) (hs : List Nat) (t : List (List Int)) : Prop where
  out : S[b]? = some (.lst (hs.map D.own))
  len : hs.length = t.length
  row : ∀ i (h1 : i < hs.length) (h2 : i < t.length), S[hs[i]]? = some (.lst ((t[i]).map D.int))
  nd : hs.Nodup
  nb : b ∉ hs
theorem rows_h {S : Sto} : ∀ {hs : List Nat} {t : List (List Int)}, hs.length = t.length → (∀ i (h1 : i < hs.length) (h2 : i < t.length), S[hs[i]]? = some (.lst ((t[i]).map D.int))) → RowsS S (hs.map D.own) t
  | [], [], _, _ => .nil
  | [], _ :: _, h, _ => by simp at h
  | _ :: _, [], h, _ => by simp at h
  | a :: hs, r :: t, h, hr => .cons (asL_at' (hr 0 (by simp) (by simp))) (rows_h (by simpa using h) fun i h1 h2 => by
      have := hr (i + 1) (by simpa using h1) (by simpa using h2)
      simpa using this)
theorem TabH.tabS {S : Sto} {b : Nat} {hs : List Nat} {t : List (List Int)} (h : TabH S b hs t) : TabS S (.own b) t := ⟨_, asL_at' h.out, rows_h h.len h.row⟩
/-- all cells but h are as they were -/
def Kp (h : Nat) (S S' : Sto) : Prop := ∀ i c, i ≠ h → S[i]? = some c → S'[i]? = some c
theorem Kp.refl {h : Nat} {S : Sto} : Kp h S S := fun _ _ _ e => e
theorem Kp.trans {h : Nat} {S S1 S2 : Sto} (a : Kp h S S1) (b : Kp h S1 S2) : Kp h S S2 := fun i c n e => b i c n (a i c n e)
theorem Kp.app {h : Nat} {S S1 : Sto} (a : Kp h S S1) (T : Sto) : Kp h S (S1 ++ T) := fun i c n e => get_app (a i c n e)
theorem Fs.kp {h n : Nat} {S S' : Sto} (f : Fs h n S S') : Kp h S S' := fun i c ne e => f.get e (Ne.symm ne)
theorem Kp.len {h : Nat} {S S' : Sto} (a : Kp h S S') (hl : S'.length ≥ S.length) : S.length ≤ S'.length := hl
theorem TabH.kp {h : Nat} {S S' : Sto} {b : Nat} {hs : List Nat} {t : List (List Int)} (k : TabH S b hs t) (a : Kp h S S') (hb : b ≠ h) (hn : h ∉ hs) : TabH S' b hs t :=
  ⟨a _ _ hb k.out, k.len, fun i h1 h2 => a _ _ (fun e => hn (e ▸ List.getElem_mem h1)) (k.row i h1 h2), k.nd, k.nb⟩
theorem TabH.app {S T : Sto} {b : Nat} {hs : List Nat} {t : List (List Int)} (k : TabH S b hs t) : TabH (S ++ T) b hs t := ⟨get_app k.out, k.len, fun i h1 h2 => get_app (k.row i h1 h2), k.nd, k.nb⟩
theorem TabH.set {S : Sto} {b i : Nat} {hs : List Nat} {t : List (List Int)} {c : Cell} (k : TabH S b hs t) (hb : i ≠ b) (hn : i ∉ hs) : TabH (S.set i c) b hs t :=
  ⟨by rw [List.getElem?_set_ne hb]; exact k.out, k.len, fun j h1 h2 => by have hm := List.getElem_mem h1; rw [List.getElem?_set_ne (fun e => hn (by rw [e]; exact hm))]; exact k.row j h1 h2, k.nd, k.nb⟩
theorem TabH.lt {S : Sto} {b : Nat} {hs : List Nat} {t : List (List Int)} (k : TabH S b hs t) : b < S.length ∧ ∀ a ∈ hs, a < S.length := by
  refine ⟨(List.getElem?_eq_some_iff.mp k.out).1, fun a ha => ?_⟩
  obtain ⟨i, hi, rfl⟩ := List.getElem_of_mem ha
  exact (List.getElem?_eq_some_iff.mp (k.row i hi (by rw [← k.len]; exact hi))).1
theorem TabH.snoc {S : Sto} {b k : Nat} {hs : List Nat} {t : List (List Int)} {r : List Int} (q : TabH S b hs t) (e : S[k]? = some (.lst (r.map D.int))) (hk : k ∉ hs) (hb : k ≠ b) : TabH (S.set b (.lst (hs.map D.own ++ [.own k]))) b (hs ++ [k]) (t ++ [r]) := by
  refine ⟨by rw [List.getElem?_set_self q.lt.1, List.map_append]; rfl, by rw [List.length_append, List.length_append, q.len] <;> rfl, fun i h1 h2 => ?_, ?_, ?_⟩
  · have hl := q.len
    by_cases c : i < hs.length
    · have e1 : (hs ++ [k])[i] = hs[i] := List.getElem_append_left c
      have e2 : (t ++ [r])[i] = t[i]'(by omega) := List.getElem_append_left (by omega)
      have hm := List.getElem_mem c
      rw [e1, e2, List.getElem?_set_ne (fun e => q.nb (by rw [e]; exact hm))]
      exact q.row i c (by omega)
    · rw [List.length_append] at h1
      have h1' : i = hs.length := by simp at h1; omega
      subst h1'
      have e1 : (hs ++ [k])[hs.length] = k := by simp
      have e2 : (t ++ [r])[hs.length]'h2 = r := by simp [hl]
      rw [e1, e2, List.getElem?_set_ne (Ne.symm hb)]
      exact e
  · rw [List.nodup_append]
    exact ⟨q.nd, by simp, fun a ha b' hb' => by rw [List.mem_singleton.mp hb']; exact fun z => hk (z ▸ ha)⟩
  · intro h
    rcases List.mem_append.mp h with h | h
    · exact q.nb h
    · exact hb (List.mem_singleton.mp h).symm
def sp__law_row : DSpec := fun ds S Φ _ => ∃ h n, ∃ m : Nat, ∃ w : Int, ds = [.own h, .int m, .int w] ∧ FdAt S h n ∧ n < 2 ^ 90 ∧ 1 ≤ m ∧ m ≤ 60 ∧ 0 ≤ w ∧ w < 5 ∧ ∀ S' (r : List Int), Fs h (n + 200) S S' → 1 ≤ r.length → r.length ≤ m → (∀ x ∈ r, 0 ≤ x ∧ x ≤ GREAT) → Φ (S' ++ [.lst (r.map D.int)]) (.own S'.length)
/-- the rows of a table: so many, of so many cells -/
structure GridOk (a b : Nat) (t : List (List Int)) : Prop where
  lo : 1 ≤ t.length
  hi : t.length ≤ a
  row : ∀ r ∈ t, 1 ≤ r.length ∧ r.length ≤ b
  at_ : ∀ r ∈ t, ∀ x ∈ r, 0 ≤ x ∧ x ≤ GREAT
def sp__law_grid : DSpec := fun ds S Φ _ => ∃ h n, ∃ a b m : Nat, ds = [.own h, .int a, .int b, .int m] ∧ FdAt S h n ∧ n < 2 ^ 80 ∧ 1 ≤ a ∧ a ≤ b ∧ b ≤ 60 ∧ 2 ≤ m ∧ m ≤ 12 ∧ ∀ S' (t : List (List Int)) B hs, FdAt S' h (n + 20000) → Kp h S S' → TabH S' B hs t → h ≠ B → h ∉ hs → S.length ≤ B → GridOk b m t → a ≤ t.length → Φ S' (.own B)
/-- the greatest cell of a leading run, at least `least` -/
def runM (least : Int) : List (Option Int) → Int
  | some v :: r => max v (runM least r)
  | _ => least
def roomAt (least : Int) (xs : List (Option Int)) (j : Nat) : Int := max (runM least (xs.drop j)) (runM least (xs.take j).reverse)
/-- m is the greatest of least and of the cells from f to l -/
structure IsRoom (least : Int) (xs : List (Option Int)) (f l : Nat) (m : Int) : Prop where
  lo : least ≤ m
  up : ∀ i v, f ≤ i → i ≤ l → xs[i]? = some (some v) → v ≤ m
  at_ : m = least ∨ ∃ i, f ≤ i ∧ i ≤ l ∧ xs[i]? = some (some m)
theorem IsRoom.eq {least : Int} {xs : List (Option Int)} {f l : Nat} {m m' : Int} (h : IsRoom least xs f l m) (h' : IsRoom least xs f l m') : m = m' := by
  have a : m ≤ m' := by
    rcases h.at_ with e | ⟨i, h1, h2, h3⟩
    · rw [e]; exact h'.lo
    · exact h'.up i m h1 h2 h3
  have b : m' ≤ m := by
    rcases h'.at_ with e | ⟨i, h1, h2, h3⟩
    · rw [e]; exact h.lo
    · exact h.up i m' h1 h2 h3
  omega
theorem runM_is (least : Int) : ∀ (xs : List (Option Int)) (n : Nat), (∀ i, i < n → ∃ v, xs[i]? = some (some v)) → (∀ v, xs[n]? ≠ some (some v)) →
    least ≤ runM least xs ∧ (∀ i v, i < n → xs[i]? = some (some v) → v ≤ runM least xs) ∧ (runM least xs = least ∨ ∃ i, i < n ∧ xs[i]? = some (some (runM least xs)))
  | [], n, h, _ => by
    cases n with
    | zero => exact ⟨Int.le_refl _, fun i v hi => absurd hi (by omega), .inl rfl⟩
    | succ n => obtain ⟨v, e⟩ := h 0 (by omega); cases e
  | none :: xs, n, h, _ => by
    cases n with
    | zero => exact ⟨Int.le_refl _, fun i v hi => absurd hi (by omega), .inl rfl⟩
    | succ n => obtain ⟨v, e⟩ := h 0 (by omega); cases e
  | some w :: xs, n, h, h2 => by
    cases n with
    | zero => exact absurd rfl (h2 w)
    | succ n =>
      obtain ⟨a, b, c⟩ := runM_is least xs n (fun i hi => by obtain ⟨v, e⟩ := h (i + 1) (by omega); exact ⟨v, by simpa using e⟩) (fun v e => h2 v (by simpa using e))
      have e : runM least (some w :: xs) = max w (runM least xs) := rfl
      rw [e]
      refine ⟨by omega, fun i v hi hv => ?_, ?_⟩
      · cases i with
        | zero => simp at hv; omega
        | succ i => have := b i v (by omega) (by simpa using hv); omega
      · by_cases q : w ≤ runM least xs
        · rw [show max w (runM least xs) = runM least xs by omega]
          rcases c with c | ⟨i, hi, c⟩
          · exact .inl c
          · exact .inr ⟨i + 1, by omega, by simpa using c⟩
        · rw [show max w (runM least xs) = w by omega]
          exact .inr ⟨0, by omega, rfl⟩
theorem rev_get {α : Type} {xs : List α} {j i : Nat} (hj : j ≤ xs.length) (hi : i < j) : (xs.take j).reverse[i]? = xs[j - 1 - i]? := by
  have hl : (xs.take j).length = j := by rw [List.length_take]; omega
  rw [List.getElem?_reverse (by omega), hl, List.getElem?_take]
  rw [if_pos (by omega)]
theorem roomAt_is (least : Int) {xs : List (Option Int)} {f l j : Nat} (hj : f ≤ j) (hj2 : j ≤ l) (hs : ∀ i, f ≤ i → i ≤ l → ∃ v, xs[i]? = some (some v)) (h1 : ∀ v, xs[l + 1]? ≠ some (some v)) (h0 : f = 0 ∨ ∀ v, xs[f - 1]? ≠ some (some v)) : IsRoom least xs f l (roomAt least xs j) := by
  have hlen : l < xs.length := by
    obtain ⟨v, e⟩ := hs l (by omega) (by omega)
    exact (List.getElem?_eq_some_iff.mp e).1
  obtain ⟨a1, b1, c1⟩ := runM_is least (xs.drop j) (l + 1 - j) (fun i hi => by rw [List.getElem?_drop]; exact hs _ (by omega) (by omega)) (fun v => by rw [List.getElem?_drop, show j + (l + 1 - j) = l + 1 by omega]; exact h1 v)
  obtain ⟨a2, b2, c2⟩ := runM_is least (xs.take j).reverse (j - f) (fun i hi => by rw [rev_get (by omega) (by omega)]; exact hs _ (by omega) (by omega)) (fun v => by
    rcases h0 with h0 | h0
    · rw [h0, Nat.sub_zero, List.getElem?_eq_none (by rw [List.length_reverse, List.length_take]; omega)]
      exact fun z => nomatch z
    · by_cases z : j - f < j
      · rw [rev_get (by omega) (by omega), show j - 1 - (j - f) = f - 1 by omega]
        exact h0 v
      · rw [List.getElem?_eq_none (by rw [List.length_reverse, List.length_take]; omega)]
        exact fun z => nomatch z)
  unfold roomAt
  refine ⟨by omega, fun i v h2 h3 hv => ?_, ?_⟩
  · by_cases q : j ≤ i
    · have := b1 (i - j) v (by omega) (by rw [List.getElem?_drop, show j + (i - j) = i by omega]; exact hv)
      omega
    · have := b2 (j - 1 - i) v (by omega) (by rw [rev_get (by omega) (by omega), show j - 1 - (j - 1 - i) = i by omega]; exact hv)
      omega
  · have k1 : ∀ m, (m = least ∨ ∃ i, i < l + 1 - j ∧ (xs.drop j)[i]? = some (some m)) → m = least ∨ ∃ i, f ≤ i ∧ i ≤ l ∧ xs[i]? = some (some m) := fun m h => by
      rcases h with h | ⟨i, hi, h⟩
      · exact .inl h
      · rw [List.getElem?_drop] at h
        exact .inr ⟨j + i, by omega, by omega, h⟩
    have k2 : ∀ m, (m = least ∨ ∃ i, i < j - f ∧ (xs.take j).reverse[i]? = some (some m)) → m = least ∨ ∃ i, f ≤ i ∧ i ≤ l ∧ xs[i]? = some (some m) := fun m h => by
      rcases h with h | ⟨i, hi, h⟩
      · exact .inl h
      · rw [rev_get (by omega) (by omega)] at h
        exact .inr ⟨j - 1 - i, by omega, by omega, h⟩
    rcases Int.le_total (runM least (xs.drop j)) (runM least (xs.take j).reverse) with q | q
    · rw [Int.max_eq_right q]; exact k2 _ c2
    · rw [Int.max_eq_left q]; exact k1 _ c1
def colRuns (p : Nat → Bool) : Nat → List (Nat × Nat) × Option Nat
  | 0 => ([], none)
  | k + 1 => if p k then ((colRuns p k).1, some ((colRuns p k).2.getD k)) else match (colRuns p k).2 with
    | none => ((colRuns p k).1, none)
    | some f => ((colRuns p k).1 ++ [(f, k - 1)], none)
def hasL (j : Nat) (b : Nat × Nat) : Bool := decide (b.1 ≤ j) && decide (j ≤ b.2)
structure RunsOk (p : Nat → Bool) (k : Nat) (bs : List (Nat × Nat)) (o : Option Nat) : Prop where
  blk : ∀ b ∈ bs, b.1 ≤ b.2 ∧ b.2 + 1 < k ∧ (∀ j, b.1 ≤ j → j ≤ b.2 → p j = true) ∧ p (b.2 + 1) = false ∧ (b.1 = 0 ∨ p (b.1 - 1) = false)
  opn : ∀ f, o = some f → f < k ∧ (∀ j, f ≤ j → j < k → p j = true) ∧ (f = 0 ∨ p (f - 1) = false) ∧ ∀ b ∈ bs, b.2 < f
  shut : o = none → k = 0 ∨ p (k - 1) = false
  one : ∀ j, j < k → p j = true → (∃ b, bs.filter (hasL j) = [b]) ∨ ∃ f, o = some f ∧ f ≤ j
  off : ∀ j, p j = false → bs.filter (hasL j) = []
theorem runs_ok (p : Nat → Bool) : ∀ k, RunsOk p k (colRuns p k).1 (colRuns p k).2
  | 0 => ⟨(fun _ h => nomatch h), (fun _ h => nomatch h), fun _ => .inl rfl, fun _ h => absurd h (by omega), fun _ _ => rfl⟩
  | k + 1 => by
    have ih := runs_ok p k
    unfold colRuns
    generalize (colRuns p k).1 = bs at ih ⊢
    generalize (colRuns p k).2 = o at ih ⊢
    by_cases c : p k = true
    · rw [if_pos c]
      refine ⟨fun b hb => ?_, fun f hf => ?_, (fun h => nomatch h), fun j hj hp => ?_, ih.off⟩
      · obtain ⟨a1, a2, a3, a4, a5⟩ := ih.blk b hb
        exact ⟨a1, by omega, a3, a4, a5⟩
      · cases o with
        | none =>
          cases hf
          refine ⟨by show k < _; omega, fun j h1 h2 => ?_, ?_, fun b hb => ?_⟩
          · have h1 : k ≤ j := h1
            rw [show j = k by omega]; exact c
          · exact ih.shut rfl
          · have := (ih.blk b hb).2.1
            show b.2 < k
            omega
        | some f0 =>
          cases hf
          obtain ⟨a1, a2, a3, a4⟩ := ih.opn f0 rfl
          refine ⟨by show f0 < _; omega, fun j h1 h2 => ?_, a3, a4⟩
          by_cases q : j = k
          · rw [q]; exact c
          · exact a2 j h1 (by omega)
      · by_cases q : j = k
        · right
          refine ⟨_, rfl, ?_⟩
          cases o with
          | none => show k ≤ j; omega
          | some f0 => have := (ih.opn f0 rfl).1; show f0 ≤ j; omega
        · rcases ih.one j (by omega) hp with h | ⟨f, e, h⟩
          · exact .inl h
          · right
            rw [e]
            exact ⟨f, rfl, h⟩
    · rw [if_neg c]
      have c : p k = false := by simpa using c
      cases o with
      | none =>
        refine ⟨fun b hb => ?_, (fun f hf => nomatch hf), fun _ => .inr c, fun j hj hp => ?_, ih.off⟩
        · obtain ⟨a1, a2, a3, a4, a5⟩ := ih.blk b hb
          exact ⟨a1, by omega, a3, a4, a5⟩
        · have : j ≠ k := fun e => by rw [e, c] at hp; cases hp
          rcases ih.one j (by omega) hp with h | ⟨f, e, h⟩
          · exact .inl h
          · cases e
      | some f0 =>
        obtain ⟨a1, a2, a3, a4⟩ := ih.opn f0 rfl
        have hk : k - 1 + 1 = k := by omega
        refine ⟨fun b hb => ?_, (fun f hf => nomatch hf), fun _ => .inr c, fun j hj hp => ?_, fun j hp => ?_⟩
        · rcases List.mem_append.mp hb with hb | hb
          · obtain ⟨a1, a2, a3, a4, a5⟩ := ih.blk b hb
            exact ⟨a1, by omega, a3, a4, a5⟩
          · rw [List.mem_singleton.mp hb]
            refine ⟨?_, ?_, fun j h1 h2 => a2 j h1 ?_, ?_, a3⟩
            · show f0 ≤ k - 1; omega
            · show k - 1 + 1 < k + 1; omega
            · have h2 : j ≤ k - 1 := h2; omega
            · show p (k - 1 + 1) = false; rw [hk]; exact c
        · have : j ≠ k := fun e => by rw [e, c] at hp; cases hp
          left
          show ∃ b, (bs ++ [(f0, k - 1)]).filter (hasL j) = [b]
          rw [List.filter_append]
          by_cases q : f0 ≤ j
          · refine ⟨(f0, k - 1), ?_⟩
            rw [List.filter_eq_nil_iff.mpr fun b hb => ?_]
            · rw [List.filter_cons_of_pos (by unfold hasL; simp; omega)]
              rfl
            · have := a4 b hb
              unfold hasL
              simp
              omega
          · rcases ih.one j (by omega) hp with ⟨b, h⟩ | ⟨f, e, h⟩
            · refine ⟨b, ?_⟩
              rw [h, List.filter_cons_of_neg (by unfold hasL; simp; omega)]
              rfl
            · cases e; omega
        · show (bs ++ [(f0, k - 1)]).filter (hasL j) = []
          rw [List.filter_append, ih.off j hp, List.filter_cons_of_neg ?_]
          · rfl
          · unfold hasL
            simp
            intro h1
            by_cases q : j < k
            · rw [a2 j h1 q] at hp; cases hp
            · omega
theorem runs_one {p : Nat → Bool} {n j : Nat} (hn : p n = false) (hj : j < n) (hp : p j = true) : ∃ b, (colRuns p (n + 1)).1.filter (hasL j) = [b] := by
  have h := runs_ok p (n + 1)
  rcases h.one j (by omega) hp with h1 | ⟨f, e, h2⟩
  · exact h1
  · obtain ⟨a1, a2, _⟩ := h.opn f e
    have := a2 n (by omega) (by omega)
    rw [hn] at this; cases this
def colOf (t : List (List Int)) (c : Nat) : List (Option Int) := t.map fun r => if c + 1 < r.length then r[c]? else none
def roomsOf (least : Int) (t : List (List Int)) (j : Nat) : List Int := (List.range ((t.getD j []).length - 1)).map fun c => roomAt least (colOf t c) j
def stopsFrom (gap : Int) : Int → List Int → List Int
  | _, [] => []
  | s, x :: xs => (s + (x + gap)) :: stopsFrom gap (s + (x + gap)) xs
def rowStops (g l : Int) (t : List (List Int)) (j : Nat) : List Int := stopsFrom g 0 (roomsOf l t j)
def stopsF (g l : Int) (t : List (List Int)) : List (List Int) := (List.range t.length).map (rowStops g l t)
def rowEnd (g l : Int) (t : List (List Int)) (j : Nat) : Int := (rowStops g l t j).getLastD 0 + (t.getD j []).getLastD 0
def endsF (g l : Int) (t : List (List Int)) : List Int := (List.range t.length).map (rowEnd g l t)
def maxOf : List Int → Int
  | [] => 0
  | [x] => x
  | x :: y :: xs => max x (maxOf (y :: xs))
def widthF (g l : Int) (t : List (List Int)) : Int := maxOf (endsF g l t)
theorem maxOf_mem : ∀ {xs : List Int}, xs ≠ [] → maxOf xs ∈ xs
  | [], h => absurd rfl h
  | [x], _ => List.mem_singleton.mpr rfl
  | x :: y :: xs, _ => by
    have ih := maxOf_mem (xs := y :: xs) (by simp)
    unfold maxOf
    rcases Int.le_total x (maxOf (y :: xs)) with q | q
    · rw [Int.max_eq_right q]; exact List.mem_cons_of_mem _ ih
    · rw [Int.max_eq_left q]; exact List.mem_cons_self
theorem maxOf_le : ∀ {xs : List Int}, ∀ y ∈ xs, y ≤ maxOf xs
  | [], _, h => nomatch h
  | [x], y, h => by rw [List.mem_singleton.mp h]; exact Int.le_refl _
  | x :: z :: xs, y, h => by
    unfold maxOf
    rcases List.mem_cons.mp h with rfl | h
    · exact Int.le_max_left _ _
    · exact Int.le_trans (maxOf_le (xs := z :: xs) y h) (Int.le_max_right _ _)
theorem maxOf_eq {xs : List Int} {m : Int} (h : m ∈ xs) (h2 : ∀ y ∈ xs, y ≤ m) : m = maxOf xs :=
  Int.le_antisymm (maxOf_le m h) (h2 _ (maxOf_mem (List.ne_nil_of_mem h)))
def CellsIn (t : List (List Int)) (G : Int) : Prop := ∀ r ∈ t, ∀ x ∈ r, 0 ≤ x ∧ x ≤ G
theorem runM_in {l G : Int} (h0 : 0 ≤ l) (h1 : l ≤ G) : ∀ {xs : List (Option Int)}, (∀ v, some v ∈ xs → 0 ≤ v ∧ v ≤ G) → 0 ≤ runM l xs ∧ runM l xs ≤ G
  | [], _ => ⟨h0, h1⟩
  | none :: _, _ => ⟨h0, h1⟩
  | some v :: xs, h => by
    have ih := runM_in h0 h1 (xs := xs) fun v hv => h v (List.mem_cons_of_mem _ hv)
    have := h v List.mem_cons_self
    show 0 ≤ max v (runM l xs) ∧ max v (runM l xs) ≤ G
    omega
theorem roomAt_in {l G : Int} (h0 : 0 ≤ l) (h1 : l ≤ G) {xs : List (Option Int)} (h : ∀ v, some v ∈ xs → 0 ≤ v ∧ v ≤ G) (j : Nat) : 0 ≤ roomAt l xs j ∧ roomAt l xs j ≤ G := by
  unfold roomAt
  have a := runM_in h0 h1 (xs := xs.drop j) fun v hv => h v (List.mem_of_mem_drop hv)
  have b := runM_in h0 h1 (xs := (xs.take j).reverse) fun v hv => h v (List.mem_of_mem_take (List.mem_reverse.mp hv))
  omega
theorem colOf_in {t : List (List Int)} {G : Int} (h : CellsIn t G) (c : Nat) : ∀ v, some v ∈ colOf t c → 0 ≤ v ∧ v ≤ G := by
  intro v hv
  unfold colOf at hv
  obtain ⟨r, hr, e⟩ := List.mem_map.mp hv
  split at e
  · exact h r hr v (List.mem_of_getElem? e)
  · cases e
theorem roomsOf_in {t : List (List Int)} {l G : Int} (h0 : 0 ≤ l) (h1 : l ≤ G) (h : CellsIn t G) (j : Nat) : ∀ x ∈ roomsOf l t j, 0 ≤ x ∧ x ≤ G := by
  intro x hx
  unfold roomsOf at hx
  obtain ⟨c, _, rfl⟩ := List.mem_map.mp hx
  exact roomAt_in h0 h1 (colOf_in h c) j
theorem stopsFrom_in {g G : Int} (h0 : 0 ≤ g) (h1 : g ≤ G) : ∀ {xs : List Int} {s : Int}, (∀ x ∈ xs, 0 ≤ x ∧ x ≤ G) → 0 ≤ s → ∀ y ∈ stopsFrom g s xs, 0 ≤ y ∧ y ≤ s + 2 * G * xs.length
  | [], _, _, _, y, hy => nomatch hy
  | x :: xs, s, h, hs, y, hy => by
    have hx := h x List.mem_cons_self
    have ih := stopsFrom_in h0 h1 (xs := xs) (s := s + (x + g)) (fun x hx => h x (List.mem_cons_of_mem _ hx)) (by omega)
    have e : (2 : Int) * G * ((x :: xs).length : Nat) = 2 * G * (xs.length : Nat) + 2 * G := by
      rw [List.length_cons, Int.natCast_add, Int.mul_add]
      simp
    rw [e]
    have p : 0 ≤ 2 * G * (xs.length : Int) := Int.mul_nonneg (by omega) (by omega)
    rcases List.mem_cons.mp hy with rfl | hy
    · omega
    · have := ih y hy
      omega
theorem stopsFrom_len {g : Int} : ∀ {xs : List Int} {s : Int}, (stopsFrom g s xs).length = xs.length
  | [], _ => rfl
  | _ :: xs, _ => by unfold stopsFrom; rw [List.length_cons, List.length_cons, stopsFrom_len]
theorem rowStops_len {g l : Int} {t : List (List Int)} {j : Nat} : (rowStops g l t j).length = (t.getD j []).length - 1 := by
  unfold rowStops roomsOf
  rw [stopsFrom_len, List.length_map, List.length_range]
theorem rowStops_in {t : List (List Int)} {g l G : Int} (g0 : 0 ≤ g) (g1 : g ≤ G) (h0 : 0 ≤ l) (h1 : l ≤ G) (h : CellsIn t G) {j : Nat} (hl : (t.getD j []).length ≤ 12) : ∀ y ∈ rowStops g l t j, 0 ≤ y ∧ y ≤ 22 * G := by
  intro y hy
  have := stopsFrom_in g0 g1 (roomsOf_in h0 h1 h j) (Int.le_refl 0) y hy
  refine ⟨this.1, Int.le_trans this.2 ?_⟩
  have e : (roomsOf l t j).length ≤ 11 := by
    unfold roomsOf
    rw [List.length_map, List.length_range]
    omega
  have : 2 * G * ((roomsOf l t j).length : Int) ≤ 2 * G * 11 := Int.mul_le_mul_of_nonneg_left (by omega) (by omega)
  omega
theorem getLastD_mem {xs : List Int} {d : Int} : xs.getLastD d = d ∨ xs.getLastD d ∈ xs := by
  cases xs with
  | nil => exact .inl rfl
  | cons a b =>
    right
    rw [List.getLastD_cons]
    have : b.getLastD a = (a :: b).getLast (by simp) := (List.getLast_eq_getLastD ..).symm
    rw [this]
    exact List.getLast_mem _
theorem rowEnd_in {t : List (List Int)} {g l G : Int} (g0 : 0 ≤ g) (g1 : g ≤ G) (h0 : 0 ≤ l) (h1 : l ≤ G) (h : CellsIn t G) {j : Nat} (hl : (t.getD j []).length ≤ 12) : 0 ≤ rowEnd g l t j ∧ rowEnd g l t j ≤ 23 * G := by
  unfold rowEnd
  have a : 0 ≤ (rowStops g l t j).getLastD 0 ∧ (rowStops g l t j).getLastD 0 ≤ 22 * G := by
    rcases getLastD_mem (xs := rowStops g l t j) (d := 0) with e | m
    · rw [e]; omega
    · exact rowStops_in g0 g1 h0 h1 h hl _ m
  have b : 0 ≤ (t.getD j []).getLastD 0 ∧ (t.getD j []).getLastD 0 ≤ G := by
    rcases getLastD_mem (xs := t.getD j []) (d := 0) with e | m
    · rw [e]; omega
    · rw [List.getD_eq_getElem?_getD] at m
      cases q : t[j]? with
      | none => rw [q] at m; cases m
      | some r =>
        rw [q] at m
        rw [List.getD_eq_getElem?_getD, q]
        exact h r (List.mem_of_getElem? q) _ m
  omega
def tabAt (t : List (List Int)) (j : Nat) : Nat := (t.getD j []).length - 1
def hasT (ns : List Nat) (c j : Nat) : Bool := decide (c < ns.getD j 0)
abbrev Blk := Nat × Nat × Nat
def colBlks (ns : List Nat) (c : Nat) : List Blk := (colRuns (hasT ns c) (ns.length + 1)).1.map fun b => (c, b.1, b.2)
def blksF (ns : List Nat) (m : Nat) : List Blk := (List.range m).flatMap (colBlks ns)
def tabsF (t : List (List Int)) : List Nat := t.map fun r => r.length - 1
def hasB (j : Nat) (b : Blk) : Bool := hasL j b.2
def roomB (l : Int) (t : List (List Int)) (b : Blk) : Int := roomAt l (colOf t b.1) b.2.1
theorem tabsF_len (t : List (List Int)) : (tabsF t).length = t.length := by unfold tabsF; rw [List.length_map]
theorem tabsF_at (t : List (List Int)) (j : Nat) : (tabsF t).getD j 0 = tabAt t j := by
  unfold tabsF tabAt
  rw [List.getD_eq_getElem?_getD, List.getD_eq_getElem?_getD, List.getElem?_map]
  cases t[j]? <;> rfl
theorem colOf_some {t : List (List Int)} {c j : Nat} (h : hasT (tabsF t) c j = true) : ∃ v, (colOf t c)[j]? = some (some v) ∧ (t.getD j [])[c]? = some v := by
  unfold hasT at h
  rw [tabsF_at, decide_eq_true_eq] at h
  unfold tabAt at h
  unfold colOf
  rw [List.getElem?_map]
  rw [List.getD_eq_getElem?_getD] at h ⊢
  cases q : t[j]? with
  | none => rw [q] at h; exact absurd h (by simp)
  | some r =>
    rw [q] at h
    have h : c < r.length - 1 := h
    exact ⟨r[c]'(by omega), by rw [Option.map_some, if_pos (by omega), List.getElem?_eq_getElem (by omega)], List.getElem?_eq_getElem (by omega)⟩
theorem colOf_none {t : List (List Int)} {c j : Nat} (h : hasT (tabsF t) c j = false) : ∀ v, (colOf t c)[j]? ≠ some (some v) := by
  unfold hasT at h
  rw [tabsF_at, decide_eq_false_iff_not] at h
  unfold tabAt at h
  unfold colOf
  rw [List.getElem?_map]
  rw [List.getD_eq_getElem?_getD] at h
  cases q : t[j]? with
  | none => exact fun v e => nomatch e
  | some r =>
    rw [q] at h
    have h : ¬ c < r.length - 1 := h
    intro v e
    rw [Option.map_some, if_neg (by omega)] at e
    cases e
/-- what is known of a block -/
structure BlkOk (t : List (List Int)) (b : Blk) : Prop where
  le : b.2.1 ≤ b.2.2
  lt : b.2.2 < t.length
  at_ : ∀ j, b.2.1 ≤ j → j ≤ b.2.2 → hasT (tabsF t) b.1 j = true
  nx : hasT (tabsF t) b.1 (b.2.2 + 1) = false
  pv : b.2.1 = 0 ∨ hasT (tabsF t) b.1 (b.2.1 - 1) = false
theorem colBlks_ok {t : List (List Int)} {c : Nat} {b : Blk} (h : b ∈ colBlks (tabsF t) c) : BlkOk t b ∧ b.1 = c := by
  unfold colBlks at h
  obtain ⟨q, hq, rfl⟩ := List.mem_map.mp h
  obtain ⟨a1, a2, a3, a4, a5⟩ := (runs_ok _ _).blk q hq
  rw [tabsF_len] at a2
  exact ⟨⟨a1, by show q.2 < _; omega, a3, a4, a5⟩, rfl⟩
theorem blksF_ok {t : List (List Int)} {m : Nat} {b : Blk} (h : b ∈ blksF (tabsF t) m) : BlkOk t b ∧ b.1 < m := by
  unfold blksF at h
  obtain ⟨c, hc, hb⟩ := List.mem_flatMap.mp h
  obtain ⟨h1, h2⟩ := colBlks_ok hb
  exact ⟨h1, by rw [h2]; exact List.mem_range.mp hc⟩
theorem BlkOk.room {t : List (List Int)} {b : Blk} (h : BlkOk t b) (l : Int) {j : Nat} (h1 : b.2.1 ≤ j) (h2 : j ≤ b.2.2) : IsRoom l (colOf t b.1) b.2.1 b.2.2 (roomAt l (colOf t b.1) j) :=
  roomAt_is l h1 h2 (fun i a b' => let ⟨v, e, _⟩ := colOf_some (h.at_ i a b'); ⟨v, e⟩) (colOf_none h.nx) (h.pv.imp id colOf_none)
theorem BlkOk.same {t : List (List Int)} {b : Blk} (h : BlkOk t b) (l : Int) {j : Nat} (h1 : b.2.1 ≤ j) (h2 : j ≤ b.2.2) : roomAt l (colOf t b.1) j = roomB l t b :=
  (h.room l h1 h2).eq (h.room l (Nat.le_refl _) h.le)
theorem flat_if {α : Type} (k : Nat) (f : Nat → α) : ∀ n, (List.range n).flatMap (fun c => if c < k then [f c] else []) = (List.range (min k n)).map f
  | 0 => by simp
  | n + 1 => by
    rw [List.range_succ, List.flatMap_append, flat_if k f n]
    by_cases h : n < k
    · rw [show min k (n + 1) = n + 1 by omega, show min k n = n by omega, List.range_succ, List.map_append]
      simp [h]
    · rw [show min k (n + 1) = min k n by omega]
      simp [h]
theorem blks_rooms {t : List (List Int)} (l : Int) {j m : Nat} (hj : j < t.length) (hm : tabAt t j ≤ m) : ((blksF (tabsF t) m).filter (hasB j)).map (roomB l t) = roomsOf l t j := by
  unfold blksF
  rw [List.filter_flatMap, List.map_flatMap]
  have e : ∀ c, ((colBlks (tabsF t) c).filter (hasB j)).map (roomB l t) = if c < tabAt t j then [roomAt l (colOf t c) j] else [] := by
    intro c
    unfold colBlks
    rw [List.filter_map, List.map_map]
    have e2 : (hasB j ∘ fun b : Nat × Nat => (c, b.1, b.2)) = hasL j := rfl
    rw [e2]
    by_cases h : c < tabAt t j
    · rw [if_pos h]
      have hp : hasT (tabsF t) c j = true := by unfold hasT; rw [tabsF_at, decide_eq_true_eq]; exact h
      have hn : hasT (tabsF t) c (tabsF t).length = false := by
        unfold hasT
        rw [tabsF_at, decide_eq_false_iff_not]
        unfold tabAt
        rw [tabsF_len, List.getD_eq_getElem?_getD, List.getElem?_eq_none (Nat.le_refl _)]
        exact Nat.not_lt_zero _
      obtain ⟨b, hb⟩ := runs_one hn (by rw [tabsF_len]; exact hj) hp
      rw [hb]
      have hm : b ∈ (colRuns (hasT (tabsF t) c) ((tabsF t).length + 1)).1.filter (hasL j) := by rw [hb]; exact List.mem_singleton.mpr rfl
      obtain ⟨m1, m2⟩ := List.mem_filter.mp hm
      have ok := (colBlks_ok (t := t) (c := c) (b := (c, b.1, b.2)) (List.mem_map.mpr ⟨b, m1, rfl⟩)).1
      unfold hasL at m2
      simp at m2
      show [roomB l t (c, b.1, b.2)] = _
      rw [← ok.same l m2.1 m2.2]
    · rw [if_neg h]
      have hp : hasT (tabsF t) c j = false := by unfold hasT; rw [tabsF_at, decide_eq_false_iff_not]; exact h
      rw [(runs_ok _ _).off j hp]
      rfl
  rw [show (fun c => ((colBlks (tabsF t) c).filter (hasB j)).map (roomB l t)) = fun c => if c < tabAt t j then [roomAt l (colOf t c) j] else [] from funext e, flat_if, Nat.min_eq_left hm]
  rfl
def natsD (ns : List Nat) : List D := ns.map fun n : Nat => D.int (n : Int)
def blkD (b : Blk) : D := .tup [.int (b.1 : Nat), .int (b.2.1 : Nat), .int (b.2.2 : Nat)]
def blksD (bs : List Blk) : D := .lst (bs.map blkD)
def sp_tabs_in : DSpec := fun ds S Φ _ => ∃ d t, ds = [d] ∧ TabS S d t ∧ TabOk t ∧ Φ S (.lst (natsD (tabsF t)))
def sp_blocks_of_column : DSpec := fun ds S Φ _ => ∃ ns, ∃ c : Nat, ds = [.lst (natsD ns), .int c] ∧ ns.length ≤ 60 ∧ Φ S (blksD (colBlks ns c))
def sp_blocks_by_tabs : DSpec := fun ds S Φ _ => ∃ ns, ds = [.lst (natsD ns)] ∧ ns.length ≤ 60 ∧ Φ S (blksD (blksF ns 11))
def sp_blocks_in : DSpec := fun ds S Φ _ => ∃ d t, ds = [d] ∧ TabS S d t ∧ TabOk t ∧ Φ S (blksD (blksF (tabsF t) 11))
def sp_greatest_in : DSpec := fun ds S Φ _ => ∃ d t b, ds = [d, blkD b] ∧ TabS S d t ∧ TabOk t ∧ BlkOk t b ∧ ∀ m, (∃ i, b.2.1 ≤ i ∧ i ≤ b.2.2 ∧ (colOf t b.1)[i]? = some (some m)) → (∀ i v, b.2.1 ≤ i → i ≤ b.2.2 → (colOf t b.1)[i]? = some (some v) → v ≤ m) → Φ S (.int m)
def sp_room_of (C : Addr) : DSpec := fun ds S Φ _ => ∃ d s t b ks g l, ds = [d, s, blkD b] ∧ TabS S d t ∧ TabOk t ∧ BlkOk t b ∧ asI S s = some (C, styF ks g l) ∧ Φ S (.int (roomB l t b))
def roomsT (l : Int) (t : List (List Int)) : List (List Int) := (List.range t.length).map (roomsOf l t)
def sp_rooms_in (C : Addr) : DSpec := fun ds S Φ _ => ∃ d s t ks g l, ds = [d, s] ∧ TabS S d t ∧ TabOk t ∧ asI S s = some (C, styF ks g l) ∧ newTab (roomsT l t) S Φ
def sp_stops_in (C : Addr) : DSpec := fun ds S Φ _ => ∃ d s t ks g l, ds = [d, s] ∧ TabS S d t ∧ TabOk t ∧ asI S s = some (C, styF ks g l) ∧ ∀ Z b hs, TabH (S ++ Z) b hs (stopsF g l t) → S.length ≤ b → (∀ a ∈ hs, S.length ≤ a) → Φ (S ++ Z) (.own b)
def sp_ends_in (C : Addr) : DSpec := fun ds S Φ _ => ∃ d s t ks g l, ds = [d, s] ∧ TabS S d t ∧ TabOk t ∧ asI S s = some (C, styF ks g l) ∧ LookOk ks g l ∧ ∀ Z b, (S ++ Z)[b]? = some (.lst ((endsF g l t).map D.int)) → S.length ≤ b → Φ (S ++ Z) (.own b)
def sp_width_in (C : Addr) : DSpec := fun ds S Φ _ => ∃ d s t ks g l, ds = [d, s] ∧ TabS S d t ∧ TabOk t ∧ asI S s = some (C, styF ks g l) ∧ LookOk ks g l ∧ Φ S (.int (widthF g l t))
def sp_stops (C : Addr) : DSpec := fun ds S Φ _ => ∃ d s t ks g l, ds = [d, s] ∧ TabS S d t ∧ TabOk t ∧ asI S s = some (C, styF ks g l) ∧ ∀ Z b hs, TabH (S ++ Z) b hs (stopsF g l t) → S.length ≤ b → (∀ a ∈ hs, S.length ≤ a) → Φ (S ++ Z) (.own b)
def sp_width_of (C : Addr) : DSpec := fun ds S Φ _ => ∃ d s t ks g l, ds = [d, s] ∧ TabS S d t ∧ TabOk t ∧ asI S s = some (C, styF ks g l) ∧ LookOk ks g l ∧ Φ S (.int (widthF g l t))
def pageF (d : D) (t : List (List Int)) (e m : Nat) : List (Str × D) := [("own_style", d), ("own_lines", tabD t), ("earlier", .own e), ("marked", .own m)]
def marksD (ms : List Nat) : List D := ms.map fun k : Nat => D.int (k : Int)
/-- a page at p: its edits at e, its marks at m -/
structure PageAt (C : Addr) (S : Sto) (p e m : Nat) (d : D) (t : List (List Int)) (es : List (List (List Int))) (ms : List Nat) : Prop where
  obj : S[p]? = some (.ins C (pageF d t e m))
  ear : S[e]? = some (.lst (es.map tabD))
  mar : S[m]? = some (.lst (marksD ms))
  pe : p ≠ e
  pm : p ≠ m
  em : e ≠ m
  ok : TabOk t
  eok : ∀ u ∈ es, TabOk u
  el : es.length ≤ 200
  ml : ms.length ≤ 100
  mle : ∀ k ∈ ms, k ≤ es.length
  mo : ms.Pairwise (· ≤ ·)
/-- all cells but p, e, m are as they were -/
structure Kq (p e m : Nat) (S S' : Sto) : Prop where
  len : S.length ≤ S'.length
  get : ∀ i c, i ≠ p → i ≠ e → i ≠ m → S[i]? = some c → S'[i]? = some c
def PgTo (C : Addr) (S : Sto) (Φ : KD) (v : D) (p e m : Nat) (d : D) (t : List (List Int)) (es : List (List (List Int))) (ms : List Nat) : Prop :=
  ∀ S' m', PageAt C S' p e m' d t es ms → Kq p e m S S' → (m' = m ∨ S.length ≤ m') → Φ S' v
def sp_Page___init__ (C I : Addr) : DSpec := fun ds S Φ Ψ => ∃ h d rs t, ds = [.own h, d, .tup rs] ∧ RowsS S rs t ∧ ((S[h]? = some (.ins C []) ∧ TabOk t ∧ Φ (S.set h (.ins C (pageF d t S.length (S.length + 1))) ++ [.lst []] ++ [.lst []]) .non) ∨ (t.length = 61 ∧ Ψ S ⟨I, []⟩))
def sp_Page_of (C : Addr) : DSpec := fun ds S Φ _ => ∃ d b t, ds = [.obj C, d, b] ∧ TabS S b t ∧ TabOk t ∧ Φ (S ++ [.ins C (pageF d t (S.length + 1) (S.length + 2))] ++ [.lst []] ++ [.lst []]) (.own S.length)
def sp_Page_table (C : Addr) : DSpec := fun ds S Φ _ => ∃ p e m d t, ds = [.own p] ∧ S[p]? = some (.ins C (pageF d t e m)) ∧ t.length ≤ 100 ∧ newTab t S Φ
def sp_Page_go_on (C : Addr) : DSpec := fun ds S Φ _ => ∃ p e m d t u es ms, ds = [.own p, tabD u] ∧ PageAt C S p e m d t es ms ∧ es.length < 200 ∧ TabOk u ∧ PgTo C S Φ .non p e m d u (es ++ [t]) ms
def sp_Page_change (C : Addr) : DSpec := fun ds S Φ _ => ∃ p e m d t es ms, ∃ i j : Nat, ∃ v, ds = [.own p, .int i, .int j, .int v] ∧ PageAt C S p e m d t es ms ∧ es.length < 200 ∧ i < t.length ∧ j < (t.getD i []).length ∧ 0 ≤ v ∧ v ≤ GREAT ∧ PgTo C S Φ .non p e m d (setAt t i j v) (es ++ [t]) ms
def sp_Page_put (C : Addr) : DSpec := fun ds S Φ _ => ∃ p e m d t es ms, ∃ i : Nat, ∃ x r, ds = [.own p, .int i, x] ∧ PageAt C S p e m d t es ms ∧ es.length < 200 ∧ i ≤ t.length ∧ t.length < 60 ∧ asL S x = some (r.map D.int) ∧ RowOk r ∧ PgTo C S Φ .non p e m d (putAt t i r) (es ++ [t]) ms
def sp_Page_drop (C : Addr) : DSpec := fun ds S Φ _ => ∃ p e m d t es ms, ∃ i : Nat, ds = [.own p, .int i] ∧ PageAt C S p e m d t es ms ∧ es.length < 200 ∧ i < t.length ∧ 1 < t.length ∧ PgTo C S Φ .non p e m d (cutAt t i) (es ++ [t]) ms
def sp_Page_undo (C : Addr) : DSpec := fun ds S Φ _ => ∃ p e m d t u es ms, ds = [.own p] ∧ PageAt C S p e m d t (es ++ [u]) ms ∧ PgTo C S Φ .non p e m d u es (ms.filter fun k => decide (k ≤ es.length))
def sp_Page_mark (C : Addr) : DSpec := fun ds S Φ _ => ∃ p e m d t es ms, ds = [.own p] ∧ PageAt C S p e m d t es ms ∧ ms.length < 100 ∧ PgTo C S Φ (.int ms.length) p e m d t es (ms ++ [es.length])
def sp_Page_undo_to (C : Addr) : DSpec := fun ds S Φ _ => ∃ p e m d t es ms, ∃ i : Nat, ∃ h : i < ms.length, ds = [.own p, .int i] ∧ PageAt C S p e m d t es ms ∧ PgTo C S Φ .non p e m d ((es ++ [t]).getD ms[i] []) (es.take ms[i]) (ms.take (i + 1))
def sp_Page_twin (C : Addr) : DSpec := fun ds S Φ _ => ∃ p e m d t es ms, ds = [.own p] ∧ PageAt C S p e m d t es ms ∧ ∀ Z p2 e2 m2, PageAt C (S ++ Z) p2 e2 m2 d t es ms → S.length ≤ p2 → S.length ≤ e2 → S.length ≤ m2 → Φ (S ++ Z) (.own p2)
def sp_Page___len__ (C : Addr) : DSpec := fun ds S Φ _ => ∃ p e m d t es ms, ds = [.own p] ∧ PageAt C S p e m d t es ms ∧ Φ S (.int es.length)
structure Frm (A : List Nat) (S S' : Sto) : Prop where
  len : S.length ≤ S'.length
  get : ∀ i c, i ∉ A → S[i]? = some c → S'[i]? = some c
def stD (t : List (List Int)) (es : List (List (List Int))) (ms : List Nat) : List D := [tabD t, .lst (es.map tabD), .lst (marksD ms)]
/-- the law's own page: stock, page, state -/
structure Lv (C : Addr) (S : Sto) (h st p n : Nat) (d : D) (t : List (List Int)) (es : List (List (List Int))) (ms : List Nat) (e m : Nat) (sd : List D) : Prop where
  fd : FdAt S h n
  pg : PageAt C S p e m d t es ms
  stt : S[st]? = some (.lst sd)
  hst : h ≠ st
  hp : h ≠ p ∧ h ≠ e ∧ h ≠ m
  sp : st ≠ p ∧ st ≠ e ∧ st ≠ m
def sp__law_copied : DSpec := fun ds S Φ _ => ∃ d t, ds = [d] ∧ TabS S d t ∧ t.length ≤ 100 ∧ ∀ Z B hs, TabH (S ++ Z) B hs t → S.length ≤ B → (∀ a ∈ hs, S.length ≤ a) → Φ (S ++ Z) (.own B)
def sp__law_edit (C : Addr) : DSpec := fun ds S Φ _ => ∃ h st p n d t es ms e m, ∃ k : Nat, ds = [.own h, .own p, .own st, .int k] ∧ Lv C S h st p n d t es ms e m (stD t es ms) ∧ n < 2 ^ 85 ∧ es.length < 100 ∧ 2 ≤ k ∧ k ≤ 60 ∧ ∀ S' m' t', Lv C S' h st p (n + 1000) d t' (es ++ [t]) ms e m' (stD t' (es ++ [t]) ms) → Frm [h, st, p, e, m] S S' → (m' = m ∨ S.length ≤ m') → Φ S' (.bl true)
def sp__law_same (C : Addr) : DSpec := fun ds S Φ _ => ∃ st p d t es ms e m, ds = [.own p, .own st] ∧ PageAt C S p e m d t es ms ∧ S[st]? = some (.lst (stD t es ms)) ∧ ∀ Z, Φ (S ++ Z) (.bl true)
def sp_Page_width (Cs C : Addr) : DSpec := fun ds S Φ _ => ∃ p e m s t es ms ks g l, ds = [.own p] ∧ PageAt C S p e m s t es ms ∧ asI S s = some (Cs, styF ks g l) ∧ LookOk ks g l ∧ Φ S (.int (widthF g l t))
def sp_Page_stops (Cs C : Addr) : DSpec := fun ds S Φ _ => ∃ p e m s t es ms ks g l, ds = [.own p] ∧ PageAt C S p e m s t es ms ∧ asI S s = some (Cs, styF ks g l) ∧ ∀ Z b hs, TabH (S ++ Z) b hs (stopsF g l t) → S.length ≤ b → (∀ a ∈ hs, S.length ≤ a) → Φ (S ++ Z) (.own b)
/-- a style as data -/
def styD (Cs : Addr) (ks : List Str) (g l : Int) : D := .ins Cs (styF ks g l)
def sp__law_marked (C : Addr) : DSpec := fun ds S Φ _ => ∃ h st p n d t es ms e m, ∃ k : Nat, ds = [.own h, .own p, .own st, .int k] ∧ Lv C S h st p n d t es ms e m (stD t es ms) ∧ n < 2 ^ 80 ∧ es.length + k ≤ 100 ∧ ms.length + k ≤ 100 ∧ ∀ S' m' t' es' ms', Lv C S' h st p (n + 1010 * k) d t' es' ms' e m' (stD t' es' ms') → es'.length ≤ es.length + k → ms'.length ≤ ms.length + k → Frm [h, st, p, e, m] S S' → (m' = m ∨ S.length ≤ m') → Φ S' (.bl true)
def sp__law_emptied (C : Addr) : DSpec := fun ds S Φ _ => ∃ st p d t es ms e m, ds = [.own p, .own st] ∧ PageAt C S p e m d t es ms ∧ S[st]? = some (.lst (stD t es ms)) ∧ (st ≠ p ∧ st ≠ e ∧ st ≠ m) ∧ ∀ S', Frm [p, e, m] S S' → Φ S' (.bl true)
def sp__law_right : DSpec := fun ds S Φ _ => ∃ h n B hs t, ∃ c : Nat, ds = [.own h, .own B, .int c] ∧ FdAt S h n ∧ n < 2 ^ 70 ∧ TabH S B hs t ∧ h ≠ B ∧ h ∉ hs ∧ TabOk t ∧ c ≤ 88 ∧ ∀ S', FdAt S' h (n + 300000) → Φ S' (.bl true)
def sp__law_single_right : DSpec := fun ds S Φ _ => ∃ h n, ds = [.own h] ∧ FdAt S h n ∧ n < 2 ^ 70 ∧ ∀ S', FdAt S' h (n + 3000) → Φ S' (.bl true)
def sixty (a b c : List Int) : List (List Int) := (List.replicate 20 [a, b, c]).flatten
def twelve (a b c : List Int) : List (List Int) := [a, b, c, c, b, a, b, b, a, c, a, c]
/-- a page of these lines behind S -/
def newPage (C : Addr) (d : D) (t : List (List Int)) (S : Sto) (Φ : KD) : Prop := Φ (S ++ [.ins C (pageF d t (S.length + 1) (S.length + 2))] ++ [.lst []] ++ [.lst []]) (.own S.length)
def sp__law_sixty (C : Addr) : DSpec := fun ds S Φ _ => ∃ d a b c, ds = [d, rowD a, rowD b, rowD c] ∧ RowOk a ∧ RowOk b ∧ RowOk c ∧ newPage C d (sixty a b c) S Φ
def sp__law_sixty_one (C I : Addr) : DSpec := fun ds S Φ _ => ∃ d a b c, ds = [d, rowD a, rowD b, rowD c] ∧ RowOk a ∧ RowOk b ∧ RowOk c ∧ ∀ Z, Φ (S ++ Z) (.bl true)
def sp__law_twelve (C : Addr) : DSpec := fun ds S Φ _ => ∃ d a b c, ds = [d, rowD a, rowD b, rowD c] ∧ RowOk a ∧ RowOk b ∧ RowOk c ∧ newPage C d (twelve a b c) S Φ
def sp__law_many_right (Cs C : Addr) : DSpec := fun ds S Φ _ => ∃ ks g l a b c, ds = [styD Cs ks g l, rowD a, rowD b, rowD c] ∧ LookOk ks g l ∧ RowOk a ∧ RowOk b ∧ RowOk c ∧ ∀ S', Frm [] S S' → Φ S' (.bl true)
def sp__law_lists_right : DSpec := fun ds S Φ _ => ∃ h n B hs t, ds = [.own h, .own B] ∧ FdAt S h n ∧ TabH S B hs t ∧ h ≠ B ∧ h ∉ hs ∧ TabOk t ∧ t.length ≤ 30 ∧ ∀ S', FdAt S' h n → Φ S' (.bl true)
def sp_law : DSpec := fun ds S Φ _ => ∃ ns : List Int, ds = [.sq (ns.map D.int)] ∧ ∀ S, Φ S (.bl true)
abbrev N_is_integer : List Str := ["thing", "least", "most"]
abbrev P_is_integer : List Str := ["thing", "least", "most"]
abbrev N_is_cell : List Str := ["thing"]
abbrev P_is_cell : List Str := ["thing"]
abbrev N_is_line : List Str := ["thing", "cell"]
abbrev P_is_line : List Str := ["thing"]
abbrev N_is_table : List Str := ["thing", "line"]
abbrev P_is_table : List Str := ["thing"]
abbrev N_need_table : List Str := ["table"]
abbrev P_need_table : List Str := ["table"]
abbrev N_need_line : List Str := ["table", "line"]
abbrev P_need_line : List Str := ["table", "line"]
abbrev N_copy_of : List Str := ["table", "cells"]
abbrev P_copy_of : List Str := ["table"]
abbrev N_tabs_in : List Str := ["table", "cells"]
abbrev P_tabs_in : List Str := ["table"]
abbrev N_blocks_of_column : List Str := ["tabs", "column", "found", "first", "line", "many"]
abbrev P_blocks_of_column : List Str := ["tabs", "column"]
abbrev N_blocks_by_tabs : List Str := ["tabs", "found", "column"]
abbrev P_blocks_by_tabs : List Str := ["tabs"]
abbrev N_blocks_in : List Str := ["table"]
abbrev P_blocks_in : List Str := ["table"]
abbrev N_greatest_in : List Str := ["table", "block", "column", "first", "last", "cells"]
abbrev P_greatest_in : List Str := ["table", "block"]
abbrev N_room_of : List Str := ["table", "style", "block"]
abbrev P_room_of : List Str := ["table", "style", "block"]
abbrev N_rooms_in : List Str := ["table", "style", "found", "block", "room", "line", "cells"]
abbrev P_rooms_in : List Str := ["table", "style"]
abbrev N_stops_in : List Str := ["table", "style", "found", "rooms", "stop", "row", "room"]
abbrev P_stops_in : List Str := ["table", "style"]
abbrev N_ends_in : List Str := ["table", "style", "found", "cells", "row", "begin"]
abbrev P_ends_in : List Str := ["table", "style"]
abbrev N_width_in : List Str := ["table", "style"]
abbrev P_width_in : List Str := ["table", "style"]
abbrev N_stops : List Str := ["table", "style"]
abbrev P_stops : List Str := ["table", "style"]
abbrev N_width_of : List Str := ["table", "style"]
abbrev P_width_of : List Str := ["table", "style"]
abbrev N_need_cell : List Str := ["table", "line", "column", "cell"]
abbrev P_need_cell : List Str := ["table", "line", "column", "cell"]
abbrev N_changed : List Str := ["table", "line", "column", "cell", "found", "cells"]
abbrev P_changed : List Str := ["table", "line", "column", "cell"]
abbrev N_with_cell : List Str := ["table", "line", "column", "cell"]
abbrev P_with_cell : List Str := ["table", "line", "column", "cell"]
abbrev N_with_line : List Str := ["table", "line", "cells"]
abbrev P_with_line : List Str := ["table", "line", "cells"]
abbrev N_without_line : List Str := ["table", "line"]
abbrev P_without_line : List Str := ["table", "line"]
abbrev N_Page___init__ : List Str := ["self", "style", "lines", "row"]
abbrev P_Page___init__ : List Str := ["self", "style", "lines"]
abbrev P0_Page___init__ : List Str := ["self", "style"]
abbrev N_Page_of : List Str := ["cls", "style", "table"]
abbrev P_Page_of : List Str := ["cls", "style", "table"]
abbrev N_Page_table : List Str := ["self", "row"]
abbrev P_Page_table : List Str := ["self"]
abbrev N_Page_go_on : List Str := ["self", "lines"]
abbrev P_Page_go_on : List Str := ["self", "lines"]
abbrev N_Page_change : List Str := ["self", "line", "column", "cell"]
abbrev P_Page_change : List Str := ["self", "line", "column", "cell"]
abbrev N_Page_put : List Str := ["self", "line", "cells"]
abbrev P_Page_put : List Str := ["self", "line", "cells"]
abbrev N_Page_drop : List Str := ["self", "line"]
abbrev P_Page_drop : List Str := ["self", "line"]
abbrev N_Page_width : List Str := ["self"]
abbrev P_Page_width : List Str := ["self"]
abbrev N_Page_stops : List Str := ["self"]
abbrev P_Page_stops : List Str := ["self"]
abbrev N_Page_undo : List Str := ["self", "many"]
abbrev P_Page_undo : List Str := ["self"]
abbrev N_Page_mark : List Str := ["self"]
abbrev P_Page_mark : List Str := ["self"]
abbrev N_Page_undo_to : List Str := ["self", "index"]
abbrev P_Page_undo_to : List Str := ["self", "index"]
abbrev N_Page___len__ : List Str := ["self"]
abbrev P_Page___len__ : List Str := ["self"]
abbrev N_Page_twin : List Str := ["self", "other"]
abbrev P_Page_twin : List Str := ["self"]
abbrev N_are_kinds : List Str := ["thing", "name"]
abbrev P_are_kinds : List Str := ["thing"]
abbrev N_Style___init__ : List Str := ["self", "gap", "least", "kinds", "names"]
abbrev P_Style___init__ : List Str := ["self", "gap", "least", "kinds"]
abbrev P0_Style___init__ : List Str := ["self", "gap", "least"]
abbrev N_Style_of : List Str := ["cls", "kinds", "gap", "least"]
abbrev P_Style_of : List Str := ["cls", "kinds", "gap", "least"]
abbrev N_Style_gap : List Str := ["self"]
abbrev P_Style_gap : List Str := ["self"]
abbrev N_Style_least : List Str := ["self"]
abbrev P_Style_least : List Str := ["self"]
abbrev N__law_stock : List Str := ["_law_script", "_law_digits", "_law_mix", "_law_piece"]
abbrev P__law_stock : List Str := ["_law_script"]
abbrev N__law_roll : List Str := ["_law_stock_here", "_law_many", "_law_found", "_law_mixed"]
abbrev P__law_roll : List Str := ["_law_stock_here", "_law_many"]
abbrev N__law_row : List Str := ["_law_stock_here", "_law_most", "_law_manner", "_law_many", "_law_wide", "_law_found", "_law_spot"]
abbrev P__law_row : List Str := ["_law_stock_here", "_law_most", "_law_manner"]
abbrev N__law_grid : List Str := ["_law_stock_here", "_law_least_rows", "_law_most_rows", "_law_most", "_law_many", "_law_manner", "_law_way", "_law_found", "_law_first", "_law_spot", "_law_row_here"]
abbrev P__law_grid : List Str := ["_law_stock_here", "_law_least_rows", "_law_most_rows", "_law_most"]
abbrev N__law_look : List Str := ["_law_stock_here", "_law_many", "_law_names", "_law_sizes", "_law_turn", "_law_some", "_law_spot"]
abbrev P__law_look : List Str := ["_law_stock_here"]
abbrev N__law_copied : List Str := ["_law_rows", "_law_row_here"]
abbrev P__law_copied : List Str := ["_law_rows"]
abbrev N__law_edit : List Str := ["_law_stock_here", "_law_page", "_law_state", "_law_most", "_law_rows", "_law_way", "_law_later", "_law_at", "_law_spot", "_law_wide", "_law_row_here", "_law_told"]
abbrev P__law_edit : List Str := ["_law_stock_here", "_law_page", "_law_state", "_law_most"]
abbrev N__law_same : List Str := ["_law_page", "_law_state"]
abbrev P__law_same : List Str := ["_law_page", "_law_state"]
abbrev N__law_marked : List Str := ["_law_stock_here", "_law_page", "_law_state", "_law_calls", "_law_turn"]
abbrev P__law_marked : List Str := ["_law_stock_here", "_law_page", "_law_state", "_law_calls"]
abbrev N__law_emptied : List Str := ["_law_page", "_law_state", "_law_rank", "_law_here"]
abbrev P__law_emptied : List Str := ["_law_page", "_law_state"]
abbrev N__law_right : List Str := ["_law_stock_here", "_law_rows", "_law_calls", "_law_names", "_law_space", "_law_low", "_law_look_here", "_law_state", "_law_page", "_law_other", "_law_twin", "_law_held", "_law_third", "_law_mine"]
abbrev P__law_right : List Str := ["_law_stock_here", "_law_rows", "_law_calls"]
abbrev N__law_single_right : List Str := ["_law_stock_here", "_law_look_here", "_law_rows", "_law_pages", "_law_due", "_law_kept", "_law_told", "_law_first", "_law_turn", "_law_page", "_law_one"]
abbrev P__law_single_right : List Str := ["_law_stock_here"]
abbrev N__law_sixty : List Str := ["_law_look_here", "_law_a", "_law_b", "_law_c"]
abbrev P__law_sixty : List Str := ["_law_look_here", "_law_a", "_law_b", "_law_c"]
abbrev N__law_sixty_one : List Str := ["_law_look_here", "_law_a", "_law_b", "_law_c"]
abbrev P__law_sixty_one : List Str := ["_law_look_here", "_law_a", "_law_b", "_law_c"]
abbrev N__law_twelve : List Str := ["_law_look_here", "_law_a", "_law_b", "_law_c"]
abbrev P__law_twelve : List Str := ["_law_look_here", "_law_a", "_law_b", "_law_c"]
abbrev N__law_many_right : List Str := ["_law_look_here", "_law_a", "_law_b", "_law_c", "_law_page", "_law_few"]
abbrev P__law_many_right : List Str := ["_law_look_here", "_law_a", "_law_b", "_law_c"]
abbrev N__law_lists_right : List Str := ["_law_stock_here", "_law_rows", "_law_look_here", "_law_page", "_law_given", "_law_kept", "_law_told", "_law_row_here", "_law_first"]
abbrev P__law_lists_right : List Str := ["_law_stock_here", "_law_rows"]
abbrev N_law : List Str := ["_law_script", "_law_stock_here", "_law_turn", "_law_calls"]
abbrev P_law : List Str := ["_law_script"]
def conNAMES (C_Kind : Addr) : List (Addr × D) := [(C_Kind, .tup ((["left", "right", "center"] : List Str).map D.str))]
def T_is_integer : TSd :=
  (sRet (dAnd (dCB cIsi (lCons (dVar 0) (lCons (dC (.ty "int")) lNil))) (dAnd (dNot (dCB cIsi (lCons (dVar 0) (lCons (dC (.ty "bool")) lNil)))) (dChain dLe dLe (dVar 1) (dVar 0) (dVar 2)))))
def T_is_cell : TSd :=
  (sRet (dCall sp_is_integer (lCons (dVar 0) (lCons (dC (.int 0)) (lCons (dC (.int 1000000000000000000000000000000)) lNil)))))
def T_is_line : TSd :=
  (sRet (dAnd (dCB cIsi (lCons (dVar 0) (lCons (dC (.ty "list")) lNil))) (dAnd (dChain dLe dLe (dC (.int 1)) (dCB cLen (lCons (dVar 0) lNil)) (dC (.int 12))) (dCB cAll (lCons (dLc (iSeq (dVar 0)) (nmG 1) bYes (dCall sp_is_cell (lCons (dVar 1) lNil)) [1] finF) lNil)))))
def T_is_table : TSd :=
  (sRet (dAnd (dCB cIsi (lCons (dVar 0) (lCons (dC (.ty "list")) lNil))) (dAnd (dChain dLe dLe (dC (.int 1)) (dCB cLen (lCons (dVar 0) lNil)) (dC (.int 60))) (dCB cAll (lCons (dLc (iSeq (dVar 0)) (nmG 1) bYes (dCall sp_is_line (lCons (dVar 1) lNil)) [1] finF) lNil)))))
def T_need_table (C_InvalidTable : Addr) : TSd :=
  (sIf (bNot (bOf (dCall sp_is_table (lCons (dVar 0) lNil))))
  (sRaise C_InvalidTable)
  sNext)
def T_need_line (C_InvalidLine : Addr) : TSd :=
  (sIf (bNot (bOf (dCall sp_is_integer (lCons (dVar 1) (lCons (dC (.int 0)) (lCons (dOp dSub (dCB cLen (lCons (dVar 0) lNil)) (dC (.int 1))) lNil))))))
  (sRaise C_InvalidLine)
  sNext)
def T_copy_of : TSd :=
  (sRet (dLc (iSeq (dVar 0)) (nmG 1) bYes (dCB cListO (lCons (dVar 1) lNil)) [1] finO))
def T_tabs_in : TSd :=
  (sRet (dLc (iSeq (dVar 0)) (nmG 1) bYes (dOp dSub (dCB cLen (lCons (dVar 1) lNil)) (dC (.int 1))) [1] finF))
def T_blocks_of_column : TSd :=
  (sSeq (sAsg (dLstO lNil) (nmG 2))
  (sSeq (sAsg (dC .non) (nmG 3))
  (sSeq (sFor (iEnumD (lCons (dLst (lStar (dVar 0) (lCons (dC (.int 0)) lNil))) lNil)) (tupG 2 (gsCons (nmG 4) (gsCons (nmG 5) gsNil)))
  (sSeq (sJ (sIf (bAnd (bOf (dOp dGt (dVar 5) (dVar 1))) (bOf (dOp dIsN (dVar 3) (dC .non))))
  (sAsg (dVar 4) (nmG 3))
  sNext))
  (sJ (sIf (bAnd (bOf (dOp dLe (dVar 5) (dVar 1))) (bOf (dOp dNotN (dVar 3) (dC .non))))
  (sSeq (sDrop (dBM mAppend (dVar 2) (lCons (dTup (lCons (dVar 1) (lCons (dVar 3) (lCons (dOp dSub (dVar 4) (dC (.int 1))) lNil)))) lNil)))
  (sAsg (dC .non) (nmG 3)))
  sNext))))
  (sRet (dFz (dVar 2))))))
def T_blocks_by_tabs : TSd :=
  (sSeq (sAsg (dLstO lNil) (nmG 1))
  (sSeq (sFor (iRg1 (lCons (dOp dSub (dC (.int 12)) (dC (.int 1))) lNil)) (nmG 2)
  (sDrop (dBM mExtend (dVar 1) (lCons (dCall sp_blocks_of_column (lCons (dVar 0) (lCons (dVar 2) lNil))) lNil))))
  (sRet (dFz (dVar 1)))))
def T_blocks_in : TSd :=
  (sRet (dCall sp_blocks_by_tabs (lCons (dCall sp_tabs_in (lCons (dVar 0) lNil)) lNil)))
def T_greatest_in : TSd :=
  (sSeq (sAsg (dVar 1) (tupG 3 (gsCons (nmG 2) (gsCons (nmG 3) (gsCons (nmG 4) gsNil)))))
  (sRet (dCB cMax (lCons (dLc (iSeq (dSl dSlL (dVar 0) (oSome (dVar 3)) (oSome (dOp dAdd (dVar 4) (dC (.int 1)))))) (nmG 5) bYes (dOp dIx (dVar 5) (dVar 2)) [5] finF) lNil))))
def T_room_of (C_Style : Addr) : TSd :=
  (sRet (dCB cMax2 (lCons (dPropA C_Style (pkP 1 [0] [] (sp_Style_least C_Style)) (dVar 1)) (lCons (dCall sp_greatest_in (lCons (dVar 0) (lCons (dVar 2) lNil))) lNil))))
def T_rooms_in (C_Style : Addr) : TSd :=
  (sSeq (sAsg (dLc (iSeq (dVar 0)) (nmG 6) bYes (dLstO lNil) [6] finO) (nmG 2))
  (sSeq (sFor (iSeq (dCall sp_blocks_in (lCons (dVar 0) lNil))) (nmG 3)
  (sSeq (sAsg (dCall (sp_room_of C_Style) (lCons (dVar 0) (lCons (dVar 1) (lCons (dVar 3) lNil)))) (nmG 4))
  (sFor (iRg2 (lCons (dOp dIx (dVar 3) (dC (.int 1))) (lCons (dOp dAdd (dOp dIx (dVar 3) (dC (.int 2))) (dC (.int 1))) lNil))) (nmG 5)
  (sDrop (dBM mAppend (dOp dIx (dVar 2) (dVar 5)) (lCons (dVar 4) lNil))))))
  (sRet (dVar 2))))
def T_stops_in (C_Style : Addr) : TSd :=
  (sSeq (sAsg (dLstO lNil) (nmG 2))
  (sSeq (sFor (iSeq (dFz2 (dCall (sp_rooms_in C_Style) (lCons (dVar 0) (lCons (dVar 1) lNil))))) (nmG 3)
  (sSeq (sPar 4 5 (lCons (dC (.int 0)) (lCons (dLstO lNil) lNil)))
  (sSeq (sFor (iSeq (dVar 3)) (nmG 6)
  (sSeq (sAug 4 (dOp dAdd (dVar 6) (dPropA C_Style (pkP 1 [0] [] (sp_Style_gap C_Style)) (dVar 1))) dAddI)
  (sDrop (dBM mAppend (dVar 5) (lCons (dVar 4) lNil)))))
  (sDrop (dBM mAppend (dVar 2) (lCons (dVar 5) lNil))))))
  (sRet (dVar 2))))
def T_ends_in (C_Style : Addr) : TSd :=
  (sSeq (sAsg (dLstO lNil) (nmG 2))
  (sSeq (sFor (iZipD (lCons (dVar 0) (lCons (dFz2 (dCall (sp_stops_in C_Style) (lCons (dVar 0) (lCons (dVar 1) lNil)))) lNil))) (tupG 2 (gsCons (nmG 3) (gsCons (nmG 4) gsNil)))
  (sSeq (sAsg (dJ (dIf (bOf (dOp dNe (dVar 4) (dLst lNil))) (dOp dIx (dVar 4) (dUn uNeg (dC (.int 1)))) (dC (.int 0)))) (nmG 5))
  (sDrop (dBM mAppend (dVar 2) (lCons (dOp dAdd (dVar 5) (dOp dIx (dVar 3) (dUn uNeg (dC (.int 1))))) lNil)))))
  (sRet (dVar 2))))
def T_width_in (C_Style : Addr) : TSd :=
  (sRet (dCB cMax (lCons (dCall (sp_ends_in C_Style) (lCons (dVar 0) (lCons (dVar 1) lNil))) lNil)))
def T_stops (C_Style : Addr) : TSd :=
  (sSeq (sDrop (dCall sp_need_table (lCons (dVar 0) lNil)))
  (sRet (dCall (sp_stops_in C_Style) (lCons (dVar 0) (lCons (dVar 1) lNil)))))
def T_width_of (C_Style : Addr) : TSd :=
  (sSeq (sDrop (dCall sp_need_table (lCons (dVar 0) lNil)))
  (sRet (dCall (sp_width_in C_Style) (lCons (dVar 0) (lCons (dVar 1) lNil)))))
def T_need_cell (C_InvalidColumn C_InvalidCell : Addr) : TSd :=
  (sSeq (sDrop (dCall sp_need_table (lCons (dVar 0) lNil)))
  (sSeq (sDrop (dCall sp_need_line (lCons (dVar 0) (lCons (dVar 1) lNil))))
  (sSeq (sIf (bNot (bOf (dChain dLe dLt (dC (.int 0)) (dVar 2) (dCB cLen (lCons (dOp dIx (dVar 0) (dVar 1)) lNil)))))
  (sRaise C_InvalidColumn)
  sNext)
  (sIf (bNot (bOf (dCall sp_is_cell (lCons (dVar 3) lNil))))
  (sRaise C_InvalidCell)
  sNext))))
def T_changed : TSd :=
  (sSeq (sAsg (dCall sp_copy_of (lCons (dVar 0) lNil)) (nmG 4))
  (sSeq (sAsg (dOp dIx (dVar 4) (dVar 1)) (nmG 5))
  (sSeq (sAsg (dVar 3) (subG dSetO (dVar 5) (dVar 2)))
  (sRet (dVar 4)))))
def T_with_cell : TSd :=
  (sSeq (sDrop (dCall sp_need_cell (lCons (dVar 0) (lCons (dVar 1) (lCons (dVar 2) (lCons (dVar 3) lNil))))))
  (sRet (dCall sp_changed (lCons (dVar 0) (lCons (dVar 1) (lCons (dVar 2) (lCons (dVar 3) lNil)))))))
def T_with_line (C_InvalidLine C_InvalidCell C_InvalidTable : Addr) : TSd :=
  (sSeq (sDrop (dCall sp_need_table (lCons (dVar 0) lNil)))
  (sSeq (sIf (bNot (bOf (dChain dLe dLe (dC (.int 0)) (dVar 1) (dCB cLen (lCons (dVar 0) lNil)))))
  (sRaise C_InvalidLine)
  sNext)
  (sSeq (sIf (bNot (bOf (dCall sp_is_line (lCons (dVar 2) lNil))))
  (sRaise C_InvalidCell)
  sNext)
  (sSeq (sIf (bOf (dOp dEq (dCB cLen (lCons (dVar 0) lNil)) (dC (.int 60))))
  (sRaise C_InvalidTable)
  sNext)
  (sRet (dCall sp_copy_of (lCons (dOp dAdd (dOp dAdd (dSl dSlL (dVar 0) oNone (oSome (dVar 1))) (dLst (lCons (dVar 2) lNil))) (dSl dSlL (dVar 0) (oSome (dVar 1)) oNone)) lNil)))))))
def T_without_line (C_InvalidTable : Addr) : TSd :=
  (sSeq (sDrop (dCall sp_need_table (lCons (dVar 0) lNil)))
  (sSeq (sDrop (dCall sp_need_line (lCons (dVar 0) (lCons (dVar 1) lNil))))
  (sSeq (sIf (bOf (dOp dEq (dCB cLen (lCons (dVar 0) lNil)) (dC (.int 1))))
  (sRaise C_InvalidTable)
  sNext)
  (sRet (dCall sp_copy_of (lCons (dOp dAdd (dSl dSlL (dVar 0) oNone (oSome (dVar 1))) (dSl dSlL (dVar 0) (oSome (dOp dAdd (dVar 1) (dC (.int 1)))) oNone)) lNil))))))
def T_Page___init__ (C_InvalidTable C_Page : Addr) : TSd :=
  (sSeq (sIf (bNot (bOf (dCall sp_is_table (lCons (dCB cList (lCons (dVar 2) lNil)) lNil))))
  (sRaise C_InvalidTable)
  sNext)
  (sSeq (sFldS C_Page "own_style" (dVar 0) (dVar 1))
  (sSeq (sFldS C_Page "own_lines" (dVar 0) (dLc (iTupD (dVar 2)) (nmG 3) bYes (dCB cList (lCons (dVar 3) lNil)) [3] finF))
  (sSeq (sFldS C_Page "earlier" (dVar 0) (dLstO lNil))
  (sFldS C_Page "marked" (dVar 0) (dLstO lNil))))))
def T_Page_of (C_InvalidTable C_Page : Addr) : TSd :=
  (sSeq (sIf (bNot (bOf (dCall sp_is_table (lCons (dVar 2) lNil))))
  (sRaise C_InvalidTable)
  sNext)
  (sRet (dMakeV 0 C_Page (pkS true 2 [0, 1] [] (sp_Page___init__ C_Page C_InvalidTable)) (d2 (lCons (dVar 1) (lStar (dVar 2) lNil)) lNil 0))))
def T_Page_table (C_Page : Addr) : TSd :=
  (sRet (dLc (iSeq (dFld C_Page "own_lines" (dVar 0))) (nmG 1) bYes (dCB cListO (lCons (dVar 1) lNil)) [1] finO))
def T_Page_go_on (C_Page : Addr) : TSd :=
  (sSeq (sDrop (dBM mAppend (dFld C_Page "earlier" (dVar 0)) (lCons (dFld C_Page "own_lines" (dVar 0)) lNil)))
  (sFldS C_Page "own_lines" (dVar 0) (dVar 1)))
def T_Page_change (C_Page : Addr) : TSd :=
  (sDrop (dMethA C_Page "go_on" (pkP 2 [0, 1] [] (sp_Page_go_on C_Page)) (dVar 0) (d2 (lCons (dFz2 (dCall sp_with_cell (lCons (dFld C_Page "own_lines" (dVar 0)) (lCons (dVar 1) (lCons (dVar 2) (lCons (dVar 3) lNil)))))) lNil) lNil 0)))
def T_Page_put (C_Page : Addr) : TSd :=
  (sDrop (dMethA C_Page "go_on" (pkP 2 [0, 1] [] (sp_Page_go_on C_Page)) (dVar 0) (d2 (lCons (dFz2 (dCall sp_with_line (lCons (dFld C_Page "own_lines" (dVar 0)) (lCons (dVar 1) (lCons (dVar 2) lNil))))) lNil) lNil 0)))
def T_Page_drop (C_Page : Addr) : TSd :=
  (sDrop (dMethA C_Page "go_on" (pkP 2 [0, 1] [] (sp_Page_go_on C_Page)) (dVar 0) (d2 (lCons (dFz2 (dCall sp_without_line (lCons (dFld C_Page "own_lines" (dVar 0)) (lCons (dVar 1) lNil)))) lNil) lNil 0)))
def T_Page_width (C_Page C_Style : Addr) : TSd :=
  (sRet (dCall (sp_width_of C_Style) (lCons (dFld C_Page "own_lines" (dVar 0)) (lCons (dFld C_Page "own_style" (dVar 0)) lNil))))
def T_Page_stops (C_Page C_Style : Addr) : TSd :=
  (sRet (dCall (sp_stops C_Style) (lCons (dFld C_Page "own_lines" (dVar 0)) (lCons (dFld C_Page "own_style" (dVar 0)) lNil))))
def T_Page_undo (C_Page C_NothingToUndo : Addr) : TSd :=
  (sSeq (sIf (bOf (dOp dEq (dFld C_Page "earlier" (dVar 0)) (dLst lNil)))
  (sRaise C_NothingToUndo)
  sNext)
  (sSeq (sFldS C_Page "own_lines" (dVar 0) (dBM0 mPop (dFld C_Page "earlier" (dVar 0))))
  (sFldS C_Page "marked" (dVar 0) (dLc (iSeq (dFld C_Page "marked" (dVar 0))) (nmG 1) (bOf (dOp dLe (dVar 1) (dCB cLen (lCons (dFld C_Page "earlier" (dVar 0)) lNil)))) (dVar 1) [1] finO))))
def T_Page_mark (C_Page : Addr) : TSd :=
  (sSeq (sDrop (dBM mAppend (dFld C_Page "marked" (dVar 0)) (lCons (dCB cLen (lCons (dFld C_Page "earlier" (dVar 0)) lNil)) lNil)))
  (sRet (dOp dSub (dCB cLen (lCons (dFld C_Page "marked" (dVar 0)) lNil)) (dC (.int 1)))))
def T_Page_undo_to (C_Page C_InvalidNumber : Addr) : TSd :=
  (sSeq (sIf (bNot (bOf (dChain dLe dLt (dC (.int 0)) (dVar 1) (dCB cLen (lCons (dFld C_Page "marked" (dVar 0)) lNil)))))
  (sRaise C_InvalidNumber)
  sNext)
  (sSeq (sWhile (bOf (dOp dGt (dCB cLen (lCons (dFld C_Page "earlier" (dVar 0)) lNil)) (dOp dIx (dFld C_Page "marked" (dVar 0)) (dVar 1))))
  (sFldS C_Page "own_lines" (dVar 0) (dBM0 mPop (dFld C_Page "earlier" (dVar 0)))))
  (sFldS C_Page "marked" (dVar 0) (dSl dSlO (dFld C_Page "marked" (dVar 0)) oNone (oSome (dOp dAdd (dVar 1) (dC (.int 1))))))))
def T_Page___len__ (C_Page : Addr) : TSd :=
  (sRet (dCB cLen (lCons (dFld C_Page "earlier" (dVar 0)) lNil)))
def T_Page_twin (C_Page C_InvalidTable : Addr) : TSd :=
  (sSeq (sAsg (dMakeA C_Page (pkS true 2 [0, 1] [] (sp_Page___init__ C_Page C_InvalidTable)) (d2 (lCons (dFld C_Page "own_style" (dVar 0)) (lStar (dFld C_Page "own_lines" (dVar 0)) lNil)) lNil 0)) (nmG 1))
  (sSeq (sFldS C_Page "earlier" (dVar 1) (dCB cListO (lCons (dFld C_Page "earlier" (dVar 0)) lNil)))
  (sSeq (sFldS C_Page "marked" (dVar 1) (dCB cListO (lCons (dFld C_Page "marked" (dVar 0)) lNil)))
  (sRet (dVar 1)))))
def T_are_kinds (C_Kind : Addr) : TSd :=
  (sSeq (sIf (bOr (bNot (bOf (dCB cIsi (lCons (dVar 0) (lCons (dC (.ty "list")) lNil))))) (bNot (bOf (dChain dLe dLe (dC (.int 1)) (dCB cLen (lCons (dVar 0) lNil)) (dC (.int 12))))))
  (sRet (dC (.bl false)))
  sNext)
  (sRet (dCB cAll (lCons (dLc (iSeq (dVar 0)) (nmG 1) bYes (dAnd (dCB cIsi (lCons (dVar 1) (lCons (dC (.ty "str")) lNil))) (dOp (dIn false) (dVar 1) (dCVal (conNAMES C_Kind) "NAMES" (dC (.obj C_Kind))))) [1] finF) lNil))))
def T_Style___init__ (C_InvalidStyle C_Style : Addr) : TSd :=
  (sSeq (sAsg (dJ (dIf (bOf (dOp dGt (dCB cLen (lCons (dVar 3) lNil)) (dC (.int 0)))) (dCB cList (lCons (dVar 3) lNil)) (dLst (lCons (dC (.str "left")) lNil)))) (nmG 4))
  (sSeq (sIf (bOr (bNot (bOf (dCall sp_are_kinds (lCons (dVar 4) lNil)))) (bOr (bNot (bOf (dCall sp_is_cell (lCons (dVar 1) lNil)))) (bNot (bOf (dCall sp_is_cell (lCons (dVar 2) lNil))))))
  (sRaise C_InvalidStyle)
  sNext)
  (sSeq (sFldS C_Style "held_kinds" (dVar 0) (dVar 4))
  (sSeq (sFldS C_Style "held_gap" (dVar 0) (dVar 1))
  (sFldS C_Style "held_least" (dVar 0) (dVar 2))))))
def T_Style_of (C_InvalidStyle C_Style : Addr) : TSd :=
  (sSeq (sIf (bNot (bOf (dCall sp_are_kinds (lCons (dVar 1) lNil))))
  (sRaise C_InvalidStyle)
  sNext)
  (sRet (dMakeV 0 C_Style (pkS true 1 [0, 1, 2] [] (sp_Style___init__ C_Style)) (dLone (dVar 1) (lCons (dVar 2) (lCons (dVar 3) lNil)) 2))))
def T_Style_gap (C_Style : Addr) : TSd :=
  (sRet (dFld C_Style "held_gap" (dVar 0)))
def T_Style_least (C_Style : Addr) : TSd :=
  (sRet (dFld C_Style "held_least" (dVar 0)))
def T__law_stock : TSd :=
  (sSeq (sAsg (dTup (lCons (dC (.int 0)) (lCons (dC (.int 4120)) lNil))) (tupG 2 (gsCons (nmG 1) (gsCons (nmG 2) gsNil))))
  (sSeq (sFor (iSeq (dSl dSlL (dVar 0) oNone (oSome (dC (.int 60))))) (nmG 3)
  (sSeq (sJ (sIf (bOf (dOp dGe (dCB cAbs (lCons (dVar 3) lNil)) (dOp dPow (dC (.int 10)) (dC (.int 18)))))
  (sAsg (dOp dAdd (dOp dMul (dVar 1) (dOp dPow (dOp dPow (dC (.int 10)) (dC (.int 60))) (dC (.int 5)))) (dOp dMod (dCB cAbs (lCons (dVar 3) lNil)) (dOp dPow (dOp dPow (dC (.int 10)) (dC (.int 60))) (dC (.int 5))))) (nmG 1))
  sNext))
  (sAsg (dOp dMod (dOp dAdd (dOp dAdd (dOp dMul (dVar 2) (dC (.int 1000003))) (dOp dMod (dVar 3) (dC (.int 2305843009213693951)))) (dC (.int 7))) (dC (.int 170141183460469231731687303715884105727))) (nmG 2))))
  (sRet (dLstO (lCons (dVar 1) (lCons (dVar 2) (lCons (dC (.int 0)) lNil)))))))
def T__law_roll : TSd :=
  (sSeq (sIf (bOf (dOp dGt (dOp dIx (dVar 0) (dC (.int 0))) (dC (.int 0))))
  (sSeq (sAsg (dOp dMod (dOp dIx (dVar 0) (dC (.int 0))) (dVar 1)) (nmG 2))
  (sSeq (sAsg (dOp dDiv (dOp dIx (dVar 0) (dC (.int 0))) (dVar 1)) (subG dSetO (dVar 0) (dC (.int 0))))
  (sRet (dVar 2))))
  sNext)
  (sSeq (sAsg (dOp dAdd (dOp dIx (dVar 0) (dC (.int 2))) (dC (.int 1))) (subG dSetO (dVar 0) (dC (.int 2))))
  (sSeq (sAsg (dOp dMod (dOp dPow (dOp dAdd (dOp dIx (dVar 0) (dC (.int 1))) (dOp dMul (dC (.int 15487469)) (dOp dIx (dVar 0) (dC (.int 2))))) (dC (.int 3))) (dC (.int 170141183460469231731687303715884105727))) (nmG 3))
  (sSeq (sAsg (dOp dMod (dOp dPow (dOp dAdd (dVar 3) (dOp dMul (dC (.int 32452867)) (dOp dIx (dVar 0) (dC (.int 2))))) (dC (.int 3))) (dOp dAdd (dOp dPow (dC (.int 10)) (dC (.int 38))) (dC (.int 133)))) (nmG 3))
  (sRet (dOp dMod (dOp dDiv (dVar 3) (dC (.int 65537))) (dVar 1)))))))
def T__law_row : TSd :=
  (sSeq (sPar 3 4 (lCons (dOp dAdd (dC (.int 1)) (dCall sp__law_roll (lCons (dVar 0) (lCons (dVar 1) lNil)))) (lCons (dOp dIx (dLst (lCons (dC (.int 4)) (lCons (dC (.int 30)) (lCons (dOp dAdd (dOp dPow (dC (.int 10)) (dC (.int 30))) (dC (.int 1))) (lCons (dC (.int 3)) (lCons (dC (.int 1)) lNil)))))) (dVar 2)) lNil)))
  (sSeq (sAsg (dLstO lNil) (nmG 5))
  (sSeq (sFor (iRg1 (lCons (dVar 3) lNil)) (nmG 6)
  (sDrop (dBM mAppend (dVar 5) (lCons (dOp dMul (dCall sp__law_roll (lCons (dVar 0) (lCons (dVar 4) lNil))) (dCB cInt (lCons (dOr (dOp dNeF (dVar 2) (dC (.int 3))) (dOp dEqF (dCall sp__law_roll (lCons (dVar 0) (lCons (dC (.int 3)) lNil))) (dC (.int 0)))) lNil))) lNil))))
  (sSeq (sJ (sIf (bAnd (bOf (dOp dEqF (dVar 2) (dC (.int 2)))) (bOf (dOp dEqF (dCall sp__law_roll (lCons (dVar 0) (lCons (dC (.int 3)) lNil))) (dC (.int 0)))))
  (sAsg (dOp dPow (dC (.int 10)) (dC (.int 30))) (subG dSetO (dVar 5) (dCall sp__law_roll (lCons (dVar 0) (lCons (dVar 3) lNil)))))
  sNext))
  (sRet (dVar 5))))))
def T__law_grid : TSd :=
  (sSeq (sAsg (dOp dAdd (dVar 1) (dCall sp__law_roll (lCons (dVar 0) (lCons (dOp dAdd (dOp dSub (dVar 2) (dVar 1)) (dC (.int 1))) lNil)))) (nmG 4))
  (sSeq (sPar3 5 6 7 (lCons (dCall sp__law_roll (lCons (dVar 0) (lCons (dC (.int 5)) lNil))) (lCons (dCall sp__law_roll (lCons (dVar 0) (lCons (dC (.int 4)) lNil))) (lCons (dLstO lNil) lNil))))
  (sSeq (sAsg (dCall sp__law_row (lCons (dVar 0) (lCons (dVar 3) (lCons (dVar 5) lNil)))) (nmG 8))
  (sSeq (sFor (iRg1 (lCons (dVar 4) lNil)) (nmG 9)
  (sSeq (sAsg (dCall sp__law_row (lCons (dVar 0) (lCons (dOp dIx (dLst (lCons (dVar 3) (lCons (dVar 3) (lCons (dOp dAdd (dC (.int 1)) (dCall sp__law_roll (lCons (dVar 0) (lCons (dVar 3) lNil)))) (lCons (dC (.int 2)) lNil))))) (dVar 6)) (lCons (dVar 5) lNil)))) (nmG 10))
  (sSeq (sJ (sIf (bOf (dOp dEqF (dVar 6) (dC (.int 1))))
  (sAsg (dSl dSlO (dOp dAdd (dOp dAdd (dVar 10) (dVar 8)) (dOp dMul (dLst (lCons (dC (.int 0)) lNil)) (dVar 3))) oNone (oSome (dCB cLen (lCons (dVar 8) lNil)))) (nmG 10))
  sNext))
  (sSeq (sJ (sIf (bAnd (bOf (dOp dEqF (dVar 6) (dC (.int 2)))) (bOf (dOp dEqF (dCall sp__law_roll (lCons (dVar 0) (lCons (dC (.int 4)) lNil))) (dC (.int 0)))))
  (sAsg (dSl dSlO (dVar 10) oNone (oSome (dC (.int 1)))) (nmG 10))
  sNext))
  (sDrop (dBM mAppend (dVar 7) (lCons (dVar 10) lNil)))))))
  (sRet (dVar 7))))))
def T__law_look : TSd :=
  (sSeq (sAsg (dOp dAdd (dC (.int 1)) (dCall sp__law_roll (lCons (dVar 0) (lCons (dOp dIx (dLst (lCons (dC (.int 3)) (lCons (dC (.int 12)) lNil))) (dCall sp__law_roll (lCons (dVar 0) (lCons (dC (.int 2)) lNil)))) lNil)))) (nmG 1))
  (sSeq (sAsg (dLc (iRg1 (lCons (dVar 1) lNil)) (nmG 6) bYes (dOp dIx (dLst (lCons (dC (.str "left")) (lCons (dC (.str "right")) (lCons (dC (.str "center")) lNil)))) (dCall sp__law_roll (lCons (dVar 0) (lCons (dC (.int 3)) lNil)))) [6] finF) (nmG 2))
  (sSeq (sAsg (dLstO lNil) (nmG 3))
  (sSeq (sFor (iRg1 (lCons (dC (.int 2)) lNil)) (nmG 4)
  (sSeq (sAsg (dLst (lCons (dC (.int 0)) (lCons (dC (.int 1)) (lCons (dC (.int 2)) (lCons (dCall sp__law_roll (lCons (dVar 0) (lCons (dC (.int 9)) lNil))) (lCons (dCall sp__law_roll (lCons (dVar 0) (lCons (dOp dAdd (dOp dPow (dC (.int 10)) (dC (.int 30))) (dC (.int 1))) lNil))) lNil)))))) (nmG 5))
  (sDrop (dBM mAppend (dVar 3) (lCons (dOp dIx (dVar 5) (dCall sp__law_roll (lCons (dVar 0) (lCons (dC (.int 5)) lNil)))) lNil)))))
  (sRet (dTup (lCons (dVar 2) (lCons (dOp dIx (dVar 3) (dC (.int 0))) (lCons (dOp dIx (dVar 3) (dC (.int 1))) lNil)))))))))
def T__law_copied : TSd :=
  (sRet (dLc (iSeq (dVar 0)) (nmG 1) bYes (dCB cListO (lCons (dVar 1) lNil)) [1] finO))
def T__law_edit (C_Page : Addr) : TSd :=
  (sSeq (sPar 4 5 (lCons (dOp dIx (dVar 2) (dC (.int 0))) (lCons (dCall sp__law_roll (lCons (dVar 0) (lCons (dC (.int 6)) lNil))) lNil)))
  (sSeq (sPar 6 7 (lCons (dCall sp__law_copied (lCons (dVar 4) lNil)) (lCons (dCall sp__law_roll (lCons (dVar 0) (lCons (dCB cLen (lCons (dVar 4) lNil)) lNil))) lNil)))
  (sSeq (sJ (sIf (bOf (dOp dLt (dVar 5) (dC (.int 3))))
  (sSeq (sAsg (dCall sp__law_roll (lCons (dVar 0) (lCons (dCB cLen (lCons (dOp dIx (dVar 4) (dVar 7)) lNil)) lNil))) (nmG 8))
  (sSeq (sAsg (dOp dIx (dLst (lCons (dCall sp__law_roll (lCons (dVar 0) (lCons (dC (.int 9)) lNil))) (lCons (dCall sp__law_roll (lCons (dVar 0) (lCons (dOp dAdd (dOp dPow (dC (.int 10)) (dC (.int 30))) (dC (.int 1))) lNil))) (lCons (dC (.int 0)) lNil)))) (dCall sp__law_roll (lCons (dVar 0) (lCons (dC (.int 3)) lNil)))) (nmG 9))
  (sSeq (sAsg (dOp dIx (dVar 6) (dVar 7)) (nmG 10))
  (sSeq (sAsg (dVar 9) (subG dSetO (dVar 10) (dVar 8)))
  (sAsg (dJ (dIf (bOf (dOp dGt (dVar 5) (dC (.int 0)))) (dMethA C_Page "change" (pkP 4 [0, 1, 2, 3] [] (sp_Page_change C_Page)) (dVar 1) (d2 (lCons (dVar 7) (lCons (dVar 8) (lCons (dVar 9) lNil))) lNil 0)) (dMethA C_Page "change" (pkP 1 [0, 3, 2, 1] [] (sp_Page_change C_Page)) (dVar 1) (d2 lNil (lCons (dVar 9) (lCons (dVar 8) (lCons (dVar 7) lNil))) 3)))) (nmG 11))))))
  (sJ (sIf (bAnd (bOf (dOp dGt (dCB cLen (lCons (dVar 4) lNil)) (dC (.int 1)))) (bOr (bOf (dOp dEqF (dVar 5) (dC (.int 3)))) (bOf (dOp dGe (dCB cLen (lCons (dVar 4) lNil)) (dVar 3)))))
  (sSeq (sDrop (dBM mPopAt (dVar 6) (lCons (dVar 7) lNil)))
  (sAsg (dJ (dIf (bOf (dOp dEqF (dCall sp__law_roll (lCons (dVar 0) (lCons (dC (.int 2)) lNil))) (dC (.int 0)))) (dMethA C_Page "drop" (pkP 2 [0, 1] [] (sp_Page_drop C_Page)) (dVar 1) (d2 (lCons (dVar 7) lNil) lNil 0)) (dMethA C_Page "drop" (pkP 1 [0, 1] [] (sp_Page_drop C_Page)) (dVar 1) (d2 lNil (lCons (dVar 7) lNil) 1)))) (nmG 11)))
  (sJ (sIf (bOf (dOp dLt (dCB cLen (lCons (dVar 4) lNil)) (dVar 3)))
  (sSeq (sAsg (dCall sp__law_roll (lCons (dVar 0) (lCons (dOp dAdd (dCB cLen (lCons (dVar 4) lNil)) (dC (.int 1))) lNil))) (nmG 7))
  (sSeq (sAsg (dCall sp__law_row (lCons (dVar 0) (lCons (dOp dIx (dLst (lCons (dC (.int 12)) (lCons (dC (.int 3)) lNil))) (dCall sp__law_roll (lCons (dVar 0) (lCons (dC (.int 2)) lNil)))) (lCons (dCall sp__law_roll (lCons (dVar 0) (lCons (dC (.int 5)) lNil))) lNil)))) (nmG 10))
  (sSeq (sDrop (dBM mIns (dVar 6) (lCons (dVar 7) (lCons (dCB cListO (lCons (dVar 10) lNil)) lNil))))
  (sSeq (sAsg (dJ (dIf (bOf (dOp dEqF (dVar 5) (dC (.int 4)))) (dMethA C_Page "put" (pkP 3 [0, 1, 2] [] (sp_Page_put C_Page)) (dVar 1) (d2 (lCons (dVar 7) (lCons (dVar 10) lNil)) lNil 0)) (dMethA C_Page "put" (pkP 1 [0, 2, 1] [] (sp_Page_put C_Page)) (dVar 1) (d2 lNil (lCons (dVar 10) (lCons (dVar 7) lNil)) 2)))) (nmG 11))
  (sDrop (dBM mAppend (dVar 10) (lCons (dC (.int 7)) lNil)))))))
  (sSeq (sAsg (dOp dIx (dVar 6) (dVar 7)) (nmG 10))
  (sSeq (sAsg (dC (.int 5)) (subG dSetO (dVar 10) (dC (.int 0))))
  (sAsg (dMethA C_Page "change" (pkP 4 [0, 1, 2, 3] [] (sp_Page_change C_Page)) (dVar 1) (d2 (lCons (dVar 7) (lCons (dC (.int 0)) (lCons (dC (.int 5)) lNil))) lNil 0)) (nmG 11))))))))))
  (sSeq (sAsg (dOp dAdd (dOp dIx (dVar 2) (dC (.int 1))) (dLst (lCons (dVar 4) lNil))) (subG dSetO (dVar 2) (dC (.int 1))))
  (sSeq (sAsg (dFz2 (dVar 6)) (subG dSetO (dVar 2) (dC (.int 0))))
  (sRet (dOp dIsN (dVar 11) (dC .non))))))))
def T__law_same (C_Page : Addr) : TSd :=
  (sRet (dAnd (dOp dEq (dCB cRepr (lCons (dPropA C_Page (pkP 1 [0] [] (sp_Page_table C_Page)) (dVar 0)) lNil)) (dCB cRepr (lCons (dOp dIx (dVar 1) (dC (.int 0))) lNil))) (dOp dEqF (dCB cStrI (lCons (dCB (cLenI C_Page (pkP 1 [0] [] (sp_Page___len__ C_Page))) (lCons (dVar 0) lNil)) lNil)) (dCB cStrI (lCons (dCB cLen (lCons (dOp dIx (dVar 1) (dC (.int 1))) lNil)) lNil)))))
def T__law_marked (C_Page : Addr) : TSd :=
  (sSeq (sFor (iRg1 (lCons (dVar 3) lNil)) (nmG 4)
  (sJ (sIf (bOf (dOp dEqF (dCall sp__law_roll (lCons (dVar 0) (lCons (dC (.int 3)) lNil))) (dC (.int 0))))
  (sSeq (sAsg (dOp dAdd (dOp dIx (dVar 2) (dC (.int 2))) (dLst (lCons (dCB cLen (lCons (dOp dIx (dVar 2) (dC (.int 1))) lNil)) lNil))) (subG dSetO (dVar 2) (dC (.int 2))))
  (sIf (bOf (dOp dNeF (dMethA C_Page "mark" (pkP 1 [0] [] (sp_Page_mark C_Page)) (dVar 1) (d2 lNil lNil 0)) (dOp dSub (dCB cLen (lCons (dOp dIx (dVar 2) (dC (.int 2))) lNil)) (dC (.int 1)))))
  (sRet (dC (.bl false)))
  sNext))
  (sIf (bNot (bOf (dCall (sp__law_edit C_Page) (lCons (dVar 0) (lCons (dVar 1) (lCons (dVar 2) (lCons (dC (.int 9)) lNil)))))))
  (sRet (dC (.bl false)))
  sNext))))
  (sRet (dCall (sp__law_same C_Page) (lCons (dVar 1) (lCons (dVar 2) lNil)))))
def T__law_emptied (C_Page : Addr) : TSd :=
  (sSeq (sFor (iRg3 (lCons (dOp dSub (dCB cLen (lCons (dOp dIx (dVar 1) (dC (.int 2))) lNil)) (dC (.int 1))) (lCons (dUn uNeg (dC (.int 1))) (lCons (dUn uNeg (dC (.int 1))) lNil)))) (nmG 2)
  (sSeq (sDrop (dMethA C_Page "undo_to" (pkP 2 [0, 1] [] (sp_Page_undo_to C_Page)) (dVar 0) (d2 (lCons (dVar 2) lNil) lNil 0)))
  (sSeq (sAsg (dOp dIx (dOp dAdd (dOp dIx (dVar 1) (dC (.int 1))) (dLst (lCons (dOp dIx (dVar 1) (dC (.int 0))) lNil))) (dOp dIx (dOp dIx (dVar 1) (dC (.int 2))) (dVar 2))) (nmG 3))
  (sIf (bOr (bOf (dOp dNe (dCB cRepr (lCons (dPropA C_Page (pkP 1 [0] [] (sp_Page_table C_Page)) (dVar 0)) lNil)) (dCB cRepr (lCons (dVar 3) lNil)))) (bOf (dOp dNeF (dCB (cLenI C_Page (pkP 1 [0] [] (sp_Page___len__ C_Page))) (lCons (dVar 0) lNil)) (dOp dIx (dOp dIx (dVar 1) (dC (.int 2))) (dVar 2)))))
  (sRet (dC (.bl false)))
  sNext))))
  (sSeq (sWhile (bOf (dOp dGt (dCB (cLenI C_Page (pkP 1 [0] [] (sp_Page___len__ C_Page))) (lCons (dVar 0) lNil)) (dC (.int 0))))
  (sDrop (dMethA C_Page "undo" (pkP 1 [0] [] (sp_Page_undo C_Page)) (dVar 0) (d2 lNil lNil 0))))
  (sRet (dOp dEq (dCB cRepr (lCons (dPropA C_Page (pkP 1 [0] [] (sp_Page_table C_Page)) (dVar 0)) lNil)) (dCB cRepr (lCons (dOp dIx (dOp dAdd (dOp dIx (dVar 1) (dC (.int 1))) (dLst (lCons (dOp dIx (dVar 1) (dC (.int 0))) lNil))) (dC (.int 0))) lNil))))))
def T__law_right (C_Style C_Page : Addr) : TSd :=
  (sSeq (sAsg (dCall sp__law_look (lCons (dVar 0) lNil)) (tupG 3 (gsCons (nmG 3) (gsCons (nmG 4) (gsCons (nmG 5) gsNil)))))
  (sSeq (sPar 6 7 (lCons (dFzI (dCMethA C_Style (pkP 4 [0, 1, 2, 3] [] (sp_Style_of C_Style)) (dC (.obj C_Style)) (d2 (lCons (dVar 3) (lCons (dVar 4) (lCons (dVar 5) lNil))) lNil 0))) (lCons (dLstO (lCons (dFz2 (dCall sp__law_copied (lCons (dVar 1) lNil))) (lCons (dLst lNil) (lCons (dLst lNil) lNil)))) lNil)))
  (sSeq (sPar 8 9 (lCons (dCMethA C_Page (pkP 3 [0, 1, 2] [] (sp_Page_of C_Page)) (dC (.obj C_Page)) (d2 (lCons (dVar 6) (lCons (dVar 1) lNil)) lNil 0)) (lCons (dCMethA C_Page (pkP 1 [0, 1, 2] [] (sp_Page_of C_Page)) (dC (.obj C_Page)) (d2 lNil (lCons (dVar 6) (lCons (dVar 1) lNil)) 2)) lNil)))
  (sSeq (sIf (bNot (bOf (dCall (sp__law_marked C_Page) (lCons (dVar 0) (lCons (dVar 8) (lCons (dVar 7) (lCons (dVar 2) lNil)))))))
  (sRet (dC (.bl false)))
  sNext)
  (sSeq (sIf (bOr (bOf (dOp (dIdI [C_Page] false) (dVar 8) (dVar 9))) (bNot (bOf (dOp (dIdI [C_Page] false) (dVar 8) (dVar 8)))))
  (sRet (dC (.bl false)))
  sNext)
  (sSeq (sPar 10 11 (lCons (dMethA C_Page "twin" (pkP 1 [0] [] (sp_Page_twin C_Page)) (dVar 8) (d2 lNil lNil 0)) (lCons (dLstO (lCons (dOp dIx (dVar 7) (dC (.int 0))) (lCons (dCB cList (lCons (dOp dIx (dVar 7) (dC (.int 1))) lNil)) (lCons (dCB cList (lCons (dOp dIx (dVar 7) (dC (.int 2))) lNil)) lNil)))) lNil)))
  (sSeq (sAsg (dMethA C_Page "twin" (pkP 1 [0] [] (sp_Page_twin C_Page)) (dVar 10) (d2 lNil lNil 0)) (nmG 12))
  (sSeq (sAsg (dLstO (lCons (dOp dIx (dVar 7) (dC (.int 0))) (lCons (dCB cList (lCons (dOp dIx (dVar 7) (dC (.int 1))) lNil)) (lCons (dCB cList (lCons (dOp dIx (dVar 7) (dC (.int 2))) lNil)) lNil)))) (nmG 13))
  (sSeq (sIf (bOr (bOf (dOp (dIdI [C_Page] false) (dVar 10) (dVar 8))) (bNot (bOf (dCall (sp__law_same C_Page) (lCons (dVar 10) (lCons (dVar 11) lNil))))))
  (sRet (dC (.bl false)))
  sNext)
  (sSeq (sIf (bNot (bOf (dCall (sp__law_marked C_Page) (lCons (dVar 0) (lCons (dVar 10) (lCons (dVar 13) (lCons (dCall sp__law_roll (lCons (dVar 0) (lCons (dC (.int 12)) lNil))) lNil)))))))
  (sRet (dC (.bl false)))
  sNext)
  (sSeq (sIf (bOr (bNot (bOf (dCall (sp__law_same C_Page) (lCons (dVar 8) (lCons (dVar 7) lNil))))) (bNot (bOf (dCall (sp__law_marked C_Page) (lCons (dVar 0) (lCons (dVar 8) (lCons (dVar 7) (lCons (dCall sp__law_roll (lCons (dVar 0) (lCons (dC (.int 8)) lNil))) lNil))))))))
  (sRet (dC (.bl false)))
  sNext)
  (sSeq (sIf (bOr (bNot (bOf (dCall (sp__law_same C_Page) (lCons (dVar 10) (lCons (dVar 13) lNil))))) (bOr (bNot (bOf (dCall (sp__law_same C_Page) (lCons (dVar 12) (lCons (dVar 11) lNil))))) (bOf (dOp dNe (dCB cRepr (lCons (dPropA C_Page (pkP 1 [0] [] (sp_Page_table C_Page)) (dVar 9)) lNil)) (dCB cRepr (lCons (dVar 1) lNil))))))
  (sRet (dC (.bl false)))
  sNext)
  (sSeq (sIf (bOr (bNot (bOf (dCall (sp__law_emptied C_Page) (lCons (dVar 12) (lCons (dVar 11) lNil))))) (bOr (bNot (bOf (dCall (sp__law_emptied C_Page) (lCons (dVar 10) (lCons (dVar 13) lNil))))) (bNot (bOf (dCall (sp__law_same C_Page) (lCons (dVar 8) (lCons (dVar 7) lNil)))))))
  (sRet (dC (.bl false)))
  sNext)
  (sRet (dAnd (dCall (sp__law_emptied C_Page) (lCons (dVar 8) (lCons (dVar 7) lNil))) (dOp dEqF (dCB (cLenI C_Page (pkP 1 [0] [] (sp_Page___len__ C_Page))) (lCons (dVar 9) lNil)) (dC (.int 0))))))))))))))))))
def T__law_single_right (C_Style C_Page C_InvalidTable : Addr) : TSd :=
  (sSeq (sPar 1 2 (lCons (dFzI (dMakeA C_Style (pkS true 1 [0, 1, 2] [D.int 1, D.int 0] (sp_Style___init__ C_Style)) (d2 lNil lNil 0))) (lCons (dLc (iRg1 (lCons (dC (.int 7)) lNil)) (nmG 8) bYes (dFz (dCall sp__law_row (lCons (dVar 0) (lCons (dC (.int 12)) (lCons (dCall sp__law_roll (lCons (dVar 0) (lCons (dC (.int 5)) lNil))) lNil))))) [8] finF) lNil)))
  (sSeq (sAsg (dLstO (lCons (dMakeA C_Page (pkS true 2 [0, 1] [] (sp_Page___init__ C_Page C_InvalidTable)) (d2 (lCons (dVar 1) (lCons (dOp dIx (dVar 2) (dC (.int 0))) lNil)) lNil 0)) (lCons (dMakeA C_Page (pkS true 2 [0, 1] [] (sp_Page___init__ C_Page C_InvalidTable)) (d2 (lCons (dVar 1) (lCons (dOp dIx (dVar 2) (dC (.int 0))) (lCons (dOp dIx (dVar 2) (dC (.int 1))) lNil))) lNil 0)) (lCons (dMakeA C_Page (pkS true 2 [0, 1] [] (sp_Page___init__ C_Page C_InvalidTable)) (d2 (lCons (dVar 1) (lCons (dOp dIx (dVar 2) (dC (.int 0))) (lCons (dOp dIx (dVar 2) (dC (.int 0))) (lCons (dOp dIx (dVar 2) (dC (.int 2))) lNil)))) lNil 0)) lNil)))) (nmG 3))
  (sSeq (sDrop (dBM mAppend (dVar 3) (lCons (dMakeA C_Page (pkS true 2 [0, 1] [] (sp_Page___init__ C_Page C_InvalidTable)) (d2 (lCons (dVar 1) (lCons (dOp dIx (dVar 2) (dC (.int 6))) (lCons (dOp dIx (dVar 2) (dC (.int 5))) (lCons (dOp dIx (dVar 2) (dC (.int 4))) (lCons (dOp dIx (dVar 2) (dC (.int 3))) (lCons (dOp dIx (dVar 2) (dC (.int 2))) (lCons (dOp dIx (dVar 2) (dC (.int 1))) (lCons (dOp dIx (dVar 2) (dC (.int 0))) lNil)))))))) lNil 0)) lNil)))
  (sSeq (sAsg (dLst (lCons (dSl dSlL (dVar 2) oNone (oSome (dC (.int 1)))) (lCons (dSl dSlL (dVar 2) oNone (oSome (dC (.int 2)))) (lCons (dLst (lCons (dOp dIx (dVar 2) (dC (.int 0))) (lCons (dOp dIx (dVar 2) (dC (.int 0))) (lCons (dOp dIx (dVar 2) (dC (.int 2))) lNil)))) (lCons (dRev (dVar 2)) lNil))))) (nmG 4))
  (sSeq (sIf (bOf (dOp dNe (dCB cRepr (lCons (dLc (iSeq (dVar 3)) (nmG 9) bYes (dPropA C_Page (pkP 1 [0] [] (sp_Page_table C_Page)) (dVar 9)) [9] finF) lNil)) (dCB cRepr (lCons (dVar 4) lNil))))
  (sRet (dC (.bl false)))
  sNext)
  (sSeq (sIf (bNot (bOf (dCall (sp__law_many_right C_Style C_Page) (lCons (dVar 1) (lCons (dOp dIx (dVar 2) (dC (.int 0))) (lCons (dOp dIx (dVar 2) (dC (.int 1))) (lCons (dOp dIx (dVar 2) (dC (.int 2))) lNil)))))))
  (sRet (dC (.bl false)))
  sNext)
  (sSeq (sAsg (dCB cRepr (lCons (dOp dAdd (dSl dSlL (dVar 4) oNone (oSome (dC (.int 2)))) (dSl dSlL (dVar 4) (oSome (dC (.int 3))) oNone)) lNil)) (nmG 5))
  (sSeq (sDrop (dMethA C_Page "change" (pkP 4 [0, 1, 2, 3] [] (sp_Page_change C_Page)) (dOp dIx (dVar 3) (dC (.int 2))) (d2 (lCons (dC (.int 0)) (lCons (dC (.int 0)) (lCons (dC (.int 3)) lNil))) lNil 0)))
  (sSeq (sAsg (dPropA C_Page (pkP 1 [0] [] (sp_Page_table C_Page)) (dOp dIx (dVar 3) (dC (.int 2)))) (nmG 6))
  (sSeq (sAsg (dOp dAdd (dLst (lCons (dC (.int 3)) lNil)) (dSl dSlL (dOp dIx (dVar 2) (dC (.int 0))) (oSome (dC (.int 1))) oNone)) (nmG 7))
  (sSeq (sIf (bOf (dOp dNe (dCB cRepr (lCons (dVar 6) lNil)) (dCB cRepr (lCons (dLst (lCons (dVar 7) (lCons (dOp dIx (dVar 2) (dC (.int 0))) (lCons (dOp dIx (dVar 2) (dC (.int 2))) lNil)))) lNil))))
  (sRet (dC (.bl false)))
  sNext)
  (sRet (dOp dEq (dCB cRepr (lCons (dLc (iSeq (dOp dAdd (dSl dSlL (dVar 3) oNone (oSome (dC (.int 2)))) (dSl dSlL (dVar 3) (oSome (dC (.int 3))) oNone))) (nmG 10) bYes (dPropA C_Page (pkP 1 [0] [] (sp_Page_table C_Page)) (dVar 10)) [10] finF) lNil)) (dVar 5))))))))))))))
def T__law_sixty (C_Page C_InvalidTable : Addr) : TSd :=
  (sRet (dMakeA C_Page (pkS true 2 [0, 1] [] (sp_Page___init__ C_Page C_InvalidTable)) (d2 (lCons (dVar 0) (lCons (dVar 1) (lCons (dVar 2) (lCons (dVar 3) (lCons (dVar 1) (lCons (dVar 2) (lCons (dVar 3) (lCons (dVar 1) (lCons (dVar 2) (lCons (dVar 3) (lCons (dVar 1) (lCons (dVar 2) (lCons (dVar 3) (lCons (dVar 1) (lCons (dVar 2) (lCons (dVar 3) (lCons (dVar 1) (lCons (dVar 2) (lCons (dVar 3) (lCons (dVar 1) (lCons (dVar 2) (lCons (dVar 3) (lCons (dVar 1) (lCons (dVar 2) (lCons (dVar 3) (lCons (dVar 1) (lCons (dVar 2) (lCons (dVar 3) (lCons (dVar 1) (lCons (dVar 2) (lCons (dVar 3) (lCons (dVar 1) (lCons (dVar 2) (lCons (dVar 3) (lCons (dVar 1) (lCons (dVar 2) (lCons (dVar 3) (lCons (dVar 1) (lCons (dVar 2) (lCons (dVar 3) (lCons (dVar 1) (lCons (dVar 2) (lCons (dVar 3) (lCons (dVar 1) (lCons (dVar 2) (lCons (dVar 3) (lCons (dVar 1) (lCons (dVar 2) (lCons (dVar 3) (lCons (dVar 1) (lCons (dVar 2) (lCons (dVar 3) (lCons (dVar 1) (lCons (dVar 2) (lCons (dVar 3) (lCons (dVar 1) (lCons (dVar 2) (lCons (dVar 3) (lCons (dVar 1) (lCons (dVar 2) (lCons (dVar 3) lNil))))))))))))))))))))))))))))))))))))))))))))))))))))))))))))) lNil 0)))
def T__law_sixty_one (C_Page C_InvalidTable : Addr) : TSd :=
  (sSeq (sTryB [C_InvalidTable] true (dMakeA C_Page (pkS true 2 [0, 1] [] (sp_Page___init__ C_Page C_InvalidTable)) (d2 (lCons (dVar 0) (lCons (dVar 1) (lCons (dVar 2) (lCons (dVar 3) (lCons (dVar 1) (lCons (dVar 2) (lCons (dVar 3) (lCons (dVar 1) (lCons (dVar 2) (lCons (dVar 3) (lCons (dVar 1) (lCons (dVar 2) (lCons (dVar 3) (lCons (dVar 1) (lCons (dVar 2) (lCons (dVar 3) (lCons (dVar 1) (lCons (dVar 2) (lCons (dVar 3) (lCons (dVar 1) (lCons (dVar 2) (lCons (dVar 3) (lCons (dVar 1) (lCons (dVar 2) (lCons (dVar 3) (lCons (dVar 1) (lCons (dVar 2) (lCons (dVar 3) (lCons (dVar 1) (lCons (dVar 2) (lCons (dVar 3) (lCons (dVar 1) (lCons (dVar 2) (lCons (dVar 3) (lCons (dVar 1) (lCons (dVar 2) (lCons (dVar 3) (lCons (dVar 1) (lCons (dVar 2) (lCons (dVar 3) (lCons (dVar 1) (lCons (dVar 2) (lCons (dVar 3) (lCons (dVar 1) (lCons (dVar 2) (lCons (dVar 3) (lCons (dVar 1) (lCons (dVar 2) (lCons (dVar 3) (lCons (dVar 1) (lCons (dVar 2) (lCons (dVar 3) (lCons (dVar 1) (lCons (dVar 2) (lCons (dVar 3) (lCons (dVar 1) (lCons (dVar 2) (lCons (dVar 3) (lCons (dVar 1) (lCons (dVar 2) (lCons (dVar 3) (lCons (dVar 1) lNil)))))))))))))))))))))))))))))))))))))))))))))))))))))))))))))) lNil 0)))
  (sRet (dC (.bl false))))
def T__law_twelve (C_Page C_InvalidTable : Addr) : TSd :=
  (sRet (dMakeA C_Page (pkS true 2 [0, 1] [] (sp_Page___init__ C_Page C_InvalidTable)) (d2 (lCons (dVar 0) (lCons (dVar 1) (lCons (dVar 2) (lCons (dVar 3) (lCons (dVar 3) (lCons (dVar 2) (lCons (dVar 1) (lCons (dVar 2) (lCons (dVar 2) (lCons (dVar 1) (lCons (dVar 3) (lCons (dVar 1) (lCons (dVar 3) lNil))))))))))))) lNil 0)))
def T__law_many_right (C_Page C_Style C_InvalidTable : Addr) : TSd :=
  (sSeq (sPar 4 5 (lCons (dCall (sp__law_sixty C_Page) (lCons (dVar 0) (lCons (dVar 1) (lCons (dVar 2) (lCons (dVar 3) lNil))))) (lCons (dCall (sp__law_twelve C_Page) (lCons (dVar 0) (lCons (dVar 1) (lCons (dVar 2) (lCons (dVar 3) lNil))))) lNil)))
  (sSeq (sIf (bOf (dOp dNe (dCB cRepr (lCons (dLst (lCons (dPropA C_Page (pkP 1 [0] [] (sp_Page_table C_Page)) (dVar 4)) (lCons (dPropA C_Page (pkP 1 [0] [] (sp_Page_table C_Page)) (dVar 5)) lNil))) lNil)) (dCB cRepr (lCons (dLst (lCons (dOp dMul (dLst (lCons (dVar 1) (lCons (dVar 2) (lCons (dVar 3) lNil)))) (dC (.int 20))) (lCons (dLst (lCons (dVar 1) (lCons (dVar 2) (lCons (dVar 3) (lCons (dVar 3) (lCons (dVar 2) (lCons (dVar 1) (lCons (dVar 2) (lCons (dVar 2) (lCons (dVar 1) (lCons (dVar 3) (lCons (dVar 1) (lCons (dVar 3) lNil))))))))))))) lNil))) lNil))))
  (sRet (dC (.bl false)))
  sNext)
  (sSeq (sIf (bOr (bOf (dOp dNeF (dMethA C_Page "width" (pkP 1 [0] [] (sp_Page_width C_Style C_Page)) (dVar 4) (d2 lNil lNil 0)) (dMethA C_Page "width" (pkP 1 [0] [] (sp_Page_width C_Style C_Page)) (dCMethA C_Page (pkP 3 [0, 1, 2] [] (sp_Page_of C_Page)) (dC (.obj C_Page)) (d2 (lCons (dVar 0) (lCons (dOp dMul (dLst (lCons (dVar 1) (lCons (dVar 2) (lCons (dVar 3) lNil)))) (dC (.int 20))) lNil)) lNil 0)) (d2 lNil lNil 0)))) (bNot (bOf (dCall (sp__law_sixty_one C_Page C_InvalidTable) (lCons (dVar 0) (lCons (dVar 1) (lCons (dVar 2) (lCons (dVar 3) lNil))))))))
  (sRet (dC (.bl false)))
  sNext)
  (sSeq (sDrop (dMethA C_Page "change" (pkP 4 [0, 1, 2, 3] [] (sp_Page_change C_Page)) (dVar 4) (d2 (lCons (dC (.int 59)) (lCons (dC (.int 0)) (lCons (dC (.int 6)) lNil))) lNil 0)))
  (sRet (dOp dEq (dCB cRepr (lCons (dPropA C_Page (pkP 1 [0] [] (sp_Page_table C_Page)) (dVar 4)) lNil)) (dCB cRepr (lCons (dOp dAdd (dOp dMul (dLst (lCons (dVar 1) (lCons (dVar 2) (lCons (dVar 3) lNil)))) (dC (.int 19))) (dLst (lCons (dVar 1) (lCons (dVar 2) (lCons (dOp dAdd (dLst (lCons (dC (.int 6)) lNil)) (dSl dSlL (dVar 3) (oSome (dC (.int 1))) oNone)) lNil))))) lNil))))))))
def T__law_lists_right (C_Style C_Page : Addr) : TSd :=
  (sSeq (sAsg (dFzI (dMakeA C_Style (pkS true 1 [0, 2, 1] [D.int 0] (sp_Style___init__ C_Style)) (d2 (lCons (dC (.str "right")) lNil) (lCons (dC (.int 0)) lNil) 1))) (nmG 2))
  (sSeq (sPar 3 4 (lCons (dCMethA C_Page (pkP 3 [0, 1, 2] [] (sp_Page_of C_Page)) (dC (.obj C_Page)) (d2 (lCons (dVar 2) (lCons (dVar 1) lNil)) lNil 0)) (lCons (dLstO (lCons (dC (.int 4)) (lCons (dC (.int 5)) lNil))) lNil)))
  (sSeq (sDrop (dMethA C_Page "put" (pkP 3 [0, 1, 2] [] (sp_Page_put C_Page)) (dVar 3) (d2 (lCons (dC (.int 0)) (lCons (dVar 4) lNil)) lNil 0)))
  (sSeq (sAsg (dCB cRepr (lCons (dLst (lCons (dPropA C_Page (pkP 1 [0] [] (sp_Page_table C_Page)) (dVar 3)) (lCons (dMethA C_Page "stops" (pkP 1 [0] [] (sp_Page_stops C_Style C_Page)) (dVar 3) (d2 lNil lNil 0)) (lCons (dMethA C_Page "width" (pkP 1 [0] [] (sp_Page_width C_Style C_Page)) (dVar 3) (d2 lNil lNil 0)) lNil)))) lNil)) (nmG 5))
  (sSeq (sDrop (dBM mAppend (dVar 4) (lCons (dC (.int 9)) lNil)))
  (sSeq (sFor (iSeq (dLst (lCons (dPropA C_Page (pkP 1 [0] [] (sp_Page_table C_Page)) (dVar 3)) (lCons (dMethA C_Page "stops" (pkP 1 [0] [] (sp_Page_stops C_Style C_Page)) (dVar 3) (d2 lNil lNil 0)) (lCons (dPropA C_Page (pkP 1 [0] [] (sp_Page_table C_Page)) (dVar 3)) lNil))))) (nmG 6)
  (sSeq (sFor (iSeq (dVar 6)) (nmG 7)
  (sDrop (dBM mAppend (dVar 7) (lCons (dC (.int 1)) lNil))))
  (sDrop (dBM0 mClear (dVar 6)))))
  (sSeq (sAsg (dOp dIx (dVar 1) (dC (.int 0))) (nmG 8))
  (sSeq (sDrop (dBM mAppend (dVar 8) (lCons (dC (.int 8)) lNil)))
  (sSeq (sDrop (dBM0 mReverse (dVar 1)))
  (sRet (dOp dEq (dCB cRepr (lCons (dLst (lCons (dPropA C_Page (pkP 1 [0] [] (sp_Page_table C_Page)) (dVar 3)) (lCons (dMethA C_Page "stops" (pkP 1 [0] [] (sp_Page_stops C_Style C_Page)) (dVar 3) (d2 lNil lNil 0)) (lCons (dMethA C_Page "width" (pkP 1 [0] [] (sp_Page_width C_Style C_Page)) (dVar 3) (d2 lNil lNil 0)) lNil)))) lNil)) (dVar 5))))))))))))
def T_law : TSd :=
  (sSeq (sAsg (dCall sp__law_stock (lCons (dVar 0) lNil)) (nmG 1))
  (sSeq (sFor (iRg1 (lCons (dOp dAdd (dC (.int 2)) (dCB cMin2 (lCons (dC (.int 3)) (lCons (dCB cLen (lCons (dVar 0) lNil)) lNil)))) lNil)) (nmG 2)
  (sSeq (sAsg (dOp dIx (dLst (lCons (dOp dAdd (dC (.int 60)) (dCall sp__law_roll (lCons (dVar 1) (lCons (dC (.int 29)) lNil)))) (lCons (dOp dAdd (dC (.int 1)) (dCall sp__law_roll (lCons (dVar 1) (lCons (dC (.int 20)) lNil)))) lNil))) (dCB cInt (lCons (dOp dGt (dVar 2) (dC (.int 0))) lNil))) (nmG 3))
  (sSeq (sIf (bOr (bNot (bOf (dCall sp__law_right (lCons (dVar 1) (lCons (dCall sp__law_grid (lCons (dVar 1) (lCons (dC (.int 1)) (lCons (dC (.int 8)) (lCons (dC (.int 5)) lNil))))) (lCons (dVar 3) lNil)))))) (bNot (bOf (dCall sp__law_single_right (lCons (dVar 1) lNil)))))
  (sRet (dC (.bl false)))
  sNext)
  (sIf (bNot (bOf (dCall sp__law_lists_right (lCons (dVar 1) (lCons (dCall sp__law_grid (lCons (dVar 1) (lCons (dC (.int 1)) (lCons (dC (.int 30)) (lCons (dC (.int 11)) lNil))))) lNil)))))
  (sRet (dC (.bl false)))
  sNext))))
  (sRet (dC (.bl true)))))
local macro_rules | `(tactic| walk_at "dl") => `(tactic| ((try simp only [gstart, gwipe, List.set_set, List.map_cons, List.map_nil, List.length_cons, List.length_nil, rep_0, rep_s, List.cons_append, List.nil_append, List.set_cons_zero, List.set_cons_succ, Nat.reduceAdd, Nat.reduceSub, Nat.zero_add, Nat.add_zero]); (try simp only [↓dv0, ↓dv1, ↓dv2, ↓dv3, ↓dv4, ↓dv5, ↓dv6, ↓dv7, ↓dv8, ↓dv9, ↓dv10, ↓dv11, ↓dv12, ↓dv13, ↓dv14, ↓dv15, ↓dv16, ↓dv17, ↓dv18, ↓dv19, ↓dv20, ↓dv21, ↓dv22, ↓dv23, ↓dv24, ↓dv25, ↓dv26, ↓dv27, ↓dv28, ↓dv29, ↓dv30, ↓dv31, ↓dv32, ↓dv33, ↓dv34, ↓dv35, ↓dv36, ↓dv37, ↓dv38, ↓dv39, ↓nm0, ↓nm1, ↓nm2, ↓nm3, ↓nm4, ↓nm5, ↓nm6, ↓nm7, ↓nm8, ↓nm9, ↓nm10, ↓nm11, ↓nm12, ↓nm13, ↓nm14, ↓nm15, ↓nm16, ↓nm17, ↓nm18, ↓nm19, ↓nm20, ↓nm21, ↓nm22, ↓nm23, ↓nm24, ↓nm25, ↓nm26, ↓nm27, ↓nm28, ↓nm29, ↓nm30, ↓nm31, ↓nm32, ↓nm33, ↓nm34, ↓nm35, ↓nm36, ↓nm37, ↓nm38, ↓nm39, ↓sPar_n, ↓sPar3_n, ↓sAug_n, ↓reduceIte, List.set_set, ↓sNext_e, ↓sSeq_e, ↓sBrk_e, ↓sCnt_e, ↓sDrop_e, ↓sRet_e, ↓sRetN_e, ↓sIf_e, ↓sAsg_e, ↓sRaise_e, ↓nmG_e, ↓tupG_e, ↓gsNil_e, ↓gsCons_e, ↓subG_e, ↓dC_e, ↓dOp_e, ↓dUn_e, ↓dChain_e, ↓bOf_e, ↓bAnd_e, ↓bOr_e, ↓bNot_e, ↓bYes_e, ↓dAnd_e, ↓dOr_e, ↓dNot_e, ↓dIf_e, ↓lNil_e, ↓lCons_e, ↓dLst_e, ↓dLstO_e, ↓dTup_e, ↓dCB_e, ↓dCall_e, ↓dCallK_e, ↓oNone_e, ↓oSome_e, ↓dSl_e, ↓dBM_e, ↓dBM0_e, ↓dFz_e, ↓dFz2_e, ↓d2_e, ↓dLone_e, ↓lStar_e, ↓dCallA_e, ↓dMakeA_e, ↓dMakeV_e, ↓dMethA_e, ↓dCMethA_e, ↓dPropA_e, ↓dFld_e, ↓sFldS_e, ↓dFzI_e, ↓fzID_o, ↓dM1_e, ↓dM0_e, ↓dRev_e, ↓mSplit_s, ↓mUpper_s, ↓exStr, ↓exZ, ↓cStrI_i, ↓cIntS_s, ↓iStrD_e, ↓dEqF_s, ↓dNeF_s, ↓dEqF_i, ↓dNeF_i, ↓dSign_s, ↓sRaiseI_e, ↓dXFld_e, ↓mPop_e, ↓dAddO_l, ↓dAddO_o, ↓dMk0_e, ↓sKeep_e, ↓dCVal_e, ↓dConI_e, ↓cLen_s, ↓dIx_s, ↓dSlS_s, ↓dAdd_s, ↓cTup_l, ↓pkP_e, ↓pkS_e, ↓lstG_e, ↓asI_i, ↓iSeq_e, ↓iTupD_e, ↓iRg1_e, ↓iRg2_e, ↓iZipD_e, ↓iEnumD_e, ↓sFor_e, ↓dLc_e, ↓finF_e, ↓finO_e, ↓fzD_l, ↓fzD_i, ↓fzD_o, ↓fzD2_o, ↓dSetO_e, ↓mAppend_e, ↓mClear_e, ↓mReverse_e, List.map_cons, List.map_nil, List.length_cons, List.length_nil, rep_0, rep_s, List.cons_append, List.nil_append, List.getElem?_cons_zero, List.getElem?_cons_succ, List.set_cons_zero, List.set_cons_succ, Nat.reduceAdd, Nat.reduceSub, Nat.zero_add, Nat.add_zero, ↓exSS, ↓exB, ↓exI, ↓ex1, ↓ex2, ↓ex3, ↓exI1, ↓exI2, ↓exT, ↓exC, ↓exAs, ↓dAdd_i, ↓dAddI_i, ↓dSubI_i, ↓dLRg_e, ↓dLRgO_e, ↓dAdd_l, ↓dSub_i, ↓dMul_i, ↓dMul_l, ↓dMod_i, ↓dDiv_i, ↓dPow_i, ↓dLt_i, ↓dLe_i, ↓dGt_i, ↓dGe_i, ↓uNeg_i, ↓cMax2_i, ↓cMin2_i, ↓cAbs_i, ↓cInt_i, ↓cInt_b, ↓cLen_l, ↓cLen_q, ↓cLen_t, ↓cList_l, ↓cList_q, ↓cList_t, ↓cListO_l, ↓cListO_t, ↓dIx_l, ↓dIx_q, ↓dIx_t, ↓dIx_o', ↓exS, ↓exL, at_1, at_2, at_3, at_4, ix30, ix31, ix32, ↓dSlL_l, ↓dSlL_q, ↓asQ_l, ↓asL_l, at_0, ↓isi_non_int, ↓isi_non_bool, ↓isi_non_str, ↓isi_non_list, ↓isi_non_tuple, ↓isi_non_dict, ↓isi_bl_int, ↓isi_bl_bool, ↓isi_bl_str, ↓isi_bl_list, ↓isi_bl_tuple, ↓isi_bl_dict, ↓isi_int_int, ↓isi_int_bool, ↓isi_int_str, ↓isi_int_list, ↓isi_int_tuple, ↓isi_int_dict, ↓isi_str_int, ↓isi_str_bool, ↓isi_str_str, ↓isi_str_list, ↓isi_str_tuple, ↓isi_str_dict, ↓isi_lst_int, ↓isi_lst_bool, ↓isi_lst_str, ↓isi_lst_list, ↓isi_lst_tuple, ↓isi_lst_dict, ↓isi_sq_int, ↓isi_sq_bool, ↓isi_sq_str, ↓isi_sq_list, ↓isi_sq_tuple, ↓isi_sq_dict, ↓isi_tup_int, ↓isi_tup_bool, ↓isi_tup_str, ↓isi_tup_list, ↓isi_tup_tuple, ↓isi_tup_dict, ↓isi_dic_int, ↓isi_dic_bool, ↓isi_dic_str, ↓isi_dic_list, ↓isi_dic_tuple, ↓isi_dic_dict, if_true, if_false, Bool.not_true, Bool.not_false, true_and, and_true, reduceCtorEq, Bool.true_eq_false, Bool.false_eq_true, ite_true, ite_false, ↓exAny, ↓isLst_l, Int.toNat_natCast, Int.reduceToNat, dVar_e, sPar_e, sPar3_e, sAug_e])))
local macro_rules | `(tactic| walk_at "dls") => `(tactic| ((try simp only [gstart, gwipe, List.set_set, List.map_cons, List.map_nil, List.length_cons, List.length_nil, rep_0, rep_s, List.cons_append, List.nil_append, List.set_cons_zero, List.set_cons_succ, Nat.reduceAdd, Nat.reduceSub, Nat.zero_add, Nat.add_zero]); (try simp only [*, ↓dv0, ↓dv1, ↓dv2, ↓dv3, ↓dv4, ↓dv5, ↓dv6, ↓dv7, ↓dv8, ↓dv9, ↓dv10, ↓dv11, ↓dv12, ↓dv13, ↓dv14, ↓dv15, ↓dv16, ↓dv17, ↓dv18, ↓dv19, ↓dv20, ↓dv21, ↓dv22, ↓dv23, ↓dv24, ↓dv25, ↓dv26, ↓dv27, ↓dv28, ↓dv29, ↓dv30, ↓dv31, ↓dv32, ↓dv33, ↓dv34, ↓dv35, ↓dv36, ↓dv37, ↓dv38, ↓dv39, ↓nm0, ↓nm1, ↓nm2, ↓nm3, ↓nm4, ↓nm5, ↓nm6, ↓nm7, ↓nm8, ↓nm9, ↓nm10, ↓nm11, ↓nm12, ↓nm13, ↓nm14, ↓nm15, ↓nm16, ↓nm17, ↓nm18, ↓nm19, ↓nm20, ↓nm21, ↓nm22, ↓nm23, ↓nm24, ↓nm25, ↓nm26, ↓nm27, ↓nm28, ↓nm29, ↓nm30, ↓nm31, ↓nm32, ↓nm33, ↓nm34, ↓nm35, ↓nm36, ↓nm37, ↓nm38, ↓nm39, ↓sPar_n, ↓sPar3_n, ↓sAug_n, ↓reduceIte, List.set_set, ↓sNext_e, ↓sSeq_e, ↓sBrk_e, ↓sCnt_e, ↓sDrop_e, ↓sRet_e, ↓sRetN_e, ↓sIf_e, ↓sAsg_e, ↓sRaise_e, ↓nmG_e, ↓tupG_e, ↓gsNil_e, ↓gsCons_e, ↓subG_e, ↓dC_e, ↓dOp_e, ↓dUn_e, ↓dChain_e, ↓bOf_e, ↓bAnd_e, ↓bOr_e, ↓bNot_e, ↓bYes_e, ↓dAnd_e, ↓dOr_e, ↓dNot_e, ↓dIf_e, ↓lNil_e, ↓lCons_e, ↓dLst_e, ↓dLstO_e, ↓dTup_e, ↓dCB_e, ↓dCall_e, ↓dCallK_e, ↓oNone_e, ↓oSome_e, ↓dSl_e, ↓dBM_e, ↓dBM0_e, ↓dFz_e, ↓dFz2_e, ↓d2_e, ↓dLone_e, ↓lStar_e, ↓dCallA_e, ↓dMakeA_e, ↓dMakeV_e, ↓dMethA_e, ↓dCMethA_e, ↓dPropA_e, ↓dFld_e, ↓sFldS_e, ↓dFzI_e, ↓fzID_o, ↓dM1_e, ↓dM0_e, ↓dRev_e, ↓mSplit_s, ↓mUpper_s, ↓exStr, ↓exZ, ↓cStrI_i, ↓cIntS_s, ↓iStrD_e, ↓dEqF_s, ↓dNeF_s, ↓dEqF_i, ↓dNeF_i, ↓dSign_s, ↓sRaiseI_e, ↓dXFld_e, ↓mPop_e, ↓dAddO_l, ↓dAddO_o, ↓dMk0_e, ↓sKeep_e, ↓dCVal_e, ↓dConI_e, ↓cLen_s, ↓dIx_s, ↓dSlS_s, ↓dAdd_s, ↓cTup_l, ↓pkP_e, ↓pkS_e, ↓lstG_e, ↓asI_i, ↓iSeq_e, ↓iTupD_e, ↓iRg1_e, ↓iRg2_e, ↓iZipD_e, ↓iEnumD_e, ↓sFor_e, ↓dLc_e, ↓finF_e, ↓finO_e, ↓fzD_l, ↓fzD_i, ↓fzD_o, ↓fzD2_o, ↓dSetO_e, ↓mAppend_e, ↓mClear_e, ↓mReverse_e, List.map_cons, List.map_nil, List.length_cons, List.length_nil, rep_0, rep_s, List.cons_append, List.nil_append, List.getElem?_cons_zero, List.getElem?_cons_succ, List.set_cons_zero, List.set_cons_succ, Nat.reduceAdd, Nat.reduceSub, Nat.zero_add, Nat.add_zero, ↓exSS, ↓exB, ↓exI, ↓ex1, ↓ex2, ↓ex3, ↓exI1, ↓exI2, ↓exT, ↓exC, ↓exAs, ↓dAdd_i, ↓dAddI_i, ↓dSubI_i, ↓dLRg_e, ↓dLRgO_e, ↓dAdd_l, ↓dSub_i, ↓dMul_i, ↓dMul_l, ↓dMod_i, ↓dDiv_i, ↓dPow_i, ↓dLt_i, ↓dLe_i, ↓dGt_i, ↓dGe_i, ↓uNeg_i, ↓cMax2_i, ↓cMin2_i, ↓cAbs_i, ↓cInt_i, ↓cInt_b, ↓cLen_l, ↓cLen_q, ↓cLen_t, ↓cList_l, ↓cList_q, ↓cList_t, ↓cListO_l, ↓cListO_t, ↓dIx_l, ↓dIx_q, ↓dIx_t, ↓dIx_o', ↓exS, ↓exL, at_1, at_2, at_3, at_4, ix30, ix31, ix32, ↓dSlL_l, ↓dSlL_q, ↓asQ_l, ↓asL_l, at_0, ↓isi_non_int, ↓isi_non_bool, ↓isi_non_str, ↓isi_non_list, ↓isi_non_tuple, ↓isi_non_dict, ↓isi_bl_int, ↓isi_bl_bool, ↓isi_bl_str, ↓isi_bl_list, ↓isi_bl_tuple, ↓isi_bl_dict, ↓isi_int_int, ↓isi_int_bool, ↓isi_int_str, ↓isi_int_list, ↓isi_int_tuple, ↓isi_int_dict, ↓isi_str_int, ↓isi_str_bool, ↓isi_str_str, ↓isi_str_list, ↓isi_str_tuple, ↓isi_str_dict, ↓isi_lst_int, ↓isi_lst_bool, ↓isi_lst_str, ↓isi_lst_list, ↓isi_lst_tuple, ↓isi_lst_dict, ↓isi_sq_int, ↓isi_sq_bool, ↓isi_sq_str, ↓isi_sq_list, ↓isi_sq_tuple, ↓isi_sq_dict, ↓isi_tup_int, ↓isi_tup_bool, ↓isi_tup_str, ↓isi_tup_list, ↓isi_tup_tuple, ↓isi_tup_dict, ↓isi_dic_int, ↓isi_dic_bool, ↓isi_dic_str, ↓isi_dic_list, ↓isi_dic_tuple, ↓isi_dic_dict, if_true, if_false, Bool.not_true, Bool.not_false, true_and, and_true, reduceCtorEq, Bool.true_eq_false, Bool.false_eq_true, ite_true, ite_false, ↓exAny, ↓isLst_l, Int.toNat_natCast, Int.reduceToNat, dVar_e, sPar_e, sPar3_e, sAug_e])))
--M6
abbrev Rets (sp : DSpec) (T : TSd) (N : List Str) : Prop := ∀ ds S Φ Ψ, sp ds S Φ Ψ → T { nx := fun _ S' => RetOk S Φ S' .non, rt := RetOk S Φ, er := ErOk S Ψ } (gstart N ds) S
theorem under {n : Nat} (h : n ≤ 1000000) : n < sizeLine := Nat.lt_of_le_of_lt h (by decide)
theorem rep_flat {α : Type} (x : α) : ∀ m : Nat, (List.replicate m [x]).flatten = List.replicate m x
  | 0 => rfl
  | m + 1 => by rw [List.replicate_succ, List.flatten_cons, rep_flat x m, List.replicate_succ]; rfl
theorem all_map {α : Type} {S : Sto} {Φ : KD} (xs : List α) (f : α → Bool) (h : Φ S (.bl (xs.all f))) : cAll [.lst (xs.map fun x => D.bl (f x))] S Φ :=
  ⟨xs.map f, by rw [List.map_map]; rfl, by rw [List.all_map]; exact h⟩
theorem log2_le {a : Int} {k : Nat} (h0 : 0 ≤ a) (h1 : a < 2 ^ k) : a.natAbs.log2 ≤ k := by
  by_cases c : a.natAbs = 0
  · rw [c]; simp
  · refine Nat.le_of_lt ((Nat.log2_lt c).mpr ?_)
    have : ((a.natAbs : Nat) : Int) < ((2 ^ k : Nat) : Int) := by rw [Int.natAbs_of_nonneg h0, Int.natCast_pow]; exact h1
    exact Int.ofNat_lt.mp this
theorem p__law_stock : Rets sp__law_stock T__law_stock N__law_stock := by
  rintro _ S Φ Ψ ⟨ns, rfl, h⟩
  unfold T__law_stock
  walk_at "dl"
  have e60 : cutD (ns.map D.int) none (some (60 : Int)) = (ns.take 60).map D.int := by
    rw [show (60 : Int) = ((60 : Nat) : Int) from rfl, cut_to, List.map_take]
  rw [e60]
  refine ⟨small, ?_⟩
  refine for_l (fun i Γ S' => S' = S ∧ ∃ (a b : Int) (o : Option D), Γ = [some (.sq (ns.map D.int)), some (.int a), some (.int b), o] ∧ 0 ≤ a ∧ a < 2 ^ (1000 * i) ∧ 0 ≤ b ∧ b < 2 ^ 127) ⟨rfl, 0, 4120, _, rfl, by decide, by decide, by decide, by decide⟩ (fun i Γ' S' hi hp => ?_) fun Γ' S' hp => ?_
  · obtain ⟨rfl, a, b, o, rfl, ha0, ha1, hb0, hb1⟩ := hp
    rw [List.length_map, List.length_take] at hi
    rw [List.getElem_map]
    generalize (ns.take 60)[i]'(by rw [List.length_take]; exact hi) = x
    walk_at "dl"
    rw [sJ_e]
    walk_at "dl"
    generalize (if x < 0 then -x else x) = y
    have last : ∀ a' : Int, 0 ≤ a' → a' < 2 ^ (1000 * (i + 1)) → CMulA b 1000003 ∧ (0 : Int) < 2305843009213693951 ∧ (0 : Int) < 170141183460469231731687303715884105727 ∧ ∃ (a2 b2 : Int) (o2 : Option D), [some (D.sq (ns.map D.int)), some (.int a'), some (.int ((b * 1000003 + x % 2305843009213693951 + 7) % 170141183460469231731687303715884105727)), some (.int x)] = [some (.sq (ns.map D.int)), some (.int a2), some (.int b2), o2] ∧ 0 ≤ a2 ∧ a2 < 2 ^ (1000 * (i + 1)) ∧ 0 ≤ b2 ∧ b2 < 2 ^ 127 := fun a' h1 h2 =>
      ⟨cmr (by decide) (by decide), by decide, by decide, _, _, _, rfl, h1, h2, Int.emod_nonneg _ (by decide), Int.lt_trans (Int.emod_lt_of_pos _ (by decide)) (by decide)⟩
    have up : (2 : Int) ^ (1000 * i) ≤ 2 ^ (1000 * (i + 1)) := by
      have := Nat.pow_le_pow_right (show 0 < 2 by decide) (show 1000 * i ≤ 1000 * (i + 1) by omega)
      exact_mod_cast this
    refine ⟨cpw (by decide) (by decide) (by decide), ?_⟩
    have e5 : ((10 : Int) ^ 60) ^ 5 = 10 ^ 300 := by decide +kernel
    split
    · refine ⟨cpw (by decide) (by decide) (by decide), cpw (by decide) (by decide) (by decide +kernel), ?_, ?_⟩
      · rw [e5]
        right
        show a.natAbs.log2 + ((10 : Int) ^ 300).natAbs.log2 < 1000000
        have l1 : ((10 : Int) ^ 300).natAbs.log2 < 1000 := by decide +kernel
        have l2 : a.natAbs.log2 ≤ 1000 * i := log2_le ha0 ha1
        omega
      · refine ⟨cpw (by decide) (by decide) (by decide), cpw (by decide) (by decide) (by decide +kernel), ?_⟩
        rw [e5]
        have m0 := Int.emod_nonneg y (show (10 : Int) ^ 300 ≠ 0 by decide +kernel)
        have m1 := Int.emod_lt_of_pos y (show (0 : Int) < 10 ^ 300 by decide +kernel)
        refine ⟨by decide +kernel, last _ (Int.add_nonneg (Int.mul_nonneg ha0 (by decide +kernel)) m0) ?_⟩
        have k : (10 : Int) ^ 300 ≤ 2 ^ 1000 := by decide +kernel
        have h3 : a * 10 ^ 300 + y % 10 ^ 300 < (a + 1) * 10 ^ 300 := by
          rw [Int.add_mul, Int.one_mul]
          omega
        refine Int.lt_of_lt_of_le h3 (Int.le_trans (Int.mul_le_mul_of_nonneg_right (show a + 1 ≤ 2 ^ (1000 * i) by omega) (by decide +kernel)) ?_)
        rw [show 1000 * (i + 1) = 1000 * i + 1000 by omega, Int.pow_add]
        exact Int.mul_le_mul_of_nonneg_left k (Int.le_trans ha0 (Int.le_of_lt ha1))
    · exact last a ha0 (Int.lt_of_lt_of_le ha1 up)
  · obtain ⟨rfl, a, b, o, rfl, ha0, ha1, hb0, hb1⟩ := hp
    walk_at "dl"
    exact ⟨small, ret_now (h _ ⟨_, _, 0, rfl, ha0, hb0, Int.lt_trans hb1 (by decide), by decide, by decide⟩)⟩
theorem p__law_roll : Rets sp__law_roll T__law_roll N__law_roll := by
  rintro _ S Φ Ψ ⟨h, n, m, rfl, ⟨c, ec, a, b, k, rfl, ha, hb, hb2, hk, hk2⟩, hn, hm, hm2, q⟩
  unfold T__law_roll
  walk_at "dl"
  have es : ∀ c, (S.set h c)[h]? = some c := fun c => List.getElem?_set_self (List.getElem?_eq_some_iff.mp ec).1
  walk_at "dls"
  by_cases c : 0 < a
  · rw [if_pos (by rw [decide_eq_true_eq]; exact c)]
    refine ⟨cdw hm (by omega), ret_now (q _ _ ⟨_, ⟨_, _, _, rfl, Int.ediv_nonneg ha (by omega), hb, hb2, hk, by omega⟩, rfl⟩ (Int.emod_nonneg _ (by omega)) (Int.emod_lt_of_pos _ hm))⟩
  · rw [if_neg (by rw [decide_eq_true_eq]; exact c)]
    have e1 := Int.emod_nonneg ((b + 15487469 * (k + 1)) ^ 3) (show (170141183460469231731687303715884105727 : Int) ≠ 0 by decide)
    have e2 := Int.emod_lt_of_pos ((b + 15487469 * (k + 1)) ^ 3) (show (0 : Int) < 170141183460469231731687303715884105727 by decide)
    refine ⟨cml (by decide) (by decide), cpw (by decide) (by decide) (by omega), by decide, cml (by decide) (by decide), cpw (by decide) (by decide) ?_, cpw (by decide) (by decide) (by decide), by decide, cdw (by decide) (by decide), ret_now (q _ _ ⟨_, ⟨_, _, _, rfl, ha, hb, hb2, by omega, by omega⟩, rfl⟩ (Int.emod_nonneg _ (by omega)) (Int.emod_lt_of_pos _ hm))⟩
    omega
theorem roll_at {S : Sto} {Φ : KD} {Ψ : KX} {h n : Nat} {m : Int} (f : FdAt S h n) (hm : 0 < m) (q : ∀ S' v, Fs h (n + 1) S S' → FdAt S' h (n + 1) → 0 ≤ v → v < m → Φ S' (.int v)) (hn : n < 2 ^ 100 := by omega) (hm2 : m < 2 ^ 200 := by omega) : sp__law_roll [.own h, .int m] S Φ Ψ :=
  ⟨h, n, m, rfl, f, hn, hm, hm2, fun S' v f' a b => q S' v f' (f'.at f.lt) a b⟩
theorem at_p {ds : List D} {i : Int} {p : D → Prop} {Q : D → Prop} (h0 : 0 ≤ i) (h1 : i < ds.length) (hp : ∀ d ∈ ds, p d) (k : ∀ d, p d → Q d) : ∃ d, atI ds i = some d ∧ Q d := by
  obtain ⟨x, e, m⟩ := ix_all h0 h1
  exact ⟨x, e, k x (hp x m)⟩
theorem FdAt.set {S : Sto} {h n i : Nat} {c : Cell} (f : FdAt S h n) (hi : i ≠ h) : FdAt (S.set i c) h n := by
  obtain ⟨d, e, q⟩ := f
  exact ⟨d, by rw [List.getElem?_set_ne hi]; exact e, q⟩
theorem seqJ {A B : TSd} {E : EdD} {Γ : Gam} {S : Sto} (J : Gam → Sto → Prop) (k : ∀ N, (∀ Γ' S', J Γ' S' → N Γ' S') → A { E with nx := N } Γ S) (h : ∀ Γ' S', J Γ' S' → B E Γ' S') : sSeq A B E Γ S := k _ h
def SW (k : Nat) (l : List D) : Prop := ∃ ws : List Str, l = ws.map D.str ∧ (∀ w ∈ ws, asOk w = true) ∧ (ws.map (·.length)).sum + ws.length ≤ k
theorem SW.len {k : Nat} {l : List D} (h : SW k l) : l.length ≤ k := by
  obtain ⟨ws, rfl, _, h1⟩ := h
  rw [List.length_map]
  omega
theorem len1 : (Str.ofString " ").length = 1 := by decide +kernel
theorem len2 : (Str.ofString "  ").length = 2 := by decide +kernel
theorem p__law_row : Rets sp__law_row T__law_row N__law_row := by
  rintro _ S Φ Ψ ⟨h, n, m, w, rfl, f, hn, hm1, hm2, hw0, hw1, q⟩
  unfold T__law_row
  walk_at "dl"
  have hl := f.lt
  refine roll_at f (by omega) fun S1 v f1 g1 hv0 hv1 => ?_
  walk_at "dl"
  refine ⟨cpw (by decide) (by decide) (by decide), small, at_p (p := fun d => ∃ x : Int, d = .int x ∧ 0 < x ∧ x ≤ GREAT + 1) hw0 (by show w < 5; exact hw1) ?_ fun d ⟨x, e, hx0, hx1⟩ => ?_⟩
  · intro d hd
    simp only [List.mem_cons, List.not_mem_nil, or_false] at hd
    rcases hd with rfl | rfl | rfl | rfl | rfl <;> exact ⟨_, rfl, by decide, by decide⟩
  subst e
  walk_at "dl"
  have gF := f1.cell (.lst []) hl
  have lt0 : ∀ c : Cell, h < (S ++ [c]).length := fun c => by rw [List.length_append]; omega
  have eL : S1.length = S.length := f1.len
  rw [eL]
  refine ⟨small, by omega, by omega, ?_⟩
  refine for_r0 (fun i Γ S' => ∃ (r : List Int) (o : Option D), Γ = [some (.own h), some (.int m), some (.int w), some (.int (1 + v)), some (.int x), some (.own S.length), o] ∧ Fs h (n + 1 + 2 * i) (S ++ [.lst (r.map D.int)]) S' ∧ r.length = i ∧ ∀ y ∈ r, 0 ≤ y ∧ y ≤ GREAT) ?_ (fun i Γ' S' hi hp => ?_) fun Γ' S' hp => ?_
  · exact ⟨[], _, rfl, gF, rfl, fun y hy => nomatch hy⟩
  · obtain ⟨r, o, rfl, fs, hr, hb⟩ := hp
    walk_at "dl"
    obtain ⟨el, _⟩ := fs.last hl
    refine ⟨isLst_at el, roll_at (fs.at (lt0 _)) hx0 (fun S2 a f2 g2 ha0 ha1 => ?_) (by omega) (Int.lt_of_le_of_lt hx1 (by decide))⟩
    have app : ∀ (S3 : Sto) (k : Bool), Fs h (n + 1 + 2 * i + 2) (S ++ [.lst (r.map D.int)]) S3 → CMulA a (if k = true then 1 else 0) ∧ ∃ xs, S3[S.length]? = some (.lst xs) ∧ xs.length < sizeLine ∧ ∃ (r' : List Int) (o : Option D), [some (D.own h), some (.int m), some (.int w), some (.int (1 + v)), some (.int x), some (.own S.length), some (.int (i : Int))] = [some (.own h), some (.int m), some (.int w), some (.int (1 + v)), some (.int x), some (.own S.length), o] ∧ Fs h (n + 1 + 2 * (i + 1)) (S ++ [.lst (r'.map D.int)]) (S3.set S.length (.lst (xs ++ [.int (a * (if k = true then 1 else 0))]))) ∧ r'.length = i + 1 ∧ ∀ y ∈ r', 0 ≤ y ∧ y ≤ GREAT := fun S3 k f3 => by
      obtain ⟨el, fl⟩ := f3.last hl
      refine ⟨by cases k <;> exact cmr (by decide) (by decide), _, el, by rw [List.length_map, hr]; exact under (by omega), r ++ [a * (if k = true then 1 else 0)], _, rfl, ?_, by rw [List.length_append, hr] <;> rfl, fun y hy => ?_⟩
      · have := fl (.lst (r.map D.int ++ [.int (a * (if k = true then 1 else 0))]))
        rw [List.map_append]
        exact this.mono (by omega)
      · rcases List.mem_append.mp hy with hy | hy
        · exact hb y hy
        · rw [List.mem_singleton.mp hy]
          cases k
          · rw [if_neg Bool.false_ne_true, Int.mul_zero]; exact ⟨by decide, by decide⟩
          · rw [if_pos rfl, Int.mul_one]; exact ⟨ha0, by omega⟩
    by_cases c : w = 3
    · rw [if_neg (by rw [c]; decide)]
      refine roll_at g2 (by decide) fun S3 b f3 g3 hb0 hb1 => ?_
      walk_at "dl"
      exact app S3 _ (((fs.trans f2).trans f3).mono (by omega))
    · rw [if_pos (by rw [show (w == 3) = false from beq_eq_false_iff_ne.mpr c]; rfl)]
      walk_at "dl"
      exact app S2 true ((fs.trans f2).mono (by omega))
  · obtain ⟨r, o, rfl, fs, hr, hb⟩ := hp
    have er : r.length = (1 + v).toNat := hr
    have fin : ∀ (r' : List Int) (S2 : Sto), Fs h (n + 200) (S ++ [.lst (r'.map D.int)]) S2 → r'.length = r.length → (∀ y ∈ r', 0 ≤ y ∧ y ≤ GREAT) → RetOk S Φ S2 (.own S.length) := fun r' S2 f2 h1 h2 => by
      obtain ⟨S1', fs1, e1⟩ := f2.app hl
      have e2 := fs1.len
      rw [e1, ← e2]
      exact ret_now (q S1' r' fs1 (by omega) (by omega) h2)
    walk_at "dl"
    rw [sJ_e]
    walk_at "dl"
    by_cases c : w = 2
    · rw [if_pos (beq_iff_eq.mpr c)]
      refine roll_at (fs.at (lt0 _)) (by decide) fun S3 b f3 g3 hb0 hb1 => ?_
      walk_at "dl"
      split
      · refine ⟨cpw (by decide) (by decide) (by decide), roll_at g3 (by omega) fun S4 z f4 g4 hz0 hz1 => ?_⟩
        have f34 := (fs.trans f3).trans f4
        obtain ⟨el, fl⟩ := f34.last hl
        walk_at "dl"
        refine ⟨_, el, z.toNat, ?_, ?_⟩
        · have := ix_nat (n := (r.map D.int).length) (i := z.toNat) (by rw [List.length_map]; omega)
          rw [Int.toNat_of_nonneg hz0] at this
          exact this
        · rw [show (10 : Int) ^ 30 = GREAT from by decide, ← List.map_set]
          have z6 : ∀ y ∈ r.set z.toNat GREAT, 0 ≤ y ∧ y ≤ GREAT := fun y hy => by
            rcases List.mem_or_eq_of_mem_set hy with hy | hy
            · exact hb y hy
            · rw [hy]; exact ⟨by decide, by decide⟩
          have z5 := fin (r.set z.toNat GREAT) _ ((fl _).mono (by omega)) (by rw [List.length_set]) z6
          exact z5
      · exact fin r _ ((fs.trans f3).mono (by omega)) rfl hb
    · rw [if_neg (by rw [beq_iff_eq]; exact c)]
      exact fin r _ (fs.mono (by omega)) rfl hb
theorem row_at {S : Sto} {Φ : KD} {Ψ : KX} {h n m : Nat} {w : Int} (f : FdAt S h n) (hm1 : 1 ≤ m) (hm2 : m ≤ 60) (hw0 : 0 ≤ w) (hw1 : w < 5) (q : ∀ S' (r : List Int), Fs h (n + 200) S S' → FdAt S' h (n + 200) → 1 ≤ r.length → r.length ≤ m → (∀ x ∈ r, 0 ≤ x ∧ x ≤ GREAT) → Φ (S' ++ [.lst (r.map D.int)]) (.own S'.length)) (hn : n < 2 ^ 90 := by omega) : sp__law_row [.own h, .int m, .int w] S Φ Ψ :=
  ⟨h, n, m, w, rfl, f, hn, hm1, hm2, hw0, hw1, fun S' r f' a b c => q S' r f' (f'.at f.lt) a b c⟩
theorem p__law_grid : Rets sp__law_grid T__law_grid N__law_grid := by
  rintro _ S Φ Ψ ⟨h, n, a, b, m, rfl, f, hn, ha, hab, hb, hm1, hm2, q⟩
  unfold T__law_grid
  walk_at "dl"
  have hl := f.lt
  refine roll_at f (by omega) fun S1 v f1 g1 hv0 hv1 => ?_
  walk_at "dl"
  refine roll_at g1 (by decide) fun S2 w f2 g2 hw0 hw1 => ?_
  refine roll_at g2 (by decide) fun S3 y f3 g3 hy0 hy1 => ?_
  walk_at "dl"
  have f123 := (f1.trans f2).trans f3
  have eL : S3.length = S.length := f123.len
  have g3' := g3.app (T := [.lst []])
  refine ⟨small, row_at g3' (by omega) (by omega) hw0 hw1 fun S4 fr f4 g4 hfr1 hfr2 hfr3 => ?_⟩
  walk_at "dl"
  have k4 : Kp h S S4 := (f123.kp.app _).trans f4.kp
  have o4 : S4[S3.length]? = some (.lst []) := f4.kp _ _ (by omega) get_at
  have eL4 : S4.length = S3.length + 1 := by rw [f4.len, List.length_append]; rfl
  refine ⟨by omega, by omega, ?_⟩
  rw [eL] at o4 eL4 ⊢
  refine for_r0 (fun i Γ S' => ∃ (t : List (List Int)) (hs : List Nat) (o1 o2 : Option D), Γ = [some (.own h), some (.int a), some (.int b), some (.int m), some (.int (a + v)), some (.int w), some (.int y), some (.own S.length), some (.own S4.length), o1, o2] ∧ FdAt S' h (n + 1000 + 300 * i) ∧ Kp h S S' ∧ S'[S4.length]? = some (.lst (fr.map D.int)) ∧ TabH S' S.length hs t ∧ (∀ k ∈ hs, S4.length < k) ∧ t.length = i ∧ ∀ r ∈ t, (1 ≤ r.length ∧ r.length ≤ m) ∧ ∀ x ∈ r, 0 ≤ x ∧ x ≤ GREAT) ?_ (fun i Γ' S' hi hp => ?_) fun Γ' S' hp => ?_
  · exact ⟨[], [], _, _, rfl, (g4.app).mono (by omega), k4.app _, get_at, ⟨get_app o4, rfl, fun i h1 => absurd h1 (by simp), List.nodup_nil, by simp⟩, (fun _ h => absurd h (by simp)), rfl, fun r hr => absurd hr (by simp)⟩
  · obtain ⟨t, hs, o1, o2, rfl, fd, kp, ef, th, hgt, ht, hb2⟩ := hp
    walk_at "dl"
    refine roll_at fd (by omega) fun S5 z f5 g5 hz0 hz1 => ?_
    refine ⟨small, at_p (p := fun d => ∃ x : Nat, d = .int x ∧ 1 ≤ x ∧ x ≤ m) hy0 (by show y < 4; exact hy1) ?_ fun d ⟨x, e, hx0, hx1⟩ => ?_⟩
    · intro d hd
      simp only [List.mem_cons, List.not_mem_nil, or_false] at hd
      rcases hd with rfl | rfl | rfl | rfl
      · exact ⟨m, rfl, by omega, by omega⟩
      · exact ⟨m, rfl, by omega, by omega⟩
      · exact ⟨(1 + z).toNat, by rw [Int.toNat_of_nonneg (by omega)], by omega, by omega⟩
      · exact ⟨2, rfl, by omega, by omega⟩
    subst e
    refine row_at g5 hx0 (by omega) hw0 hw1 fun S6 r f6 g6 hr1 hr2 hr3 => ?_
    walk_at "dl"
    have k6 : Kp h S' S6 := f5.kp.trans f6.kp
    have l6 : S6.length = S'.length := by rw [f6.len, f5.len]
    have ef6 : ∀ T, (S6 ++ T)[S4.length]? = some (.lst (fr.map D.int)) := fun T => get_app (k6 _ _ (by omega) ef)
    have g7 := (g6.app (T := [.lst (r.map D.int)])).mono (show n + 1000 + 300 * i + 1 + 200 ≤ n + 1000 + 300 * i + 250 by omega)
    obtain ⟨J, hJ⟩ : ∃ J : Nat → Gam → Sto → Prop, J = fun p Γ X => ∃ (k : Nat) (r' : List Int), Γ = [some (.own h), some (.int a), some (.int b), some (.int m), some (.int (a + v)), some (.int w), some (.int y), some (.own S.length), some (.own S4.length), some (.int (i : Int)), some (.own k)] ∧ FdAt X h (n + 1000 + 300 * i + 250 + p) ∧ Kp h S' X ∧ X[k]? = some (.lst (r'.map D.int)) ∧ S'.length ≤ k ∧ (1 ≤ r'.length ∧ r'.length ≤ m) ∧ ∀ x ∈ r', 0 ≤ x ∧ x ≤ GREAT := ⟨_, rfl⟩
    refine joinS (J 0) (fun Γ' X hj => ?_) fun N hN => ?_
    · rw [hJ] at hj
      obtain ⟨k, r', rfl, gx, kx, ek, hk, hr', hx'⟩ := hj
      walk_at "dl"
      refine joinS (J 2) (fun Γ' X2 hj => ?_) fun N hN => ?_
      · rw [hJ] at hj
        obtain ⟨k, r', rfl, gx, kx, ek, hk, hr', hx'⟩ := hj
        walk_at "dl"
        have thx := th.kp kx (by omega) (fun e => by have := hgt h e; omega)
        have hnk : k ∉ hs := fun e => by have := th.lt.2 k e; omega
        have hkb : k ≠ S.length := fun e => by have := th.lt.1; omega
        refine ⟨isLst_at thx.out, _, thx.out, by rw [List.length_map, th.len, ht]; exact under (by omega), t ++ [r'], hs ++ [k], _, _, rfl, ?_, ?_, ?_, thx.snoc ek hnk hkb, ?_, by rw [List.length_append, ht] <;> rfl, ?_⟩
        · exact (gx.set (by omega)).mono (by omega)
        · intro j c hne e
          rw [List.getElem?_set_ne (by have := (List.getElem?_eq_some_iff.mp e).1; omega)]
          exact kx j c hne (kp j c hne e)
        · rw [List.getElem?_set_ne (by omega)]
          exact kx _ _ (by omega) ef
        · intro j hj
          rcases List.mem_append.mp hj with hj | hj
          · exact hgt j hj
          · rw [List.mem_singleton.mp hj]
            have := (List.getElem?_eq_some_iff.mp ef).1
            omega
        · intro q hq
          rcases List.mem_append.mp hq with hq | hq
          · exact hb2 q hq
          · rw [List.mem_singleton.mp hq]; exact ⟨hr', hx'⟩
      · walk_at "dl"
        by_cases c : y = 2
        · rw [if_pos (beq_iff_eq.mpr c)]
          refine roll_at gx (by decide) fun S7 z f7 g8 hz0 hz1 => ?_
          walk_at "dl"
          have ek7 : S7[k]? = some (.lst (r'.map D.int)) := f7.kp _ _ (by have := fd.lt; omega) ek
          split
          · refine ⟨_, asQ_at' ek7, hN _ _ (by
              rw [hJ]
              refine ⟨S7.length, r'.take 1, rfl, (g8.app).mono (by omega), (kx.trans f7.kp).app _, ?_, ?_, ⟨by rw [List.length_take]; omega, by rw [List.length_take]; omega⟩, fun x hx => hx' x (List.mem_of_mem_take hx)⟩
              · rw [show (some (1 : Int)) = some ((1 : Nat) : Int) from rfl, cut_to, ← List.map_take]
                exact get_at
              · have := (List.getElem?_eq_some_iff.mp ek7).1
                omega)⟩
          · exact hN _ _ (by rw [hJ]; exact ⟨k, r', rfl, g8.mono (by omega), kx.trans f7.kp, ek7, hk, hr', hx'⟩)
        · rw [if_neg (by rw [beq_iff_eq]; exact c)]
          exact hN _ _ (by rw [hJ]; exact ⟨k, r', rfl, gx.mono (by omega), kx, ek, hk, hr', hx'⟩)
    · walk_at "dl"
      by_cases c : y = 1
      · rw [if_pos (beq_iff_eq.mpr c)]
        have er : asL (S6 ++ [.lst (r.map D.int)]) (.own S6.length) = some (r.map D.int) := asL_at' get_at
        have ff : asL (S6 ++ [.lst (r.map D.int)]) (.own S4.length) = some (fr.map D.int) := asL_at' (ef6 _)
        rw [dAdd_L er ff]
        refine ⟨by rw [List.length_map, List.length_map]; exact small (by omega), ?_⟩
        walk_at "dl"
        rw [cLen_L ff]
        refine ⟨small, by omega, by omega, by show 1 * m ≤ _; exact small (by omega), ?_⟩
        walk_at "dl"
        refine ⟨?_, ?_⟩
        · exact small (by simp; omega)
        · have er : (List.replicate m [D.int 0]).flatten = (List.replicate m (0 : Int)).map D.int := by
            rw [List.map_replicate, rep_flat]
          have e2 : cutD (r.map D.int ++ fr.map D.int ++ (List.replicate m [D.int 0]).flatten) none (some ((fr.map D.int).length : Int)) = (((r ++ fr ++ List.replicate m (0 : Int)).take fr.length).map D.int) := by
            rw [er, List.length_map, cut_to, ← List.map_append, ← List.map_append, List.map_take]
          simp only [List.length_map] at e2 ⊢
          refine ⟨_, rfl, ?_⟩
          rw [e2]
          refine hN _ _ (by
            rw [hJ]
            refine ⟨_, _, rfl, (g7.app).mono (by omega), (k6.app _).app _, get_at, by rw [List.length_append]; omega, ?_, fun x hx => ?_⟩
            · rw [List.length_take, List.length_append, List.length_append, List.length_replicate]
              omega
            · have := List.mem_of_mem_take hx
              rw [List.mem_append, List.mem_append] at this
              rcases this with (hx | hx) | hx
              · exact hr3 x hx
              · exact hfr3 x hx
              · rw [List.eq_of_mem_replicate hx]; exact ⟨by decide, by decide⟩)
      · rw [if_neg (by rw [beq_iff_eq]; exact c)]
        exact hN _ _ (by rw [hJ]; exact ⟨_, r, rfl, g7.mono (by omega), k6.app _, get_at, by omega, ⟨hr1, by omega⟩, hr3⟩)
  · obtain ⟨t, hs, o1, o2, rfl, fd, kp, ef, th, hgt, ht, hb2⟩ := hp
    walk_at "dl"
    exact ret_now (q S' t S.length hs (fd.mono (by omega)) kp th (by omega) (fun e => by have := hgt h e; omega) (Nat.le_refl _) ⟨by omega, by omega, fun r hr => (hb2 r hr).1, fun r hr => (hb2 r hr).2⟩ (by omega))
theorem inB_of {v lo hi : Int} (h : lo ≤ v) (h2 : v ≤ hi) : inB v lo hi = true := by unfold inB; rw [decide_eq_true h, decide_eq_true h2]; rfl
theorem in_words (w : Str) : inD (.str w) (kindsL.map D.str) = decide (w ∈ kindsL) := by
  unfold inD
  rw [Bool.eq_iff_iff, List.any_eq_true, decide_eq_true_eq]
  constructor
  · rintro ⟨d, hd, e⟩
    obtain ⟨x, hx, rfl⟩ := List.mem_map.mp hd
    have : (x == w) = true := e
    rw [beq_iff_eq] at this
    exact this ▸ hx
  · intro h
    exact ⟨.str w, List.mem_map.mpr ⟨w, h, rfl⟩, show (w == w) = true from beq_self_eq_true w⟩
theorem p_is_integer : Rets sp_is_integer T_is_integer N_is_integer := by
  rintro _ S Φ Ψ ⟨v, lo, hi, rfl, h⟩
  unfold T_is_integer
  walk_at "dl"
  unfold inB at h
  by_cases c : lo ≤ v
  · rw [if_pos (by rw [decide_eq_true_eq]; exact c)]
    rw [decide_eq_true c, Bool.true_and] at h
    exact ret_now h
  · rw [if_neg (by rw [decide_eq_true_eq]; exact c)]
    rw [decide_eq_false c, Bool.false_and] at h
    exact ret_now h
theorem p_is_cell : Rets sp_is_cell T_is_cell N_is_cell := by
  rintro _ S Φ Ψ ⟨v, rfl, h⟩
  unfold T_is_cell
  walk_at "dl"
  exact ⟨_, _, _, rfl, ret_now h⟩
theorem p_are_kinds (C : Addr) : Rets sp_are_kinds (T_are_kinds C) N_are_kinds := by
  rintro _ S Φ Ψ ⟨ks, rfl, h1, h2, hk, h⟩
  unfold T_are_kinds
  walk_at "dl"
  rw [List.length_map]
  rw [if_pos (by rw [decide_eq_true_eq]; omega), if_neg (by rw [Bool.not_eq_true', decide_eq_false_iff_not]; omega)]
  refine lc_map ks D.str (fun _ => .bl true) (small (by omega)) (fun k hk' R hR => ?_) ?_
  · walk_at "dl"
    refine ⟨C, rfl, _, .head _, _, rfl, rfl, rfl, ?_⟩
    rw [if_neg Bool.false_ne_true]
    show R S (.bl (inD (.str k) (kindsL.map D.str)))
    rw [in_words, decide_eq_true (hk k hk')]
    exact hR
  · walk_at "dl"
    refine all_map ks (fun _ => true) ?_
    rw [show (ks.all fun _ => true) = true from by simp]
    exact ret_now h
theorem p_Style___init__ (I C : Addr) : Rets (sp_Style___init__ C) (T_Style___init__ I C) N_Style___init__ := by
  rintro _ S Φ Ψ ⟨h, ks, g, l, rfl, eh, ok, q⟩
  unfold T_Style___init__
  walk_at "dl"
  have es : ∀ c, (S.set h c)[h]? = some c := fun c => List.getElem?_set_self (List.getElem?_eq_some_iff.mp eh).1
  refine joinD (fun S' d => S' = S ∧ d = .lst ((kindsOr ks).map D.str)) (fun S' d ⟨e1, e2⟩ => ?_) fun N hN => ?_
  · subst e1
    subst e2
    refine ⟨_, rfl, ok.lo, ok.hi, ok.at_, true, rfl, ?_⟩
    rw [if_neg (by decide)]
    refine ⟨g, rfl, true, by rw [inB_of ok.g0 ok.g1], ?_⟩
    rw [if_neg (by decide)]
    refine ⟨l, rfl, true, by rw [inB_of ok.l0 ok.l1], ?_⟩
    rw [if_neg (by decide)]
    refine ⟨h, [], rfl, eh, by decide, h, _, rfl, es _, by show (1 : Nat) < 1000; decide, h, _, rfl, by rw [List.set_set]; exact es _, by show (2 : Nat) < 1000; decide, ?_⟩
    rw [List.set_set, List.set_set]
    exact ret_now q
  · walk_at "dl"
    rw [List.length_map]
    cases ks with
    | nil =>
      rw [if_neg (by decide)]
      exact ⟨small, hN _ _ ⟨rfl, rfl⟩⟩
    | cons k r =>
      rw [if_pos (by rw [decide_eq_true_eq, List.length_cons]; omega)]
      exact hN _ _ ⟨rfl, rfl⟩
theorem p_Style_of (I C : Addr) : Rets (sp_Style_of C) (T_Style_of I C) N_Style_of := by
  rintro _ S Φ Ψ ⟨ks, g, l, rfl, ok, q⟩
  unfold T_Style_of
  walk_at "dl"
  have e : kindsOr ks = ks := by
    unfold kindsOr
    rw [if_neg (fun e => by have := ok.lo; rw [e] at this; simp at this)]
  refine ⟨_, rfl, ok.lo, ok.hi, ok.at_, true, rfl, ?_⟩
  rw [if_neg (by decide)]
  refine ⟨_, rfl, rfl, by simp, small (by show (ks.map D.str).length ≤ _; rw [List.length_map]; have := ok.hi; omega), _, ks, _, _, rfl, get_at, by rw [e]; exact ok, rfl, ?_⟩
  rw [set_at, e]
  exact ret_now q
theorem p__law_look : Rets sp__law_look T__law_look N__law_look := by
  rintro _ S Φ Ψ ⟨h, n, rfl, f, hn, q⟩
  unfold T__law_look
  walk_at "dl"
  refine ⟨small, roll_at f (by decide) fun S1 a f1 g1 ha0 ha1 => ?_⟩
  refine dIx_p (p := fun d => ∃ x : Int, d = .int x ∧ 1 ≤ x ∧ x ≤ 12) ha0 ha1 ?_ fun d ⟨x, e, hx0, hx1⟩ => ?_
  · intro d hd
    simp only [List.mem_cons, List.not_mem_nil, or_false] at hd
    rcases hd with rfl | rfl <;> exact ⟨_, rfl, by decide, by decide⟩
  subst e
  refine roll_at g1 (by omega) fun S2 b f2 g2 hb0 hb1 => ?_
  walk_at "dl"
  obtain ⟨m, em, hm1, hm2⟩ : ∃ m : Nat, 1 + b = m ∧ 1 ≤ m ∧ m ≤ 12 := ⟨(1 + b).toNat, by omega, by omega, by omega⟩
  rw [em, Int.toNat_natCast]
  refine ⟨by omega, by omega, ?_⟩
  have f12 := f1.trans f2
  refine lc_r0 (fun i acc S' => Fs h (n + 2 + i) S S' ∧ ∃ ks : List Str, acc = ks.map D.str ∧ ks.length = i ∧ ∀ k ∈ ks, k ∈ kindsL) (small (by omega)) ⟨f12, [], rfl, rfl, fun _ h => nomatch h⟩ (fun i acc S' hi hp => ?_) fun acc S' hp => ?_
  · obtain ⟨fs, ks, rfl, hl, hk⟩ := hp
    walk_at "dl"
    refine ⟨small, roll_at (fs.at f.lt) (by decide) fun S3 c f3 g3 hc0 hc1 => ?_⟩
    refine dIx_p (p := fun d => ∃ k : Str, d = .str k ∧ k ∈ kindsL) hc0 hc1 ?_ fun d ⟨k, e, hk2⟩ => ?_
    · intro d hd
      simp only [List.mem_cons, List.not_mem_nil, or_false] at hd
      rcases hd with rfl | rfl | rfl
      · exact ⟨_, rfl, .head _⟩
      · exact ⟨_, rfl, .tail _ (.head _)⟩
      · exact ⟨_, rfl, .tail _ (.tail _ (.head _))⟩
    subst e
    refine ⟨fs.trans f3, ks ++ [k], by rw [List.map_append]; rfl, by rw [List.length_append, hl] <;> rfl, fun y hy => ?_⟩
    rcases List.mem_append.mp hy with hy | hy
    · exact hk y hy
    · rw [List.mem_singleton.mp hy]; exact hk2
  · obtain ⟨fs, ks, rfl, hl, hk⟩ := hp
    walk_at "dl"
    have lt0 : ∀ c : Cell, h < (S ++ [c]).length := fun c => by rw [List.length_append]; have := f.lt; omega
    have eL : S'.length = S.length := fs.len
    rw [eL]
    refine ⟨small, by decide, by decide, ?_⟩
    have fc := fs.cell (.lst []) f.lt
    refine for_r0 (fun i Γ S' => ∃ (vs : List Int) (o o2 o3 : Option D), Γ = [some (.own h), some (.int m), some (.lst (ks.map D.str)), some (.own S.length), o, o2, o3] ∧ Fs h (n + 14 + 3 * i) (S ++ [.lst (vs.map D.int)]) S' ∧ vs.length = i ∧ ∀ v ∈ vs, 0 ≤ v ∧ v ≤ GREAT) ⟨[], _, _, _, rfl, fc.mono (by omega), rfl, fun _ h => nomatch h⟩ (fun i Γ' S2 hi hp => ?_) fun Γ' S2 hp => ?_
    · obtain ⟨vs, o, o2, o3, rfl, fv, hv, hb⟩ := hp
      walk_at "dl"
      refine roll_at (fv.at (lt0 _)) (by decide) fun S3 x f3 g3 hx0 hx1 => ?_
      refine ⟨cpw (by decide) (by decide) (by decide), roll_at g3 (by decide) fun S4 y f4 g4 hy0 hy1 => ?_⟩
      walk_at "dl"
      have f34 := (fv.trans f3).trans f4
      obtain ⟨el, _⟩ := f34.last f.lt
      refine ⟨small, isLst_at el, roll_at g4 (by decide) fun S5 z f5 g5 hz0 hz1 => ?_⟩
      refine dIx_p (p := fun d => ∃ w : Int, d = .int w ∧ 0 ≤ w ∧ w ≤ GREAT) hz0 hz1 ?_ fun d ⟨w, e, hw0, hw1⟩ => ?_
      · intro d hd
        simp only [List.mem_cons, List.not_mem_nil, or_false] at hd
        rcases hd with rfl | rfl | rfl | rfl | rfl
        · exact ⟨_, rfl, by decide, by decide⟩
        · exact ⟨_, rfl, by decide, by decide⟩
        · exact ⟨_, rfl, by decide, by decide⟩
        · exact ⟨_, rfl, hx0, by show x ≤ 1000000000000000000000000000000; omega⟩
        · refine ⟨_, rfl, hy0, ?_⟩
          have : y < 10 ^ 30 + 1 := hy1
          have e30 : (10 : Int) ^ 30 = GREAT := by decide
          omega
      subst e
      obtain ⟨el, fl⟩ := (f34.trans f5).last f.lt
      refine ⟨_, el, by rw [List.length_map, hv]; exact under (by omega), vs ++ [w], _, _, _, rfl, ?_, by rw [List.length_append, hv] <;> rfl, fun v hv2 => ?_⟩
      · have := fl (.lst (vs.map D.int ++ [.int w]))
        rw [List.map_append]
        exact this.mono (by omega)
      · rcases List.mem_append.mp hv2 with hv2 | hv2
        · exact hb v hv2
        · rw [List.mem_singleton.mp hv2]; exact ⟨hw0, hw1⟩
    · obtain ⟨vs, o, o2, o3, rfl, fv, hv, hb⟩ := hp
      have hv2 : vs.length = 2 := hv
      obtain ⟨p1, p2, rfl⟩ : ∃ p1 p2, vs = [p1, p2] := by
        match vs, hv2 with
        | [p1, p2], _ => exact ⟨p1, p2, rfl⟩
      obtain ⟨el, fl⟩ := fv.last f.lt
      obtain ⟨S1', fs1, e1⟩ := fv.app (S := S) (T := [.lst [.int p1, .int p2]]) f.lt
      walk_at "dl"
      refine ⟨_, el, _, at_0, _, el, _, at_1, small, ?_⟩
      have b1 := hb p1 (.head _)
      have b2 := hb p2 (.tail _ (.head _))
      rw [e1]
      refine ret_feed fs1 ?_ (q _ ks p1 p2 (fs1.mono (by omega)) ⟨by omega, by omega, hk, b1.1, b1.2, b2.1, b2.2⟩)
      have lk := lowA_map (S1'.length) (fun k : Str => D.str k) (fun k => by rw [D.low]) ks
      simp [D.low, lowA, lk]
theorem owns_at {n m i : Nat} (h : i < m) : (ownsD n m)[i]? = some (.own (n + i)) := by
  unfold ownsD
  rw [List.getElem?_map, List.getElem?_range h]
  rfl
theorem tab_at {t : List (List Int)} {i : Nat} (h : i < t.length) : t.getD i [] = t[i] := by
  rw [List.getD_eq_getElem?_getD, List.getElem?_eq_getElem h]
  rfl
theorem fz_owns {Z : Sto} : ∀ (us : List (List Int)) (B : Sto) (Φ : Sto → List D → Prop), (∀ B', Φ (B ++ B') (us.map rowD)) → fzLD ((List.range us.length).map fun j => D.own (B.length + j)) (B ++ cellsD us ++ Z) Φ
  | [], B, Φ, h => by
    have := h Z
    simpa [fzLD, cellsD] using this
  | u :: us, B, Φ, h => by
    rw [List.length_cons, List.range_succ_eq_map, List.map_cons, List.map_map]
    refine ⟨u.map D.int, ?_, ?_⟩
    · rw [List.append_assoc]
      exact get_at
    · have e : (B ++ cellsD (u :: us) ++ Z).set (B.length + 0) .gone = B ++ [.gone] ++ cellsD us ++ Z := by
        rw [List.append_assoc]
        show (B ++ (_ :: (cellsD us ++ Z))).set _ _ = _
        rw [Nat.add_zero, set_at]
        simp
      rw [e]
      have ih := fz_owns (Z := Z) us (B ++ [.gone]) (fun S' ds' => Φ S' (rowD u :: ds')) fun B' => by
        have := h ([.gone] ++ B')
        rw [← List.append_assoc] at this
        exact this
      have e2 : (fun j => D.own ((B ++ [Cell.gone]).length + j)) = ((fun j => D.own (B.length + j)) ∘ Nat.succ) := by
        funext j
        show D.own _ = D.own _
        rw [List.length_append]
        show D.own (B.length + 1 + j) = D.own (B.length + (j + 1))
        congr 1
        omega
      rw [e2] at ih
      exact ih
/-- a new table, frozen at once -/
theorem fz_new {t : List (List Int)} {S : Sto} {Φ : KD} (h : ∀ Z, Φ (S ++ Z) (tabD t)) : newTab t S fun S1 d => fzD2 d S1 Φ := by
  have lc : (cellsD t).length = t.length := by simp [cellsD]
  have e : S.length + t.length = (S ++ cellsD t).length := by rw [List.length_append, lc]
  refine ⟨ownsD S.length t.length, by rw [e]; exact get_at, ?_⟩
  rw [e, set_at]
  exact fz_owns t S _ fun B' => h B'
/-- a new table read, whatever lies about it -/
theorem read_new {S X : Sto} {t : List (List Int)} : ∀ {T : Sto}, X = cellsD t → PyR (S ++ X ++ [.lst (ownsD S.length t.length)] ++ T) (.own (S.length + t.length)) (tabP t) := fun {T} hX => by
  subst hX
  have lc : (cellsD t).length = t.length := by simp [cellsD]
  refine .own (ds := ownsD S.length t.length) ?_ ?_
  · rw [show S.length + t.length = (S ++ cellsD t).length by rw [List.length_append, lc]]
    exact get_app get_at
  · have all : ∀ (us : List (List Int)) (k : Nat), (∀ i (h : i < us.length), (S ++ cellsD t ++ [.lst (ownsD S.length t.length)] ++ T)[S.length + k + i]? = some (.lst ((us[i]).map D.int))) → PyRA (S ++ cellsD t ++ [.lst (ownsD S.length t.length)] ++ T) ((List.range us.length).map fun j => D.own (S.length + k + j)) (us.map rowP) := by
      intro us
      induction us with
      | nil => intro k _; exact .nil
      | cons r us ih =>
        intro k h
        rw [List.length_cons, List.range_succ_eq_map, List.map_cons, List.map_map, List.map_cons]
        refine .cons (.own (h 0 (by simp)) (pyra_map PyR.int r)) ?_
        have := ih (k + 1) fun i hi => by
          have := h (i + 1) (by simpa using hi)
          rw [show S.length + (k + 1) + i = S.length + k + (i + 1) by omega]
          simpa using this
        have e : (fun j => D.own (S.length + (k + 1) + j)) = ((fun j => D.own (S.length + k + j)) ∘ Nat.succ) := by
          funext j
          show _ = D.own _
          congr 1
          omega
        rw [e] at this
        exact this
    have := all t 0 fun i h => by
      rw [Nat.add_zero, List.append_assoc, List.append_assoc, List.getElem?_append_right (Nat.le_add_right _ _), Nat.add_sub_cancel_left]
      refine get_app ?_
      unfold cellsD
      rw [List.getElem?_map, List.getElem?_eq_getElem h]
      rfl
    exact this
theorem TabOk.nat {t : List (List Int)} (ok : TabOk t) : ∀ r ∈ t, ∀ x ∈ r, x.natAbs < 10 ^ 31 := fun r hr x hx => by
  have h := (ok.row r hr).at_ x hx
  have h2 : x < 10 ^ 31 := Int.lt_of_le_of_lt h.2 (by decide)
  omega
theorem TabOk.fit {t : List (List Int)} (ok : TabOk t) : Fit 2 (2 + 60 * (2 + 12 * (31 + 3) + 2)) (tabP t) := fit_tab ok.nat (fun r hr => (ok.row r hr).hi) ok.hi
theorem p_is_line : Rets sp_is_line T_is_line N_is_line := by
  rintro _ S Φ Ψ ⟨d, r, rfl, e, ok, h⟩
  unfold T_is_line
  walk_at "dl"
  have h1 := ok.lo
  have h2 := ok.hi
  rw [cIsi_of (tyOf_L e)]
  walk_at "dl"
  rw [cLen_L e, List.length_map]
  walk_at "dl"
  rw [if_pos (show isTyB "list" "list" = true from rfl), if_pos (by rw [decide_eq_true_eq]; omega), if_pos (by rw [decide_eq_true_eq]; omega)]
  refine ⟨⟨_, asQ_L e⟩, lc_mapS r D.int (fun _ => .bl true) (asQ_L e) (small (by omega)) (fun x hx R hR => ?_) ?_⟩
  · walk_at "dl"
    exact ⟨x, rfl, by rw [inB_of (ok.at_ x hx).1 (ok.at_ x hx).2]; exact hR⟩
  · walk_at "dl"
    exact ⟨r.map fun _ => true, by rw [List.map_map]; rfl, ret_now (by rw [all_true]; exact h)⟩
theorem p_is_table : Rets sp_is_table T_is_table N_is_table := by
  rintro _ S Φ Ψ ⟨d, t, rfl, ⟨ds, e, rs⟩, h⟩
  unfold T_is_table
  walk_at "dl"
  have h3 := rs.len
  rw [cIsi_of (tyOf_L e)]
  walk_at "dl"
  rw [cLen_L e]
  walk_at "dl"
  rw [if_pos (show isTyB "list" "list" = true from rfl)]
  rcases h with ⟨ok, h⟩ | ⟨hb, hb2, h⟩
  · have h1 := ok.lo
    have h2 := ok.hi
    rw [if_pos (by rw [decide_eq_true_eq]; omega), if_pos (by rw [decide_eq_true_eq]; omega)]
    refine ⟨⟨_, asQ_L e⟩, lc_idS ds (fun _ => .bl true) (asQ_L e) (small (by omega)) (fun x hx R hR => ?_) ?_⟩
    · obtain ⟨r, hr, er⟩ := rs.mem hx
      walk_at "dl"
      exact ⟨x, r, rfl, er, ok.row r hr, hR⟩
    · walk_at "dl"
      exact ⟨ds.map fun _ => true, by rw [List.map_map]; rfl, ret_now (by rw [all_true]; exact h)⟩
  · rw [if_pos (by rw [decide_eq_true_eq]; omega), if_neg (by rw [decide_eq_true_eq]; omega)]
    exact ret_now h
theorem p_need_table (C) : Rets sp_need_table (T_need_table C) N_need_table := by
  rintro _ S Φ Ψ ⟨d, t, rfl, e, ok, h⟩
  unfold T_need_table
  walk_at "dl"
  exact ⟨d, t, rfl, e, .inl ⟨ok, by walk_at "dl"; exact ret_now h⟩⟩
theorem p_need_line (C) : Rets sp_need_line (T_need_line C) N_need_line := by
  rintro _ S Φ Ψ ⟨d, t, i, rfl, ⟨ds, e, rs⟩, h1, h⟩
  unfold T_need_line
  walk_at "dl"
  rw [cLen_L e]
  walk_at "dl"
  have h3 := rs.len
  refine ⟨i, 0, _, rfl, ?_⟩
  rw [inB_of (by omega) (by omega)]
  walk_at "dl"
  exact ret_now h
theorem p_copy_of : Rets sp_copy_of T_copy_of N_copy_of := by
  rintro _ S Φ Ψ ⟨d, t, rfl, ⟨ds, e, rs⟩, h2, h⟩
  unfold T_copy_of
  walk_at "dl"
  have h3 := rs.len
  refine ⟨⟨_, asQ_L e⟩, lc_s (ds := ds) (fun i acc S' => S' = S ++ cellsD (t.take i) ∧ acc = ownsD S.length i) (small (by omega)) ⟨by simp [cellsD], rfl⟩ (fun i acc S' hp => by rw [hp.1]; exact asQ_L (asL_app e)) (fun i acc S' hi hp => ?_) fun acc S' hp => ?_⟩
  · obtain ⟨rfl, rfl⟩ := hp
    have hi2 : i < t.length := by omega
    walk_at "dl"
    rw [cListO_L (asL_app (rs.get hi2 hi))]
    refine ⟨?_, ?_⟩
    · rw [List.take_add_one, List.getElem?_eq_getElem hi2, List.append_assoc]
      unfold cellsD
      rw [List.map_append]
      rfl
    · unfold ownsD cellsD
      rw [List.range_succ, List.map_append, List.length_append, List.length_map, List.length_take, Nat.min_eq_left (Nat.le_of_lt hi2)]
      rfl
  · obtain ⟨rfl, rfl⟩ := hp
    walk_at "dl"
    rw [h3, List.take_length]
    refine ret_now ?_
    unfold newTab at h
    rw [List.length_append]
    unfold cellsD at h ⊢
    rw [List.length_map]
    exact h
theorem p_with_line (C C2 C3) : Rets sp_with_line (T_with_line C C2 C3) N_with_line := by
  rintro _ S Φ Ψ ⟨d, t, i, e, r, rfl, tab, ok, hi, hl, er, okr, h⟩
  obtain ⟨ds, ed, rs⟩ := id tab
  unfold T_with_line
  walk_at "dl"
  have h3 := rs.len
  refine ⟨d, t, rfl, tab, ok, ?_⟩
  walk_at "dl"
  rw [if_pos (by rw [decide_eq_true_eq]; omega), cLen_L ed]
  walk_at "dl"
  rw [decide_eq_true (by omega)]
  walk_at "dl"
  refine ⟨e, r, rfl, er, okr, ?_⟩
  walk_at "dl"
  rw [cLen_L ed, dEq_i]
  refine ⟨_, rfl, ?_⟩
  rw [show ((ds.length : Int) == 60) = false by rw [beq_eq_false_iff_ne]; omega]
  walk_at "dl"
  rw [dSlL_L ed, cut_to]
  walk_at "dl"
  refine ⟨small, small (by rw [List.length_take]; omega), ?_⟩
  rw [dSlL_L ed, cut_from]
  walk_at "dl"
  refine ⟨small (by rw [List.length_append, List.length_take, List.length_drop]; simp only [List.length_cons, List.length_nil]; omega), ?_⟩
  refine ⟨_, putAt t i r, rfl, ⟨_, rfl, ?_⟩, ?_, ?_⟩
  · unfold putAt
    rw [List.append_assoc]
    exact (rs.take i).cat (.cons er (rs.drop i))
  · unfold putAt
    rw [List.length_append, List.length_cons, List.length_take, List.length_drop]
    omega
  · unfold newTab at h ⊢
    exact ret_now h
theorem p_without_line (C) : Rets sp_without_line (T_without_line C) N_without_line := by
  rintro _ S Φ Ψ ⟨d, t, i, rfl, tab, ok, hi, hl, h⟩
  obtain ⟨ds, ed, rs⟩ := id tab
  unfold T_without_line
  walk_at "dl"
  have h3 := rs.len
  have h4 := ok.hi
  refine ⟨d, t, rfl, tab, ok, ?_⟩
  walk_at "dl"
  refine ⟨d, t, i, rfl, tab, hi, ?_⟩
  walk_at "dl"
  rw [cLen_L ed, dEq_i]
  refine ⟨_, rfl, ?_⟩
  rw [show ((ds.length : Int) == 1) = false by rw [beq_eq_false_iff_ne]; omega]
  walk_at "dl"
  rw [dSlL_L ed, cut_to, dSlL_L ed, show ((i : Int) + 1) = ((i + 1 : Nat) : Int) by omega, cut_from]
  walk_at "dl"
  refine ⟨small (by rw [List.length_take, List.length_drop]; omega), ?_⟩
  refine ⟨_, cutAt t i, rfl, ⟨_, rfl, (rs.take i).cat (rs.drop (i + 1))⟩, ?_, ?_⟩
  · unfold cutAt
    rw [List.length_append, List.length_take, List.length_drop]
    omega
  · unfold newTab at h ⊢
    exact ret_now h
theorem p_need_cell (C C2) : Rets sp_need_cell (T_need_cell C C2) N_need_cell := by
  rintro _ S Φ Ψ ⟨t, i, j, v, rfl, ok, hi, hj, h0, h1, h⟩
  unfold T_need_cell
  walk_at "dl"
  refine ⟨_, t, rfl, tabS_l t, ok, ?_⟩
  walk_at "dl"
  refine ⟨_, t, i, rfl, tabS_l t, hi, ?_⟩
  walk_at "dl"
  rw [if_pos (by rw [decide_eq_true_eq]; omega)]
  rw [at_nat]
  refine ⟨rowD (t[i]), by rw [List.getElem?_map, List.getElem?_eq_getElem hi]; rfl, ?_⟩
  walk_at "dl"
  rw [List.length_map, ← tab_at hi, decide_eq_true (by omega)]
  walk_at "dl"
  refine ⟨v, rfl, ?_⟩
  rw [inB_of h0 h1]
  walk_at "dl"
  exact ret_now h
theorem p_changed : Rets sp_changed T_changed N_changed := by
  rintro _ S Φ Ψ ⟨t, i, j, v, rfl, ok, hi, hj, h⟩
  unfold T_changed
  walk_at "dl"
  refine ⟨_, t, rfl, tabS_l t, by have := ok.hi; omega, ?_⟩
  unfold newTab
  walk_at "dl"
  have eO : (S ++ cellsD t ++ [Cell.lst (ownsD S.length t.length)])[S.length + t.length]? = some (.lst (ownsD S.length t.length)) := by
    rw [show S.length + t.length = (S ++ cellsD t).length by rw [List.length_append]; simp [cellsD]]
    exact get_at
  refine ⟨_, eO, _, by rw [at_nat, owns_at hi], ?_⟩
  walk_at "dl"
  have hc : (cellsD t)[i]? = some (.lst ((t[i]).map D.int)) := by
    unfold cellsD
    rw [List.getElem?_map, List.getElem?_eq_getElem hi]
    rfl
  have eR : (S ++ cellsD t ++ [Cell.lst (ownsD S.length t.length)])[S.length + i]? = some (.lst ((t[i]).map D.int)) := by
    rw [List.append_assoc, List.getElem?_append_right (Nat.le_add_right _ _), Nat.add_sub_cancel_left]
    exact get_app hc
  rw [tab_at hi] at hj
  refine ⟨_, eR, j, ix_nat (by rw [List.length_map]; exact hj), ret_now ?_⟩
  unfold newTab at h
  have e1 : (S ++ cellsD t ++ [Cell.lst (ownsD S.length t.length)]).set (S.length + i) (.lst (((t[i]).map D.int).set j (.int v))) = S ++ cellsD (setAt t i j v) ++ [Cell.lst (ownsD S.length t.length)] := by
    rw [List.append_assoc, List.set_append_right _ _ (Nat.le_add_right _ _), Nat.add_sub_cancel_left, set_app (by unfold cellsD; rw [List.length_map]; exact hi), ← List.append_assoc]
    congr 2
    unfold cellsD setAt
    rw [tab_at hi, List.map_set, List.map_set]
  rw [e1]
  have e2 : (setAt t i j v).length = t.length := by unfold setAt; rw [List.length_set]
  rw [e2] at h
  exact h
theorem p_with_cell : Rets sp_with_cell T_with_cell N_with_cell := by
  rintro _ S Φ Ψ ⟨t, i, j, v, rfl, ok, hi, hj, h0, h1, h⟩
  unfold T_with_cell
  walk_at "dl"
  refine ⟨t, i, j, v, rfl, ok, hi, hj, h0, h1, ?_⟩
  walk_at "dl"
  refine ⟨t, i, j, v, rfl, ok, hi, hj, ?_⟩
  unfold newTab at h ⊢
  exact ret_now h
end DL
namespace DL
open PySem PySem.Spec PyProof.Rows L2
local macro_rules | `(tactic| walk_at "dl") => `(tactic| ((try simp only [gstart, gwipe, List.set_set, List.map_cons, List.map_nil, List.length_cons, List.length_nil, rep_0, rep_s, List.cons_append, List.nil_append, List.set_cons_zero, List.set_cons_succ, Nat.reduceAdd, Nat.reduceSub, Nat.zero_add, Nat.add_zero]); (try simp only [↓dv0, ↓dv1, ↓dv2, ↓dv3, ↓dv4, ↓dv5, ↓dv6, ↓dv7, ↓dv8, ↓dv9, ↓dv10, ↓dv11, ↓dv12, ↓dv13, ↓dv14, ↓dv15, ↓dv16, ↓dv17, ↓dv18, ↓dv19, ↓dv20, ↓dv21, ↓dv22, ↓dv23, ↓dv24, ↓dv25, ↓dv26, ↓dv27, ↓dv28, ↓dv29, ↓dv30, ↓dv31, ↓dv32, ↓dv33, ↓dv34, ↓dv35, ↓dv36, ↓dv37, ↓dv38, ↓dv39, ↓nm0, ↓nm1, ↓nm2, ↓nm3, ↓nm4, ↓nm5, ↓nm6, ↓nm7, ↓nm8, ↓nm9, ↓nm10, ↓nm11, ↓nm12, ↓nm13, ↓nm14, ↓nm15, ↓nm16, ↓nm17, ↓nm18, ↓nm19, ↓nm20, ↓nm21, ↓nm22, ↓nm23, ↓nm24, ↓nm25, ↓nm26, ↓nm27, ↓nm28, ↓nm29, ↓nm30, ↓nm31, ↓nm32, ↓nm33, ↓nm34, ↓nm35, ↓nm36, ↓nm37, ↓nm38, ↓nm39, ↓sPar_n, ↓sPar3_n, ↓sAug_n, ↓reduceIte, List.set_set, ↓sNext_e, ↓sSeq_e, ↓sBrk_e, ↓sCnt_e, ↓sDrop_e, ↓sRet_e, ↓sRetN_e, ↓sIf_e, ↓sAsg_e, ↓sRaise_e, ↓nmG_e, ↓tupG_e, ↓gsNil_e, ↓gsCons_e, ↓subG_e, ↓dC_e, ↓dOp_e, ↓dUn_e, ↓dChain_e, ↓bOf_e, ↓bAnd_e, ↓bOr_e, ↓bNot_e, ↓bYes_e, ↓dAnd_e, ↓dOr_e, ↓dNot_e, ↓dIf_e, ↓lNil_e, ↓lCons_e, ↓dLst_e, ↓dLstO_e, ↓dTup_e, ↓dCB_e, ↓dCall_e, ↓dCallK_e, ↓oNone_e, ↓oSome_e, ↓dSl_e, ↓dBM_e, ↓dBM0_e, ↓dFz_e, ↓dFz2_e, ↓d2_e, ↓dLone_e, ↓lStar_e, ↓dCallA_e, ↓dMakeA_e, ↓dMakeV_e, ↓dMethA_e, ↓dCMethA_e, ↓dPropA_e, ↓dFld_e, ↓sFldS_e, ↓dFzI_e, ↓fzID_o, ↓dM1_e, ↓dM0_e, ↓dRev_e, ↓mSplit_s, ↓mUpper_s, ↓exStr, ↓exZ, ↓cStrI_i, ↓cIntS_s, ↓iStrD_e, ↓dEqF_s, ↓dNeF_s, ↓dEqF_i, ↓dNeF_i, ↓dSign_s, ↓sRaiseI_e, ↓dXFld_e, ↓mPop_e, ↓dAddO_l, ↓dAddO_o, ↓dMk0_e, ↓sKeep_e, ↓dCVal_e, ↓dConI_e, ↓cLen_s, ↓dIx_s, ↓dSlS_s, ↓dAdd_s, ↓cTup_l, ↓pkP_e, ↓pkS_e, ↓lstG_e, ↓asI_i, ↓iSeq_e, ↓iTupD_e, ↓iRg1_e, ↓iRg2_e, ↓iZipD_e, ↓iEnumD_e, ↓sFor_e, ↓dLc_e, ↓finF_e, ↓finO_e, ↓fzD_l, ↓fzD_i, ↓fzD_o, ↓fzD2_o, ↓dSetO_e, ↓mAppend_e, ↓mClear_e, ↓mReverse_e, List.map_cons, List.map_nil, List.length_cons, List.length_nil, rep_0, rep_s, List.cons_append, List.nil_append, List.getElem?_cons_zero, List.getElem?_cons_succ, List.set_cons_zero, List.set_cons_succ, Nat.reduceAdd, Nat.reduceSub, Nat.zero_add, Nat.add_zero, ↓exSS, ↓exB, ↓exI, ↓ex1, ↓ex2, ↓ex3, ↓exI1, ↓exI2, ↓exT, ↓exC, ↓exAs, ↓dAdd_i, ↓dAdd_l, ↓dSub_i, ↓dMul_i, ↓dMul_l, ↓dMod_i, ↓dDiv_i, ↓dPow_i, ↓dLt_i, ↓dLe_i, ↓dGt_i, ↓dGe_i, ↓uNeg_i, ↓cMax2_i, ↓cMin2_i, ↓cAbs_i, ↓cInt_i, ↓cInt_b, ↓cLen_l, ↓cLen_q, ↓cLen_t, ↓cList_l, ↓cList_q, ↓cList_t, ↓cListO_l, ↓cListO_t, ↓dIx_l, ↓dIx_q, ↓dIx_t, ↓dIx_o', ↓exS, ↓exL, at_1, at_2, at_3, at_4, ix30, ix31, ix32, ↓dSlL_l, ↓dSlL_q, ↓asQ_l, ↓asL_l, at_0, ↓isi_non_int, ↓isi_non_bool, ↓isi_non_str, ↓isi_non_list, ↓isi_non_tuple, ↓isi_non_dict, ↓isi_bl_int, ↓isi_bl_bool, ↓isi_bl_str, ↓isi_bl_list, ↓isi_bl_tuple, ↓isi_bl_dict, ↓isi_int_int, ↓isi_int_bool, ↓isi_int_str, ↓isi_int_list, ↓isi_int_tuple, ↓isi_int_dict, ↓isi_str_int, ↓isi_str_bool, ↓isi_str_str, ↓isi_str_list, ↓isi_str_tuple, ↓isi_str_dict, ↓isi_lst_int, ↓isi_lst_bool, ↓isi_lst_str, ↓isi_lst_list, ↓isi_lst_tuple, ↓isi_lst_dict, ↓isi_sq_int, ↓isi_sq_bool, ↓isi_sq_str, ↓isi_sq_list, ↓isi_sq_tuple, ↓isi_sq_dict, ↓isi_tup_int, ↓isi_tup_bool, ↓isi_tup_str, ↓isi_tup_list, ↓isi_tup_tuple, ↓isi_tup_dict, ↓isi_dic_int, ↓isi_dic_bool, ↓isi_dic_str, ↓isi_dic_list, ↓isi_dic_tuple, ↓isi_dic_dict, if_true, if_false, Bool.not_true, Bool.not_false, true_and, and_true, reduceCtorEq, Bool.true_eq_false, Bool.false_eq_true, ite_true, ite_false, ↓exAny, ↓isLst_l, Int.toNat_natCast, Int.reduceToNat, dVar_e, sPar_e, sPar3_e, sAug_e])))
local macro_rules | `(tactic| walk_at "dls") => `(tactic| ((try simp only [gstart, gwipe, List.set_set, List.map_cons, List.map_nil, List.length_cons, List.length_nil, rep_0, rep_s, List.cons_append, List.nil_append, List.set_cons_zero, List.set_cons_succ, Nat.reduceAdd, Nat.reduceSub, Nat.zero_add, Nat.add_zero]); (try simp only [*, ↓dv0, ↓dv1, ↓dv2, ↓dv3, ↓dv4, ↓dv5, ↓dv6, ↓dv7, ↓dv8, ↓dv9, ↓dv10, ↓dv11, ↓dv12, ↓dv13, ↓dv14, ↓dv15, ↓dv16, ↓dv17, ↓dv18, ↓dv19, ↓dv20, ↓dv21, ↓dv22, ↓dv23, ↓dv24, ↓dv25, ↓dv26, ↓dv27, ↓dv28, ↓dv29, ↓dv30, ↓dv31, ↓dv32, ↓dv33, ↓dv34, ↓dv35, ↓dv36, ↓dv37, ↓dv38, ↓dv39, ↓nm0, ↓nm1, ↓nm2, ↓nm3, ↓nm4, ↓nm5, ↓nm6, ↓nm7, ↓nm8, ↓nm9, ↓nm10, ↓nm11, ↓nm12, ↓nm13, ↓nm14, ↓nm15, ↓nm16, ↓nm17, ↓nm18, ↓nm19, ↓nm20, ↓nm21, ↓nm22, ↓nm23, ↓nm24, ↓nm25, ↓nm26, ↓nm27, ↓nm28, ↓nm29, ↓nm30, ↓nm31, ↓nm32, ↓nm33, ↓nm34, ↓nm35, ↓nm36, ↓nm37, ↓nm38, ↓nm39, ↓sPar_n, ↓sPar3_n, ↓sAug_n, ↓reduceIte, List.set_set, ↓sNext_e, ↓sSeq_e, ↓sBrk_e, ↓sCnt_e, ↓sDrop_e, ↓sRet_e, ↓sRetN_e, ↓sIf_e, ↓sAsg_e, ↓sRaise_e, ↓nmG_e, ↓tupG_e, ↓gsNil_e, ↓gsCons_e, ↓subG_e, ↓dC_e, ↓dOp_e, ↓dUn_e, ↓dChain_e, ↓bOf_e, ↓bAnd_e, ↓bOr_e, ↓bNot_e, ↓bYes_e, ↓dAnd_e, ↓dOr_e, ↓dNot_e, ↓dIf_e, ↓lNil_e, ↓lCons_e, ↓dLst_e, ↓dLstO_e, ↓dTup_e, ↓dCB_e, ↓dCall_e, ↓dCallK_e, ↓oNone_e, ↓oSome_e, ↓dSl_e, ↓dBM_e, ↓dBM0_e, ↓dFz_e, ↓dFz2_e, ↓d2_e, ↓dLone_e, ↓lStar_e, ↓dCallA_e, ↓dMakeA_e, ↓dMakeV_e, ↓dMethA_e, ↓dCMethA_e, ↓dPropA_e, ↓dFld_e, ↓sFldS_e, ↓dFzI_e, ↓fzID_o, ↓dM1_e, ↓dM0_e, ↓dRev_e, ↓mSplit_s, ↓mUpper_s, ↓exStr, ↓exZ, ↓cStrI_i, ↓cIntS_s, ↓iStrD_e, ↓dEqF_s, ↓dNeF_s, ↓dEqF_i, ↓dNeF_i, ↓dSign_s, ↓sRaiseI_e, ↓dXFld_e, ↓mPop_e, ↓dAddO_l, ↓dAddO_o, ↓dMk0_e, ↓sKeep_e, ↓dCVal_e, ↓dConI_e, ↓cLen_s, ↓dIx_s, ↓dSlS_s, ↓dAdd_s, ↓cTup_l, ↓pkP_e, ↓pkS_e, ↓lstG_e, ↓asI_i, ↓iSeq_e, ↓iTupD_e, ↓iRg1_e, ↓iRg2_e, ↓iZipD_e, ↓iEnumD_e, ↓sFor_e, ↓dLc_e, ↓finF_e, ↓finO_e, ↓fzD_l, ↓fzD_i, ↓fzD_o, ↓fzD2_o, ↓dSetO_e, ↓mAppend_e, ↓mClear_e, ↓mReverse_e, List.map_cons, List.map_nil, List.length_cons, List.length_nil, rep_0, rep_s, List.cons_append, List.nil_append, List.getElem?_cons_zero, List.getElem?_cons_succ, List.set_cons_zero, List.set_cons_succ, Nat.reduceAdd, Nat.reduceSub, Nat.zero_add, Nat.add_zero, ↓exSS, ↓exB, ↓exI, ↓ex1, ↓ex2, ↓ex3, ↓exI1, ↓exI2, ↓exT, ↓exC, ↓exAs, ↓dAdd_i, ↓dAdd_l, ↓dSub_i, ↓dMul_i, ↓dMul_l, ↓dMod_i, ↓dDiv_i, ↓dPow_i, ↓dLt_i, ↓dLe_i, ↓dGt_i, ↓dGe_i, ↓uNeg_i, ↓cMax2_i, ↓cMin2_i, ↓cAbs_i, ↓cInt_i, ↓cInt_b, ↓cLen_l, ↓cLen_q, ↓cLen_t, ↓cList_l, ↓cList_q, ↓cList_t, ↓cListO_l, ↓cListO_t, ↓dIx_l, ↓dIx_q, ↓dIx_t, ↓dIx_o', ↓exS, ↓exL, at_1, at_2, at_3, at_4, ix30, ix31, ix32, ↓dSlL_l, ↓dSlL_q, ↓asQ_l, ↓asL_l, at_0, ↓isi_non_int, ↓isi_non_bool, ↓isi_non_str, ↓isi_non_list, ↓isi_non_tuple, ↓isi_non_dict, ↓isi_bl_int, ↓isi_bl_bool, ↓isi_bl_str, ↓isi_bl_list, ↓isi_bl_tuple, ↓isi_bl_dict, ↓isi_int_int, ↓isi_int_bool, ↓isi_int_str, ↓isi_int_list, ↓isi_int_tuple, ↓isi_int_dict, ↓isi_str_int, ↓isi_str_bool, ↓isi_str_str, ↓isi_str_list, ↓isi_str_tuple, ↓isi_str_dict, ↓isi_lst_int, ↓isi_lst_bool, ↓isi_lst_str, ↓isi_lst_list, ↓isi_lst_tuple, ↓isi_lst_dict, ↓isi_sq_int, ↓isi_sq_bool, ↓isi_sq_str, ↓isi_sq_list, ↓isi_sq_tuple, ↓isi_sq_dict, ↓isi_tup_int, ↓isi_tup_bool, ↓isi_tup_str, ↓isi_tup_list, ↓isi_tup_tuple, ↓isi_tup_dict, ↓isi_dic_int, ↓isi_dic_bool, ↓isi_dic_str, ↓isi_dic_list, ↓isi_dic_tuple, ↓isi_dic_dict, if_true, if_false, Bool.not_true, Bool.not_false, true_and, and_true, reduceCtorEq, Bool.true_eq_false, Bool.false_eq_true, ite_true, ite_false, ↓exAny, ↓isLst_l, Int.toNat_natCast, Int.reduceToNat, dVar_e, sPar_e, sPar3_e, sAug_e])))
--M5
theorem PageAt.asi {C : Addr} {S : Sto} {p e m : Nat} {d : D} {t : List (List Int)} {es : List (List (List Int))} {ms : List Nat} (h : PageAt C S p e m d t es ms) : asI S (.own p) = some (C, pageF d t e m) := asI_own h.obj
theorem Kq.refl {p e m : Nat} {S : Sto} : Kq p e m S S := ⟨Nat.le_refl _, fun _ _ _ _ _ h => h⟩
theorem Kq.trans {p e m : Nat} {S S1 S2 : Sto} (a : Kq p e m S S1) (b : Kq p e m S1 S2) : Kq p e m S S2 := ⟨Nat.le_trans a.len b.len, fun i c h1 h2 h3 h => b.get i c h1 h2 h3 (a.get i c h1 h2 h3 h)⟩
theorem Kq.app {p e m : Nat} {S S1 T : Sto} (a : Kq p e m S S1) : Kq p e m S (S1 ++ T) := ⟨by rw [List.length_append]; have := a.len; omega, fun i c h1 h2 h3 h => get_app (a.get i c h1 h2 h3 h)⟩
theorem Kq.set {p e m : Nat} {S S1 : Sto} (a : Kq p e m S S1) {i : Nat} {c : Cell} (hi : i = p ∨ i = e ∨ i = m) : Kq p e m S (S1.set i c) := ⟨by rw [List.length_set]; exact a.len, fun j c' h1 h2 h3 h => by rw [List.getElem?_set_ne (by omega)]; exact a.get j c' h1 h2 h3 h⟩
theorem PageAt.app {C : Addr} {S T : Sto} {p e m : Nat} {d : D} {t : List (List Int)} {es : List (List (List Int))} {ms : List Nat} (h : PageAt C S p e m d t es ms) : PageAt C (S ++ T) p e m d t es ms :=
  ⟨get_app h.obj, get_app h.ear, get_app h.mar, h.pe, h.pm, h.em, h.ok, h.eok, h.el, h.ml, h.mle, h.mo⟩
theorem get_lt {S : Sto} {i : Nat} {c : Cell} (h : S[i]? = some c) : i < S.length := (List.getElem?_eq_some_iff.mp h).1
theorem pyr_tabs {S : Sto} (es : List (List (List Int))) : PyRA S (es.map tabD) (es.map tabP) := pyra_map pyr_tab es
theorem fit_tabs {es : List (List (List Int))} (h : ∀ u ∈ es, TabOk u) {k : Nat} (hl : es.length ≤ k) : Fit 3 (2 + k * (2 + 60 * (2 + 12 * (31 + 3) + 2) + 2)) (.list (es.map tabP)) :=
  fit_list (n := 2) (fun p hp => by obtain ⟨u, hu, rfl⟩ := List.mem_map.mp hp; exact (h u hu).fit) (by rw [List.length_map]; exact hl)
theorem dEq_nil {S : Sto} {Φ : KD} {x : D} {ps : List PyData} {n m : Nat} (r : PyR S x (.list ps)) (f : Fit n m (.list ps)) (hn : n ≤ 64) (h : Φ S (.bl (decide (ps = [])))) : dEq x (.lst []) S Φ := by
  refine ⟨.list ps, .list [], r, .lst .nil, f.shaped hn, by decide, ?_⟩
  cases ps with
  | nil => exact h
  | cons a b => exact h
theorem dNe_nil {S : Sto} {Φ : KD} {x : D} {ps : List PyData} {n m : Nat} (r : PyR S x (.list ps)) (f : Fit n m (.list ps)) (hn : n ≤ 64) (h : Φ S (.bl (!decide (ps = [])))) : dNe x (.lst []) S Φ := by
  refine ⟨.list ps, .list [], r, .lst .nil, f.shaped hn, by decide, ?_⟩
  cases ps with
  | nil => exact h
  | cons a b => exact h
theorem asL_ins {S : Sto} {h : Nat} {C : Addr} {fs : List (Str × D)} {c : Cell} {d : D} {xs : List D} (eh : S[h]? = some (.ins C fs)) (e : asL S d = some xs) : asL (S.set h c) d = some xs := by
  rcases asL_cases e with rfl | ⟨n, rfl, en⟩
  · rfl
  · exact asL_at' (by rw [List.getElem?_set_ne (fun hh => by subst hh; rw [eh] at en; cases en)]; exact en)
theorem TabOk.setAt {t : List (List Int)} (ok : TabOk t) {i j : Nat} {v : Int} (hi : i < t.length) (h0 : 0 ≤ v) (h1 : v ≤ GREAT) : TabOk (setAt t i j v) := by
  unfold DL.setAt
  refine ⟨by rw [List.length_set]; exact ok.lo, by rw [List.length_set]; exact ok.hi, fun r hr => ?_⟩
  rcases List.mem_or_eq_of_mem_set hr with hr | rfl
  · exact ok.row r hr
  · rw [tab_at hi]
    have o := ok.row _ (List.getElem_mem hi)
    refine ⟨by rw [List.length_set]; exact o.lo, by rw [List.length_set]; exact o.hi, fun x hx => ?_⟩
    rcases List.mem_or_eq_of_mem_set hx with hx | rfl
    · exact o.at_ x hx
    · exact ⟨h0, h1⟩
theorem TabOk.putAt {t : List (List Int)} (ok : TabOk t) {i : Nat} {r : List Int} (hi : i ≤ t.length) (hl : t.length < 60) (o : RowOk r) : TabOk (putAt t i r) := by
  unfold DL.putAt
  refine ⟨?_, ?_, fun x hx => ?_⟩
  · rw [List.length_append, List.length_cons]; omega
  · rw [List.length_append, List.length_cons, List.length_take, List.length_drop]; omega
  · rcases List.mem_append.mp hx with hx | hx
    · exact ok.row x (List.mem_of_mem_take hx)
    · rcases List.mem_cons.mp hx with rfl | hx
      · exact o
      · exact ok.row x (List.mem_of_mem_drop hx)
theorem TabOk.cutAt {t : List (List Int)} (ok : TabOk t) {i : Nat} (hi : i < t.length) (hl : 1 < t.length) : TabOk (cutAt t i) := by
  have h6 := ok.hi
  unfold DL.cutAt
  refine ⟨?_, ?_, fun x hx => ?_⟩
  · rw [List.length_append, List.length_take, List.length_drop]; omega
  · rw [List.length_append, List.length_take, List.length_drop]; omega
  · rcases List.mem_append.mp hx with hx | hx
    · exact ok.row x (List.mem_of_mem_take hx)
    · exact ok.row x (List.mem_of_mem_drop hx)
theorem lc_filtS {α : Type} {src : Sto → Option (List D)} {G : TGd} {C : TB} {Te : TD} {vs : List Nat} {Fin : List D → Sto → KD → Prop} {Γ : Gam} {S : Sto} {Φ : KD} (xs : List α) (f : α → D) (p : α → Bool) (hsrc : src S = some (xs.map f)) (hl : xs.length ≤ sizeLine) (hs : ∀ x ∈ xs, ∀ (A : KD) (N : Sto → Prop), (p x = true → A S (f x)) → (p x = false → N S) → G (f x) (gwipe Γ vs) S fun Γ2 S2 => C Γ2 S2 (fun S3 k => if k = true then Te Γ2 S3 A (fun _ _ => False) else N S3) (fun _ _ => False)) (hd : Fin ((xs.filter p).map f) S Φ) : lcP src G C Te vs Fin Γ S Φ := by
  refine lc_s (ds := xs.map f) (fun i acc S' => S' = S ∧ acc = ((xs.take i).filter p).map f) (by rw [List.length_map]; exact hl) ⟨rfl, rfl⟩ (fun i acc S' hp => by rw [hp.1]; exact hsrc) (fun i acc S' hi hp => ?_) fun acc S' hp => ?_
  · obtain ⟨rfl, rfl⟩ := hp
    rw [List.length_map] at hi
    rw [List.getElem_map]
    have e : xs.take (i + 1) = xs.take i ++ [xs[i]] := by rw [List.take_add_one, List.getElem?_eq_getElem hi]; rfl
    refine hs _ (List.getElem_mem hi) _ _ (fun hp => ⟨rfl, ?_⟩) fun hp => ⟨rfl, ?_⟩
    · rw [e, List.filter_append, List.map_append, List.filter_cons_of_pos hp]
      rfl
    · rw [e, List.filter_append, List.filter_cons_of_neg (by rw [hp]; exact Bool.false_ne_true)]
      simp
  · obtain ⟨rfl, rfl⟩ := hp
    rw [List.length_map, List.take_length]
    exact hd
theorem p_Page_table (C : Addr) : Rets (sp_Page_table C) (T_Page_table C) N_Page_table := by
  rintro _ S Φ Ψ ⟨p, e, m, d, t, rfl, ep, h2, h⟩
  unfold T_Page_table
  walk_at "dl"
  refine ⟨_, asI_own ep, _, rfl, ⟨_, rfl⟩, lc_s (ds := t.map rowD) (fun i acc S' => S' = S ++ cellsD (t.take i) ∧ acc = ownsD S.length i) (small (by rw [List.length_map]; omega)) ⟨by simp [cellsD], rfl⟩ (fun i acc S' hp => rfl) (fun i acc S' hi hp => ?_) fun acc S' hp => ?_⟩
  · obtain ⟨rfl, rfl⟩ := hp
    have hi2 : i < t.length := by rw [List.length_map] at hi; exact hi
    rw [List.getElem_map]
    walk_at "dl"
    rw [List.take_add_one, List.getElem?_eq_getElem hi2]
    refine ⟨?_, ?_⟩
    · unfold cellsD
      rw [List.append_assoc, List.map_append]
      rfl
    · unfold ownsD cellsD
      rw [List.range_succ, List.map_append, List.length_append, List.length_map, List.length_take, Nat.min_eq_left (Nat.le_of_lt hi2)]
      rfl
  · obtain ⟨rfl, rfl⟩ := hp
    walk_at "dl"
    rw [List.length_map, List.take_length]
    refine ret_now ?_
    unfold newTab at h
    rw [List.length_append]
    unfold cellsD at h ⊢
    rw [List.length_map]
    exact h
theorem p_Page___init__ (I C : Addr) : Rets (sp_Page___init__ C I) (T_Page___init__ I C) N_Page___init__ := by
  rintro _ S Φ Ψ ⟨h, d, rs, t, rfl, rr, ⟨eh, ok, q⟩ | ⟨h61, q⟩⟩
  rotate_left
  · unfold T_Page___init__
    walk_at "dl"
    refine ⟨_, t, rfl, ⟨_, rfl, rr⟩, .inr ⟨by omega, by omega, false, rfl, ?_⟩⟩
    rw [if_pos (by decide)]
    exact .inl q
  unfold T_Page___init__
  walk_at "dl"
  refine ⟨_, t, rfl, ⟨_, rfl, rr⟩, .inl ⟨ok, true, rfl, ?_⟩⟩
  rw [if_neg (by decide)]
  have hl := get_lt eh
  have h3 := rr.len
  have h4 := ok.hi
  have es : ∀ (S : Sto) c, h < S.length → (S.set h c)[h]? = some c := fun S c hl => List.getElem?_set_self hl
  refine ⟨h, [], rfl, eh, by decide, ?_⟩
  refine lc_s (ds := rs) (fun i acc S' => S' = S.set h (.ins C (putD "own_style" d [])) ∧ acc = (t.take i).map rowD) (small (by omega)) ⟨rfl, rfl⟩ (fun i acc S' hp => rfl) (fun i acc S' hi hp => ?_) fun acc S' hp => ?_
  · obtain ⟨rfl, rfl⟩ := hp
    have hi2 : i < t.length := by omega
    walk_at "dl"
    rw [cList_L (asL_ins eh (rr.get hi2 hi))]
    refine ⟨rfl, ?_⟩
    rw [List.take_add_one, List.getElem?_eq_getElem hi2, List.map_append]
    rfl
  · obtain ⟨rfl, rfl⟩ := hp
    rw [show rs.length = t.length by omega, List.take_length]
    walk_at "dl"
    refine ⟨h, _, rfl, es _ _ hl, by show (1 : Nat) < 1000; decide, by decide, h, _, rfl, get_app (es _ _ (by rw [List.length_set]; exact hl)), by show (2 : Nat) < 1000; decide, by decide, h, _, rfl, get_app (es _ _ (by rw [List.length_append, List.length_set, List.length_set]; omega)), by show (3 : Nat) < 1000; decide, ret_now ?_⟩
    have X : ∀ c1 c2 c3 c4 : Cell, (((S.set h c1).set h c2 ++ [Cell.lst []]).set h c3 ++ [Cell.lst []]).set h c4 = S.set h c4 ++ [Cell.lst []] ++ [Cell.lst []] := fun c1 c2 c3 c4 => by
      rw [List.set_set, show (S.set h c2 ++ [Cell.lst []]).set h c3 = S.set h c3 ++ [Cell.lst []] from by rw [set_app (by rw [List.length_set]; exact hl), List.set_set]]
      rw [set_app (by rw [List.length_append, List.length_set]; omega), set_app (by rw [List.length_set]; exact hl), List.set_set]
    rw [X]
    simp only [List.length_append, List.length_set, List.length_singleton]
    exact q
theorem p_Page_of (I C : Addr) : Rets (sp_Page_of C) (T_Page_of I C) N_Page_of := by
  rintro _ S Φ Ψ ⟨d, b, t, rfl, tb, ok, q⟩
  unfold T_Page_of
  walk_at "dl"
  obtain ⟨ds, e, rr⟩ := id tb
  have h3 := rr.len
  have h4 := ok.hi
  refine ⟨_, t, rfl, tb, .inl ⟨ok, true, rfl, ?_⟩⟩
  rw [if_neg (by decide)]
  refine ⟨ds, asS_L e, rfl, fun h => h.elim, small (by show (ds ++ []).length ≤ _; rw [List.append_nil]; omega), S.length, d, ds ++ [], t, rfl, by rw [List.append_nil]; exact rr.app, .inl ⟨get_at, ok, rfl, ?_⟩⟩
  rw [set_at]
  refine ret_now ?_
  rw [List.length_append]
  exact q
theorem p_Page_go_on (C : Addr) : Rets (sp_Page_go_on C) (T_Page_go_on C) N_Page_go_on := by
  rintro _ S Φ Ψ ⟨p, e, m, d, t, u, es, ms, rfl, pg, hl, ok, q⟩
  unfold T_Page_go_on
  walk_at "dl"
  refine ⟨_, pg.asi, _, rfl, isLst_at pg.ear, _, pg.asi, _, rfl, ?_⟩
  rw [mAppend_e]
  refine ⟨_, pg.ear, by rw [List.length_map]; exact under (by omega), p, _, rfl, by rw [List.getElem?_set_ne (Ne.symm pg.pe)]; exact pg.obj, by show (4 : Nat) < 1000; decide, ret_now ?_⟩
  refine q _ m ⟨?_, ?_, ?_, pg.pe, pg.pm, pg.em, ok, fun v hv => ?_, ?_, pg.ml, fun k hk => ?_, pg.mo⟩ ((Kq.refl.set (.inr (.inl rfl))).set (.inl rfl)) (.inl rfl)
  · exact List.getElem?_set_self (by rw [List.length_set]; exact get_lt pg.obj)
  · rw [List.getElem?_set_ne pg.pe, List.getElem?_set_self (get_lt pg.ear), List.map_append]
    rfl
  · rw [List.getElem?_set_ne pg.pm, List.getElem?_set_ne pg.em]
    exact pg.mar
  · rcases List.mem_append.mp hv with hv | hv
    · exact pg.eok v hv
    · rw [List.mem_singleton.mp hv]; exact pg.ok
  · rw [List.length_append]
    show es.length + 1 ≤ 200
    omega
  · rw [List.length_append]
    have := pg.mle k hk
    omega
theorem PgTo.app {C : Addr} {S Z : Sto} {Φ : KD} {v : D} {p e m : Nat} {d : D} {t : List (List Int)} {es : List (List (List Int))} {ms : List Nat} (h : PgTo C S Φ v p e m d t es ms) : PgTo C (S ++ Z) Φ v p e m d t es ms := fun S' m' a b c =>
  h S' m' a ((Kq.refl.app).trans b) (c.imp id fun c => by rw [List.length_append] at c; omega)
theorem PgTo.ret {C : Addr} {S S0 : Sto} {Φ : KD} {v : D} {p e m : Nat} {d : D} {t : List (List Int)} {es : List (List (List Int))} {ms : List Nat} (h : PgTo C S Φ v p e m d t es ms) : PgTo C S (RetOk S0 Φ) v p e m d t es ms := fun S' m' a b c => ret_now (h S' m' a b c)
theorem p_Page_change (C : Addr) : Rets (sp_Page_change C) (T_Page_change C) N_Page_change := by
  rintro _ S Φ Ψ ⟨p, e, m, d, t, es, ms, i, j, v, rfl, pg, hl, hi, hj, h0, h1, q⟩
  unfold T_Page_change
  walk_at "dl"
  refine ⟨_, pg.asi, rfl, _, pg.asi, _, rfl, t, i, j, v, rfl, pg.ok, hi, hj, h0, h1, fz_new fun Z => ?_⟩
  refine ⟨p, e, m, d, t, _, es, ms, rfl, pg.app, hl, pg.ok.setAt hi h0 h1, fun S' m' a b c => ret_now (q.app S' m' a b c)⟩
theorem p_Page_put (C : Addr) : Rets (sp_Page_put C) (T_Page_put C) N_Page_put := by
  rintro _ S Φ Ψ ⟨p, e, m, d, t, es, ms, i, x, r, rfl, pg, hl, hi, h6, ex, okr, q⟩
  unfold T_Page_put
  walk_at "dl"
  refine ⟨_, pg.asi, rfl, _, pg.asi, _, rfl, _, t, i, x, r, rfl, tabS_l t, pg.ok, hi, h6, ex, okr, fz_new fun Z => ?_⟩
  refine ⟨p, e, m, d, t, _, es, ms, rfl, pg.app, hl, pg.ok.putAt hi h6 okr, fun S' m' a b c => ret_now (q.app S' m' a b c)⟩
theorem p_Page_drop (C : Addr) : Rets (sp_Page_drop C) (T_Page_drop C) N_Page_drop := by
  rintro _ S Φ Ψ ⟨p, e, m, d, t, es, ms, i, rfl, pg, hl, hi, h6, q⟩
  unfold T_Page_drop
  walk_at "dl"
  refine ⟨_, pg.asi, rfl, _, pg.asi, _, rfl, _, t, i, rfl, tabS_l t, pg.ok, hi, h6, fz_new fun Z => ?_⟩
  refine ⟨p, e, m, d, t, _, es, ms, rfl, pg.app, hl, pg.ok.cutAt hi h6, fun S' m' a b c => ret_now (q.app S' m' a b c)⟩
theorem p_Page___len__ (C : Addr) : Rets (sp_Page___len__ C) (T_Page___len__ C) N_Page___len__ := by
  rintro _ S Φ Ψ ⟨p, e, m, d, t, es, ms, rfl, pg, q⟩
  unfold T_Page___len__
  walk_at "dl"
  refine ⟨_, pg.asi, _, rfl, ?_⟩
  rw [cLen_L (asL_at' pg.ear), List.length_map]
  exact ret_now q
theorem p_Page_mark (C : Addr) : Rets (sp_Page_mark C) (T_Page_mark C) N_Page_mark := by
  rintro _ S Φ Ψ ⟨p, e, m, d, t, es, ms, rfl, pg, hl, q⟩
  unfold T_Page_mark
  walk_at "dl"
  refine ⟨_, pg.asi, _, rfl, isLst_at pg.mar, _, pg.asi, _, rfl, ?_⟩
  rw [cLen_L (asL_at' pg.ear), List.length_map, mAppend_e]
  have eo : (S.set m (.lst (marksD ms ++ [.int es.length])))[p]? = some (.ins C (pageF d t e m)) := by rw [List.getElem?_set_ne (Ne.symm pg.pm)]; exact pg.obj
  have em : (S.set m (.lst (marksD ms ++ [.int es.length])))[m]? = some (.lst (marksD ms ++ [.int es.length])) := List.getElem?_set_self (get_lt pg.mar)
  refine ⟨_, pg.mar, by unfold marksD; rw [List.length_map]; exact under (by omega), _, asI_own eo, _, rfl, ?_⟩
  rw [cLen_L (asL_at' em), dSub_i]
  refine ret_now ?_
  rw [List.length_append, show (marksD ms).length = ms.length from by simp [marksD], show (((ms.length + [D.int (es.length : Int)].length : Nat) : Int) - 1) = (ms.length : Int) by show ((ms.length + 1 : Nat) : Int) - 1 = _; omega]
  refine q _ m ⟨eo, ?_, ?_, pg.pe, pg.pm, pg.em, pg.ok, pg.eok, pg.el, ?_, fun k hk => ?_, ?_⟩ (Kq.refl.set (.inr (.inr rfl))) (.inl rfl)
  · rw [List.getElem?_set_ne (Ne.symm pg.em)]; exact pg.ear
  · rw [em]; unfold marksD; rw [List.map_append]; rfl
  · rw [List.length_append]; show ms.length + 1 ≤ 100; omega
  · rcases List.mem_append.mp hk with hk | hk
    · exact pg.mle k hk
    · rw [List.mem_singleton.mp hk]; exact Nat.le_refl _
  · rw [List.pairwise_append]
    exact ⟨pg.mo, List.pairwise_singleton _ _, fun a ha b hb => by rw [List.mem_singleton.mp hb]; exact pg.mle a ha⟩
theorem p_Page_undo (C I : Addr) : Rets (sp_Page_undo C) (T_Page_undo C I) N_Page_undo := by
  rintro _ S Φ Ψ ⟨p, e, m, d, t, u, es, ms, rfl, pg, q⟩
  unfold T_Page_undo
  walk_at "dl"
  have hl : (es ++ [u]).length ≤ 200 := pg.el
  have ml := pg.ml
  refine ⟨_, pg.asi, _, rfl, by decide, dEq_nil (.own pg.ear (pyr_tabs _)) (fit_tabs pg.eok (k := 200) hl) (by decide) ⟨_, rfl, ?_⟩⟩
  rw [decide_eq_false (by simp), if_neg (by decide)]
  refine ⟨_, pg.asi, _, rfl, isLst_at pg.ear, ?_⟩
  rw [mPop_e]
  have e0 : ((es ++ [u]).map tabD).length - 1 = (es.map tabD).length := by simp
  refine ⟨_, tabD u, pg.ear, by rw [e0, List.map_append]; simp, ?_⟩
  rw [List.map_append, show List.dropLast (es.map tabD ++ [u].map tabD) = es.map tabD from List.dropLast_concat]
  have eo : ∀ c, (S.set e c)[p]? = some (.ins C (pageF d t e m)) := fun c => by rw [List.getElem?_set_ne (Ne.symm pg.pe)]; exact pg.obj
  refine ⟨p, _, rfl, eo _, by show (4 : Nat) < 1000; decide, ?_⟩
  have e1 : ∀ c c2, ((S.set e c).set p c2)[p]? = some c2 := fun c c2 => List.getElem?_set_self (by rw [List.length_set]; exact get_lt pg.obj)
  have e2 : ∀ c c2, ((S.set e c).set p c2)[m]? = some (.lst (marksD ms)) := fun c c2 => by rw [List.getElem?_set_ne pg.pm, List.getElem?_set_ne pg.em]; exact pg.mar
  have e3 : ∀ c c2, ((S.set e c).set p c2)[e]? = some c := fun c c2 => by rw [List.getElem?_set_ne pg.pe, List.getElem?_set_self (get_lt pg.ear)]
  have sq : ∀ c c2, asQ ((S.set e c).set p c2) (.own m) = some (marksD ms) := fun c c2 => asQ_L (asL_at' (e2 c c2))
  refine ⟨_, asI_own (e1 _ _), _, rfl, ⟨_, sq _ _⟩, ?_⟩
  refine lc_filtS (src := _) ms (fun k : Nat => D.int (k : Int)) (fun k => decide (k ≤ es.length)) (sq _ _) (small (by omega)) (fun k hk A N hA hN => ?_) ?_
  · walk_at "dl"
    refine ⟨_, asI_own (e1 _ _), _, rfl, ?_⟩
    rw [cLen_L (asL_at' (e3 _ _)), List.length_map, dLe_i]
    refine ⟨_, rfl, ?_⟩
    by_cases c : k ≤ es.length
    · rw [if_pos (by rw [decide_eq_true_eq]; omega)]
      exact hA (decide_eq_true c)
    · rw [if_neg (by rw [decide_eq_true_eq]; omega)]
      exact hN (decide_eq_false c)
  · walk_at "dl"
    have lp := get_lt pg.obj
    refine ⟨p, _, rfl, get_app (e1 _ _), by show (4 : Nat) < 1000; decide, ret_now ?_⟩
    rw [List.length_set, List.length_set]
    refine q _ S.length ⟨List.getElem?_set_self (by rw [List.length_append, List.length_set, List.length_set]; omega), ?_, ?_, pg.pe, by omega, by have := get_lt pg.ear; omega, pg.eok u (by simp), fun v hv => pg.eok v (by simp [hv]), by rw [List.length_append] at hl; omega, Nat.le_trans (List.length_filter_le _ _) ml, fun k hk => by simpa using (List.mem_filter.mp hk).2, pg.mo.filter _⟩ (((Kq.refl.set (.inr (.inl rfl))).set (.inl rfl)).app.set (.inl rfl)) (.inr (Nat.le_refl _))
    · rw [List.getElem?_set_ne pg.pe]; exact get_app (e3 _ _)
    · rw [List.getElem?_set_ne (by omega)]
      have := get_at (S := (S.set e (.lst (es.map tabD))).set p (.ins C (putD "own_lines" (tabD u) (pageF d t e m)))) (T := []) (c := .lst (marksD (ms.filter fun k => decide (k ≤ es.length))))
      rw [List.length_set, List.length_set] at this
      exact this
structure Wn (C : Addr) (S : Sto) (p e m : Nat) (d : D) (t : List (List Int)) (es : List (List (List Int))) (ms : List Nat) (i lo n : Nat) (Γ' : Gam) (S' : Sto) : Prop where
  hn : n ≤ es.length
  g : Γ' = [some (.own p), some (.int i)]
  eo : S'[p]? = some (.ins C (pageF d ((es ++ [t]).getD n []) e m))
  ee : S'[e]? = some (.lst ((es.take n).map tabD))
  em : S'[m]? = some (.lst (marksD ms))
  kq : Kq p e m S S'
  ln : S'.length = S.length
theorem p_Page_undo_to (C I : Addr) : Rets (sp_Page_undo_to C) (T_Page_undo_to C I) N_Page_undo_to := by
  rintro _ S Φ Ψ ⟨p, e, m, d, t, es, ms, i, hi, rfl, pg, q⟩
  unfold T_Page_undo_to
  walk_at "dl"
  rw [if_pos (by rw [decide_eq_true_eq]; omega)]
  refine ⟨_, pg.asi, _, rfl, ?_⟩
  rw [cLen_L (asL_at' pg.mar)]
  refine ⟨_, rfl, ?_⟩
  have lm : (marksD ms).length = ms.length := by simp [marksD]
  have ml := pg.ml
  have el := pg.el
  have kl : ms[i] ≤ es.length := pg.mle _ (List.getElem_mem hi)
  rw [lm, decide_eq_true (by omega), if_neg (by decide), sWhile_e]
  have gm : (marksD ms)[i]? = some (.int ms[i]) := by unfold marksD; rw [List.getElem?_map, List.getElem?_eq_getElem hi]; rfl
  refine ⟨fun k Γ' S' => Wn C S p e m d t es ms i ms[i] (ms[i] + k) Γ' S', ⟨es.length - ms[i], ?_⟩, ?_⟩
  · show Wn _ _ _ _ _ _ _ _ _ _ _ (ms[i] + (es.length - ms[i])) _ _
    rw [show ms[i] + (es.length - ms[i]) = es.length by omega]
    exact ⟨Nat.le_refl _, rfl, by rw [show (es ++ [t]).getD es.length [] = t by simp]; exact pg.obj, by rw [List.take_length]; exact pg.ear, pg.mar, Kq.refl, rfl⟩
  rintro k Γ' S' ⟨hn, rfl, eo, ee, em, kq, ln⟩
  walk_at "dl"
  refine ⟨_, asI_own eo, _, rfl, ?_⟩
  rw [cLen_L (asL_at' ee), List.length_map, List.length_take, Nat.min_eq_left hn]
  refine ⟨_, asI_own eo, _, rfl, ?_⟩
  walk_at "dl"
  refine ⟨_, em, _, by rw [at_nat]; exact gm, ?_⟩
  rw [dGt_i]
  refine ⟨_, rfl, ?_⟩
  have lp := get_lt pg.obj
  have le := get_lt pg.ear
  cases k with
  | zero =>
    rw [if_neg (by rw [decide_eq_true_eq]; omega)]
    refine ⟨_, asI_own eo, _, rfl, _, asQ_L (asL_at' em), p, _, rfl, get_app eo, by show (4 : Nat) < 1000; decide, ret_now ?_⟩
    rw [Nat.add_zero] at eo ee ⊢
    have mt : cutD (marksD ms) none (some ((i : Int) + 1)) = marksD (ms.take (i + 1)) := by
      rw [show ((i : Int) + 1) = ((i + 1 : Nat) : Int) by omega, cut_to]
      unfold marksD
      rw [List.map_take]
    rw [mt]
    have tk : (es.take ms[i]).length = ms[i] := by rw [List.length_take]; omega
    refine q _ S'.length ⟨List.getElem?_set_self (by rw [List.length_append]; omega), ?_, ?_, pg.pe, by omega, by omega, ?_, fun v hv => pg.eok v (List.mem_of_mem_take hv), by omega, by rw [List.length_take]; omega, fun x hx => ?_, pg.mo.take⟩ (kq.app.set (.inl rfl)) (.inr (by omega))
    · rw [List.getElem?_set_ne pg.pe]; exact get_app ee
    · rw [List.getElem?_set_ne (by omega)]; exact get_at
    · rw [List.getD_eq_getElem?_getD]
      by_cases c : ms[i] < es.length
      · rw [List.getElem?_append_left c, List.getElem?_eq_getElem c]
        exact pg.eok _ (List.getElem_mem c)
      · rw [show ms[i] = es.length by omega]
        simp only [List.getElem?_concat_length, Option.getD_some]
        exact pg.ok
    · rw [tk]
      obtain ⟨j, hj, rfl⟩ := List.getElem_of_mem hx
      rw [List.length_take] at hj
      rw [List.getElem_take]
      rcases Nat.lt_or_ge j i with c | c
      · exact List.pairwise_iff_getElem.mp pg.mo j i _ hi c
      · have : j = i := by omega
        subst this
        exact Nat.le_refl _
  | succ k =>
    rw [if_pos (by rw [decide_eq_true_eq]; omega)]
    refine ⟨_, asI_own eo, _, rfl, isLst_at ee, ?_⟩
    rw [mPop_e]
    have eo' : ∀ c, (S'.set e c)[p]? = some (.ins C (pageF d ((es ++ [t]).getD (ms[i] + (k + 1)) []) e m)) := fun c => by rw [List.getElem?_set_ne (Ne.symm pg.pe)]; exact eo
    have ln2 : ((es.take (ms[i] + (k + 1))).map tabD).length = ms[i] + (k + 1) := by rw [List.length_map, List.length_take]; omega
    refine ⟨_, tabD ((es ++ [t]).getD (ms[i] + k) []), ee, ?_, p, _, rfl, eo' _, by show (4 : Nat) < 1000; decide, k, by omega, by omega, rfl, List.getElem?_set_self (by rw [List.length_set]; omega), ?_, ?_, (kq.set (.inr (.inl rfl))).set (.inl rfl), by rw [List.length_set, List.length_set]; exact ln⟩
    · rw [ln2, show ms[i] + (k + 1) - 1 = ms[i] + k by omega, List.getElem?_map, List.getElem?_take_of_lt (by omega), List.getElem?_eq_getElem (by omega), List.getD_eq_getElem?_getD, List.getElem?_append_left (by omega), List.getElem?_eq_getElem (by omega)]
      rfl
    · rw [List.getElem?_set_ne pg.pe, List.getElem?_set_self (by omega), List.dropLast_eq_take, ln2, ← List.map_take, List.take_take]
      congr 4
      omega
    · rw [List.getElem?_set_ne pg.pm, List.getElem?_set_ne pg.em]
      exact em
end DL
namespace DL
open PySem PySem.Spec PyProof.Rows L2
local macro_rules | `(tactic| walk_at "dl") => `(tactic| ((try simp only [gstart, gwipe, List.set_set, List.map_cons, List.map_nil, List.length_cons, List.length_nil, rep_0, rep_s, List.cons_append, List.nil_append, List.set_cons_zero, List.set_cons_succ, Nat.reduceAdd, Nat.reduceSub, Nat.zero_add, Nat.add_zero]); (try simp only [↓dv0, ↓dv1, ↓dv2, ↓dv3, ↓dv4, ↓dv5, ↓dv6, ↓dv7, ↓dv8, ↓dv9, ↓dv10, ↓dv11, ↓dv12, ↓dv13, ↓dv14, ↓dv15, ↓dv16, ↓dv17, ↓dv18, ↓dv19, ↓dv20, ↓dv21, ↓dv22, ↓dv23, ↓dv24, ↓dv25, ↓dv26, ↓dv27, ↓dv28, ↓dv29, ↓dv30, ↓dv31, ↓dv32, ↓dv33, ↓dv34, ↓dv35, ↓dv36, ↓dv37, ↓dv38, ↓dv39, ↓nm0, ↓nm1, ↓nm2, ↓nm3, ↓nm4, ↓nm5, ↓nm6, ↓nm7, ↓nm8, ↓nm9, ↓nm10, ↓nm11, ↓nm12, ↓nm13, ↓nm14, ↓nm15, ↓nm16, ↓nm17, ↓nm18, ↓nm19, ↓nm20, ↓nm21, ↓nm22, ↓nm23, ↓nm24, ↓nm25, ↓nm26, ↓nm27, ↓nm28, ↓nm29, ↓nm30, ↓nm31, ↓nm32, ↓nm33, ↓nm34, ↓nm35, ↓nm36, ↓nm37, ↓nm38, ↓nm39, ↓sPar_n, ↓sPar3_n, ↓sAug_n, ↓reduceIte, List.set_set, ↓sNext_e, ↓sSeq_e, ↓sBrk_e, ↓sCnt_e, ↓sDrop_e, ↓sRet_e, ↓sRetN_e, ↓sIf_e, ↓sAsg_e, ↓sRaise_e, ↓nmG_e, ↓tupG_e, ↓gsNil_e, ↓gsCons_e, ↓subG_e, ↓dC_e, ↓dOp_e, ↓dUn_e, ↓dChain_e, ↓bOf_e, ↓bAnd_e, ↓bOr_e, ↓bNot_e, ↓bYes_e, ↓dAnd_e, ↓dOr_e, ↓dNot_e, ↓dIf_e, ↓lNil_e, ↓lCons_e, ↓dLst_e, ↓dLstO_e, ↓dTup_e, ↓dCB_e, ↓dCall_e, ↓dCallK_e, ↓oNone_e, ↓oSome_e, ↓dSl_e, ↓dBM_e, ↓dBM0_e, ↓dFz_e, ↓dFz2_e, ↓d2_e, ↓dLone_e, ↓lStar_e, ↓dCallA_e, ↓dMakeA_e, ↓dMakeV_e, ↓dMethA_e, ↓dCMethA_e, ↓dPropA_e, ↓dFld_e, ↓sFldS_e, ↓dFzI_e, ↓fzID_o, ↓dM1_e, ↓dM0_e, ↓dRev_e, ↓mSplit_s, ↓mUpper_s, ↓exStr, ↓exZ, ↓cStrI_i, ↓cIntS_s, ↓iStrD_e, ↓dEqF_s, ↓dNeF_s, ↓dEqF_i, ↓dNeF_i, ↓dSign_s, ↓sRaiseI_e, ↓dXFld_e, ↓mPop_e, ↓dAddO_l, ↓dAddO_o, ↓dMk0_e, ↓sKeep_e, ↓dCVal_e, ↓dConI_e, ↓cLen_s, ↓dIx_s, ↓dSlS_s, ↓dAdd_s, ↓cTup_l, ↓pkP_e, ↓pkS_e, ↓lstG_e, ↓asI_i, ↓iSeq_e, ↓iTupD_e, ↓iRg1_e, ↓iRg2_e, ↓iZipD_e, ↓iEnumD_e, ↓sFor_e, ↓dLc_e, ↓finF_e, ↓finO_e, ↓fzD_l, ↓fzD_i, ↓fzD_o, ↓fzD2_o, ↓dSetO_e, ↓mAppend_e, ↓mClear_e, ↓mReverse_e, List.map_cons, List.map_nil, List.length_cons, List.length_nil, rep_0, rep_s, List.cons_append, List.nil_append, List.getElem?_cons_zero, List.getElem?_cons_succ, List.set_cons_zero, List.set_cons_succ, Nat.reduceAdd, Nat.reduceSub, Nat.zero_add, Nat.add_zero, ↓exSS, ↓exB, ↓exI, ↓ex1, ↓ex2, ↓ex3, ↓exI1, ↓exI2, ↓exT, ↓exC, ↓exAs, ↓dAdd_i, ↓dAddI_i, ↓dSubI_i, ↓dLRg_e, ↓dIsiT_e, ↓dNew_e, ↓sDct_e, ↓dMulO_l, ↓dLRgO_e, ↓dAdd_l, ↓dSub_i, ↓dMul_i, ↓dMul_l, ↓dMod_i, ↓dDiv_i, ↓dPow_i, ↓dLt_i, ↓dLe_i, ↓dGt_i, ↓dGe_i, ↓uNeg_i, ↓cMax2_i, ↓cMin2_i, ↓cAbs_i, ↓cInt_i, ↓cInt_b, ↓cLen_l, ↓cLen_q, ↓cLen_t, ↓cList_l, ↓cList_q, ↓cList_t, ↓cListO_l, ↓cListO_t, ↓dIx_l, ↓dIx_q, ↓dIx_t, ↓dIx_o', ↓exS, ↓exL, at_1, at_2, at_3, at_4, ix30, ix31, ix32, ↓dSlL_l, ↓dSlL_q, ↓asQ_l, ↓asL_l, at_0, ↓isi_non_int, ↓isi_non_bool, ↓isi_non_str, ↓isi_non_list, ↓isi_non_tuple, ↓isi_non_dict, ↓isi_bl_int, ↓isi_bl_bool, ↓isi_bl_str, ↓isi_bl_list, ↓isi_bl_tuple, ↓isi_bl_dict, ↓isi_int_int, ↓isi_int_bool, ↓isi_int_str, ↓isi_int_list, ↓isi_int_tuple, ↓isi_int_dict, ↓isi_str_int, ↓isi_str_bool, ↓isi_str_str, ↓isi_str_list, ↓isi_str_tuple, ↓isi_str_dict, ↓isi_lst_int, ↓isi_lst_bool, ↓isi_lst_str, ↓isi_lst_list, ↓isi_lst_tuple, ↓isi_lst_dict, ↓isi_sq_int, ↓isi_sq_bool, ↓isi_sq_str, ↓isi_sq_list, ↓isi_sq_tuple, ↓isi_sq_dict, ↓isi_tup_int, ↓isi_tup_bool, ↓isi_tup_str, ↓isi_tup_list, ↓isi_tup_tuple, ↓isi_tup_dict, ↓isi_dic_int, ↓isi_dic_bool, ↓isi_dic_str, ↓isi_dic_list, ↓isi_dic_tuple, ↓isi_dic_dict, if_true, if_false, Bool.not_true, Bool.not_false, true_and, and_true, reduceCtorEq, Bool.true_eq_false, Bool.false_eq_true, ite_true, ite_false, ↓exAny, ↓isLst_l, Int.toNat_natCast, Int.reduceToNat, dVar_e, sPar_e, sPar3_e, sAug_e])))
local macro_rules | `(tactic| walk_at "dls") => `(tactic| ((try simp only [gstart, gwipe, List.set_set, List.map_cons, List.map_nil, List.length_cons, List.length_nil, rep_0, rep_s, List.cons_append, List.nil_append, List.set_cons_zero, List.set_cons_succ, Nat.reduceAdd, Nat.reduceSub, Nat.zero_add, Nat.add_zero]); (try simp only [*, ↓dv0, ↓dv1, ↓dv2, ↓dv3, ↓dv4, ↓dv5, ↓dv6, ↓dv7, ↓dv8, ↓dv9, ↓dv10, ↓dv11, ↓dv12, ↓dv13, ↓dv14, ↓dv15, ↓dv16, ↓dv17, ↓dv18, ↓dv19, ↓dv20, ↓dv21, ↓dv22, ↓dv23, ↓dv24, ↓dv25, ↓dv26, ↓dv27, ↓dv28, ↓dv29, ↓dv30, ↓dv31, ↓dv32, ↓dv33, ↓dv34, ↓dv35, ↓dv36, ↓dv37, ↓dv38, ↓dv39, ↓nm0, ↓nm1, ↓nm2, ↓nm3, ↓nm4, ↓nm5, ↓nm6, ↓nm7, ↓nm8, ↓nm9, ↓nm10, ↓nm11, ↓nm12, ↓nm13, ↓nm14, ↓nm15, ↓nm16, ↓nm17, ↓nm18, ↓nm19, ↓nm20, ↓nm21, ↓nm22, ↓nm23, ↓nm24, ↓nm25, ↓nm26, ↓nm27, ↓nm28, ↓nm29, ↓nm30, ↓nm31, ↓nm32, ↓nm33, ↓nm34, ↓nm35, ↓nm36, ↓nm37, ↓nm38, ↓nm39, ↓sPar_n, ↓sPar3_n, ↓sAug_n, ↓reduceIte, List.set_set, ↓sNext_e, ↓sSeq_e, ↓sBrk_e, ↓sCnt_e, ↓sDrop_e, ↓sRet_e, ↓sRetN_e, ↓sIf_e, ↓sAsg_e, ↓sRaise_e, ↓nmG_e, ↓tupG_e, ↓gsNil_e, ↓gsCons_e, ↓subG_e, ↓dC_e, ↓dOp_e, ↓dUn_e, ↓dChain_e, ↓bOf_e, ↓bAnd_e, ↓bOr_e, ↓bNot_e, ↓bYes_e, ↓dAnd_e, ↓dOr_e, ↓dNot_e, ↓dIf_e, ↓lNil_e, ↓lCons_e, ↓dLst_e, ↓dLstO_e, ↓dTup_e, ↓dCB_e, ↓dCall_e, ↓dCallK_e, ↓oNone_e, ↓oSome_e, ↓dSl_e, ↓dBM_e, ↓dBM0_e, ↓dFz_e, ↓dFz2_e, ↓d2_e, ↓dLone_e, ↓lStar_e, ↓dCallA_e, ↓dMakeA_e, ↓dMakeV_e, ↓dMethA_e, ↓dCMethA_e, ↓dPropA_e, ↓dFld_e, ↓sFldS_e, ↓dFzI_e, ↓fzID_o, ↓dM1_e, ↓dM0_e, ↓dRev_e, ↓mSplit_s, ↓mUpper_s, ↓exStr, ↓exZ, ↓cStrI_i, ↓cIntS_s, ↓iStrD_e, ↓dEqF_s, ↓dNeF_s, ↓dEqF_i, ↓dNeF_i, ↓dSign_s, ↓sRaiseI_e, ↓dXFld_e, ↓mPop_e, ↓dAddO_l, ↓dAddO_o, ↓dMk0_e, ↓sKeep_e, ↓dCVal_e, ↓dConI_e, ↓cLen_s, ↓dIx_s, ↓dSlS_s, ↓dAdd_s, ↓cTup_l, ↓pkP_e, ↓pkS_e, ↓lstG_e, ↓asI_i, ↓iSeq_e, ↓iTupD_e, ↓iRg1_e, ↓iRg2_e, ↓iZipD_e, ↓iEnumD_e, ↓sFor_e, ↓dLc_e, ↓finF_e, ↓finO_e, ↓fzD_l, ↓fzD_i, ↓fzD_o, ↓fzD2_o, ↓dSetO_e, ↓mAppend_e, ↓mClear_e, ↓mReverse_e, List.map_cons, List.map_nil, List.length_cons, List.length_nil, rep_0, rep_s, List.cons_append, List.nil_append, List.getElem?_cons_zero, List.getElem?_cons_succ, List.set_cons_zero, List.set_cons_succ, Nat.reduceAdd, Nat.reduceSub, Nat.zero_add, Nat.add_zero, ↓exSS, ↓exB, ↓exI, ↓ex1, ↓ex2, ↓ex3, ↓exI1, ↓exI2, ↓exT, ↓exC, ↓exAs, ↓dAdd_i, ↓dAddI_i, ↓dSubI_i, ↓dLRg_e, ↓dIsiT_e, ↓dNew_e, ↓sDct_e, ↓dMulO_l, ↓dLRgO_e, ↓dAdd_l, ↓dSub_i, ↓dMul_i, ↓dMul_l, ↓dMod_i, ↓dDiv_i, ↓dPow_i, ↓dLt_i, ↓dLe_i, ↓dGt_i, ↓dGe_i, ↓uNeg_i, ↓cMax2_i, ↓cMin2_i, ↓cAbs_i, ↓cInt_i, ↓cInt_b, ↓cLen_l, ↓cLen_q, ↓cLen_t, ↓cList_l, ↓cList_q, ↓cList_t, ↓cListO_l, ↓cListO_t, ↓dIx_l, ↓dIx_q, ↓dIx_t, ↓dIx_o', ↓exS, ↓exL, at_1, at_2, at_3, at_4, ix30, ix31, ix32, ↓dSlL_l, ↓dSlL_q, ↓asQ_l, ↓asL_l, at_0, ↓isi_non_int, ↓isi_non_bool, ↓isi_non_str, ↓isi_non_list, ↓isi_non_tuple, ↓isi_non_dict, ↓isi_bl_int, ↓isi_bl_bool, ↓isi_bl_str, ↓isi_bl_list, ↓isi_bl_tuple, ↓isi_bl_dict, ↓isi_int_int, ↓isi_int_bool, ↓isi_int_str, ↓isi_int_list, ↓isi_int_tuple, ↓isi_int_dict, ↓isi_str_int, ↓isi_str_bool, ↓isi_str_str, ↓isi_str_list, ↓isi_str_tuple, ↓isi_str_dict, ↓isi_lst_int, ↓isi_lst_bool, ↓isi_lst_str, ↓isi_lst_list, ↓isi_lst_tuple, ↓isi_lst_dict, ↓isi_sq_int, ↓isi_sq_bool, ↓isi_sq_str, ↓isi_sq_list, ↓isi_sq_tuple, ↓isi_sq_dict, ↓isi_tup_int, ↓isi_tup_bool, ↓isi_tup_str, ↓isi_tup_list, ↓isi_tup_tuple, ↓isi_tup_dict, ↓isi_dic_int, ↓isi_dic_bool, ↓isi_dic_str, ↓isi_dic_list, ↓isi_dic_tuple, ↓isi_dic_dict, if_true, if_false, Bool.not_true, Bool.not_false, true_and, and_true, reduceCtorEq, Bool.true_eq_false, Bool.false_eq_true, ite_true, ite_false, ↓exAny, ↓isLst_l, Int.toNat_natCast, Int.reduceToNat, dVar_e, sPar_e, sPar3_e, sAug_e])))
--M8
--DROP p_ends
theorem tabsF_snoc (t : List (List Int)) {i : Nat} (h : i < t.length) : tabsF (t.take (i + 1)) = tabsF (t.take i) ++ [(t[i]).length - 1] := by
  unfold tabsF
  rw [List.take_add_one, List.getElem?_eq_getElem h, List.map_append]
  rfl
theorem p_tabs_in : Rets sp_tabs_in T_tabs_in N_tabs_in := by
  rintro _ S Φ Ψ ⟨d, t, rfl, ⟨ds, e, rs⟩, ok, h⟩
  unfold T_tabs_in
  walk_at "dl"
  have h3 := rs.len
  have h4 := ok.hi
  refine ⟨⟨_, asQ_L e⟩, lc_s (ds := ds) (fun i acc S' => S' = S ∧ acc = natsD (tabsF (t.take i))) (small (by omega)) ⟨rfl, rfl⟩ (fun i acc S' hp => by rw [hp.1]; exact asQ_L e) (fun i acc S' hi hp => ?_) fun acc S' hp => ?_⟩
  · obtain ⟨rfl, rfl⟩ := hp
    have hi2 : i < t.length := by omega
    walk_at "dl"
    rw [cLen_L (rs.get hi2 hi), List.length_map]
    walk_at "dl"
    have := (ok.row _ (List.getElem_mem hi2)).lo
    rw [tabsF_snoc t hi2]
    unfold natsD
    rw [List.map_append, show ((((t[i]).length : Nat) : Int) - 1) = (((t[i]).length - 1 : Nat) : Int) by omega]
    rfl
  · obtain ⟨rfl, rfl⟩ := hp
    walk_at "dl"
    rw [h3, List.take_length]
    exact ret_now h
theorem natsD_get {ns : List Nat} {i : Nat} {x : D} (h : (natsD ns ++ [D.int 0])[i]? = some x) : i ≤ ns.length ∧ x = .int ((ns.getD i 0 : Nat) : Int) := by
  unfold natsD at h
  by_cases c : i < ns.length
  · rw [List.getElem?_append_left (by rw [List.length_map]; exact c), List.getElem?_map, List.getElem?_eq_getElem c] at h
    cases h
    exact ⟨by omega, by rw [List.getD_eq_getElem?_getD, List.getElem?_eq_getElem c]; rfl⟩
  · rw [List.getElem?_append_right (by rw [List.length_map]; omega), List.length_map] at h
    have : i - ns.length = 0 := by
      by_cases q : i - ns.length = 0
      · exact q
      · rw [List.getElem?_eq_none (by simp; omega)] at h; cases h
    rw [this] at h
    cases h
    exact ⟨by omega, by rw [List.getD_eq_getElem?_getD, List.getElem?_eq_none (by omega)]; rfl⟩
theorem runs_len (p : Nat → Bool) : ∀ k, (colRuns p k).1.length ≤ k
  | 0 => Nat.le_refl _
  | k + 1 => by
    have ih := runs_len p k
    unfold colRuns
    split
    · exact Nat.le_succ_of_le ih
    · split
      · exact Nat.le_succ_of_le ih
      · show (_ ++ [_]).length ≤ _
        rw [List.length_append]
        exact Nat.succ_le_succ ih
theorem blksF_snoc (ns : List Nat) (i : Nat) : blksF ns (i + 1) = blksF ns i ++ colBlks ns i := by
  unfold blksF
  rw [List.range_succ, List.flatMap_append]
  simp
theorem blksF_len (ns : List Nat) : ∀ i, (blksF ns i).length ≤ i * (ns.length + 1)
  | 0 => Nat.zero_le _
  | i + 1 => by
    have ih := blksF_len ns i
    have l2 : (colBlks ns i).length ≤ ns.length + 1 := by unfold colBlks; rw [List.length_map]; exact runs_len _ _
    rw [blksF_snoc, List.length_append, Nat.add_mul, Nat.one_mul]
    omega
def cutOf (o : Option Nat) : D := match o with
  | none => .non
  | some f => .int (f : Int)
theorem low_blks (n : Nat) (bs : List Blk) : (blksD bs).low n = true := by
  unfold blksD
  rw [D.low]
  exact lowA_map _ _ (fun b => by unfold blkD; simp [D.low, lowA]) bs
theorem p_blocks_of_column : Rets sp_blocks_of_column T_blocks_of_column N_blocks_of_column := by
  rintro _ S Φ Ψ ⟨ns, c, rfl, hl, h⟩
  unfold T_blocks_of_column
  walk_at "dl"
  have ln : (natsD ns).length = ns.length := by unfold natsD; rw [List.length_map]
  have ll : (natsD ns ++ [D.int 0]).length = ns.length + 1 := by rw [List.length_append, ln]; rfl
  refine ⟨small, _, rfl, small (by rw [ll]; omega), ?_⟩
  refine for_l (ds := enumD (natsD ns ++ [D.int 0])) (fun i Γ S' => ∃ o1 o2, Γ = [some (.lst (natsD ns)), some (.int c), some (.own S.length), some (cutOf (colRuns (hasT ns c) i).2), o1, o2] ∧ S' = S ++ [.lst ((colRuns (hasT ns c) i).1.map fun b => blkD (c, b.1, b.2))]) ⟨_, _, rfl, rfl⟩ (fun i Γ' S' hi hp => ?_) fun Γ' S' hp => ?_
  · obtain ⟨o1, o2, rfl, rfl⟩ := hp
    obtain ⟨x, hx, ex⟩ := enumD_get (List.getElem?_eq_getElem hi)
    obtain ⟨hi2, rfl⟩ := natsD_get hx
    rw [ex]
    have hR := runs_len (hasT ns c) i
    have hS : ∀ q, colRuns q (i + 1) = if q i then ((colRuns q i).1, some ((colRuns q i).2.getD i)) else match (colRuns q i).2 with
      | none => ((colRuns q i).1, none)
      | some f => ((colRuns q i).1 ++ [(f, i - 1)], none) := fun _ => rfl
    have hO : ∀ f, (colRuns (hasT ns c) i).2 = some f → f < i := fun f e => ((runs_ok (hasT ns c) i).opn f e).1
    rw [hS]
    generalize (colRuns (hasT ns c) i).1 = bs at hR ⊢
    generalize (colRuns (hasT ns c) i).2 = o at hO ⊢
    walk_at "dl"
    rw [sJ_e]
    walk_at "dl"
    have hq : hasT ns c i = decide (c < ns.getD i 0) := rfl
    rw [hq]
    by_cases hp : c < ns.getD i 0
    · rw [if_pos (by rw [decide_eq_true_eq]; omega), if_pos (by rw [decide_eq_true_eq]; omega)]
      cases o with
      | none =>
        rw [show dIsN (cutOf none) D.non = fun S Φ => Φ S (.bl true) from rfl]
        walk_at "dl"
        rw [sJ_e]
        walk_at "dl"
        rw [if_neg (by rw [decide_eq_true_eq]; omega)]
        exact ⟨_, _, rfl⟩
      | some f =>
        rw [show dIsN (cutOf (some f)) D.non = fun S Φ => Φ S (.bl false) from rfl]
        walk_at "dl"
        rw [sJ_e]
        walk_at "dl"
        rw [if_neg (by rw [decide_eq_true_eq]; omega)]
        exact ⟨_, _, rfl⟩
    · rw [if_neg (by rw [decide_eq_true_eq]; omega), if_neg (by rw [decide_eq_true_eq]; omega)]
      walk_at "dl"
      rw [sJ_e]
      walk_at "dl"
      rw [if_pos (by rw [decide_eq_true_eq]; omega)]
      cases o with
      | none =>
        rw [show dNotN (cutOf none) D.non = fun S Φ => Φ S (.bl false) from rfl]
        walk_at "dl"
        exact ⟨_, _, rfl⟩
      | some f =>
        have := hO f rfl
        rw [show dNotN (cutOf (some f)) D.non = fun S Φ => Φ S (.bl true) from rfl]
        walk_at "dl"
        refine ⟨isLst_at get_at, small, _, get_at, under (by rw [List.length_map]; omega), _, _, rfl, ?_⟩
        rw [set_at, List.map_append]
        show _ = S ++ [Cell.lst (_ ++ [D.tup [.int c, .int f, .int ((i - 1 : Nat) : Int)]])]
        rw [show ((i - 1 : Nat) : Int) = (i : Int) - 1 by omega]
        rfl
  · obtain ⟨o1, o2, rfl, rfl⟩ := hp
    walk_at "dl"
    refine ⟨_, get_at, ?_⟩
    rw [set_at, enumD_len, ll]
    have lw := low_blks S.length (colBlks ns c)
    unfold colBlks blksD at h lw
    rw [List.map_map] at h lw
    exact ret_cut lw h
theorem p_blocks_by_tabs : Rets sp_blocks_by_tabs T_blocks_by_tabs N_blocks_by_tabs := by
  rintro _ S Φ Ψ ⟨ns, rfl, hl, h⟩
  unfold T_blocks_by_tabs
  walk_at "dl"
  refine ⟨small, by decide, by decide, ?_⟩
  refine for_r0 (fun i Γ S' => ∃ o, Γ = [some (.lst (natsD ns)), some (.own S.length), o] ∧ S' = S ++ [.lst ((blksF ns i).map blkD)]) ⟨_, rfl, rfl⟩ (fun i Γ' S' hi hp => ?_) fun Γ' S' hp => ?_
  · obtain ⟨o, rfl, rfl⟩ := hp
    walk_at "dl"
    refine ⟨isLst_at get_at, ns, i, rfl, hl, ?_⟩
    have l1 := blksF_len ns i
    have l2 : (colBlks ns i).length ≤ ns.length + 1 := by unfold colBlks; rw [List.length_map]; exact runs_len _ _
    have hi2 : i < 11 := hi
    have l3 : i * (ns.length + 1) ≤ 11 * 61 := Nat.mul_le_mul (by omega) (by omega)
    refine ⟨_, _, get_at, rfl, small (by rw [List.length_map, List.length_map]; omega), _, rfl, ?_⟩
    rw [set_at, blksF_snoc, List.map_append]
  · obtain ⟨o, rfl, rfl⟩ := hp
    walk_at "dl"
    refine ⟨_, get_at, ?_⟩
    rw [set_at]
    exact ret_cut (low_blks _ _) h
theorem p_blocks_in : Rets sp_blocks_in T_blocks_in N_blocks_in := by
  rintro _ S Φ Ψ ⟨d, t, rfl, tb, ok, h⟩
  unfold T_blocks_in
  walk_at "dl"
  exact ⟨d, t, rfl, tb, ok, _, rfl, by rw [tabsF_len]; exact ok.hi, ret_now h⟩
theorem cut_mid {α : Type} {xs : List α} {i j : Nat} (h : i ≤ j) (h2 : j ≤ xs.length) : cutD xs (some (i : Int)) (some (j : Int)) = (xs.drop i).take (j - i) := by
  unfold cutD
  rw [HT.sIx_nat, HT.sIx_nat, Nat.min_eq_left h2, Nat.min_eq_left (by omega)]
theorem p_greatest_in : Rets sp_greatest_in T_greatest_in N_greatest_in := by
  rintro _ S Φ Ψ ⟨d, t, b, rfl, ⟨ds, e, rs⟩, ok, bk, h⟩
  obtain ⟨c, f, l⟩ := b
  unfold T_greatest_in
  walk_at "dl"
  refine ⟨_, rfl, rfl, _, _, rfl, _, _, rfl, _, _, rfl, rfl, ?_⟩
  walk_at "dl"
  rw [dSlL_L e]
  walk_at "dl"
  have h3 := rs.len
  have h4 := ok.hi
  have hf : f ≤ l := bk.le
  have hl : l < t.length := bk.lt
  rw [show ((l : Int) + 1) = ((l + 1 : Nat) : Int) by omega, cut_mid (by omega) (by omega)]
  have dl : ((ds.drop f).take (l + 1 - f)).length = l + 1 - f := by rw [List.length_take, List.length_drop]; omega
  have row : ∀ k, k < l + 1 - f → ∃ h : f + k < t.length, ∃ h2 : c < (t[f + k]).length, (colOf t c)[f + k]? = some (some (t[f + k])[c]) ∧ (t.getD (f + k) []).getD c 0 = (t[f + k])[c] := fun k hk => by
    have ht : f + k < t.length := by omega
    obtain ⟨v, e1, e2⟩ := colOf_some (bk.at_ (f + k) (by show f ≤ _; omega) (by show _ ≤ l; omega))
    rw [tab_at ht] at e2 ⊢
    obtain ⟨q1, q2⟩ := List.getElem?_eq_some_iff.mp e2
    exact ⟨ht, q1, by rw [q2]; exact e1, by rw [List.getD_eq_getElem?_getD, List.getElem?_eq_getElem q1]; rfl⟩
  refine lc_s (ds := (ds.drop f).take (l + 1 - f)) (fun i acc S' => S' = S ∧ acc = ((List.range i).map fun k => (t.getD (f + k) []).getD c 0).map D.int) (small (by omega)) ⟨rfl, rfl⟩ (fun i acc S' hp => rfl) (fun i acc S' hi hp => ?_) fun acc S' hp => ?_
  · obtain ⟨rfl, rfl⟩ := hp
    rw [dl] at hi
    obtain ⟨q0, q1, q2, q3⟩ := row i hi
    have ed : asL S' ((ds.drop f).take (l + 1 - f))[i] = some ((t[f + i]).map D.int) := by
      rw [List.getElem_take, List.getElem_drop]
      exact rs.get q0 (by omega)
    walk_at "dl"
    rw [dIx_L ed]
    refine ⟨.int (t[f + i])[c], by rw [at_nat, List.getElem?_map, List.getElem?_eq_getElem q1]; rfl, rfl, ?_⟩
    rw [List.range_succ, List.map_append, List.map_append, List.map_cons, List.map_nil, q3]
    rfl
  · obtain ⟨rfl, rfl⟩ := hp
    walk_at "dl"
    rw [dl]
    refine ⟨_, rfl, by rw [List.length_map, List.length_range]; omega, fun m hm hle => ret_now (h m ?_ fun i v h5 h6 h7 => ?_)⟩
    · obtain ⟨k, hk, rfl⟩ := List.mem_map.mp hm
      obtain ⟨q0, q1, q2, q3⟩ := row k (List.mem_range.mp hk)
      have := List.mem_range.mp hk
      exact ⟨f + k, by show f ≤ _; omega, by show _ ≤ l; omega, by rw [q3]; exact q2⟩
    · have h5 : f ≤ i := h5
      have h6 : i ≤ l := h6
      obtain ⟨q0, q1, q2, q3⟩ := row (i - f) (by omega)
      have e5 : f + (i - f) = i := by omega
      simp only [e5] at q0 q1 q2 q3
      have h7 : (colOf t c)[i]? = some (some v) := h7
      rw [q2] at h7
      have : v = (t[i])[c] := (Option.some.inj (Option.some.inj h7)).symm
      rw [this, ← q3]
      refine hle _ (List.mem_map.mpr ⟨i - f, List.mem_range.mpr (by omega), by rw [e5]⟩)
theorem p_Style_gap (C : Addr) : Rets (sp_Style_gap C) (T_Style_gap C) N_Style_gap := by
  rintro _ S Φ Ψ ⟨d, ks, g, l, rfl, e, h⟩
  unfold T_Style_gap
  walk_at "dl"
  exact ⟨_, e, _, rfl, ret_now h⟩
theorem p_Style_least (C : Addr) : Rets (sp_Style_least C) (T_Style_least C) N_Style_least := by
  rintro _ S Φ Ψ ⟨d, ks, g, l, rfl, e, h⟩
  unfold T_Style_least
  walk_at "dl"
  exact ⟨_, e, _, rfl, ret_now h⟩
theorem asI_app {S T : Sto} {d : D} {C : Addr} {fs : List (Str × D)} (e : asI S d = some (C, fs)) : asI (S ++ T) d = some (C, fs) := by
  cases d with
  | ins C' fs' => exact e
  | own h =>
    have e : (match S[h]? with | some (.ins C fs) => some (C, fs) | _ => none) = some (C, fs) := e
    split at e
    · cases e
      exact asI_own (get_app (by assumption))
    · cases e
  | _ => cases e
theorem p_room_of (C : Addr) : Rets (sp_room_of C) (T_room_of C) N_room_of := by
  rintro _ S Φ Ψ ⟨d, s, t, b, ks, g, l, rfl, tb, ok, bk, es, h⟩
  unfold T_room_of
  walk_at "dl"
  refine ⟨_, es, s, ks, g, l, rfl, es, d, t, b, rfl, tb, ok, bk, fun m h1 h2 => ?_⟩
  show RetOk S Φ S (.int (if m > l then m else l))
  have r : IsRoom l (colOf t b.1) b.2.1 b.2.2 (if m > l then m else l) := by
    by_cases q : m > l
    · rw [if_pos q]
      exact ⟨by omega, h2, .inr h1⟩
    · rw [if_neg q]
      exact ⟨Int.le_refl _, fun i v a b' e => Int.le_trans (h2 i v a b' e) (by omega), .inl rfl⟩
  rw [r.eq (bk.room l (Nat.le_refl _) bk.le)]
  exact ret_now h
theorem range_set {α : Type} (F : Nat → α) (n j : Nat) (v : α) : ((List.range n).map F).set j v = (List.range n).map fun i => if i = j then v else F i := by
  apply List.ext_getElem
  · rw [List.length_set, List.length_map, List.length_map]
  · intro i h1 h2
    rw [List.getElem_set, List.getElem_map, List.getElem_map, List.getElem_range]
    by_cases q : j = i
    · rw [if_pos q, if_pos q.symm]
    · rw [if_neg q, if_neg (fun e => q e.symm)]
theorem cellsD_len (t : List (List Int)) : (cellsD t).length = t.length := by simp [cellsD]
theorem cellsF_get {S : Sto} {F : Nat → List Int} {n j : Nat} (X : Sto) (h : j < n) : (S ++ cellsD ((List.range n).map F) ++ X)[S.length + j]? = some (.lst ((F j).map D.int)) := by
  rw [List.append_assoc, List.getElem?_append_right (Nat.le_add_right _ _), Nat.add_sub_cancel_left]
  refine get_app ?_
  unfold cellsD
  rw [List.getElem?_map, List.getElem?_map, List.getElem?_range h]
  rfl
theorem cellsF_set {S : Sto} {F : Nat → List Int} {n j : Nat} (X : Sto) (h : j < n) (r : List Int) : (S ++ cellsD ((List.range n).map F) ++ X).set (S.length + j) (.lst (r.map D.int)) = S ++ cellsD ((List.range n).map fun i => if i = j then r else F i) ++ X := by
  rw [List.append_assoc, List.set_append_right _ _ (Nat.le_add_right _ _), Nat.add_sub_cancel_left, set_app (by rw [cellsD_len, List.length_map, List.length_range]; exact h), ← List.append_assoc]
  congr 2
  rw [← range_set]
  unfold cellsD
  rw [List.map_set]
theorem p_rooms_in (C : Addr) : Rets (sp_rooms_in C) (T_rooms_in C) N_rooms_in := by
  rintro _ S Φ Ψ ⟨d, s, t, ks, g, l, rfl, ⟨ds, e, rs⟩, ok, es, h⟩
  have tb : TabS S d t := ⟨ds, e, rs⟩
  unfold T_rooms_in
  walk_at "dl"
  have h3 := rs.len
  have h4 := ok.hi
  refine ⟨⟨_, asQ_L e⟩, lc_s (ds := ds) (fun i acc S' => S' = S ++ cellsD ((List.range i).map fun _ => []) ∧ acc = ownsD S.length i) (small (by omega)) ⟨by simp [cellsD], rfl⟩ (fun i acc S' hp => by rw [hp.1]; exact asQ_L (asL_app e)) (fun i acc S' hi hp => ?_) fun acc S' hp => ?_⟩
  · obtain ⟨rfl, rfl⟩ := hp
    walk_at "dl"
    refine ⟨small, ?_, ?_⟩
    · rw [List.append_assoc]
      unfold cellsD
      rw [List.range_succ, List.map_append, List.map_append]
      rfl
    · unfold ownsD
      rw [List.length_append, cellsD_len, List.length_map, List.length_range, List.range_succ, List.map_append]
      rfl
  obtain ⟨rfl, rfl⟩ := hp
  walk_at "dl"
  have eL : (S ++ cellsD ((List.range ds.length).map fun _ => [])).length = S.length + t.length := by rw [List.length_append, cellsD_len, List.length_map, List.length_range, h3]
  refine ⟨d, t, rfl, by rw [List.append_assoc]; exact tb.app, ok, ⟨_, rfl⟩, ?_⟩
  rw [eL, h3]
  have lb := blksF_len (tabsF t) 11
  rw [tabsF_len] at lb
  have lb2 : 11 * (t.length + 1) ≤ 11 * 61 := Nat.mul_le_mul (by omega) (by omega)
  refine for_l (ds := (blksF (tabsF t) 11).map blkD) (fun i Γ S' => ∃ o1 o2 o3, Γ = [some d, some s, some (.own (S.length + t.length)), o1, o2, o3, none] ∧ S' = S ++ cellsD ((List.range t.length).map fun j => (((blksF (tabsF t) 11).take i).filter (hasB j)).map (roomB l t)) ++ [.lst (ownsD S.length t.length)]) ⟨_, _, _, rfl, rfl⟩ (fun i Γ' S' hi hp => ?_) fun Γ' S' hp => ?_
  · obtain ⟨o1, o2, o3, rfl, rfl⟩ := hp
    rw [List.length_map] at hi
    have bk := (blksF_ok (List.getElem_mem hi)).1
    rw [List.getElem_map]
    have hb : ∀ j, (((blksF (tabsF t) 11).take (i + 1)).filter (hasB j)).map (roomB l t) = (((blksF (tabsF t) 11).take i).filter (hasB j)).map (roomB l t) ++ (if hasB j (blksF (tabsF t) 11)[i] = true then [roomB l t (blksF (tabsF t) 11)[i]] else []) := fun j => by
      rw [List.take_add_one, List.getElem?_eq_getElem hi, List.filter_append, List.map_append]
      congr 1
      show (List.filter (hasB j) [(blksF (tabsF t) 11)[i]]).map _ = _
      by_cases q : hasB j (blksF (tabsF t) 11)[i] = true
      · rw [List.filter_cons_of_pos q, if_pos q]; rfl
      · rw [List.filter_cons_of_neg q, if_neg q]; rfl
    have hl : ∀ j, ((((blksF (tabsF t) 11).take i).filter (hasB j)).map (roomB l t)).length ≤ 671 := fun j => by
      rw [List.length_map]
      refine Nat.le_trans (List.length_filter_le _ _) ?_
      rw [List.length_take]
      omega
    obtain ⟨B0, hB0⟩ : ∃ B0 : Nat → List Int, B0 = fun j => (((blksF (tabsF t) 11).take i).filter (hasB j)).map (roomB l t) := ⟨_, rfl⟩
    have hB : ∀ j, (((blksF (tabsF t) 11).take i).filter (hasB j)).map (roomB l t) = B0 j := fun j => by rw [hB0]
    simp only [hb, hB]
    simp only [hB] at hl
    clear hB0 hB hb
    generalize (blksF (tabsF t) 11)[i] = b at bk ⊢
    obtain ⟨c, f, m⟩ := b
    have hf : f ≤ m := bk.le
    have hm : m < t.length := bk.lt
    walk_at "dl"
    refine ⟨d, s, t, (c, f, m), ks, g, l, rfl, by rw [List.append_assoc]; exact tb.app, ok, bk, by rw [List.append_assoc]; exact asI_app es, ?_⟩
    generalize roomB l t (c, f, m) = r
    unfold blkD
    walk_at "dl"
    have p62 : (100 : Int) < 2 ^ 62 := by decide
    refine ⟨⟨by omega, by omega, by omega, by omega⟩, ?_⟩
    rw [show ((m : Int) + 1 - (f : Int)).toNat = m + 1 - f by omega]
    refine for_r (fun k Γ S' => ∃ o3, Γ = [some d, some s, some (.own (S.length + t.length)), some (.tup [.int c, .int f, .int m]), some (.int r), o3, none] ∧ S' = S ++ cellsD ((List.range t.length).map fun j => B0 j ++ if f ≤ j ∧ j < f + k then [r] else []) ++ [.lst (ownsD S.length t.length)]) ⟨_, rfl, ?_⟩ (fun k Γ' S' hk hp => ?_) fun Γ' S' hp => ?_
    · congr 2
      congr 1
      apply List.map_congr_left
      intro j _
      rw [if_neg (by omega), List.append_nil]
    · obtain ⟨o3, rfl, rfl⟩ := hp
      walk_at "dl"
      have hfk : f + k < t.length := by omega
      have eO : (S ++ cellsD ((List.range t.length).map fun j => B0 j ++ if f ≤ j ∧ j < f + k then [r] else []) ++ [Cell.lst (ownsD S.length t.length)])[S.length + t.length]? = some (.lst (ownsD S.length t.length)) := by
        have : S.length + t.length = (S ++ cellsD ((List.range t.length).map fun j => B0 j ++ if f ≤ j ∧ j < f + k then [r] else [])).length := by rw [List.length_append, cellsD_len, List.length_map, List.length_range]
        rw [this]
        exact get_at
      have eC := cellsF_get (S := S) (F := fun j => B0 j ++ if f ≤ j ∧ j < f + k then [r] else []) [Cell.lst (ownsD S.length t.length)] hfk
      refine ⟨_, eO, _, by rw [show ((f : Int) + (k : Int)) = ((f + k : Nat) : Int) by omega, at_nat, owns_at hfk], isLst_at eC, _, eC, under (by rw [List.length_map, List.length_append]; have := hl (f + k); split <;> simp <;> omega), _, rfl, ?_⟩
      have eS := cellsF_set (S := S) (F := fun j => B0 j ++ if f ≤ j ∧ j < f + k then [r] else []) [Cell.lst (ownsD S.length t.length)] hfk (B0 (f + k) ++ [r])
      rw [if_neg (by omega), List.append_nil, show (B0 (f + k)).map D.int ++ [D.int r] = (B0 (f + k) ++ [r]).map D.int by rw [List.map_append]; rfl, eS]
      congr 2
      congr 1
      apply List.map_congr_left
      intro j _
      by_cases q : j = f + k
      · rw [if_pos q, q, if_pos (by omega)]
      · rw [if_neg q]
        by_cases q2 : f ≤ j ∧ j < f + k
        · rw [if_pos q2, if_pos (by omega)]
        · rw [if_neg q2, if_neg (by omega)]
    · obtain ⟨o3, rfl, rfl⟩ := hp
      refine ⟨_, _, _, rfl, ?_⟩
      congr 2
      congr 1
      apply List.map_congr_left
      intro j _
      unfold hasB hasL
      by_cases q : f ≤ j ∧ j ≤ m
      · rw [if_pos (by omega), if_pos (by simp; omega)]
      · rw [if_neg (by omega), if_neg (by simp; omega)]
  · obtain ⟨o1, o2, o3, rfl, rfl⟩ := hp
    walk_at "dl"
    refine ret_now ?_
    rw [List.length_map, List.take_length]
    have er : ((List.range t.length).map fun j => ((blksF (tabsF t) 11).filter (hasB j)).map (roomB l t)) = roomsT l t := by
      unfold roomsT
      apply List.map_congr_left
      intro j hj
      have hj := List.mem_range.mp hj
      refine blks_rooms l hj ?_
      unfold tabAt
      rw [tab_at hj]
      have := (ok.row _ (List.getElem_mem hj)).hi
      omega
    have el : (roomsT l t).length = t.length := by unfold roomsT; rw [List.length_map, List.length_range]
    rw [er]
    unfold newTab at h
    rw [el] at h
    exact h
theorem rooms_get {l : Int} {t : List (List Int)} {i : Nat} (h : i < (roomsT l t).length) : (roomsT l t)[i] = roomsOf l t i := by simp [roomsT]
theorem stops_get {g l : Int} {t : List (List Int)} {i : Nat} (h : i < (stopsF g l t).length) : (stopsF g l t)[i] = rowStops g l t i := by simp [stopsF]
theorem zipD_at {xs ys : List D} {i : Nat} (h : i < xs.length) (h2 : i < ys.length) : (zipD xs ys)[i]'(by unfold zipD; rw [List.length_map, List.length_zip]; omega) = .tup [xs[i], ys[i]] := by simp [zipD]
def endS (g : Int) : Int → List Int → Int
  | s, [] => s
  | s, x :: xs => endS g (s + (x + g)) xs
theorem endS_snoc (g x : Int) : ∀ (xs : List Int) (s : Int), endS g s (xs ++ [x]) = endS g s xs + (x + g)
  | [], _ => rfl
  | y :: xs, s => endS_snoc g x xs (s + (y + g))
theorem stops_snoc (g x : Int) : ∀ (xs : List Int) (s : Int), stopsFrom g s (xs ++ [x]) = stopsFrom g s xs ++ [endS g s xs + (x + g)]
  | [], _ => rfl
  | y :: xs, s => by
    show _ :: stopsFrom g (s + (y + g)) (xs ++ [x]) = _ :: stopsFrom g (s + (y + g)) xs ++ _
    rw [stops_snoc g x xs]
    rfl
theorem at_neg1 {α : Type} {xs : List α} (h : 1 ≤ xs.length) : atI xs (-1) = xs[xs.length - 1]? := by
  unfold atI ixN
  rw [if_neg (by decide), if_pos (by omega)]
  show xs[(-1 + (xs.length : Int)).toNat]? = _
  congr 1
  omega
theorem last_map {r : List Int} (h : 1 ≤ r.length) : (r.map D.int)[(r.map D.int).length - 1]? = some (.int (r.getLastD 0)) := by
  rw [List.length_map, List.getElem?_map, ← List.getLast?_eq_getElem?, List.getLastD_eq_getLast?]
  cases q : r.getLast? with
  | none => rw [List.getLast?_eq_none_iff] at q; subst q; simp at h
  | some x => rfl
theorem TabOk.cells {t : List (List Int)} (ok : TabOk t) : CellsIn t GREAT := fun r hr x hx => (ok.row r hr).at_ x hx
theorem fz_rows {S0 : Sto} : ∀ (hs : List Nat) (t : List (List Int)) (S : Sto) (Φ : Sto → List D → Prop), hs.length = t.length → hs.Nodup → (∀ i (h1 : i < hs.length) (h2 : i < t.length), S[hs[i]]? = some (.lst ((t[i]).map D.int))) → (∀ S', S'.length = S.length → (∀ x c, x ∉ hs → S[x]? = some c → S'[x]? = some c) → Φ S' (t.map rowD)) → fzLD (hs.map D.own) S Φ
  | [], [], S, Φ, _, _, _, h => h S rfl fun _ _ _ e => e
  | [], _ :: _, _, _, h, _, _, _ => by simp at h
  | _ :: _, [], _, _, h, _, _, _ => by simp at h
  | a :: hs, r :: t, S, Φ, hl, nd, hr, h => by
    rw [List.nodup_cons] at nd
    refine ⟨r.map D.int, hr 0 (by simp) (by simp), ?_⟩
    refine fz_rows (S0 := S0) hs t (S.set a .gone) _ (by simpa using hl) nd.2 (fun i h1 h2 => ?_) fun S' e1 e2 => ?_
    · have ne : a ≠ hs[i] := fun e => nd.1 (by rw [e]; exact List.getElem_mem h1)
      rw [List.getElem?_set_ne ne]
      have := hr (i + 1) (by simpa using h1) (by simpa using h2)
      simpa using this
    · refine h S' (by rw [e1, List.length_set]) fun x c hx e => e2 x c (fun z => hx (.tail _ z)) ?_
      have ne : a ≠ x := fun z => hx (by rw [z]; exact .head _)
      rw [List.getElem?_set_ne ne]
      exact e
theorem fz_tabH {S : Sto} {b : Nat} {hs : List Nat} {t : List (List Int)} {Φ : KD} (k : TabH S b hs t) (h : ∀ S', S'.length = S.length → (∀ x c, x ≠ b → x ∉ hs → S[x]? = some c → S'[x]? = some c) → Φ S' (tabD t)) : fzD2 (.own b) S Φ := by
  refine ⟨_, k.out, ?_⟩
  refine fz_rows (S0 := S) hs t _ _ k.len k.nd (fun i h1 h2 => ?_) fun S' e1 e2 => ?_
  · have ne : b ≠ hs[i] := fun e => k.nb (by rw [e]; exact List.getElem_mem h1)
    rw [List.getElem?_set_ne ne]
    exact k.row i h1 h2
  · refine h S' (by rw [e1, List.length_set]) fun x c hb hx e => e2 x c hx ?_
    rw [List.getElem?_set_ne (Ne.symm hb)]
    exact e
theorem fz_tabL {S : Sto} {b : Nat} {hs : List Nat} {t : List (List Int)} {Φ : Sto → List D → Prop} (k : TabH S b hs t) (h : ∀ S', S'.length = S.length → (∀ x c, x ≠ b → x ∉ hs → S[x]? = some c → S'[x]? = some c) → Φ S' (t.map rowD)) : ∃ ds, S[b]? = some (.lst ds) ∧ fzLD ds (S.set b .gone) Φ := by
  refine ⟨_, k.out, ?_⟩
  refine fz_rows (S0 := S) hs t _ _ k.len k.nd (fun i h1 h2 => ?_) fun S' e1 e2 => ?_
  · have ne : b ≠ hs[i] := fun e => k.nb (by rw [e]; exact List.getElem_mem h1)
    rw [List.getElem?_set_ne ne]
    exact k.row i h1 h2
  · refine h S' (by rw [e1, List.length_set]) fun x c hb hx e => e2 x c hx ?_
    rw [List.getElem?_set_ne (Ne.symm hb)]
    exact e
theorem keep_split {W Z S' : Sto} (el : S'.length = (W ++ Z).length) (h : ∀ x c, x < W.length → (W ++ Z)[x]? = some c → S'[x]? = some c) : ∃ Z', S' = W ++ Z' := by
  rw [List.length_append] at el
  refine ⟨S'.drop W.length, ?_⟩
  have e : S'.take W.length = W := by
    apply List.ext_getElem?
    intro i
    rw [List.getElem?_take]
    by_cases c : i < W.length
    · rw [if_pos c, h i W[i] c (by rw [List.getElem?_append_left c, List.getElem?_eq_getElem c]), List.getElem?_eq_getElem c]
    · rw [if_neg c, List.getElem?_eq_none (by omega)]
  calc S' = S'.take W.length ++ S'.drop W.length := (List.take_append_drop _ _).symm
    _ = W ++ S'.drop W.length := by rw [e]
theorem fz_tabB {W Z : Sto} {b : Nat} {hs : List Nat} {t : List (List Int)} {Φ : KD} (k : TabH (W ++ Z) b hs t) (hb : W.length ≤ b) (hge : ∀ a ∈ hs, W.length ≤ a) (h : ∀ Z', Φ (W ++ Z') (tabD t)) : fzD2 (.own b) (W ++ Z) Φ := by
  refine fz_tabH k fun S' el hk => ?_
  obtain ⟨Z', rfl⟩ := keep_split el fun x c hx e => hk x c (by omega) (fun m => by have := hge x m; omega) e
  exact h Z'
theorem set_base {S : Sto} (Y : Sto) (i : Nat) (c : Cell) (h : S.length ≤ i) : ∃ Y', (S ++ Y).set i c = S ++ Y' := ⟨_, List.set_append_right i c h⟩
theorem stops_at (g l : Int) (t : List (List Int)) {i : Nat} (h : i < t.length) : (stopsF g l t).take (i + 1) = (stopsF g l t).take i ++ [stopsFrom g 0 (roomsOf l t i)] := by
  rw [List.take_add_one]
  congr 1
  unfold stopsF
  rw [List.getElem?_map, List.getElem?_range h]
  rfl
theorem p_stops_in (C : Addr) : Rets (sp_stops_in C) (T_stops_in C) N_stops_in := by
  rintro _ S Φ Ψ ⟨d, s, t, ks, g, l, rfl, tb, ok, es, h⟩
  unfold T_stops_in
  walk_at "dl"
  refine ⟨small, d, s, t, ks, g, l, rfl, tb.app, ok, asI_app es, fz_new fun Z => ?_⟩
  refine ⟨⟨_, rfl⟩, ?_⟩
  have lr : (roomsT l t).length = t.length := by unfold roomsT; rw [List.length_map, List.length_range]
  have lr' : (stopsF g l t).length = t.length := by unfold stopsF; rw [List.length_map, List.length_range]
  refine for_l (ds := (roomsT l t).map rowD) (fun i Γ S' => ∃ o1 o2 o3 o4 Y hs, Γ = [some d, some s, some (.own S.length), o1, o2, o3, o4] ∧ S' = S ++ Y ∧ TabH (S ++ Y) S.length hs ((stopsF g l t).take i) ∧ ∀ a ∈ hs, S.length ≤ a) ⟨_, _, _, _, _, [], rfl, by rw [List.append_assoc], ⟨by rw [← List.append_assoc]; exact get_app get_at, rfl, fun i h1 => absurd h1 (by simp), List.nodup_nil, by simp⟩, fun _ h => nomatch h⟩ (fun i Γ' S' hi hp => ?_) fun Γ' S' hp => ?_
  · obtain ⟨o1, o2, o3, o4, Y, hs, rfl, rfl, th, hge⟩ := hp
    rw [List.length_map] at hi
    rw [List.getElem_map]
    walk_at "dl"
    refine ⟨small, ?_⟩
    have hi2 : i < t.length := by omega
    have er : (roomsT l t)[i] = roomsOf l t i := rooms_get _
    rw [er]
    obtain ⟨W, hW⟩ : ∃ W, W = S ++ Y := ⟨_, rfl⟩
    rw [← hW]
    rw [← hW] at th
    have lro : (roomsOf l t i).length ≤ 12 := by
      unfold roomsOf
      rw [List.length_map, List.length_range, tab_at hi2]
      have := (ok.row _ (List.getElem_mem hi2)).hi
      omega
    refine for_l (ds := (roomsOf l t i).map D.int) (fun k Γ S' => ∃ o4, Γ = [some d, some s, some (.own S.length), some (.lst ((roomsOf l t i).map D.int)), some (.int (endS g 0 ((roomsOf l t i).take k))), some (.own W.length), o4] ∧ S' = W ++ [.lst ((stopsFrom g 0 ((roomsOf l t i).take k)).map D.int)]) ⟨_, rfl, rfl⟩ (fun k Γ' S' hk hp => ?_) fun Γ' S' hp => ?_
    · obtain ⟨o4, rfl, rfl⟩ := hp
      rw [List.length_map] at hk
      rw [List.getElem_map]
      walk_at "dl"
      have es2 : asI (W ++ [.lst ((stopsFrom g 0 ((roomsOf l t i).take k)).map D.int)]) s = some (C, styF ks g l) := by rw [hW]; exact asI_app (asI_app es)
      refine ⟨_, es2, s, ks, g, l, rfl, es2, ?_⟩
      walk_at "dl"
      have ek : (roomsOf l t i).take (k + 1) = (roomsOf l t i).take k ++ [(roomsOf l t i)[k]] := by rw [List.take_add_one, List.getElem?_eq_getElem hk]; rfl
      refine ⟨isLst_at get_at, _, get_at, under (by rw [List.length_map, stopsFrom_len, List.length_take]; omega), ?_⟩
      rw [set_at, ek, endS_snoc, stops_snoc, List.map_append]
      exact ⟨_, rfl, rfl⟩
    · obtain ⟨o4, rfl, rfl⟩ := hp
      walk_at "dl"
      rw [List.length_map, List.take_length]
      have th2 := th.app (T := [.lst ((stopsFrom g 0 (roomsOf l t i)).map D.int)])
      refine ⟨isLst_at th2.out, _, th2.out, by rw [List.length_map, th.len, List.length_take]; have := ok.hi; exact under (by omega), ?_⟩
      have hnk : W.length ∉ hs := fun e => by have := th.lt.2 _ e; omega
      have hkb : W.length ≠ S.length := fun e => by have := th.lt.1; omega
      have th3 := th2.snoc get_at hnk hkb
      obtain ⟨Y', eY⟩ := set_base (S := S) (Y ++ [.lst ((stopsFrom g 0 (roomsOf l t i)).map D.int)]) S.length (.lst (hs.map D.own ++ [.own W.length])) (Nat.le_refl _)
      rw [← List.append_assoc, ← hW] at eY
      rw [eY] at th3 ⊢
      rw [stops_at g l t hi2]
      refine ⟨_, _, _, _, Y', _, rfl, rfl, th3, fun a ha => ?_⟩
      rcases List.mem_append.mp ha with ha | ha
      · exact hge a ha
      · rw [List.mem_singleton.mp ha, hW, List.length_append]; omega
  · obtain ⟨o1, o2, o3, o4, Y, hs, rfl, rfl, th, hge⟩ := hp
    walk_at "dl"
    rw [List.length_map, lr, ← lr', List.take_length] at th
    exact ret_now (h _ _ _ th (Nat.le_refl _) hge)
theorem ends_at (g l : Int) (t : List (List Int)) {i : Nat} (h : i < t.length) : (endsF g l t).take (i + 1) = (endsF g l t).take i ++ [rowEnd g l t i] := by
  rw [List.take_add_one]
  congr 1
  unfold endsF
  rw [List.getElem?_map, List.getElem?_range h]
  rfl
theorem p_ends_in (C : Addr) : Rets (sp_ends_in C) (T_ends_in C) N_ends_in := by
  rintro _ S Φ Ψ ⟨d, s, t, ks, g, l, rfl, ⟨ds, e, rs⟩, ok, es, lk, h⟩
  have tb : TabS S d t := ⟨ds, e, rs⟩
  have h3 := rs.len
  unfold T_ends_in
  walk_at "dl"
  refine ⟨small, d, s, t, ks, g, l, rfl, tb.app, ok, asI_app es, fun Z b hs th hb hge => ?_⟩
  refine fz_tabB th hb hge fun Z => ?_
  refine ⟨⟨_, asQ_L (asL_app (asL_app e))⟩, ⟨_, rfl⟩, ?_⟩
  have lr : (stopsF g l t).length = t.length := by unfold stopsF; rw [List.length_map, List.length_range]
  have eW : S ++ [Cell.lst []] ++ Z = S ++ (Cell.lst [] :: Z) := by rw [List.append_assoc]; rfl
  rw [eW]
  refine for_s (ds := zipD ds ((stopsF g l t).map rowD)) (fun i Γ S' => ∃ o1 o2 o3, Γ = [some d, some s, some (.own S.length), o1, o2, o3] ∧ S' = S ++ (.lst (((endsF g l t).take i).map D.int) :: Z)) ⟨_, _, _, rfl, rfl⟩ (fun i Γ' S' hp => ?_) (fun i Γ' S' hi hp => ?_) fun Γ' S' hp => ?_
  · obtain ⟨o1, o2, o3, rfl, rfl⟩ := hp
    rw [asQ_L (asL_app e)]
    rfl
  · obtain ⟨o1, o2, o3, rfl, rfl⟩ := hp
    have hz : (zipD ds ((stopsF g l t).map rowD)).length = t.length := by
      unfold zipD
      rw [List.length_map, List.length_zip, List.length_map]
      omega
    rw [hz] at hi
    have ez := zipD_at (xs := ds) (ys := (stopsF g l t).map rowD) (i := i) (by omega) (by rw [List.length_map]; omega)
    rw [List.getElem_map, stops_get] at ez
    rw [ez]
    have eR := rs.get hi (by omega)
    have rok := ok.row _ (List.getElem_mem hi)
    have bd := rowStops_in lk.g0 lk.g1 lk.l0 lk.l1 ok.cells (j := i) (by rw [tab_at hi]; exact rok.hi)
    walk_at "dl"
    refine joinD (fun S' d' => S' = S ++ (.lst (((endsF g l t).take i).map D.int) :: Z) ∧ d' = .int ((rowStops g l t i).getLastD 0)) (fun S' d' ⟨e1, e2⟩ => ?_) fun N hN => ?_
    · subst e1 e2
      refine ⟨isLst_at get_at, ?_⟩
      rw [dIx_L (asL_app eR)]
      refine ⟨.int ((t[i]).getLastD 0), ?_, ?_⟩
      · rw [at_neg1 (by rw [List.length_map]; exact rok.lo), last_map rok.lo]
      walk_at "dl"
      refine ⟨_, get_at, under (by rw [List.length_map, List.length_take]; have := ok.hi; omega), _, _, _, rfl, ?_⟩
      rw [set_at, ends_at g l t hi, List.map_append]
      unfold rowEnd
      rw [tab_at hi]
      rfl
    · walk_at "dl"
      have ln := rowStops_len (g := g) (l := l) (t := t) (j := i)
      rw [tab_at hi] at ln
      refine ⟨small, dNe_nil (pyr_row _) (fit_row (k := 33) (l := 12) (fun y hy => ?_) (by have := rok.hi; omega)) (by decide) ⟨_, rfl, ?_⟩⟩
      · have b := bd y hy
        have : 22 * GREAT < 10 ^ 33 := by decide
        omega
      · cases q : rowStops g l t i with
        | nil => exact hN _ _ ⟨rfl, by rw [q]; rfl⟩
        | cons a r =>
          rw [if_pos (by rfl)]
          refine ⟨_, by rw [at_neg1 (by simp), last_map (by simp)], hN _ _ ⟨rfl, by rw [q]⟩⟩
  · obtain ⟨o1, o2, o3, rfl, rfl⟩ := hp
    walk_at "dl"
    have hz : (zipD ds ((stopsF g l t).map rowD)).length = (endsF g l t).length := by
      unfold zipD endsF
      rw [List.length_map, List.length_zip, List.length_map, List.length_map, List.length_range]
      omega
    rw [hz, List.take_length]
    exact ret_now (h _ _ get_at (Nat.le_refl _))
theorem p_width_in (C : Addr) : Rets (sp_width_in C) (T_width_in C) N_width_in := by
  rintro _ S Φ Ψ ⟨d, s, t, ks, g, l, rfl, tb, ok, es, lk, h⟩
  unfold T_width_in
  walk_at "dl"
  refine ⟨d, s, t, ks, g, l, rfl, tb, ok, es, lk, fun Z b eb hb => ?_⟩
  have ln : (endsF g l t).length = t.length := by unfold endsF; rw [List.length_map, List.length_range]
  exact ⟨_, asQ_L (asL_at' eb), by rw [ln]; exact ok.lo, fun m h1 h2 => ret_cut (by rw [D.low]) (by rw [maxOf_eq h1 h2]; exact h)⟩
theorem p_stops (C : Addr) : Rets (sp_stops C) (T_stops C) N_stops := by
  rintro _ S Φ Ψ ⟨d, s, t, ks, g, l, rfl, tb, ok, es, h⟩
  unfold T_stops
  walk_at "dl"
  exact ⟨d, t, rfl, tb, ok, by walk_at "dl"; exact ⟨d, s, t, ks, g, l, rfl, tb, ok, es, fun Z b hs th hb hge => ret_now (h Z b hs th hb hge)⟩⟩
theorem p_width_of (C : Addr) : Rets (sp_width_of C) (T_width_of C) N_width_of := by
  rintro _ S Φ Ψ ⟨d, s, t, ks, g, l, rfl, tb, ok, es, lk, h⟩
  unfold T_width_of
  walk_at "dl"
  exact ⟨d, t, rfl, tb, ok, by walk_at "dl"; exact ⟨d, s, t, ks, g, l, rfl, tb, ok, es, lk, ret_now h⟩⟩
end DL
namespace DL
open PySem PySem.Spec PyProof.Rows L2
local macro_rules | `(tactic| walk_at "dl") => `(tactic| ((try simp only [gstart, gwipe, List.set_set, List.map_cons, List.map_nil, List.length_cons, List.length_nil, rep_0, rep_s, List.cons_append, List.nil_append, List.set_cons_zero, List.set_cons_succ, Nat.reduceAdd, Nat.reduceSub, Nat.zero_add, Nat.add_zero]); (try simp only [↓dv0, ↓dv1, ↓dv2, ↓dv3, ↓dv4, ↓dv5, ↓dv6, ↓dv7, ↓dv8, ↓dv9, ↓dv10, ↓dv11, ↓dv12, ↓dv13, ↓dv14, ↓dv15, ↓dv16, ↓dv17, ↓dv18, ↓dv19, ↓dv20, ↓dv21, ↓dv22, ↓dv23, ↓dv24, ↓dv25, ↓dv26, ↓dv27, ↓dv28, ↓dv29, ↓dv30, ↓dv31, ↓dv32, ↓dv33, ↓dv34, ↓dv35, ↓dv36, ↓dv37, ↓dv38, ↓dv39, ↓nm0, ↓nm1, ↓nm2, ↓nm3, ↓nm4, ↓nm5, ↓nm6, ↓nm7, ↓nm8, ↓nm9, ↓nm10, ↓nm11, ↓nm12, ↓nm13, ↓nm14, ↓nm15, ↓nm16, ↓nm17, ↓nm18, ↓nm19, ↓nm20, ↓nm21, ↓nm22, ↓nm23, ↓nm24, ↓nm25, ↓nm26, ↓nm27, ↓nm28, ↓nm29, ↓nm30, ↓nm31, ↓nm32, ↓nm33, ↓nm34, ↓nm35, ↓nm36, ↓nm37, ↓nm38, ↓nm39, ↓sPar_n, ↓sPar3_n, ↓sAug_n, ↓reduceIte, List.set_set, ↓sNext_e, ↓sSeq_e, ↓sBrk_e, ↓sCnt_e, ↓sDrop_e, ↓sRet_e, ↓sRetN_e, ↓sIf_e, ↓sAsg_e, ↓sRaise_e, ↓nmG_e, ↓tupG_e, ↓gsNil_e, ↓gsCons_e, ↓subG_e, ↓dC_e, ↓dOp_e, ↓dUn_e, ↓dChain_e, ↓bOf_e, ↓bAnd_e, ↓bOr_e, ↓bNot_e, ↓bYes_e, ↓dAnd_e, ↓dOr_e, ↓dNot_e, ↓dIf_e, ↓lNil_e, ↓lCons_e, ↓dLst_e, ↓dLstO_e, ↓dTup_e, ↓dCB_e, ↓dCall_e, ↓dCallK_e, ↓oNone_e, ↓oSome_e, ↓dSl_e, ↓dBM_e, ↓dBM0_e, ↓dFz_e, ↓dFz2_e, ↓d2_e, ↓dLone_e, ↓lStar_e, ↓dCallA_e, ↓dMakeA_e, ↓dMakeV_e, ↓dMethA_e, ↓dCMethA_e, ↓dPropA_e, ↓dFld_e, ↓sFldS_e, ↓dFzI_e, ↓fzID_o, ↓dM1_e, ↓dM0_e, ↓dRev_e, ↓mSplit_s, ↓mUpper_s, ↓exStr, ↓exZ, ↓cStrI_i, ↓cIntS_s, ↓iStrD_e, ↓dEqF_s, ↓dNeF_s, ↓dEqF_i, ↓dNeF_i, ↓dSign_s, ↓sRaiseI_e, ↓dXFld_e, ↓mPop_e, ↓dAddO_l, ↓dAddO_o, ↓dMk0_e, ↓sKeep_e, ↓dCVal_e, ↓dConI_e, ↓cLen_s, ↓dIx_s, ↓dSlS_s, ↓dAdd_s, ↓cTup_l, ↓pkP_e, ↓pkS_e, ↓lstG_e, ↓asI_i, ↓iSeq_e, ↓iTupD_e, ↓iRg1_e, ↓iRg2_e, ↓iZipD_e, ↓iEnumD_e, ↓sFor_e, ↓dLc_e, ↓finF_e, ↓finO_e, ↓fzD_l, ↓fzD_i, ↓fzD_o, ↓fzD2_o, ↓dSetO_e, ↓mAppend_e, ↓mClear_e, ↓mReverse_e, List.map_cons, List.map_nil, List.length_cons, List.length_nil, rep_0, rep_s, List.cons_append, List.nil_append, List.getElem?_cons_zero, List.getElem?_cons_succ, List.set_cons_zero, List.set_cons_succ, Nat.reduceAdd, Nat.reduceSub, Nat.zero_add, Nat.add_zero, ↓exSS, ↓exB, ↓exI, ↓ex1, ↓ex2, ↓ex3, ↓exI1, ↓exI2, ↓exT, ↓exC, ↓exAs, ↓dAdd_i, ↓dAdd_l, ↓dSub_i, ↓dMul_i, ↓dMul_l, ↓dMod_i, ↓dDiv_i, ↓dPow_i, ↓dLt_i, ↓dLe_i, ↓dGt_i, ↓dGe_i, ↓uNeg_i, ↓cMax2_i, ↓cMin2_i, ↓cAbs_i, ↓cInt_i, ↓cInt_b, ↓cLen_l, ↓cLen_q, ↓cLen_t, ↓cList_l, ↓cList_q, ↓cList_t, ↓cListO_l, ↓cListO_t, ↓dIx_l, ↓dIx_q, ↓dIx_t, ↓dIx_o', ↓exS, ↓exL, at_1, at_2, at_3, at_4, ix30, ix31, ix32, ↓dSlL_l, ↓dSlL_q, ↓asQ_l, ↓asL_l, at_0, ↓isi_non_int, ↓isi_non_bool, ↓isi_non_str, ↓isi_non_list, ↓isi_non_tuple, ↓isi_non_dict, ↓isi_bl_int, ↓isi_bl_bool, ↓isi_bl_str, ↓isi_bl_list, ↓isi_bl_tuple, ↓isi_bl_dict, ↓isi_int_int, ↓isi_int_bool, ↓isi_int_str, ↓isi_int_list, ↓isi_int_tuple, ↓isi_int_dict, ↓isi_str_int, ↓isi_str_bool, ↓isi_str_str, ↓isi_str_list, ↓isi_str_tuple, ↓isi_str_dict, ↓isi_lst_int, ↓isi_lst_bool, ↓isi_lst_str, ↓isi_lst_list, ↓isi_lst_tuple, ↓isi_lst_dict, ↓isi_sq_int, ↓isi_sq_bool, ↓isi_sq_str, ↓isi_sq_list, ↓isi_sq_tuple, ↓isi_sq_dict, ↓isi_tup_int, ↓isi_tup_bool, ↓isi_tup_str, ↓isi_tup_list, ↓isi_tup_tuple, ↓isi_tup_dict, ↓isi_dic_int, ↓isi_dic_bool, ↓isi_dic_str, ↓isi_dic_list, ↓isi_dic_tuple, ↓isi_dic_dict, if_true, if_false, Bool.not_true, Bool.not_false, true_and, and_true, reduceCtorEq, Bool.true_eq_false, Bool.false_eq_true, ite_true, ite_false, ↓exAny, ↓isLst_l, Int.toNat_natCast, Int.reduceToNat, dVar_e, sPar_e, sPar3_e, sAug_e])))
local macro_rules | `(tactic| walk_at "dls") => `(tactic| ((try simp only [gstart, gwipe, List.set_set, List.map_cons, List.map_nil, List.length_cons, List.length_nil, rep_0, rep_s, List.cons_append, List.nil_append, List.set_cons_zero, List.set_cons_succ, Nat.reduceAdd, Nat.reduceSub, Nat.zero_add, Nat.add_zero]); (try simp only [*, ↓dv0, ↓dv1, ↓dv2, ↓dv3, ↓dv4, ↓dv5, ↓dv6, ↓dv7, ↓dv8, ↓dv9, ↓dv10, ↓dv11, ↓dv12, ↓dv13, ↓dv14, ↓dv15, ↓dv16, ↓dv17, ↓dv18, ↓dv19, ↓dv20, ↓dv21, ↓dv22, ↓dv23, ↓dv24, ↓dv25, ↓dv26, ↓dv27, ↓dv28, ↓dv29, ↓dv30, ↓dv31, ↓dv32, ↓dv33, ↓dv34, ↓dv35, ↓dv36, ↓dv37, ↓dv38, ↓dv39, ↓nm0, ↓nm1, ↓nm2, ↓nm3, ↓nm4, ↓nm5, ↓nm6, ↓nm7, ↓nm8, ↓nm9, ↓nm10, ↓nm11, ↓nm12, ↓nm13, ↓nm14, ↓nm15, ↓nm16, ↓nm17, ↓nm18, ↓nm19, ↓nm20, ↓nm21, ↓nm22, ↓nm23, ↓nm24, ↓nm25, ↓nm26, ↓nm27, ↓nm28, ↓nm29, ↓nm30, ↓nm31, ↓nm32, ↓nm33, ↓nm34, ↓nm35, ↓nm36, ↓nm37, ↓nm38, ↓nm39, ↓sPar_n, ↓sPar3_n, ↓sAug_n, ↓reduceIte, List.set_set, ↓sNext_e, ↓sSeq_e, ↓sBrk_e, ↓sCnt_e, ↓sDrop_e, ↓sRet_e, ↓sRetN_e, ↓sIf_e, ↓sAsg_e, ↓sRaise_e, ↓nmG_e, ↓tupG_e, ↓gsNil_e, ↓gsCons_e, ↓subG_e, ↓dC_e, ↓dOp_e, ↓dUn_e, ↓dChain_e, ↓bOf_e, ↓bAnd_e, ↓bOr_e, ↓bNot_e, ↓bYes_e, ↓dAnd_e, ↓dOr_e, ↓dNot_e, ↓dIf_e, ↓lNil_e, ↓lCons_e, ↓dLst_e, ↓dLstO_e, ↓dTup_e, ↓dCB_e, ↓dCall_e, ↓dCallK_e, ↓oNone_e, ↓oSome_e, ↓dSl_e, ↓dBM_e, ↓dBM0_e, ↓dFz_e, ↓dFz2_e, ↓d2_e, ↓dLone_e, ↓lStar_e, ↓dCallA_e, ↓dMakeA_e, ↓dMakeV_e, ↓dMethA_e, ↓dCMethA_e, ↓dPropA_e, ↓dFld_e, ↓sFldS_e, ↓dFzI_e, ↓fzID_o, ↓dM1_e, ↓dM0_e, ↓dRev_e, ↓mSplit_s, ↓mUpper_s, ↓exStr, ↓exZ, ↓cStrI_i, ↓cIntS_s, ↓iStrD_e, ↓dEqF_s, ↓dNeF_s, ↓dEqF_i, ↓dNeF_i, ↓dSign_s, ↓sRaiseI_e, ↓dXFld_e, ↓mPop_e, ↓dAddO_l, ↓dAddO_o, ↓dMk0_e, ↓sKeep_e, ↓dCVal_e, ↓dConI_e, ↓cLen_s, ↓dIx_s, ↓dSlS_s, ↓dAdd_s, ↓cTup_l, ↓pkP_e, ↓pkS_e, ↓lstG_e, ↓asI_i, ↓iSeq_e, ↓iTupD_e, ↓iRg1_e, ↓iRg2_e, ↓iZipD_e, ↓iEnumD_e, ↓sFor_e, ↓dLc_e, ↓finF_e, ↓finO_e, ↓fzD_l, ↓fzD_i, ↓fzD_o, ↓fzD2_o, ↓dSetO_e, ↓mAppend_e, ↓mClear_e, ↓mReverse_e, List.map_cons, List.map_nil, List.length_cons, List.length_nil, rep_0, rep_s, List.cons_append, List.nil_append, List.getElem?_cons_zero, List.getElem?_cons_succ, List.set_cons_zero, List.set_cons_succ, Nat.reduceAdd, Nat.reduceSub, Nat.zero_add, Nat.add_zero, ↓exSS, ↓exB, ↓exI, ↓ex1, ↓ex2, ↓ex3, ↓exI1, ↓exI2, ↓exT, ↓exC, ↓exAs, ↓dAdd_i, ↓dAdd_l, ↓dSub_i, ↓dMul_i, ↓dMul_l, ↓dMod_i, ↓dDiv_i, ↓dPow_i, ↓dLt_i, ↓dLe_i, ↓dGt_i, ↓dGe_i, ↓uNeg_i, ↓cMax2_i, ↓cMin2_i, ↓cAbs_i, ↓cInt_i, ↓cInt_b, ↓cLen_l, ↓cLen_q, ↓cLen_t, ↓cList_l, ↓cList_q, ↓cList_t, ↓cListO_l, ↓cListO_t, ↓dIx_l, ↓dIx_q, ↓dIx_t, ↓dIx_o', ↓exS, ↓exL, at_1, at_2, at_3, at_4, ix30, ix31, ix32, ↓dSlL_l, ↓dSlL_q, ↓asQ_l, ↓asL_l, at_0, ↓isi_non_int, ↓isi_non_bool, ↓isi_non_str, ↓isi_non_list, ↓isi_non_tuple, ↓isi_non_dict, ↓isi_bl_int, ↓isi_bl_bool, ↓isi_bl_str, ↓isi_bl_list, ↓isi_bl_tuple, ↓isi_bl_dict, ↓isi_int_int, ↓isi_int_bool, ↓isi_int_str, ↓isi_int_list, ↓isi_int_tuple, ↓isi_int_dict, ↓isi_str_int, ↓isi_str_bool, ↓isi_str_str, ↓isi_str_list, ↓isi_str_tuple, ↓isi_str_dict, ↓isi_lst_int, ↓isi_lst_bool, ↓isi_lst_str, ↓isi_lst_list, ↓isi_lst_tuple, ↓isi_lst_dict, ↓isi_sq_int, ↓isi_sq_bool, ↓isi_sq_str, ↓isi_sq_list, ↓isi_sq_tuple, ↓isi_sq_dict, ↓isi_tup_int, ↓isi_tup_bool, ↓isi_tup_str, ↓isi_tup_list, ↓isi_tup_tuple, ↓isi_tup_dict, ↓isi_dic_int, ↓isi_dic_bool, ↓isi_dic_str, ↓isi_dic_list, ↓isi_dic_tuple, ↓isi_dic_dict, if_true, if_false, Bool.not_true, Bool.not_false, true_and, and_true, reduceCtorEq, Bool.true_eq_false, Bool.false_eq_true, ite_true, ite_false, ↓exAny, ↓isLst_l, Int.toNat_natCast, Int.reduceToNat, dVar_e, sPar_e, sPar3_e, sAug_e])))
--M5
theorem seq_nat {n i : Nat} (h : i < n) : PySem.seqIndex? (i : Int) n = some i := by
  unfold PySem.seqIndex?
  have : ¬ ((i : Int) < 0) := by omega
  rw [if_neg this]
  dsimp only
  rw [if_pos (by rw [Bool.and_eq_true, decide_eq_true_eq, decide_eq_true_eq]; omega), Int.toNat_natCast]
theorem log_lt {a : Int} (h : a.natAbs < 2 ^ 1000) : a.natAbs.log2 < 1920 := by
  by_cases z : a.natAbs = 0
  · rw [z]; decide
  · exact Nat.lt_of_lt_of_le ((Nat.log2_lt z).mpr h) (by decide)
theorem tabH_new (S : Sto) (t : List (List Int)) : TabH (S ++ cellsD t ++ [.lst (ownsD S.length t.length)]) (S.length + t.length) ((List.range t.length).map (S.length + ·)) t := by
  refine ⟨?_, by simp, fun i h1 h2 => ?_, ?_, ?_⟩
  · rw [show S.length + t.length = (S ++ cellsD t).length by rw [List.length_append]; simp [cellsD]]
    rw [get_at]
    unfold ownsD
    rw [List.map_map]
    rfl
  · rw [List.getElem_map, List.getElem_range, List.append_assoc, List.getElem?_append_right (Nat.le_add_right _ _), Nat.add_sub_cancel_left]
    refine get_app ?_
    unfold cellsD
    rw [List.getElem?_map, List.getElem?_eq_getElem h2]
    rfl
  · exact List.Pairwise.map _ (fun a b (h : a ≠ b) => by show S.length + a ≠ S.length + b; omega) List.nodup_range
  · intro h
    obtain ⟨a, ha, e⟩ := List.mem_map.mp h
    have := List.mem_range.mp ha
    omega
theorem TabH.keep {S S' : Sto} {b : Nat} {hs : List Nat} {t : List (List Int)} (k : TabH S b hs t) (a : ∀ x, (x = b ∨ x ∈ hs) → ∀ c, S[x]? = some c → S'[x]? = some c) : TabH S' b hs t :=
  ⟨a _ (.inl rfl) _ k.out, k.len, fun i h1 h2 => a _ (.inr (List.getElem_mem h1)) _ (k.row i h1 h2), k.nd, k.nb⟩
theorem Lv.keep {C : Addr} {S S' : Sto} {h st p n : Nat} {d : D} {t : List (List Int)} {es : List (List (List Int))} {ms : List Nat} {e m : Nat} {sd : List D} (l : Lv C S h st p n d t es ms e m sd) (a : ∀ x ∈ [h, st, p, e, m], ∀ c, S[x]? = some c → S'[x]? = some c) : Lv C S' h st p n d t es ms e m sd := by
  obtain ⟨c, e1, e2⟩ := l.fd
  have g := l.pg
  exact ⟨⟨c, a _ (by simp) _ e1, e2⟩, ⟨a _ (by simp) _ g.obj, a _ (by simp) _ g.ear, a _ (by simp) _ g.mar, g.pe, g.pm, g.em, g.ok, g.eok, g.el, g.ml, g.mle, g.mo⟩, a _ (by simp) _ l.stt, l.hst, l.hp, l.sp⟩
theorem Lv.app {C : Addr} {S : Sto} {h st p n : Nat} {d : D} {t : List (List Int)} {es : List (List (List Int))} {ms : List Nat} {e m : Nat} {sd : List D} (l : Lv C S h st p n d t es ms e m sd) (T : Sto) : Lv C (S ++ T) h st p n d t es ms e m sd := l.keep fun _ _ _ e => get_app e
theorem Lv.lt {C : Addr} {S : Sto} {h st p n : Nat} {d : D} {t : List (List Int)} {es : List (List (List Int))} {ms : List Nat} {e m : Nat} {sd : List D} (l : Lv C S h st p n d t es ms e m sd) : ∀ x ∈ [h, st, p, e, m], x < S.length := by
  intro x hx
  obtain ⟨c, e1, e2⟩ := l.fd
  simp only [List.mem_cons, List.not_mem_nil, or_false] at hx
  rcases hx with rfl | rfl | rfl | rfl | rfl
  · exact get_lt e1
  · exact get_lt l.stt
  · exact get_lt l.pg.obj
  · exact get_lt l.pg.ear
  · exact get_lt l.pg.mar
theorem Lv.fs {C : Addr} {S S' : Sto} {h st p n n' : Nat} {d : D} {t : List (List Int)} {es : List (List (List Int))} {ms : List Nat} {e m : Nat} {sd : List D} (l : Lv C S h st p n d t es ms e m sd) (f : Fs h n' S S') : Lv C S' h st p n' d t es ms e m sd := by
  have g := l.pg
  have hp := l.hp
  exact ⟨f.at (l.lt h (by simp)), ⟨f.get g.obj hp.1, f.get g.ear hp.2.1, f.get g.mar hp.2.2, g.pe, g.pm, g.em, g.ok, g.eok, g.el, g.ml, g.mle, g.mo⟩, f.get l.stt l.hst, l.hst, l.hp, l.sp⟩
theorem Lv.mono {C : Addr} {S : Sto} {h st p n n' : Nat} {d : D} {t : List (List Int)} {es : List (List (List Int))} {ms : List Nat} {e m : Nat} {sd : List D} (l : Lv C S h st p n d t es ms e m sd) (hn : n ≤ n') : Lv C S h st p n' d t es ms e m sd :=
  ⟨let ⟨c, e1, e2⟩ := l.fd; ⟨c, e1, e2.mono hn⟩, l.pg, l.stt, l.hst, l.hp, l.sp⟩
theorem Lv.st_ {C : Addr} {S : Sto} {h st p n : Nat} {d : D} {t : List (List Int)} {es : List (List (List Int))} {ms : List Nat} {e m : Nat} {sd : List D} (l : Lv C S h st p n d t es ms e m sd) (sd' : List D) : Lv C (S.set st (.lst sd')) h st p n d t es ms e m sd' := by
  obtain ⟨c, e1, e2⟩ := l.fd
  have g := l.pg
  have k : ∀ x, x ≠ st → (S.set st (.lst sd'))[x]? = S[x]? := fun x hx => List.getElem?_set_ne (Ne.symm hx)
  exact ⟨⟨c, by rw [k _ l.hst]; exact e1, e2⟩, ⟨by rw [k _ (Ne.symm l.sp.1)]; exact g.obj, by rw [k _ (Ne.symm l.sp.2.1)]; exact g.ear, by rw [k _ (Ne.symm l.sp.2.2)]; exact g.mar, g.pe, g.pm, g.em, g.ok, g.eok, g.el, g.ml, g.mle, g.mo⟩, List.getElem?_set_self (get_lt l.stt), l.hst, l.hp, l.sp⟩
theorem Lv.to {C : Addr} {S S' : Sto} {h st p n : Nat} {d : D} {t t' : List (List Int)} {es es' : List (List (List Int))} {ms ms' : List Nat} {e m m' : Nat} {sd : List D} (l : Lv C S h st p n d t es ms e m sd) (g : PageAt C S' p e m' d t' es' ms') (k : Kq p e m S S') (hm : m' = m ∨ S.length ≤ m') : Lv C S' h st p n d t' es' ms' e m' sd := by
  obtain ⟨c, e1, e2⟩ := l.fd
  have h1 := get_lt e1
  have h2 := get_lt l.stt
  have a := l.hp
  have b := l.sp
  exact ⟨⟨c, k.get _ _ a.1 a.2.1 a.2.2 e1, e2⟩, g, k.get _ _ b.1 b.2.1 b.2.2 l.stt, l.hst, ⟨a.1, a.2.1, by omega⟩, ⟨b.1, b.2.1, by omega⟩⟩
/-- cells that lie apart -/
def Off (xs : List Nat) (B : Nat) (hs : List Nat) : Prop := ∀ x ∈ xs, x ≠ B ∧ x ∉ hs
theorem TabH.kq {S S' : Sto} {b : Nat} {hs : List Nat} {t : List (List Int)} {p e m : Nat} (k : TabH S b hs t) (q : Kq p e m S S') (o : Off [p, e, m] b hs) : TabH S' b hs t := by
  have a1 := o p (by simp)
  have a2 := o e (by simp)
  have a3 := o m (by simp)
  refine k.keep fun x hx c e => q.get x c ?_ ?_ ?_ e
  · rintro rfl
    exact hx.elim (fun e => a1.1 e) a1.2
  · rintro rfl
    exact hx.elim (fun e => a2.1 e) a2.2
  · rintro rfl
    exact hx.elim (fun e => a3.1 e) a3.2
theorem TabH.fs {S S' : Sto} {b : Nat} {hs : List Nat} {t : List (List Int)} {h n : Nat} (k : TabH S b hs t) (f : Fs h n S S') (o : h ≠ b ∧ h ∉ hs) : TabH S' b hs t :=
  k.kp f.kp (Ne.symm o.1) o.2
theorem TabH.setRow {S : Sto} {b : Nat} {hs : List Nat} {t : List (List Int)} (k : TabH S b hs t) {i : Nat} (h1 : i < hs.length) (r : List Int) : TabH (S.set hs[i] (.lst (r.map D.int))) b hs (t.set i r) := by
  have hl := k.len
  refine ⟨?_, by rw [List.length_set]; exact hl, fun j j1 j2 => ?_, k.nd, k.nb⟩
  · have ne : hs[i] ≠ b := fun e => k.nb (by rw [← e]; exact List.getElem_mem h1)
    rw [List.getElem?_set_ne ne]
    exact k.out
  · by_cases c : i = j
    · subst c
      rw [List.getElem_set_self, List.getElem?_set_self (k.lt.2 _ (List.getElem_mem h1))]
    · have ne : hs[i] ≠ hs[j] := by
        rcases Nat.lt_or_gt_of_ne c with c | c
        · exact List.pairwise_iff_getElem.mp k.nd i j h1 j1 c
        · exact Ne.symm (List.pairwise_iff_getElem.mp k.nd j i j1 h1 c)
      rw [List.getElem_set_ne c, List.getElem?_set_ne ne]
      exact k.row j j1 (by rw [List.length_set] at j2; exact j2)
theorem TabH.pop {S : Sto} {b : Nat} {hs : List Nat} {t : List (List Int)} (k : TabH S b hs t) (i : Nat) : TabH (S.set b (.lst ((hs.map D.own).eraseIdx i))) b (hs.eraseIdx i) (cutAt t i) := by
  have hl := k.len
  have e1 : (hs.map D.own).eraseIdx i = (hs.eraseIdx i).map D.own := by rw [List.eraseIdx_eq_take_drop_succ, List.eraseIdx_eq_take_drop_succ, List.map_append, List.map_take, List.map_drop]
  have e2 : cutAt t i = t.eraseIdx i := by unfold cutAt; rw [List.eraseIdx_eq_take_drop_succ]
  rw [e1, e2]
  refine ⟨List.getElem?_set_self k.lt.1, by rw [List.length_eraseIdx, List.length_eraseIdx, hl], fun j h1 h2 => ?_, k.nd.sublist (List.eraseIdx_sublist _ _), fun z => k.nb ((List.eraseIdx_sublist _ _).subset z)⟩
  have hm : (hs.eraseIdx i)[j] ∈ hs := (List.eraseIdx_sublist _ _).subset (List.getElem_mem h1)
  have ne : b ≠ (hs.eraseIdx i)[j] := fun e => k.nb (e ▸ hm)
  rw [List.getElem?_set_ne ne]
  rw [List.length_eraseIdx] at h1 h2
  rw [List.getElem_eraseIdx, List.getElem_eraseIdx]
  split
  · exact k.row j (by split at h1 <;> omega) (by split at h2 <;> omega)
  · exact k.row (j + 1) (by split at h1 <;> omega) (by split at h2 <;> omega)
theorem TabH.ins {S : Sto} {b : Nat} {hs : List Nat} {t : List (List Int)} (k : TabH S b hs t) {i c : Nat} {r : List Int} (hi : i ≤ t.length) (e : S[c]? = some (.lst (r.map D.int))) (hb : c ≠ b) (hc : c ∉ hs) : TabH (S.set b (.lst ((hs.map D.own).take i ++ [.own c] ++ (hs.map D.own).drop i))) b (hs.take i ++ c :: hs.drop i) (putAt t i r) := by
  have hl := k.len
  have e1 : (hs.map D.own).take i ++ [.own c] ++ (hs.map D.own).drop i = (hs.take i ++ c :: hs.drop i).map D.own := by rw [List.map_append, List.map_cons, List.map_take, List.map_drop, List.append_assoc]; rfl
  rw [e1]
  have mem : ∀ x ∈ hs.take i ++ c :: hs.drop i, x = c ∨ x ∈ hs := fun x hx => by
    rcases List.mem_append.mp hx with hx | hx
    · exact .inr (List.mem_of_mem_take hx)
    · rcases List.mem_cons.mp hx with hx | hx
      · exact .inl hx
      · exact .inr (List.mem_of_mem_drop hx)
  have key : ∀ (hs : List Nat) (t : List (List Int)), hs.length = t.length → (∀ j (h1 : j < hs.length) (h2 : j < t.length), S[hs[j]]? = some (.lst ((t[j]).map D.int))) → ∀ j (h1 : j < hs.length) (h2 : j < t.length), S[hs[j]]? = some (.lst ((t[j]).map D.int)) := fun _ _ _ h => h
  refine ⟨List.getElem?_set_self k.lt.1, ?_, fun j h1 h2 => ?_, ?_, fun z => ?_⟩
  · unfold putAt
    rw [List.length_append, List.length_append, List.length_cons, List.length_cons, List.length_take, List.length_take, List.length_drop, List.length_drop, hl]
  · have hm := mem _ (List.getElem_mem h1)
    have ne : b ≠ (hs.take i ++ c :: hs.drop i)[j] := fun e => by
      rcases hm with hm | hm
      · exact hb (by rw [← hm]; exact e.symm)
      · exact k.nb (by rw [e]; exact hm)
    rw [List.getElem?_set_ne ne]
    have tl : (hs.take i).length = i := by rw [List.length_take]; omega
    have tl2 : (t.take i).length = i := by rw [List.length_take]; omega
    unfold putAt at h2 ⊢
    rw [List.length_append, List.length_cons, tl, List.length_drop] at h1
    rcases Nat.lt_trichotomy j i with q | q | q
    · rw [List.getElem_append_left (by omega), List.getElem_append_left (by omega), List.getElem_take, List.getElem_take]
      exact k.row j (by omega) (by omega)
    · subst q
      rw [List.getElem_append_right (by omega), List.getElem_append_right (by omega)]
      simp only [tl, tl2, Nat.sub_self, List.getElem_cons_zero]
      exact e
    · rw [List.getElem_append_right (by omega), List.getElem_append_right (by omega)]
      simp only [tl, tl2]
      obtain ⟨a, rfl⟩ : ∃ a, j = i + 1 + a := ⟨j - i - 1, by omega⟩
      simp only [show i + 1 + a - i = a + 1 by omega, List.getElem_cons_succ, List.getElem_drop]
      exact k.row (i + a) (by omega) (by omega)
  · have nd := k.nd
    rw [← List.take_append_drop i hs, List.nodup_append] at nd
    rw [List.nodup_append, List.nodup_cons]
    refine ⟨nd.1, ⟨fun z => hc (List.mem_of_mem_drop z), nd.2.1⟩, fun a ha b' hb' => ?_⟩
    rcases List.mem_cons.mp hb' with rfl | hb'
    · exact fun z => hc (z ▸ List.mem_of_mem_take ha)
    · exact nd.2.2 a ha b' hb'
  · rcases mem _ z with z | z
    · exact hb z.symm
    · exact k.nb z
theorem p__law_copied : Rets sp__law_copied T__law_copied N__law_copied := by
  rintro _ S Φ Ψ ⟨d, t, rfl, ⟨ds, e, rs⟩, h2, h⟩
  unfold T__law_copied
  walk_at "dl"
  have h3 := rs.len
  refine ⟨⟨_, asQ_L e⟩, lc_s (ds := ds) (fun i acc S' => S' = S ++ cellsD (t.take i) ∧ acc = ownsD S.length i) (small (by omega)) ⟨by simp [cellsD], rfl⟩ (fun i acc S' hp => by rw [hp.1]; exact asQ_L (asL_app e)) (fun i acc S' hi hp => ?_) fun acc S' hp => ?_⟩
  · obtain ⟨rfl, rfl⟩ := hp
    have hi2 : i < t.length := by omega
    walk_at "dl"
    rw [cListO_L (asL_app (rs.get hi2 hi))]
    refine ⟨?_, ?_⟩
    · rw [List.take_add_one, List.getElem?_eq_getElem hi2, List.append_assoc]
      unfold cellsD
      rw [List.map_append]
      rfl
    · unfold ownsD cellsD
      rw [List.range_succ, List.map_append, List.length_append, List.length_map, List.length_take, Nat.min_eq_left (Nat.le_of_lt hi2)]
      rfl
  · obtain ⟨rfl, rfl⟩ := hp
    walk_at "dl"
    rw [h3, List.take_length]
    refine ret_now ?_
    have lc : (cellsD t).length = t.length := by simp [cellsD]
    rw [List.length_append, lc, List.append_assoc]
    refine h _ _ _ (by rw [← List.append_assoc]; exact tabH_new S t) (Nat.le_add_right _ _) fun a ha => ?_
    obtain ⟨i, _, rfl⟩ := List.mem_map.mp ha
    exact Nat.le_add_right _ _
theorem p__law_same (C : Addr) : Rets (sp__law_same C) (T__law_same C) N__law_same := by
  rintro _ S Φ Ψ ⟨st, p, d, t, es, ms, e, m, rfl, pg, est, q⟩
  unfold T__law_same
  walk_at "dl"
  have ok := pg.ok
  have hl := pg.el
  refine ⟨_, pg.asi, p, e, m, d, t, rfl, pg.obj, by have := ok.hi; omega, ?_⟩
  have fit := ok.fit
  have est' := get_app (T := cellsD t ++ [.lst (ownsD S.length t.length)]) est
  have eo' := get_app (T := cellsD t ++ [.lst (ownsD S.length t.length)]) pg.obj
  have pg' := pg.app (T := cellsD t ++ [.lst (ownsD S.length t.length)])
  have eB := (tabH_new S t).out
  rw [← List.append_assoc] at est' eo' pg'
  have rd : PyR (S ++ cellsD t ++ [.lst (ownsD S.length t.length)]) (.own (S.length + t.length)) (tabP t) := by
    have := read_new (S := S) (X := cellsD t) (t := t) (T := []) rfl
    rw [List.append_nil] at this
    exact this
  unfold newTab
  refine cRepr_at (a := "list") (tyOf_L (asL_at' eB)) (.inl rfl) rd fit ?_
  refine ⟨_, est', _, rfl, cRepr_at (a := "list") rfl (.inl rfl) (pyr_tab t) fit (eqs_at fit fit ⟨_, rfl, ?_⟩)⟩
  rw [if_pos (by rw [beq_self_eq_true])]
  refine ⟨_, _, rfl, asI_own eo', ⟨rfl, p, e, m, d, t, es, ms, rfl, pg', es.length, rfl, by omega, by omega, ?_⟩⟩
  have l1 : ((es.length : Int)).natAbs.log2 < 1920 := log_lt (by omega)
  refine ⟨_, rfl, l1, _, est', .lst (es.map tabD), rfl, ?_⟩
  rw [cLen_l, List.length_map]
  refine ⟨_, rfl, l1, ?_⟩
  dsimp only
  rw [dEqF_s, beq_self_eq_true]
  refine ret_now ?_
  rw [List.append_assoc]
  exact q _
/-- all cells of S but those of A are kept -/
theorem Frm.refl {A : List Nat} {S : Sto} : Frm A S S := ⟨Nat.le_refl _, fun _ _ _ e => e⟩
theorem Frm.trans {A : List Nat} {S S1 S2 : Sto} (a : Frm A S S1) (b : Frm A S1 S2) : Frm A S S2 := ⟨Nat.le_trans a.len b.len, fun i c h e => b.get i c h (a.get i c h e)⟩
theorem Frm.app {A : List Nat} {S S1 : Sto} (a : Frm A S S1) (T : Sto) : Frm A S (S1 ++ T) := ⟨by rw [List.length_append]; have := a.len; omega, fun i c h e => get_app (a.get i c h e)⟩
theorem Frm.set {A : List Nat} {S S1 : Sto} (a : Frm A S S1) {i : Nat} (c : Cell) (h : i ∈ A ∨ S.length ≤ i) : Frm A S (S1.set i c) := ⟨by rw [List.length_set]; exact a.len, fun j c' hj e => by
  have : i ≠ j := fun z => by
    subst z
    rcases h with h | h
    · exact hj h
    · have := get_lt e; omega
  rw [List.getElem?_set_ne this]
  exact a.get j c' hj e⟩
theorem Frm.fs {A : List Nat} {S S1 S2 : Sto} (a : Frm A S S1) {h n : Nat} (f : Fs h n S1 S2) (hh : h ∈ A) : Frm A S S2 := ⟨by rw [f.len]; exact a.len, fun j c' hj e => f.get (a.get j c' hj e) (fun z => hj (z ▸ hh))⟩
theorem Frm.kq {A : List Nat} {S S1 S2 : Sto} (a : Frm A S S1) {p e m : Nat} (k : Kq p e m S1 S2) (h1 : p ∈ A) (h2 : e ∈ A) (h3 : m ∈ A) : Frm A S S2 := ⟨Nat.le_trans a.len k.len, fun j c' hj q => k.get j c' (fun z => hj (z ▸ h1)) (fun z => hj (z ▸ h2)) (fun z => hj (z ▸ h3)) (a.get j c' hj q)⟩
theorem Frm.kq2 {A : List Nat} {S S1 S2 : Sto} (a : Frm A S S1) {p e m : Nat} (k : Kq p e m S1 S2) (h1 : p ∈ A) (h2 : e ∈ A) (h3 : m ∈ A ∨ S.length ≤ m) : Frm A S S2 := ⟨Nat.le_trans a.len k.len, fun j c' hj q => k.get j c' (fun z => hj (z ▸ h1)) (fun z => hj (z ▸ h2)) (fun z => by
  subst z
  rcases h3 with h3 | h3
  · exact hj h3
  · have := get_lt q; omega) (a.get j c' hj q)⟩
theorem Frm.frz {A : List Nat} {S S1 S2 : Sto} (a : Frm A S S1) {B : Nat} {hs : List Nat} (el : S2.length = S1.length) (k : ∀ x c, x ≠ B → x ∉ hs → S1[x]? = some c → S2[x]? = some c) (hB : S.length ≤ B) (hh : ∀ x ∈ hs, S.length ≤ x) : Frm A S S2 := ⟨by rw [el]; exact a.len, fun j c' hj q => by
  have := get_lt q
  exact k j c' (by omega) (fun z => by have := hh j z; omega) (a.get j c' hj q)⟩
structure EdJ (S0 : Sto) (m0 : Nat) (C : Addr) (h st p n : Nat) (d : D) (t : List (List Int)) (es : List (List (List Int))) (ms : List Nat) (e : Nat) (k : Nat) (w : Int) (B : Nat) (hs : List Nat) (o7 o8 o9 o10 : Option D) (m' : Nat) (t' : List (List Int)) (Γ : Gam) (S' : Sto) : Prop where
  g : Γ = [some (.own h), some (.own p), some (.own st), some (.int k), some (tabD t), some (.int w), some (.own B), o7, o8, o9, o10, some .non]
  l : Lv C S' h st p n d t' (es ++ [t]) ms e m' (stD t es ms)
  b : TabH S' B hs t'
  o : Off [h, st, p, e, m'] B hs
  fr : Frm [h, st, p, e, m0] S0 S'
  hm : m' = m0 ∨ S0.length ≤ m'
  bl : S0.length ≤ B ∧ ∀ x ∈ hs, S0.length ≤ x
theorem Off.to {S : Sto} {B : Nat} {hs : List Nat} {t : List (List Int)} {h st p e m m' : Nat} (off : Off [h, st, p, e, m] B hs) (tb : TabH S B hs t) (hm : m' = m ∨ S.length ≤ m') : Off [h, st, p, e, m'] B hs := by
  intro x hx
  simp only [List.mem_cons, List.not_mem_nil, or_false] at hx
  by_cases hx2 : x = m'
  · rcases hm with hm | hm
    · exact off x (by simp [hx2, hm])
    · have bl := tb.lt
      exact ⟨by omega, fun z => by have := bl.2 x z; omega⟩
  · exact off x (by simp only [List.mem_cons, List.not_mem_nil, or_false]; omega)
theorem p__law_edit (C : Addr) : Rets (sp__law_edit C) (T__law_edit C) N__law_edit := by
  rintro _ S Φ Ψ ⟨h, st, p, n, d, t, es, ms, e, m, k, rfl, lv, hn, hl, hk1, hk2, q⟩
  unfold T__law_edit
  walk_at "dl"
  have ok := lv.pg.ok
  have h1 := ok.lo
  have h6 := ok.hi
  refine ⟨_, lv.stt, tabD t, rfl, roll_at lv.fd (by decide) fun S1 w f1 _ hw0 hw1 => ?_⟩
  have l1 := lv.fs f1
  refine ⟨_, t, rfl, tabS_l t, by omega, fun Z B hs tb hB hhs => ?_⟩
  have l2 := l1.app Z
  dsimp only
  rw [cLen_l, List.length_map]
  refine roll_at l2.fd (by omega) fun S3 a f3 _ ha0 ha1 => ?_
  have l3 := l2.fs f3
  have fr3 : Frm [h, st, p, e, m] S S3 := ((Frm.refl.fs f1 (by simp)).app Z).fs f3 (by simp)
  have bl0 : S.length ≤ B ∧ ∀ x ∈ hs, S.length ≤ x := by
    have el := f1.len
    exact ⟨by omega, fun x hx => by have := hhs x hx; omega⟩
  have off : Off [h, st, p, e, m] B hs := fun x hx => by have := l1.lt x hx; exact ⟨by omega, fun z => by have := hhs x z; omega⟩
  have tb3 := tb.fs f3 (off h (by simp))
  obtain ⟨i, rfl⟩ := Int.eq_ofNat_of_zero_le ha0
  have hi : i < t.length := by omega
  have hin : i < hs.length := by rw [tb.len]; exact hi
  have okr := ok.row _ (List.getElem_mem hi)
  have hr1 := okr.lo
  have hr2 := okr.hi
  have ati : atI (t.map rowD) (i : Int) = some (rowD t[i]) := by rw [at_nat, List.getElem?_map, List.getElem?_eq_getElem hi]; rfl
  have atB : ∀ j (hj : j < hs.length), atI (hs.map D.own) (j : Int) = some (.own hs[j]) := fun j hj => by rw [at_nat, List.getElem?_map, List.getElem?_eq_getElem hj]; rfl
  refine joinS (fun Γ S' => ∃ o7 o8 o9 o10 m' t' hs, EdJ S m C h st p (n + 900) d t es ms e k w B hs o7 o8 o9 o10 m' t' Γ S') (fun Γ' S' hj => ?_) fun N hN => ?_
  · obtain ⟨o7, o8, o9, o10, m', t', hs, rfl, lj, bj, oj, frj, hmj, blj⟩ := hj
    walk_at "dl"
    refine ⟨_, lj.stt, .lst (es.map tabD), rfl, small, ?_⟩
    walk_at "dl"
    refine ⟨small (by rw [List.length_map]; omega), _, lj.stt, 1, rfl, ?_⟩
    have os := oj st (by simp)
    have lj2 := lj.st_ [tabD t, .lst (es.map tabD ++ [tabD t]), .lst (marksD ms)]
    refine fz_tabL (bj.set os.1 os.2) fun S4 e1 e2 => ?_
    have lj3 := lj2.keep (S' := S4) fun x hx c e => e2 x c (oj x hx).1 (oj x hx).2 e
    refine ⟨_, lj3.stt, 0, rfl, ?_⟩
    walk_at "dl"
    refine ret_now (q _ m' t' ?_ (((frj.set _ (.inl (by simp))).frz e1 e2 blj.1 blj.2).set _ (.inl (by simp))) hmj)
    have lj4 := (lj3.st_ [tabD t', .lst (es.map tabD ++ [tabD t]), .lst (marksD ms)]).mono (n' := n + 1000) (by omega)
    rw [show stD t' (es ++ [t]) ms = [tabD t', .lst (es.map tabD ++ [tabD t]), .lst (marksD ms)] by unfold stD; rw [List.map_append]; rfl]
    exact lj4
  · walk_at "dl"
    by_cases c3 : w < 3
    · rw [if_pos (by rw [decide_eq_true_eq]; exact c3)]
      refine ⟨_, ati, ?_⟩
      rw [cLen_l, List.length_map]
      refine roll_at l3.fd (by omega) fun S4 sp f4 _ s0 s1 => ?_
      have l4 := l3.fs f4
      refine roll_at l4.fd (by decide) fun S5 x f5 _ x0 x1 => ?_
      have l5 := l4.fs f5
      refine ⟨cpw (by decide) (by decide) (by decide), roll_at l5.fd (by decide) fun S6 y f6 _ y0 y1 => ?_⟩
      have l6 := l5.fs f6
      refine ⟨small, roll_at l6.fd (by decide) fun S7 z f7 _ z0 z1 => ?_⟩
      have l7 := l6.fs f7
      have tb7 := (((tb3.fs f4 (off h (by simp))).fs f5 (off h (by simp))).fs f6 (off h (by simp))).fs f7 (off h (by simp))
      refine dIx_p (p := fun d => ∃ w : Int, d = .int w ∧ 0 ≤ w ∧ w ≤ GREAT) z0 z1 ?_ fun dv ⟨v, ev, v0, v1⟩ => ?_
      · intro d hd
        simp only [List.mem_cons, List.not_mem_nil, or_false] at hd
        rcases hd with rfl | rfl | rfl
        · exact ⟨_, rfl, x0, by show x ≤ 1000000000000000000000000000000; omega⟩
        · refine ⟨_, rfl, y0, ?_⟩
          have : y < 10 ^ 30 + 1 := y1
          have e30 : (10 : Int) ^ 30 = GREAT := by decide
          omega
        · exact ⟨_, rfl, by decide, by decide⟩
      subst ev
      refine ⟨_, tb7.out, _, atB i hin, ?_⟩
      obtain ⟨j, rfl⟩ := Int.eq_ofNat_of_zero_le s0
      have hj : j < (t[i]).length := by omega
      walk_at "dl"
      refine ⟨_, tb7.row i hin hi, j, ix_nat (by rw [List.length_map]; exact hj), ?_⟩
      have eset : ((t[i]).map D.int).set j (.int v) = ((t[i]).set j v).map D.int := by rw [List.map_set]
      rw [eset]
      have tb8 := tb7.setRow hin ((t[i]).set j v)
      have l8 : Lv C (S7.set hs[i] (.lst (((t[i]).set j v).map D.int))) h st p _ d t es ms e m (stD t es ms) := l7.keep fun x hx c e => by
        have := off x hx
        rw [List.getElem?_set_ne (fun z => this.2 (by rw [← z]; exact List.getElem_mem hin))]
        exact e
      have fr8 : Frm [h, st, p, e, m] S (S7.set hs[i] (.lst (((t[i]).set j v).map D.int))) := ((((fr3.fs f4 (by simp)).fs f5 (by simp)).fs f6 (by simp)).fs f7 (by simp)).set _ (.inr (bl0.2 _ (List.getElem_mem hin)))
      have est : setAt t i j v = t.set i ((t[i]).set j v) := by unfold setAt; rw [tab_at hi]
      refine joinD (fun S9 d' => d' = .non ∧ ∃ m', PageAt C S9 p e m' d (setAt t i j v) (es ++ [t]) ms ∧ Kq p e m (S7.set hs[i] (.lst (((t[i]).set j v).map D.int))) S9 ∧ (m' = m ∨ (S7.set hs[i] (.lst (((t[i]).set j v).map D.int))).length ≤ m')) (fun S9 d' hj => ?_) fun Φ' hΦ => ?_
      · obtain ⟨rfl, m', pg, kq, hm⟩ := hj
        refine hN _ _ ⟨_, _, _, _, m', _, hs, rfl, ((l8.to pg kq hm).mono (by omega)), ?_, ?_, fr8.kq kq (by simp) (by simp) (by simp), ?_, bl0⟩
        · rw [est]
          exact tb8.kq kq fun x hx => off x (by simp only [List.mem_cons, List.not_mem_nil, or_false] at hx ⊢; omega)
        · exact off.to tb8 hm
        · have := fr8.len
          omega
      · have go : sp_Page_change C [.own p, .int i, .int j, .int v] (S7.set hs[i] (.lst (((t[i]).set j v).map D.int))) Φ' (ErOk S Ψ) :=
          ⟨p, e, m, d, t, es, ms, i, j, v, rfl, l8.pg, by omega, hi, by rw [tab_at hi]; omega, v0, v1, fun S9 m' pg kq hm => hΦ _ _ ⟨rfl, m', pg, kq, hm⟩⟩
        walk_at "dl"
        split <;> exact ⟨_, l8.pg.asi, rfl, go⟩
    · rw [if_neg (by rw [decide_eq_true_eq]; exact c3)]
      refine joinS (fun Γ S' => ∃ o7 o8 o9 o10 m' t' hs, EdJ S m C h st p (n + 900) d t es ms e k w B hs o7 o8 o9 o10 m' t' Γ S') hN fun N2 hN2 => ?_
      walk_at "dl"
      rw [List.length_map]
      by_cases hd : 1 < t.length ∧ (w = 3 ∨ k ≤ t.length)
      · obtain ⟨hd1, hd2⟩ := hd
        rw [if_pos (by rw [decide_eq_true_eq]; omega)]
        have tl : t.length = hs.length := tb.len.symm
        have tb4 := tb3.pop i
        have l4 : Lv C (S3.set B (.lst ((hs.map D.own).eraseIdx i))) h st p _ d t es ms e m (stD t es ms) := l3.keep fun x hx c e => by
          rw [List.getElem?_set_ne (Ne.symm (off x hx).1)]
          exact e
        have off4 : Off [h, st, p, e, m] B (hs.eraseIdx i) := fun x hx => ⟨(off x hx).1, fun z => (off x hx).2 ((List.eraseIdx_sublist _ _).subset z)⟩
        have key : ∀ G X : Prop, G → (if (w == 3) = true then G else if decide ((k : Int) ≤ (t.length : Int)) = true then G else X) := fun G X g => by
          by_cases c4 : w = 3
          · rw [if_pos (by rw [beq_iff_eq]; exact c4)]
            exact g
          · rw [if_neg (by rw [beq_iff_eq]; exact c4), if_pos (by rw [decide_eq_true_eq]; omega)]
            exact g
        refine key _ _ ?_
        refine ⟨isLst_at tb3.out, B, _, i, i, .own hs[i], rfl, rfl, tb3.out, by omega, by omega, seq_nat (by rw [List.length_map]; exact hin), by rw [List.getElem?_map, List.getElem?_eq_getElem hin]; rfl, ?_⟩
        refine joinD (fun S9 d' => d' = .non ∧ ∃ S8 m', Frm [h, st, p, e, m] S S8 ∧ Lv C S8 h st p (n + 10) d t es ms e m (stD t es ms) ∧ TabH S8 B (hs.eraseIdx i) (cutAt t i) ∧ PageAt C S9 p e m' d (cutAt t i) (es ++ [t]) ms ∧ Kq p e m S8 S9 ∧ (m' = m ∨ S8.length ≤ m')) (fun S9 d' hj => ?_) fun Φ' hΦ => ?_
        · obtain ⟨rfl, S8, m', fr8, l8, tb8, pg, kq, hm⟩ := hj
          have fl8 := fr8.len
          exact hN2 _ _ ⟨_, _, _, _, m', _, _, rfl, (l8.to pg kq hm).mono (by omega), tb8.kq kq fun x hx => off4 x (by simp only [List.mem_cons, List.not_mem_nil, or_false] at hx ⊢; omega), off4.to tb8 hm, fr8.kq kq (by simp) (by simp) (by simp), by omega, bl0.1, fun x hx => bl0.2 x ((List.eraseIdx_sublist _ _).subset hx)⟩
        · walk_at "dl"
          refine roll_at l4.fd (by decide) fun S5 x f5 _ x0 x1 => ?_
          have l5 := (l4.fs f5).mono (n' := n + 10) (by omega)
          have tb5 := tb4.fs f5 (off4 h (by simp))
          have go : sp_Page_drop C [.own p, .int i] S5 Φ' (ErOk S Ψ) :=
            ⟨p, e, m, d, t, es, ms, i, rfl, l5.pg, by omega, hi, hd1, fun S9 m' pg kq hm => hΦ _ _ ⟨rfl, S5, m', (fr3.set _ (.inr bl0.1)).fs f5 (by simp), l5, tb5, pg, kq, hm⟩⟩
          walk_at "dl"
          split <;> exact ⟨_, l5.pg.asi, rfl, go⟩
      · have hk : t.length < k := by omega
        have key : ∀ G X : Prop, X → (if decide ((1 : Int) < (t.length : Int)) = true then (if (w == 3) = true then G else if decide ((k : Int) ≤ (t.length : Int)) = true then G else X) else X) := fun G X g => by
          by_cases c5 : 1 < t.length
          · rw [if_pos (by rw [decide_eq_true_eq]; omega), if_neg (by rw [beq_iff_eq]; omega), if_neg (by rw [decide_eq_true_eq]; omega)]
            exact g
          · rw [if_neg (by rw [decide_eq_true_eq]; omega)]
            exact g
        refine key _ _ ?_
        refine joinS (fun Γ S' => ∃ o7 o8 o9 o10 m' t' hs, EdJ S m C h st p (n + 900) d t es ms e k w B hs o7 o8 o9 o10 m' t' Γ S') hN2 fun N3 hN3 => ?_
        walk_at "dl"
        rw [List.length_map, if_pos (by rw [decide_eq_true_eq]; omega)]
        refine roll_at l3.fd (by omega) fun S4 a2 f4 _ a0 a1 => ?_
        have l4 := l3.fs f4
        have tb4 := tb3.fs f4 (off h (by simp))
        obtain ⟨i2, rfl⟩ := Int.eq_ofNat_of_zero_le a0
        refine ⟨small, roll_at l4.fd (by decide) fun S5 b f5 _ b0 b1 => ?_⟩
        have l5 := l4.fs f5
        have tb5 := tb4.fs f5 (off h (by simp))
        refine dIx_p (p := fun d => ∃ mm : Nat, d = .int mm ∧ 1 ≤ mm ∧ mm ≤ 12) b0 b1 ?_ fun dm ⟨mm, edm, m1, m2⟩ => ?_
        · intro d hd
          simp only [List.mem_cons, List.not_mem_nil, or_false] at hd
          rcases hd with rfl | rfl
          · exact ⟨12, rfl, by decide, by decide⟩
          · exact ⟨3, rfl, by decide, by decide⟩
        subst edm
        refine roll_at l5.fd (by decide) fun S6 ww f6 _ w0 w1 => ?_
        have l6 := l5.fs f6
        have tb6 := tb5.fs f6 (off h (by simp))
        refine row_at l6.fd m1 (by omega) w0 w1 fun S7 r f7 _ r1 r2 r3 => ?_
        have l7 := l6.fs f7
        have tb7 := tb6.fs f7 (off h (by simp))
        have l8 := l7.app [.lst (r.map D.int)]
        have tb8 := tb7.app (T := [.lst (r.map D.int)])
        have er : (S7 ++ [Cell.lst (r.map D.int)])[S7.length]? = some (.lst (r.map D.int)) := get_at
        have bl := tb7.lt
        have xl := l7.lt
        have bne : S7.length ≠ B := by omega
        refine ⟨isLst_at tb8.out, ?_⟩
        rw [cListO_L (asL_at' er)]
        have ln8 : (S7 ++ [Cell.lst (r.map D.int)]).length = S7.length + 1 := by rw [List.length_append]; rfl
        have tb9 := (tb8.app (T := [.lst (r.map D.int)])).ins (i := i2) (c := (S7 ++ [Cell.lst (r.map D.int)]).length) (r := r) (by omega) get_at (by omega) (fun z => by have := bl.2 _ z; omega)
        refine ⟨B, _, i2, _, rfl, rfl, (tb8.app (T := [.lst (r.map D.int)])).out, by rw [List.length_map, tb.len]; exact under (by omega), by omega, by omega, ?_⟩
        rw [Int.toNat_natCast]
        obtain ⟨S10, e10⟩ : ∃ S10, S10 = ((S7 ++ [Cell.lst (r.map D.int)] ++ [Cell.lst (r.map D.int)]).set B (.lst ((hs.map D.own).take i2 ++ [.own (S7 ++ [Cell.lst (r.map D.int)]).length] ++ (hs.map D.own).drop i2))) := ⟨_, rfl⟩
        rw [← e10] at tb9 ⊢
        have l10 : Lv C S10 h st p _ d t es ms e m (stD t es ms) := (l8.app [.lst (r.map D.int)]).keep fun x hx c e => by
          rw [e10, List.getElem?_set_ne (Ne.symm (off x hx).1)]
          exact e
        have fr7 : Frm [h, st, p, e, m] S S7 := (((fr3.fs f4 (by simp)).fs f5 (by simp)).fs f6 (by simp)).fs f7 (by simp)
        have fr10 : Frm [h, st, p, e, m] S S10 := by
          rw [e10]
          exact ((fr7.app _).app _).set _ (.inr bl0.1)
        have fl7 := fr7.len
        have fl10 := fr10.len
        have er10 : S10[S7.length]? = some (.lst (r.map D.int)) := by
          rw [e10, List.getElem?_set_ne (Ne.symm bne)]
          exact get_app er
        have ln10 : S10.length = S7.length + 2 := by rw [e10, List.length_set, List.length_append, ln8]; rfl
        have off10 : Off [h, st, p, e, m] B (hs.take i2 ++ (S7 ++ [Cell.lst (r.map D.int)]).length :: hs.drop i2) := fun x hx => by
          have hx7 := xl x hx
          refine ⟨(off x hx).1, fun z => ?_⟩
          rcases List.mem_append.mp z with z | z
          · exact (off x hx).2 (List.mem_of_mem_take z)
          · rcases List.mem_cons.mp z with z | z
            · omega
            · exact (off x hx).2 (List.mem_of_mem_drop z)
        have rn : S7.length ∉ (hs.take i2 ++ (S7 ++ [Cell.lst (r.map D.int)]).length :: hs.drop i2) := fun z => by
          rcases List.mem_append.mp z with z | z
          · have := bl.2 _ (List.mem_of_mem_take z); omega
          · rcases List.mem_cons.mp z with z | z
            · omega
            · have := bl.2 _ (List.mem_of_mem_drop z); omega
        have xp := xl p (by simp)
        have xe := xl e (by simp)
        have xm := xl m (by simp)
        refine joinD (fun S9 d' => d' = .non ∧ ∃ m', PageAt C S9 p e m' d (putAt t i2 r) (es ++ [t]) ms ∧ Kq p e m S10 S9 ∧ (m' = m ∨ S10.length ≤ m')) (fun S9 d' hj => ?_) fun Φ' hΦ => ?_
        · obtain ⟨rfl, m', pg, kq, hm⟩ := hj
          have er9 := kq.get _ _ (by omega) (by omega) (by omega) er10
          refine ⟨isLst_at er9, ?_⟩
          rw [mAppend_e]
          have l9 := l10.to pg kq hm
          have tb9' := tb9.kq kq fun x hx => off10 x (by simp only [List.mem_cons, List.not_mem_nil, or_false] at hx ⊢; omega)
          refine ⟨_, er9, by rw [List.length_map]; exact under (by omega), hN3 _ _ ⟨_, _, _, _, m', _, _, rfl, (l9.keep fun x hx c e => ?_).mono (by omega), tb9'.set bne rn, off10.to tb9 hm, (fr10.kq kq (by simp) (by simp) (by simp)).set _ (.inr (by omega)), by omega, bl0.1, fun x hx => ?_⟩⟩
          rotate_left
          · rcases List.mem_append.mp hx with hx | hx
            · exact bl0.2 x (List.mem_of_mem_take hx)
            · rcases List.mem_cons.mp hx with hx | hx
              · omega
              · exact bl0.2 x (List.mem_of_mem_drop hx)
          have : S7.length ≠ x := by
            simp only [List.mem_cons, List.not_mem_nil, or_false] at hx
            have xh := xl h (by simp)
            have xs := xl st (by simp)
            omega
          rw [List.getElem?_set_ne this]
          exact e
        · have go : sp_Page_put C [.own p, .int i2, .own S7.length] S10 Φ' (ErOk S Ψ) :=
            ⟨p, e, m, d, t, es, ms, i2, _, r, rfl, l10.pg, by omega, by omega, by omega, asL_at' er10, ⟨r1, by omega, r3⟩, fun S9 m' pg kq hm => hΦ _ _ ⟨rfl, m', pg, kq, hm⟩⟩
          walk_at "dl"
          split <;> exact ⟨_, l10.pg.asi, rfl, go⟩
end DL
namespace DL
open PySem PySem.Spec PyProof.Rows L2
local macro_rules | `(tactic| walk_at "dl") => `(tactic| ((try simp only [gstart, gwipe, List.set_set, List.map_cons, List.map_nil, List.length_cons, List.length_nil, rep_0, rep_s, List.cons_append, List.nil_append, List.set_cons_zero, List.set_cons_succ, Nat.reduceAdd, Nat.reduceSub, Nat.zero_add, Nat.add_zero]); (try simp only [↓dv0, ↓dv1, ↓dv2, ↓dv3, ↓dv4, ↓dv5, ↓dv6, ↓dv7, ↓dv8, ↓dv9, ↓dv10, ↓dv11, ↓dv12, ↓dv13, ↓dv14, ↓dv15, ↓dv16, ↓dv17, ↓dv18, ↓dv19, ↓dv20, ↓dv21, ↓dv22, ↓dv23, ↓dv24, ↓dv25, ↓dv26, ↓dv27, ↓dv28, ↓dv29, ↓dv30, ↓dv31, ↓dv32, ↓dv33, ↓dv34, ↓dv35, ↓dv36, ↓dv37, ↓dv38, ↓dv39, ↓nm0, ↓nm1, ↓nm2, ↓nm3, ↓nm4, ↓nm5, ↓nm6, ↓nm7, ↓nm8, ↓nm9, ↓nm10, ↓nm11, ↓nm12, ↓nm13, ↓nm14, ↓nm15, ↓nm16, ↓nm17, ↓nm18, ↓nm19, ↓nm20, ↓nm21, ↓nm22, ↓nm23, ↓nm24, ↓nm25, ↓nm26, ↓nm27, ↓nm28, ↓nm29, ↓nm30, ↓nm31, ↓nm32, ↓nm33, ↓nm34, ↓nm35, ↓nm36, ↓nm37, ↓nm38, ↓nm39, ↓sPar_n, ↓sPar3_n, ↓sAug_n, ↓reduceIte, List.set_set, ↓sNext_e, ↓sSeq_e, ↓sBrk_e, ↓sCnt_e, ↓sDrop_e, ↓sRet_e, ↓sRetN_e, ↓sIf_e, ↓sAsg_e, ↓sRaise_e, ↓nmG_e, ↓tupG_e, ↓gsNil_e, ↓gsCons_e, ↓subG_e, ↓dC_e, ↓dOp_e, ↓dUn_e, ↓dChain_e, ↓bOf_e, ↓bAnd_e, ↓bOr_e, ↓bNot_e, ↓bYes_e, ↓dAnd_e, ↓dOr_e, ↓dNot_e, ↓dIf_e, ↓lNil_e, ↓lCons_e, ↓dLst_e, ↓dLstO_e, ↓dTup_e, ↓dCB_e, ↓dCall_e, ↓dCallK_e, ↓oNone_e, ↓oSome_e, ↓dSl_e, ↓dBM_e, ↓dBM0_e, ↓dFz_e, ↓dFz2_e, ↓d2_e, ↓dLone_e, ↓lStar_e, ↓dCallA_e, ↓dMakeA_e, ↓dMakeV_e, ↓dMethA_e, ↓dCMethA_e, ↓dPropA_e, ↓dFld_e, ↓sFldS_e, ↓dFzI_e, ↓fzID_o, ↓dM1_e, ↓dM0_e, ↓dRev_e, ↓mSplit_s, ↓mUpper_s, ↓exStr, ↓exZ, ↓cStrI_i, ↓cIntS_s, ↓iStrD_e, ↓dEqF_s, ↓dNeF_s, ↓dEqF_i, ↓dNeF_i, ↓dSign_s, ↓sRaiseI_e, ↓dXFld_e, ↓mPop_e, ↓dAddO_l, ↓dAddO_o, ↓dMk0_e, ↓sKeep_e, ↓dCVal_e, ↓dConI_e, ↓cLen_s, ↓dIx_s, ↓dSlS_s, ↓dAdd_s, ↓cTup_l, ↓pkP_e, ↓pkS_e, ↓lstG_e, ↓asI_i, ↓iSeq_e, ↓iTupD_e, ↓iRg1_e, ↓iRg2_e, ↓iZipD_e, ↓iEnumD_e, ↓sFor_e, ↓dLc_e, ↓finF_e, ↓finO_e, ↓fzD_l, ↓fzD_i, ↓fzD_o, ↓fzD2_o, ↓dSetO_e, ↓mAppend_e, ↓mClear_e, ↓mReverse_e, List.map_cons, List.map_nil, List.length_cons, List.length_nil, rep_0, rep_s, List.cons_append, List.nil_append, List.getElem?_cons_zero, List.getElem?_cons_succ, List.set_cons_zero, List.set_cons_succ, Nat.reduceAdd, Nat.reduceSub, Nat.zero_add, Nat.add_zero, ↓exSS, ↓exB, ↓exI, ↓ex1, ↓ex2, ↓ex3, ↓exI1, ↓exI2, ↓exT, ↓exC, ↓exAs, ↓dAdd_i, ↓dAddI_i, ↓dSubI_i, ↓dLRg_e, ↓dLRgO_e, ↓dAdd_l, ↓dSub_i, ↓dMul_i, ↓dMul_l, ↓dMod_i, ↓dDiv_i, ↓dPow_i, ↓dLt_i, ↓dLe_i, ↓dGt_i, ↓dGe_i, ↓uNeg_i, ↓cMax2_i, ↓cMin2_i, ↓cAbs_i, ↓cInt_i, ↓cInt_b, ↓cLen_l, ↓cLen_q, ↓cLen_t, ↓cList_l, ↓cList_q, ↓cList_t, ↓cListO_l, ↓cListO_t, ↓dIx_l, ↓dIx_q, ↓dIx_t, ↓dIx_o', ↓exS, ↓exL, at_1, at_2, at_3, at_4, ix30, ix31, ix32, ↓dSlL_l, ↓dSlL_q, ↓asQ_l, ↓asL_l, at_0, ↓isi_non_int, ↓isi_non_bool, ↓isi_non_str, ↓isi_non_list, ↓isi_non_tuple, ↓isi_non_dict, ↓isi_bl_int, ↓isi_bl_bool, ↓isi_bl_str, ↓isi_bl_list, ↓isi_bl_tuple, ↓isi_bl_dict, ↓isi_int_int, ↓isi_int_bool, ↓isi_int_str, ↓isi_int_list, ↓isi_int_tuple, ↓isi_int_dict, ↓isi_str_int, ↓isi_str_bool, ↓isi_str_str, ↓isi_str_list, ↓isi_str_tuple, ↓isi_str_dict, ↓isi_lst_int, ↓isi_lst_bool, ↓isi_lst_str, ↓isi_lst_list, ↓isi_lst_tuple, ↓isi_lst_dict, ↓isi_sq_int, ↓isi_sq_bool, ↓isi_sq_str, ↓isi_sq_list, ↓isi_sq_tuple, ↓isi_sq_dict, ↓isi_tup_int, ↓isi_tup_bool, ↓isi_tup_str, ↓isi_tup_list, ↓isi_tup_tuple, ↓isi_tup_dict, ↓isi_dic_int, ↓isi_dic_bool, ↓isi_dic_str, ↓isi_dic_list, ↓isi_dic_tuple, ↓isi_dic_dict, if_true, if_false, Bool.not_true, Bool.not_false, true_and, and_true, reduceCtorEq, Bool.true_eq_false, Bool.false_eq_true, ite_true, ite_false, ↓exAny, ↓isLst_l, Int.toNat_natCast, Int.reduceToNat, dVar_e, sPar_e, sPar3_e, sAug_e])))
local macro_rules | `(tactic| walk_at "dls") => `(tactic| ((try simp only [gstart, gwipe, List.set_set, List.map_cons, List.map_nil, List.length_cons, List.length_nil, rep_0, rep_s, List.cons_append, List.nil_append, List.set_cons_zero, List.set_cons_succ, Nat.reduceAdd, Nat.reduceSub, Nat.zero_add, Nat.add_zero]); (try simp only [*, ↓dv0, ↓dv1, ↓dv2, ↓dv3, ↓dv4, ↓dv5, ↓dv6, ↓dv7, ↓dv8, ↓dv9, ↓dv10, ↓dv11, ↓dv12, ↓dv13, ↓dv14, ↓dv15, ↓dv16, ↓dv17, ↓dv18, ↓dv19, ↓dv20, ↓dv21, ↓dv22, ↓dv23, ↓dv24, ↓dv25, ↓dv26, ↓dv27, ↓dv28, ↓dv29, ↓dv30, ↓dv31, ↓dv32, ↓dv33, ↓dv34, ↓dv35, ↓dv36, ↓dv37, ↓dv38, ↓dv39, ↓nm0, ↓nm1, ↓nm2, ↓nm3, ↓nm4, ↓nm5, ↓nm6, ↓nm7, ↓nm8, ↓nm9, ↓nm10, ↓nm11, ↓nm12, ↓nm13, ↓nm14, ↓nm15, ↓nm16, ↓nm17, ↓nm18, ↓nm19, ↓nm20, ↓nm21, ↓nm22, ↓nm23, ↓nm24, ↓nm25, ↓nm26, ↓nm27, ↓nm28, ↓nm29, ↓nm30, ↓nm31, ↓nm32, ↓nm33, ↓nm34, ↓nm35, ↓nm36, ↓nm37, ↓nm38, ↓nm39, ↓sPar_n, ↓sPar3_n, ↓sAug_n, ↓reduceIte, List.set_set, ↓sNext_e, ↓sSeq_e, ↓sBrk_e, ↓sCnt_e, ↓sDrop_e, ↓sRet_e, ↓sRetN_e, ↓sIf_e, ↓sAsg_e, ↓sRaise_e, ↓nmG_e, ↓tupG_e, ↓gsNil_e, ↓gsCons_e, ↓subG_e, ↓dC_e, ↓dOp_e, ↓dUn_e, ↓dChain_e, ↓bOf_e, ↓bAnd_e, ↓bOr_e, ↓bNot_e, ↓bYes_e, ↓dAnd_e, ↓dOr_e, ↓dNot_e, ↓dIf_e, ↓lNil_e, ↓lCons_e, ↓dLst_e, ↓dLstO_e, ↓dTup_e, ↓dCB_e, ↓dCall_e, ↓dCallK_e, ↓oNone_e, ↓oSome_e, ↓dSl_e, ↓dBM_e, ↓dBM0_e, ↓dFz_e, ↓dFz2_e, ↓d2_e, ↓dLone_e, ↓lStar_e, ↓dCallA_e, ↓dMakeA_e, ↓dMakeV_e, ↓dMethA_e, ↓dCMethA_e, ↓dPropA_e, ↓dFld_e, ↓sFldS_e, ↓dFzI_e, ↓fzID_o, ↓dM1_e, ↓dM0_e, ↓dRev_e, ↓mSplit_s, ↓mUpper_s, ↓exStr, ↓exZ, ↓cStrI_i, ↓cIntS_s, ↓iStrD_e, ↓dEqF_s, ↓dNeF_s, ↓dEqF_i, ↓dNeF_i, ↓dSign_s, ↓sRaiseI_e, ↓dXFld_e, ↓mPop_e, ↓dAddO_l, ↓dAddO_o, ↓dMk0_e, ↓sKeep_e, ↓dCVal_e, ↓dConI_e, ↓cLen_s, ↓dIx_s, ↓dSlS_s, ↓dAdd_s, ↓cTup_l, ↓pkP_e, ↓pkS_e, ↓lstG_e, ↓asI_i, ↓iSeq_e, ↓iTupD_e, ↓iRg1_e, ↓iRg2_e, ↓iZipD_e, ↓iEnumD_e, ↓sFor_e, ↓dLc_e, ↓finF_e, ↓finO_e, ↓fzD_l, ↓fzD_i, ↓fzD_o, ↓fzD2_o, ↓dSetO_e, ↓mAppend_e, ↓mClear_e, ↓mReverse_e, List.map_cons, List.map_nil, List.length_cons, List.length_nil, rep_0, rep_s, List.cons_append, List.nil_append, List.getElem?_cons_zero, List.getElem?_cons_succ, List.set_cons_zero, List.set_cons_succ, Nat.reduceAdd, Nat.reduceSub, Nat.zero_add, Nat.add_zero, ↓exSS, ↓exB, ↓exI, ↓ex1, ↓ex2, ↓ex3, ↓exI1, ↓exI2, ↓exT, ↓exC, ↓exAs, ↓dAdd_i, ↓dAddI_i, ↓dSubI_i, ↓dLRg_e, ↓dLRgO_e, ↓dAdd_l, ↓dSub_i, ↓dMul_i, ↓dMul_l, ↓dMod_i, ↓dDiv_i, ↓dPow_i, ↓dLt_i, ↓dLe_i, ↓dGt_i, ↓dGe_i, ↓uNeg_i, ↓cMax2_i, ↓cMin2_i, ↓cAbs_i, ↓cInt_i, ↓cInt_b, ↓cLen_l, ↓cLen_q, ↓cLen_t, ↓cList_l, ↓cList_q, ↓cList_t, ↓cListO_l, ↓cListO_t, ↓dIx_l, ↓dIx_q, ↓dIx_t, ↓dIx_o', ↓exS, ↓exL, at_1, at_2, at_3, at_4, ix30, ix31, ix32, ↓dSlL_l, ↓dSlL_q, ↓asQ_l, ↓asL_l, at_0, ↓isi_non_int, ↓isi_non_bool, ↓isi_non_str, ↓isi_non_list, ↓isi_non_tuple, ↓isi_non_dict, ↓isi_bl_int, ↓isi_bl_bool, ↓isi_bl_str, ↓isi_bl_list, ↓isi_bl_tuple, ↓isi_bl_dict, ↓isi_int_int, ↓isi_int_bool, ↓isi_int_str, ↓isi_int_list, ↓isi_int_tuple, ↓isi_int_dict, ↓isi_str_int, ↓isi_str_bool, ↓isi_str_str, ↓isi_str_list, ↓isi_str_tuple, ↓isi_str_dict, ↓isi_lst_int, ↓isi_lst_bool, ↓isi_lst_str, ↓isi_lst_list, ↓isi_lst_tuple, ↓isi_lst_dict, ↓isi_sq_int, ↓isi_sq_bool, ↓isi_sq_str, ↓isi_sq_list, ↓isi_sq_tuple, ↓isi_sq_dict, ↓isi_tup_int, ↓isi_tup_bool, ↓isi_tup_str, ↓isi_tup_list, ↓isi_tup_tuple, ↓isi_tup_dict, ↓isi_dic_int, ↓isi_dic_bool, ↓isi_dic_str, ↓isi_dic_list, ↓isi_dic_tuple, ↓isi_dic_dict, if_true, if_false, Bool.not_true, Bool.not_false, true_and, and_true, reduceCtorEq, Bool.true_eq_false, Bool.false_eq_true, ite_true, ite_false, ↓exAny, ↓isLst_l, Int.toNat_natCast, Int.reduceToNat, dVar_e, sPar_e, sPar3_e, sAug_e])))
--M6
theorem p_Page_twin (C I : Addr) : Rets (sp_Page_twin C) (T_Page_twin C I) N_Page_twin := by
  rintro _ S Φ Ψ ⟨p, e, m, d, t, es, ms, rfl, pg, q⟩
  unfold T_Page_twin
  walk_at "dl"
  have ok := pg.ok
  have h6 := ok.hi
  have lp := get_lt pg.obj
  have le := get_lt pg.ear
  have lm := get_lt pg.mar
  refine ⟨_, pg.asi, _, rfl, _, pg.asi, _, rfl, t.map rowD, rfl, rfl, fun h => h.elim, small (by show (t.map rowD ++ []).length ≤ _; rw [List.append_nil, List.length_map]; omega), S.length, d, t.map rowD ++ [], t, rfl, by rw [List.append_nil]; exact rows_map t, .inl ⟨get_at, ok, rfl, ?_⟩⟩
  have ln : (S ++ [Cell.ins C []]).length = S.length + 1 := by rw [List.length_append]; rfl
  rw [set_at, ln]
  have a1 : ∀ (Z : Sto) i c, S[i]? = some c → (S ++ Z)[i]? = some c := fun Z i c e => get_app e
  simp only [List.append_assoc, List.cons_append, List.nil_append]
  refine ⟨_, asI_own (a1 _ _ _ pg.obj), _, rfl, ?_⟩
  rw [cListO_L (asL_at' (a1 _ _ _ pg.ear))]
  simp only [List.append_assoc, List.cons_append, List.nil_append]
  refine ⟨S.length, _, rfl, get_at, by show (4 : Nat) < 1000; decide, ?_⟩
  rw [set_at]
  refine ⟨_, asI_own (a1 _ _ _ pg.obj), _, rfl, ?_⟩
  rw [cListO_L (asL_at' (a1 _ _ _ pg.mar))]
  simp only [List.append_assoc, List.cons_append, List.nil_append]
  refine ⟨S.length, _, rfl, get_at, by show (4 : Nat) < 1000; decide, ret_now ?_⟩
  rw [set_at]
  simp only [List.length_append, List.length_cons, List.length_nil]
  have g0 : ∀ (Z : Sto) k c, Z[k]? = some c → (S ++ Z)[S.length + k]? = some c := fun Z k c e => by rw [List.getElem?_append_right (Nat.le_add_right _ _), Nat.add_sub_cancel_left]; exact e
  refine q _ S.length (S.length + 3) (S.length + 4) ⟨get_at, g0 _ 3 _ rfl, g0 _ 4 _ rfl, by omega, by omega, by omega, ok, pg.eok, pg.el, pg.ml, pg.mle, pg.mo⟩ (Nat.le_refl _) (by omega) (by omega)
theorem stopsF_fit {ks : List Str} {g l : Int} {t : List (List Int)} (ok : TabOk t) (lk : LookOk ks g l) : Fit 2 (2 + 60 * (2 + 12 * (33 + 3) + 2)) (tabP (stopsF g l t)) := by
  have row : ∀ r ∈ stopsF g l t, ∃ j, j < t.length ∧ r = rowStops g l t j := fun r hr => by
    unfold stopsF at hr
    obtain ⟨j, hj, rfl⟩ := List.mem_map.mp hr
    exact ⟨j, List.mem_range.mp hj, rfl⟩
  refine fit_tab (k := 33) (l := 12) (n := 60) (fun r hr x hx => ?_) (fun r hr => ?_) (by unfold stopsF; rw [List.length_map, List.length_range]; exact ok.hi)
  · obtain ⟨j, hj, rfl⟩ := row r hr
    have b := rowStops_in lk.g0 lk.g1 lk.l0 lk.l1 ok.cells (j := j) (by rw [tab_at hj]; exact (ok.row _ (List.getElem_mem hj)).hi) x hx
    have : 22 * GREAT < 10 ^ 33 := by decide
    omega
  · obtain ⟨j, hj, rfl⟩ := row r hr
    rw [rowStops_len, tab_at hj]
    have := (ok.row _ (List.getElem_mem hj)).hi
    omega
theorem ends_in {ks : List Str} {g l : Int} {t : List (List Int)} (ok : TabOk t) (lk : LookOk ks g l) : ∀ y ∈ endsF g l t, 0 ≤ y ∧ y ≤ 23 * GREAT := fun y hy => by
  unfold endsF at hy
  obtain ⟨j, hj, rfl⟩ := List.mem_map.mp hy
  have hj := List.mem_range.mp hj
  exact rowEnd_in lk.g0 lk.g1 lk.l0 lk.l1 ok.cells (by rw [tab_at hj]; exact (ok.row _ (List.getElem_mem hj)).hi)
theorem ends_ne {g l : Int} {t : List (List Int)} (ok : TabOk t) : endsF g l t ≠ [] := fun e => by
  have : (endsF g l t).length = t.length := by unfold endsF; rw [List.length_map, List.length_range]
  rw [e] at this
  have := ok.lo
  simp at *
  omega
theorem width_in {ks : List Str} {g l : Int} {t : List (List Int)} (ok : TabOk t) (lk : LookOk ks g l) : 0 ≤ widthF g l t ∧ widthF g l t ≤ 23 * GREAT := ends_in ok lk _ (maxOf_mem (ends_ne ok))
theorem p_Page_width (C Cs : Addr) : Rets (sp_Page_width Cs C) (T_Page_width C Cs) N_Page_width := by
  rintro _ S Φ Ψ ⟨p, e, m, s, t, es, ms, ks, g, l, rfl, pg, as, lk, h⟩
  unfold T_Page_width
  walk_at "dl"
  refine ⟨_, pg.asi, _, rfl, _, pg.asi, _, rfl, _, s, t, ks, g, l, rfl, tabS_l t, pg.ok, as, lk, ret_now h⟩
theorem p_Page_stops (C Cs : Addr) : Rets (sp_Page_stops Cs C) (T_Page_stops C Cs) N_Page_stops := by
  rintro _ S Φ Ψ ⟨p, e, m, s, t, es, ms, ks, g, l, rfl, pg, as, h⟩
  unfold T_Page_stops
  walk_at "dl"
  exact ⟨_, pg.asi, _, rfl, _, pg.asi, _, rfl, _, s, t, ks, g, l, rfl, tabS_l t, pg.ok, as, fun Z b hs tb h1 h2 => ret_now (h Z b hs tb h1 h2)⟩
end DL
namespace DL
open PySem PySem.Spec PyProof.Rows L2
local macro_rules | `(tactic| walk_at "dl") => `(tactic| ((try simp only [gstart, gwipe, List.set_set, List.map_cons, List.map_nil, List.length_cons, List.length_nil, rep_0, rep_s, List.cons_append, List.nil_append, List.set_cons_zero, List.set_cons_succ, Nat.reduceAdd, Nat.reduceSub, Nat.zero_add, Nat.add_zero]); (try simp only [↓dv0, ↓dv1, ↓dv2, ↓dv3, ↓dv4, ↓dv5, ↓dv6, ↓dv7, ↓dv8, ↓dv9, ↓dv10, ↓dv11, ↓dv12, ↓dv13, ↓dv14, ↓dv15, ↓dv16, ↓dv17, ↓dv18, ↓dv19, ↓dv20, ↓dv21, ↓dv22, ↓dv23, ↓dv24, ↓dv25, ↓dv26, ↓dv27, ↓dv28, ↓dv29, ↓dv30, ↓dv31, ↓dv32, ↓dv33, ↓dv34, ↓dv35, ↓dv36, ↓dv37, ↓dv38, ↓dv39, ↓nm0, ↓nm1, ↓nm2, ↓nm3, ↓nm4, ↓nm5, ↓nm6, ↓nm7, ↓nm8, ↓nm9, ↓nm10, ↓nm11, ↓nm12, ↓nm13, ↓nm14, ↓nm15, ↓nm16, ↓nm17, ↓nm18, ↓nm19, ↓nm20, ↓nm21, ↓nm22, ↓nm23, ↓nm24, ↓nm25, ↓nm26, ↓nm27, ↓nm28, ↓nm29, ↓nm30, ↓nm31, ↓nm32, ↓nm33, ↓nm34, ↓nm35, ↓nm36, ↓nm37, ↓nm38, ↓nm39, ↓sPar_n, ↓sPar3_n, ↓sAug_n, ↓reduceIte, List.set_set, ↓sNext_e, ↓sSeq_e, ↓sBrk_e, ↓sCnt_e, ↓sDrop_e, ↓sRet_e, ↓sRetN_e, ↓sIf_e, ↓sAsg_e, ↓sRaise_e, ↓nmG_e, ↓tupG_e, ↓gsNil_e, ↓gsCons_e, ↓subG_e, ↓dC_e, ↓dOp_e, ↓dUn_e, ↓dChain_e, ↓bOf_e, ↓bAnd_e, ↓bOr_e, ↓bNot_e, ↓bYes_e, ↓dAnd_e, ↓dOr_e, ↓dNot_e, ↓dIf_e, ↓lNil_e, ↓lCons_e, ↓dLst_e, ↓dDic0_e, ↓dDic1_e, ↓dLenSetG_e, dIsB_b, ↓dLstO_e, ↓dTup_e, ↓dCB_e, ↓dCall_e, ↓dCallK_e, ↓oNone_e, ↓oSome_e, ↓dSl_e, ↓dBM_e, ↓dBM0_e, ↓dFz_e, ↓dFz2_e, ↓d2_e, ↓dLone_e, ↓lStar_e, ↓dCallA_e, ↓dMakeA_e, ↓dMakeV_e, ↓dMethA_e, ↓dCMethA_e, ↓dPropA_e, ↓dFld_e, ↓sFldS_e, ↓dFzI_e, ↓fzID_o, ↓dM1_e, ↓dM0_e, ↓dRev_e, ↓mSplit_s, ↓mUpper_s, ↓exStr, ↓exZ, ↓cStrI_i, ↓cIntS_s, ↓iStrD_e, ↓dEqF_s, ↓dNeF_s, ↓dEqF_i, ↓dNeF_i, ↓dSign_s, ↓sRaiseI_e, ↓dXFld_e, ↓mPop_e, ↓dAddO_l, ↓dAddO_o, ↓dMk0_e, ↓sKeep_e, ↓sTryH_e, ↓dCVal_e, ↓dConI_e, ↓cLen_s, ↓dIx_s, ↓dSlS_s, ↓dAdd_s, ↓cTup_l, ↓pkP_e, ↓pkS_e, ↓lstG_e, ↓asI_i, ↓iSeq_e, ↓iTupD_e, ↓iRg1_e, ↓iRg2_e, ↓iZipD_e, iZrD_e, ↓iEnumD_e, ↓sFor_e, ↓dLc_e, ↓finF_e, ↓finO_e, ↓fzD_l, ↓fzD_i, ↓fzD_o, ↓fzD2_o, ↓dSetO_e, ↓mAppend_e, ↓mClear_e, ↓mReverse_e, List.map_cons, List.map_nil, List.length_cons, List.length_nil, rep_0, rep_s, List.cons_append, List.nil_append, List.getElem?_cons_zero, List.getElem?_cons_succ, List.set_cons_zero, List.set_cons_succ, Nat.reduceAdd, Nat.reduceSub, Nat.zero_add, Nat.add_zero, ↓exSS, ↓exB, ↓exI, ↓ex1, ↓ex2, ↓ex3, ↓exI1, ↓exI2, ↓exT, ↓exC, ↓exAs, ↓dAdd_i, ↓dAddI_i, ↓dSubI_i, ↓dLRg_e, ↓dIsiT_e, ↓dLenSet_e, ↓bChain3_e, ↓dLRg2_e, ↓iRg3_e, ↓dLc2_e, ↓dSlT_t, dAddT_t, ↓dNewK_e, ↓dDis1_e, ↓sDkp_e, ↓dDGet_e, ↓dDGet2_e, ↓dLVals_e, ↓kD_ex_i, ↓dSS_e, ↓dST_e, ↓dSI_e, ↓lsG_e, ↓dMulI_i, ↓dNew_e, ↓sDct_e, ↓dMulO_l, ↓dLRgO_e, ↓dAdd_l, ↓dSub_i, ↓dMul_i, ↓dMul_l, ↓dMod_i, ↓dDiv_i, ↓dPow_i, ↓dLt_i, ↓dLe_i, ↓dGt_i, ↓dGe_i, ↓uNeg_i, ↓cMax2_i, ↓cMin2_i, ↓cAbs_i, ↓cInt_i, ↓cInt_b, ↓cLen_l, ↓cLen_q, ↓cLen_t, ↓cList_l, ↓cList_q, ↓cList_t, ↓cListO_l, ↓cListO_t, ↓dIx_l, ↓dIx_q, ↓dIx_t, ↓dIx_o', ↓exS, ↓exL, at_1, at_2, at_3, at_4, ix30, ix31, ix32, ↓dSlL_l, ↓dSlL_q, ↓asQ_l, ↓asL_l, at_0, ↓isi_non_int, ↓isi_non_bool, ↓isi_non_str, ↓isi_non_list, ↓isi_non_tuple, ↓isi_non_dict, ↓isi_bl_int, ↓isi_bl_bool, ↓isi_bl_str, ↓isi_bl_list, ↓isi_bl_tuple, ↓isi_bl_dict, ↓isi_int_int, ↓isi_int_bool, ↓isi_int_str, ↓isi_int_list, ↓isi_int_tuple, ↓isi_int_dict, ↓isi_str_int, ↓isi_str_bool, ↓isi_str_str, ↓isi_str_list, ↓isi_str_tuple, ↓isi_str_dict, ↓isi_lst_int, ↓isi_lst_bool, ↓isi_lst_str, ↓isi_lst_list, ↓isi_lst_tuple, ↓isi_lst_dict, ↓isi_sq_int, ↓isi_sq_bool, ↓isi_sq_str, ↓isi_sq_list, ↓isi_sq_tuple, ↓isi_sq_dict, ↓isi_tup_int, ↓isi_tup_bool, ↓isi_tup_str, ↓isi_tup_list, ↓isi_tup_tuple, ↓isi_tup_dict, ↓isi_dic_int, ↓isi_dic_bool, ↓isi_dic_str, ↓isi_dic_list, ↓isi_dic_tuple, ↓isi_dic_dict, if_true, if_false, Bool.not_true, Bool.not_false, true_and, and_true, reduceCtorEq, Bool.true_eq_false, Bool.false_eq_true, ite_true, ite_false, ↓exAny, ↓isLst_l, Int.toNat_natCast, Int.reduceToNat, dVar_e, sPar_e, sPar3_e, sAug_e])))
local macro_rules | `(tactic| walk_at "dls") => `(tactic| ((try simp only [gstart, gwipe, List.set_set, List.map_cons, List.map_nil, List.length_cons, List.length_nil, rep_0, rep_s, List.cons_append, List.nil_append, List.set_cons_zero, List.set_cons_succ, Nat.reduceAdd, Nat.reduceSub, Nat.zero_add, Nat.add_zero]); (try simp only [*, ↓dv0, ↓dv1, ↓dv2, ↓dv3, ↓dv4, ↓dv5, ↓dv6, ↓dv7, ↓dv8, ↓dv9, ↓dv10, ↓dv11, ↓dv12, ↓dv13, ↓dv14, ↓dv15, ↓dv16, ↓dv17, ↓dv18, ↓dv19, ↓dv20, ↓dv21, ↓dv22, ↓dv23, ↓dv24, ↓dv25, ↓dv26, ↓dv27, ↓dv28, ↓dv29, ↓dv30, ↓dv31, ↓dv32, ↓dv33, ↓dv34, ↓dv35, ↓dv36, ↓dv37, ↓dv38, ↓dv39, ↓nm0, ↓nm1, ↓nm2, ↓nm3, ↓nm4, ↓nm5, ↓nm6, ↓nm7, ↓nm8, ↓nm9, ↓nm10, ↓nm11, ↓nm12, ↓nm13, ↓nm14, ↓nm15, ↓nm16, ↓nm17, ↓nm18, ↓nm19, ↓nm20, ↓nm21, ↓nm22, ↓nm23, ↓nm24, ↓nm25, ↓nm26, ↓nm27, ↓nm28, ↓nm29, ↓nm30, ↓nm31, ↓nm32, ↓nm33, ↓nm34, ↓nm35, ↓nm36, ↓nm37, ↓nm38, ↓nm39, ↓sPar_n, ↓sPar3_n, ↓sAug_n, ↓reduceIte, List.set_set, ↓sNext_e, ↓sSeq_e, ↓sBrk_e, ↓sCnt_e, ↓sDrop_e, ↓sRet_e, ↓sRetN_e, ↓sIf_e, ↓sAsg_e, ↓sRaise_e, ↓nmG_e, ↓tupG_e, ↓gsNil_e, ↓gsCons_e, ↓subG_e, ↓dC_e, ↓dOp_e, ↓dUn_e, ↓dChain_e, ↓bOf_e, ↓bAnd_e, ↓bOr_e, ↓bNot_e, ↓bYes_e, ↓dAnd_e, ↓dOr_e, ↓dNot_e, ↓dIf_e, ↓lNil_e, ↓lCons_e, ↓dLst_e, ↓dDic0_e, ↓dDic1_e, ↓dLenSetG_e, dIsB_b, ↓dLstO_e, ↓dTup_e, ↓dCB_e, ↓dCall_e, ↓dCallK_e, ↓oNone_e, ↓oSome_e, ↓dSl_e, ↓dBM_e, ↓dBM0_e, ↓dFz_e, ↓dFz2_e, ↓d2_e, ↓dLone_e, ↓lStar_e, ↓dCallA_e, ↓dMakeA_e, ↓dMakeV_e, ↓dMethA_e, ↓dCMethA_e, ↓dPropA_e, ↓dFld_e, ↓sFldS_e, ↓dFzI_e, ↓fzID_o, ↓dM1_e, ↓dM0_e, ↓dRev_e, ↓mSplit_s, ↓mUpper_s, ↓exStr, ↓exZ, ↓cStrI_i, ↓cIntS_s, ↓iStrD_e, ↓dEqF_s, ↓dNeF_s, ↓dEqF_i, ↓dNeF_i, ↓dSign_s, ↓sRaiseI_e, ↓dXFld_e, ↓mPop_e, ↓dAddO_l, ↓dAddO_o, ↓dMk0_e, ↓sKeep_e, ↓sTryH_e, ↓dCVal_e, ↓dConI_e, ↓cLen_s, ↓dIx_s, ↓dSlS_s, ↓dAdd_s, ↓cTup_l, ↓pkP_e, ↓pkS_e, ↓lstG_e, ↓asI_i, ↓iSeq_e, ↓iTupD_e, ↓iRg1_e, ↓iRg2_e, ↓iZipD_e, iZrD_e, ↓iEnumD_e, ↓sFor_e, ↓dLc_e, ↓finF_e, ↓finO_e, ↓fzD_l, ↓fzD_i, ↓fzD_o, ↓fzD2_o, ↓dSetO_e, ↓mAppend_e, ↓mClear_e, ↓mReverse_e, List.map_cons, List.map_nil, List.length_cons, List.length_nil, rep_0, rep_s, List.cons_append, List.nil_append, List.getElem?_cons_zero, List.getElem?_cons_succ, List.set_cons_zero, List.set_cons_succ, Nat.reduceAdd, Nat.reduceSub, Nat.zero_add, Nat.add_zero, ↓exSS, ↓exB, ↓exI, ↓ex1, ↓ex2, ↓ex3, ↓exI1, ↓exI2, ↓exT, ↓exC, ↓exAs, ↓dAdd_i, ↓dAddI_i, ↓dSubI_i, ↓dLRg_e, ↓dIsiT_e, ↓dLenSet_e, ↓bChain3_e, ↓dLRg2_e, ↓iRg3_e, ↓dLc2_e, ↓dSlT_t, dAddT_t, ↓dNewK_e, ↓dDis1_e, ↓sDkp_e, ↓dDGet_e, ↓dDGet2_e, ↓dLVals_e, ↓kD_ex_i, ↓dSS_e, ↓dST_e, ↓dSI_e, ↓lsG_e, ↓dMulI_i, ↓dNew_e, ↓sDct_e, ↓dMulO_l, ↓dLRgO_e, ↓dAdd_l, ↓dSub_i, ↓dMul_i, ↓dMul_l, ↓dMod_i, ↓dDiv_i, ↓dPow_i, ↓dLt_i, ↓dLe_i, ↓dGt_i, ↓dGe_i, ↓uNeg_i, ↓cMax2_i, ↓cMin2_i, ↓cAbs_i, ↓cInt_i, ↓cInt_b, ↓cLen_l, ↓cLen_q, ↓cLen_t, ↓cList_l, ↓cList_q, ↓cList_t, ↓cListO_l, ↓cListO_t, ↓dIx_l, ↓dIx_q, ↓dIx_t, ↓dIx_o', ↓exS, ↓exL, at_1, at_2, at_3, at_4, ix30, ix31, ix32, ↓dSlL_l, ↓dSlL_q, ↓asQ_l, ↓asL_l, at_0, ↓isi_non_int, ↓isi_non_bool, ↓isi_non_str, ↓isi_non_list, ↓isi_non_tuple, ↓isi_non_dict, ↓isi_bl_int, ↓isi_bl_bool, ↓isi_bl_str, ↓isi_bl_list, ↓isi_bl_tuple, ↓isi_bl_dict, ↓isi_int_int, ↓isi_int_bool, ↓isi_int_str, ↓isi_int_list, ↓isi_int_tuple, ↓isi_int_dict, ↓isi_str_int, ↓isi_str_bool, ↓isi_str_str, ↓isi_str_list, ↓isi_str_tuple, ↓isi_str_dict, ↓isi_lst_int, ↓isi_lst_bool, ↓isi_lst_str, ↓isi_lst_list, ↓isi_lst_tuple, ↓isi_lst_dict, ↓isi_sq_int, ↓isi_sq_bool, ↓isi_sq_str, ↓isi_sq_list, ↓isi_sq_tuple, ↓isi_sq_dict, ↓isi_tup_int, ↓isi_tup_bool, ↓isi_tup_str, ↓isi_tup_list, ↓isi_tup_tuple, ↓isi_tup_dict, ↓isi_dic_int, ↓isi_dic_bool, ↓isi_dic_str, ↓isi_dic_list, ↓isi_dic_tuple, ↓isi_dic_dict, if_true, if_false, Bool.not_true, Bool.not_false, true_and, and_true, reduceCtorEq, Bool.true_eq_false, Bool.false_eq_true, ite_true, ite_false, ↓exAny, ↓isLst_l, Int.toNat_natCast, Int.reduceToNat, dVar_e, sPar_e, sPar3_e, sAug_e])))
--MI
theorem dw_get {lo : Int} {n k : Nat} (h : k < n) : (dwD lo n)[k]'(by rw [dwD_len]; exact h) = .int (lo - (k : Int)) := by
  unfold dwD
  rw [List.getElem_map, List.getElem_range]
theorem Frm.two {A A' : List Nat} {S S1 S2 : Sto} (a : Frm A S S1) (b : Frm A' S1 S2) (ha : ∀ x ∈ A', x ∈ A ∨ S.length ≤ x) : Frm A S S2 := ⟨Nat.le_trans a.len b.len, fun i c hi e => b.get i c (fun z => by
  rcases ha i z with z | z
  · exact hi z
  · have := get_lt e
    omega) (a.get i c hi e)⟩
theorem am_of {h st p e m m' L : Nat} (hm : m' = m ∨ L ≤ m') : ∀ x ∈ [h, st, p, e, m'], x ∈ [h, st, p, e, m] ∨ L ≤ x := by
  intro x hx
  simp only [List.mem_cons, List.not_mem_nil, or_false] at hx ⊢
  omega
theorem p__law_marked (C : Addr) : Rets (sp__law_marked C) (T__law_marked C) N__law_marked := by
  rintro _ S Φ Ψ ⟨h, st, p, n, d, t, es, ms, e, m, k, rfl, lv, hn, hl, hm, q⟩
  unfold T__law_marked
  have ok := lv.pg.ok
  walk_at "dl"
  refine ⟨by omega, by omega, ?_⟩
  refine for_r0 (n := k) (fun i Γ S' => ∃ (o : Option D) (m' : Nat) (t' : List (List Int)) (es' : List (List (List Int))) (ms' : List Nat), Γ = [some (.own h), some (.own p), some (.own st), some (.int k), o] ∧ Lv C S' h st p (n + 1010 * i) d t' es' ms' e m' (stD t' es' ms') ∧ es'.length ≤ es.length + i ∧ ms'.length ≤ ms.length + i ∧ Frm [h, st, p, e, m] S S' ∧ (m' = m ∨ S.length ≤ m')) ⟨_, m, t, es, ms, rfl, lv, Nat.le_refl _, Nat.le_refl _, Frm.refl, .inl rfl⟩ (fun i Γ' S' hi hp => ?_) fun Γ' S' hp => ?_
  · obtain ⟨o, m', t1, es1, ms1, rfl, l0, h1, h2, fr, hm'⟩ := hp
    walk_at "dl"
    refine joinS (fun Γ S2 => ∃ (o : Option D) (m' : Nat) (t' : List (List Int)) (es' : List (List (List Int))) (ms' : List Nat), Γ = [some (.own h), some (.own p), some (.own st), some (.int k), o] ∧ Lv C S2 h st p (n + 1010 * (i + 1)) d t' es' ms' e m' (stD t' es' ms') ∧ es'.length ≤ es.length + (i + 1) ∧ ms'.length ≤ ms.length + (i + 1) ∧ Frm [h, st, p, e, m] S S2 ∧ (m' = m ∨ S.length ≤ m')) (fun Γ S2 hp => hp) (fun N hN => ?_)
    walk_at "dl"
    refine roll_at l0.fd (by omega) fun S1 w f1 _ hw0 hw1 => ?_
    have l1 := l0.fs f1
    have fr1 := fr.fs f1 (show h ∈ [h, st, p, e, m] by simp)
    walk_at "dl"
    by_cases c0 : w = 0
    · rw [if_pos (by rw [beq_iff_eq]; exact c0)]
      refine ⟨_, l1.stt, .lst (marksD ms1), rfl, _, l1.stt, .lst (es1.map tabD), rfl, ?_⟩
      rw [cLen_l, List.length_map]
      have lm : (marksD ms1).length = ms1.length := by simp [marksD]
      walk_at "dl"
      refine ⟨small (by decide), small (by rw [lm]; omega), _, l1.stt, 2, rfl, ?_⟩
      have em : marksD ms1 ++ [D.int (es1.length : Int)] = marksD (ms1 ++ [es1.length]) := by unfold marksD; rw [List.map_append]; rfl
      have l2 := l1.st_ [tabD t1, .lst (es1.map tabD), .lst (marksD ms1 ++ [.int es1.length])]
      have fr2 := fr1.set (.lst [tabD t1, .lst (es1.map tabD), .lst (marksD ms1 ++ [.int es1.length])]) (.inl (show st ∈ [h, st, p, e, m] by simp))
      refine ⟨_, l2.pg.asi, rfl, p, e, m', d, t1, es1, ms1, rfl, l2.pg, by omega, fun S9 m9 pg kq hm9 => ?_⟩
      have l3 := l2.to pg kq hm9
      have fr3 := fr2.kq2 kq (by simp) (by simp) (hm'.imp (fun z => by simp [z]) id)
      dsimp only
      refine ⟨_, l3.stt, .lst (marksD ms1 ++ [.int es1.length]), rfl, ?_⟩
      rw [cLen_l, List.length_append, lm]
      walk_at "dl"
      rw [show ((!((ms1.length : Int) == ((ms1.length + 1 : Nat) : Int) - 1)) = false) by rw [show (((ms1.length + 1 : Nat) : Int) - 1) = (ms1.length : Int) by omega]; simp]
      rw [if_neg Bool.false_ne_true]
      rw [em] at l3
      have hlen := fr2.len
      rw [List.length_set] at hm9 hlen
      exact hN _ _ ⟨_, m9, t1, es1, _, rfl, l3.mono (by omega), by omega, by rw [List.length_append]; show ms1.length + 1 ≤ _; omega, fr3, by omega⟩
    · rw [if_neg (by rw [beq_iff_eq]; exact c0)]
      refine ⟨h, st, p, n + 1010 * i + 1, d, t1, es1, ms1, e, m', 9, rfl, l1, by omega, by omega, by decide, by decide, fun S2 m2 t2 l2 fr2 hm2 => ⟨true, rfl, ?_⟩⟩
      rw [if_neg (by decide)]
      have hlen := fr1.len
      exact hN _ _ ⟨_, m2, t2, _, ms1, rfl, l2.mono (by omega), by rw [List.length_append]; show es1.length + 1 ≤ _; omega, by omega, fr1.two fr2 (am_of hm'), by omega⟩
  · obtain ⟨o, m', t1, es1, ms1, rfl, l0, h1, h2, fr, hm'⟩ := hp
    walk_at "dl"
    exact ⟨st, p, d, t1, es1, ms1, e, m', rfl, l0.pg, l0.stt, fun Z => ret_now (q _ m' t1 es1 ms1 (l0.app Z) h1 h2 (fr.app Z) hm')⟩
theorem take_get {t : List (List Int)} {es : List (List (List Int))} {q j : Nat} (hq : q ≤ es.length) (hj : j ≤ q) : (es.take q ++ [(es ++ [t]).getD q []]).getD j [] = (es ++ [t]).getD j [] := by
  have lt : (es.take q).length = q := by rw [List.length_take]; omega
  rcases Nat.lt_or_ge j q with c | c
  · rw [List.getD_eq_getElem?_getD, List.getElem?_append_left (by omega), List.getElem?_take_of_lt c, List.getD_eq_getElem?_getD, List.getElem?_append_left (by omega)]
  · have : j = q := by omega
    subst this
    rw [List.getD_eq_getElem?_getD, List.getElem?_append_right (by omega), lt, Nat.sub_self]
    rfl
theorem table_repr {C : Addr} {S : Sto} {p e m : Nat} {d : D} {t : List (List Int)} {es : List (List (List Int))} {ms : List Nat} {F : KD} {Ψ : KX} (pg : PageAt C S p e m d t es ms) (q : ∀ Z, F (S ++ Z) (.str (tabP t).shown)) : sp_Page_table C [.own p] S (fun S1 x => cRepr [x] S1 F) Ψ := by
  have ok := pg.ok
  have fit := ok.fit
  refine ⟨p, e, m, d, t, rfl, pg.obj, by have := ok.hi; omega, ?_⟩
  unfold newTab
  have eB := (tabH_new S t).out
  have rd : PyR (S ++ cellsD t ++ [.lst (ownsD S.length t.length)]) (.own (S.length + t.length)) (tabP t) := by
    have := read_new (S := S) (X := cellsD t) (t := t) (T := []) rfl
    rw [List.append_nil] at this
    exact this
  refine cRepr_at (a := "list") (tyOf_L (asL_at' eB)) (.inl rfl) rd fit ?_
  rw [List.append_assoc]
  exact q _
theorem p__law_emptied (C : Addr) : Rets (sp__law_emptied C) (T__law_emptied C) N__law_emptied := by
  rintro _ S Φ Ψ ⟨st, p, d, t, es, ms, e, m, rfl, pg, est, hst, q⟩
  unfold T__law_emptied
  have ok := pg.ok
  have el := pg.el
  have ml := pg.ml
  have lm : (marksD ms).length = ms.length := by simp [marksD]
  refine seqJ (fun Γ S' => ∃ (o2 o3 : Option D) (m' r : Nat) (ms' : List Nat), Γ = [some (.own p), some (.own st), o2, o3] ∧ r ≤ es.length ∧ PageAt C S' p e m' d ((es ++ [t]).getD r []) (es.take r) ms' ∧ S'[st]? = some (.lst (stD t es ms)) ∧ Frm [p, e, m] S S' ∧ (m' = m ∨ S.length ≤ m')) (fun N hN => ?_) fun Γ S' hp => ?_
  · walk_at "dl"
    refine ⟨_, est, .lst (marksD ms), rfl, ?_⟩
    rw [cLen_l, lm]
    walk_at "dl"
    refine ⟨_, _, rfl, by omega, ?_⟩
    rw [show ((ms.length : Int) - 1 - -1).toNat = ms.length by omega]
    refine for_l (ds := dwD ((ms.length : Int) - 1) ms.length) (fun i Γ S' => ∃ (o2 o3 : Option D) (m' r u : Nat), Γ = [some (.own p), some (.own st), o2, o3] ∧ r ≤ es.length ∧ (∀ j (h : j < ms.length), j < ms.length - i → ms[j] ≤ r) ∧ ms.length - i ≤ u ∧ PageAt C S' p e m' d ((es ++ [t]).getD r []) (es.take r) (ms.take u) ∧ S'[st]? = some (.lst (stD t es ms)) ∧ Frm [p, e, m] S S' ∧ (m' = m ∨ S.length ≤ m')) ⟨none, none, m, es.length, ms.length, rfl, Nat.le_refl _, fun j h _ => pg.mle _ (List.getElem_mem h), Nat.sub_le _ _, by rw [List.take_length, List.take_length, show (es ++ [t]).getD es.length [] = t by simp]; exact pg, est, Frm.refl, .inl rfl⟩ (fun i Γ' S1 hi hp => ?_) fun Γ' S1 hp => ?_
    · obtain ⟨o2, o3, m', r, u, rfl, hr, hj, hu, pg', est', fr, hm'⟩ := hp
      rw [dwD_len] at hi
      rw [dw_get hi, show ((ms.length : Int) - 1 - (i : Int)) = ((ms.length - 1 - i : Nat) : Int) by omega]
      obtain ⟨k, hk, ek, ek2⟩ : ∃ k, k < ms.length ∧ ms.length - 1 - i = k ∧ ms.length - i = k + 1 := ⟨_, by omega, rfl, by omega⟩
      rw [ek]
      have hkr := hj k hk (by omega)
      have kl : ms[k] ≤ es.length := Nat.le_trans hkr hr
      have hku : k < (ms.take u).length := by rw [List.length_take]; omega
      walk_at "dl"
      refine ⟨_, pg'.asi, rfl, p, e, m', d, _, _, _, k, hku, rfl, pg', fun S9 m9 pg9 kq hm9 => ?_⟩
      rw [List.getElem_take, take_get hr hkr, List.take_take, Nat.min_eq_left hkr, List.take_take] at pg9
      have hst9 : S9[st]? = some (.lst (stD t es ms)) := kq.get _ _ hst.1 hst.2.1 (by have := get_lt est; omega) est'
      have fr9 := fr.kq2 kq (by simp) (by simp) (hm'.imp (fun z => by simp [z]) id)
      have hlen := fr.len
      have ati : atI (marksD ms) (k : Int) = some (.int ms[k]) := by rw [at_nat]; unfold marksD; rw [List.getElem?_map, List.getElem?_eq_getElem hk]; rfl
      have em : es.map tabD ++ [tabD t] = (es ++ [t]).map tabD := by rw [List.map_append]; rfl
      have kl2 : ms[k] < (es ++ [t]).length := by rw [List.length_append]; show ms[k] < es.length + 1; omega
      have okT := pg9.ok
      have fit := okT.fit
      have ltk : (es.take ms[k]).length = ms[k] := by rw [List.length_take]; omega
      refine ⟨_, hst9, .lst (es.map tabD), rfl, _, hst9, tabD t, rfl, small (by decide), ?_⟩
      walk_at "dl"
      refine ⟨small (by rw [List.length_map]; omega), _, hst9, .lst (marksD ms), rfl, ?_⟩
      rw [dIx_l]
      refine ⟨_, ati, ?_⟩
      rw [em, dIx_l]
      refine ⟨tabD ((es ++ [t]).getD ms[k] []), ?_, _, pg9.asi, table_repr pg9 fun Z => ?_⟩
      · rw [at_nat, List.getElem?_map, List.getD_eq_getElem?_getD, List.getElem?_eq_getElem kl2]
        rfl
      refine cRepr_at (a := "list") rfl (.inl rfl) (pyr_tab _) fit (nes_at fit fit ⟨_, rfl, ?_⟩)
      rw [if_neg (by simp)]
      refine ⟨_, _, rfl, asI_own (get_app pg9.obj), ⟨rfl, p, e, m9, d, _, _, _, rfl, pg9.app, (es.take ms[k]).length, rfl, by omega, by omega, ?_⟩⟩
      refine ⟨_, get_app hst9, .lst (marksD ms), rfl, ?_⟩
      rw [dIx_l]
      refine ⟨_, ati, ?_⟩
      rw [ltk]
      walk_at "dl"
      rw [if_neg (by simp)]
      exact ⟨_, _, m9, ms[k], _, rfl, kl, fun j hj2 hlt => List.pairwise_iff_getElem.mp pg.mo j k hj2 hk (by omega), by omega, pg9.app, get_app hst9, fr9.app Z, by omega⟩
    · obtain ⟨o2, o3, m', r, u, rfl, hr, hj, hu, pg', est', fr, hm'⟩ := hp
      exact hN _ _ ⟨o2, o3, m', r, _, rfl, hr, pg', est', fr, hm'⟩
  · obtain ⟨o2, o3, m', r, ms', rfl, hr, pg', est', fr, hm'⟩ := hp
    walk_at "dl"
    rw [sWhile_e]
    refine ⟨fun k Γ S1 => k ≤ es.length ∧ Γ = [some (.own p), some (.own st), o2, o3] ∧ ∃ (m' : Nat) (ms' : List Nat), PageAt C S1 p e m' d ((es ++ [t]).getD k []) (es.take k) ms' ∧ S1[st]? = some (.lst (stD t es ms)) ∧ Frm [p, e, m] S S1 ∧ (m' = m ∨ S.length ≤ m'), ⟨r, hr, rfl, m', ms', pg', est', fr, hm'⟩, ?_⟩
    rintro k Γ' S1 ⟨hk, rfl, m1, ms1, pg1, est1, fr1, hm1⟩
    have ltk : (es.take k).length = k := by rw [List.length_take]; omega
    walk_at "dl"
    refine ⟨_, _, rfl, pg1.asi, ⟨rfl, p, e, m1, d, _, _, _, rfl, pg1, (es.take k).length, rfl, by omega, by omega, ?_⟩⟩
    rw [ltk]
    walk_at "dl"
    cases k with
    | zero =>
      rw [if_neg (by decide)]
      have okT := pg1.ok
      have fit := okT.fit
      have em : es.map tabD ++ [tabD t] = (es ++ [t]).map tabD := by rw [List.map_append]; rfl
      refine ⟨_, pg1.asi, table_repr pg1 fun Z => ?_⟩
      refine ⟨_, get_app est1, .lst (es.map tabD), rfl, _, get_app est1, tabD t, rfl, small (by decide), ?_⟩
      walk_at "dl"
      refine ⟨small (by rw [List.length_map]; omega), ?_⟩
      rw [em]
      refine ⟨tabD ((es ++ [t]).getD 0 []), ?_, ?_⟩
      · show atI _ ((0 : Nat) : Int) = _
        rw [at_nat, List.getElem?_map, List.getD_eq_getElem?_getD, List.getElem?_eq_getElem (by rw [List.length_append]; exact Nat.succ_pos _)]
        rfl
      exact cRepr_at (a := "list") rfl (.inl rfl) (pyr_tab _) fit (eqs_at fit fit (ret_now (by rw [beq_self_eq_true]; exact q _ (fr1.app Z))))
    | succ k =>
      rw [if_pos (by rw [decide_eq_true_eq]; omega)]
      have hk2 : k < es.length := by omega
      have e1 : es.take (k + 1) = es.take k ++ [es[k]] := by
        rw [List.take_add_one, List.getElem?_eq_getElem hk2]
        rfl
      have e2 : (es ++ [t]).getD k [] = es[k] := by
        rw [List.getD_eq_getElem?_getD, List.getElem?_append_left hk2, List.getElem?_eq_getElem hk2]
        rfl
      rw [e1] at pg1
      have hlen := fr1.len
      refine ⟨_, pg1.asi, rfl, p, e, m1, d, _, es[k], es.take k, ms1, rfl, pg1, fun S9 m9 pg9 kq hm9 => ⟨k, by omega, by omega, m9, _, by rw [e2]; exact pg9, kq.get _ _ hst.1 hst.2.1 (by have := get_lt est; omega) est1, fr1.kq2 kq (by simp) (by simp) (hm1.imp (fun z => by simp [z]) id), by omega⟩⟩
end DL
namespace DL
open PySem PySem.Spec PyProof.Rows L2
local macro_rules | `(tactic| walk_at "dl") => `(tactic| ((try simp only [gstart, gwipe, List.set_set, List.map_cons, List.map_nil, List.length_cons, List.length_nil, rep_0, rep_s, List.cons_append, List.nil_append, List.set_cons_zero, List.set_cons_succ, Nat.reduceAdd, Nat.reduceSub, Nat.zero_add, Nat.add_zero]); (try simp only [↓dv0, ↓dv1, ↓dv2, ↓dv3, ↓dv4, ↓dv5, ↓dv6, ↓dv7, ↓dv8, ↓dv9, ↓dv10, ↓dv11, ↓dv12, ↓dv13, ↓dv14, ↓dv15, ↓dv16, ↓dv17, ↓dv18, ↓dv19, ↓dv20, ↓dv21, ↓dv22, ↓dv23, ↓dv24, ↓dv25, ↓dv26, ↓dv27, ↓dv28, ↓dv29, ↓dv30, ↓dv31, ↓dv32, ↓dv33, ↓dv34, ↓dv35, ↓dv36, ↓dv37, ↓dv38, ↓dv39, ↓nm0, ↓nm1, ↓nm2, ↓nm3, ↓nm4, ↓nm5, ↓nm6, ↓nm7, ↓nm8, ↓nm9, ↓nm10, ↓nm11, ↓nm12, ↓nm13, ↓nm14, ↓nm15, ↓nm16, ↓nm17, ↓nm18, ↓nm19, ↓nm20, ↓nm21, ↓nm22, ↓nm23, ↓nm24, ↓nm25, ↓nm26, ↓nm27, ↓nm28, ↓nm29, ↓nm30, ↓nm31, ↓nm32, ↓nm33, ↓nm34, ↓nm35, ↓nm36, ↓nm37, ↓nm38, ↓nm39, ↓sPar_n, ↓sPar3_n, ↓sAug_n, ↓reduceIte, List.set_set, ↓sNext_e, ↓sSeq_e, ↓sBrk_e, ↓sCnt_e, ↓sDrop_e, ↓sRet_e, ↓sRetN_e, ↓sIf_e, ↓sAsg_e, ↓sRaise_e, ↓nmG_e, ↓tupG_e, ↓gsNil_e, ↓gsCons_e, ↓subG_e, ↓dC_e, ↓dOp_e, ↓dUn_e, ↓dChain_e, ↓bOf_e, ↓bAnd_e, ↓bOr_e, ↓bNot_e, ↓bYes_e, ↓dAnd_e, ↓dOr_e, ↓dNot_e, ↓dIf_e, ↓lNil_e, ↓lCons_e, ↓dLst_e, ↓dDic0_e, ↓dDic1_e, ↓dLenSetG_e, dIsB_b, ↓dLstO_e, ↓dTup_e, ↓dCB_e, ↓dCall_e, ↓dCallK_e, ↓oNone_e, ↓oSome_e, ↓dSl_e, ↓dBM_e, ↓dBM0_e, ↓dFz_e, ↓dFz2_e, ↓d2_e, ↓dLone_e, ↓lStar_e, ↓dCallA_e, ↓dMakeA_e, ↓dMakeV_e, ↓dMethA_e, ↓dCMethA_e, ↓dPropA_e, ↓dFld_e, ↓sFldS_e, ↓dFzI_e, ↓fzID_o, ↓dM1_e, ↓dM0_e, ↓dRev_e, ↓mSplit_s, ↓mUpper_s, ↓exStr, ↓exZ, ↓cStrI_i, ↓cIntS_s, ↓iStrD_e, ↓dEqF_s, ↓dNeF_s, ↓dEqF_i, ↓dNeF_i, ↓dSign_s, ↓sRaiseI_e, ↓dXFld_e, ↓mPop_e, ↓dAddO_l, ↓dAddO_o, ↓dMk0_e, ↓sKeep_e, ↓sTryH_e, ↓dCVal_e, ↓dConI_e, ↓cLen_s, ↓dIx_s, ↓dSlS_s, ↓dAdd_s, ↓cTup_l, ↓pkP_e, ↓pkS_e, ↓lstG_e, ↓asI_i, ↓iSeq_e, ↓iTupD_e, ↓iRg1_e, ↓iRg2_e, ↓iZipD_e, iZrD_e, ↓iEnumD_e, ↓sFor_e, ↓dLc_e, ↓finF_e, ↓finO_e, ↓fzD_l, ↓fzD_i, ↓fzD_o, ↓fzD2_o, ↓dSetO_e, ↓mAppend_e, ↓mClear_e, ↓mReverse_e, List.map_cons, List.map_nil, List.length_cons, List.length_nil, rep_0, rep_s, List.cons_append, List.nil_append, List.getElem?_cons_zero, List.getElem?_cons_succ, List.set_cons_zero, List.set_cons_succ, Nat.reduceAdd, Nat.reduceSub, Nat.zero_add, Nat.add_zero, ↓exSS, ↓exB, ↓exI, ↓ex1, ↓ex2, ↓ex3, ↓exI1, ↓exI2, ↓exT, ↓exC, ↓exAs, ↓dAdd_i, ↓dAddI_i, ↓dSubI_i, ↓dLRg_e, ↓dIsiT_e, ↓dLenSet_e, ↓bChain3_e, ↓dLRg2_e, ↓iRg3_e, ↓dLc2_e, ↓dSlT_t, dAddT_t, ↓dNewK_e, ↓dDis1_e, ↓sDkp_e, ↓dDGet_e, ↓dDGet2_e, ↓dLVals_e, ↓kD_ex_i, ↓dSS_e, ↓dST_e, ↓dSI_e, ↓lsG_e, ↓dMulI_i, ↓dNew_e, ↓sDct_e, ↓dMulO_l, ↓dLRgO_e, ↓dAdd_l, ↓dSub_i, ↓dMul_i, ↓dMul_l, ↓dMod_i, ↓dDiv_i, ↓dPow_i, ↓dLt_i, ↓dLe_i, ↓dGt_i, ↓dGe_i, ↓uNeg_i, ↓cMax2_i, ↓cMin2_i, ↓cAbs_i, ↓cInt_i, ↓cInt_b, ↓cLen_l, ↓cLen_q, ↓cLen_t, ↓cList_l, ↓cList_q, ↓cList_t, ↓cListO_l, ↓cListO_t, ↓dIx_l, ↓dIx_q, ↓dIx_t, ↓dIx_o', ↓exS, ↓exL, at_1, at_2, at_3, at_4, ix30, ix31, ix32, ↓dSlL_l, ↓dSlL_q, ↓asQ_l, ↓asL_l, at_0, ↓isi_non_int, ↓isi_non_bool, ↓isi_non_str, ↓isi_non_list, ↓isi_non_tuple, ↓isi_non_dict, ↓isi_bl_int, ↓isi_bl_bool, ↓isi_bl_str, ↓isi_bl_list, ↓isi_bl_tuple, ↓isi_bl_dict, ↓isi_int_int, ↓isi_int_bool, ↓isi_int_str, ↓isi_int_list, ↓isi_int_tuple, ↓isi_int_dict, ↓isi_str_int, ↓isi_str_bool, ↓isi_str_str, ↓isi_str_list, ↓isi_str_tuple, ↓isi_str_dict, ↓isi_lst_int, ↓isi_lst_bool, ↓isi_lst_str, ↓isi_lst_list, ↓isi_lst_tuple, ↓isi_lst_dict, ↓isi_sq_int, ↓isi_sq_bool, ↓isi_sq_str, ↓isi_sq_list, ↓isi_sq_tuple, ↓isi_sq_dict, ↓isi_tup_int, ↓isi_tup_bool, ↓isi_tup_str, ↓isi_tup_list, ↓isi_tup_tuple, ↓isi_tup_dict, ↓isi_dic_int, ↓isi_dic_bool, ↓isi_dic_str, ↓isi_dic_list, ↓isi_dic_tuple, ↓isi_dic_dict, if_true, if_false, Bool.not_true, Bool.not_false, true_and, and_true, reduceCtorEq, Bool.true_eq_false, Bool.false_eq_true, ite_true, ite_false, ↓exAny, ↓isLst_l, Int.toNat_natCast, Int.reduceToNat, dVar_e, sPar_e, sPar3_e, sAug_e])))
local macro_rules | `(tactic| walk_at "dls") => `(tactic| ((try simp only [gstart, gwipe, List.set_set, List.map_cons, List.map_nil, List.length_cons, List.length_nil, rep_0, rep_s, List.cons_append, List.nil_append, List.set_cons_zero, List.set_cons_succ, Nat.reduceAdd, Nat.reduceSub, Nat.zero_add, Nat.add_zero]); (try simp only [*, ↓dv0, ↓dv1, ↓dv2, ↓dv3, ↓dv4, ↓dv5, ↓dv6, ↓dv7, ↓dv8, ↓dv9, ↓dv10, ↓dv11, ↓dv12, ↓dv13, ↓dv14, ↓dv15, ↓dv16, ↓dv17, ↓dv18, ↓dv19, ↓dv20, ↓dv21, ↓dv22, ↓dv23, ↓dv24, ↓dv25, ↓dv26, ↓dv27, ↓dv28, ↓dv29, ↓dv30, ↓dv31, ↓dv32, ↓dv33, ↓dv34, ↓dv35, ↓dv36, ↓dv37, ↓dv38, ↓dv39, ↓nm0, ↓nm1, ↓nm2, ↓nm3, ↓nm4, ↓nm5, ↓nm6, ↓nm7, ↓nm8, ↓nm9, ↓nm10, ↓nm11, ↓nm12, ↓nm13, ↓nm14, ↓nm15, ↓nm16, ↓nm17, ↓nm18, ↓nm19, ↓nm20, ↓nm21, ↓nm22, ↓nm23, ↓nm24, ↓nm25, ↓nm26, ↓nm27, ↓nm28, ↓nm29, ↓nm30, ↓nm31, ↓nm32, ↓nm33, ↓nm34, ↓nm35, ↓nm36, ↓nm37, ↓nm38, ↓nm39, ↓sPar_n, ↓sPar3_n, ↓sAug_n, ↓reduceIte, List.set_set, ↓sNext_e, ↓sSeq_e, ↓sBrk_e, ↓sCnt_e, ↓sDrop_e, ↓sRet_e, ↓sRetN_e, ↓sIf_e, ↓sAsg_e, ↓sRaise_e, ↓nmG_e, ↓tupG_e, ↓gsNil_e, ↓gsCons_e, ↓subG_e, ↓dC_e, ↓dOp_e, ↓dUn_e, ↓dChain_e, ↓bOf_e, ↓bAnd_e, ↓bOr_e, ↓bNot_e, ↓bYes_e, ↓dAnd_e, ↓dOr_e, ↓dNot_e, ↓dIf_e, ↓lNil_e, ↓lCons_e, ↓dLst_e, ↓dDic0_e, ↓dDic1_e, ↓dLenSetG_e, dIsB_b, ↓dLstO_e, ↓dTup_e, ↓dCB_e, ↓dCall_e, ↓dCallK_e, ↓oNone_e, ↓oSome_e, ↓dSl_e, ↓dBM_e, ↓dBM0_e, ↓dFz_e, ↓dFz2_e, ↓d2_e, ↓dLone_e, ↓lStar_e, ↓dCallA_e, ↓dMakeA_e, ↓dMakeV_e, ↓dMethA_e, ↓dCMethA_e, ↓dPropA_e, ↓dFld_e, ↓sFldS_e, ↓dFzI_e, ↓fzID_o, ↓dM1_e, ↓dM0_e, ↓dRev_e, ↓mSplit_s, ↓mUpper_s, ↓exStr, ↓exZ, ↓cStrI_i, ↓cIntS_s, ↓iStrD_e, ↓dEqF_s, ↓dNeF_s, ↓dEqF_i, ↓dNeF_i, ↓dSign_s, ↓sRaiseI_e, ↓dXFld_e, ↓mPop_e, ↓dAddO_l, ↓dAddO_o, ↓dMk0_e, ↓sKeep_e, ↓sTryH_e, ↓dCVal_e, ↓dConI_e, ↓cLen_s, ↓dIx_s, ↓dSlS_s, ↓dAdd_s, ↓cTup_l, ↓pkP_e, ↓pkS_e, ↓lstG_e, ↓asI_i, ↓iSeq_e, ↓iTupD_e, ↓iRg1_e, ↓iRg2_e, ↓iZipD_e, iZrD_e, ↓iEnumD_e, ↓sFor_e, ↓dLc_e, ↓finF_e, ↓finO_e, ↓fzD_l, ↓fzD_i, ↓fzD_o, ↓fzD2_o, ↓dSetO_e, ↓mAppend_e, ↓mClear_e, ↓mReverse_e, List.map_cons, List.map_nil, List.length_cons, List.length_nil, rep_0, rep_s, List.cons_append, List.nil_append, List.getElem?_cons_zero, List.getElem?_cons_succ, List.set_cons_zero, List.set_cons_succ, Nat.reduceAdd, Nat.reduceSub, Nat.zero_add, Nat.add_zero, ↓exSS, ↓exB, ↓exI, ↓ex1, ↓ex2, ↓ex3, ↓exI1, ↓exI2, ↓exT, ↓exC, ↓exAs, ↓dAdd_i, ↓dAddI_i, ↓dSubI_i, ↓dLRg_e, ↓dIsiT_e, ↓dLenSet_e, ↓bChain3_e, ↓dLRg2_e, ↓iRg3_e, ↓dLc2_e, ↓dSlT_t, dAddT_t, ↓dNewK_e, ↓dDis1_e, ↓sDkp_e, ↓dDGet_e, ↓dDGet2_e, ↓dLVals_e, ↓kD_ex_i, ↓dSS_e, ↓dST_e, ↓dSI_e, ↓lsG_e, ↓dMulI_i, ↓dNew_e, ↓sDct_e, ↓dMulO_l, ↓dLRgO_e, ↓dAdd_l, ↓dSub_i, ↓dMul_i, ↓dMul_l, ↓dMod_i, ↓dDiv_i, ↓dPow_i, ↓dLt_i, ↓dLe_i, ↓dGt_i, ↓dGe_i, ↓uNeg_i, ↓cMax2_i, ↓cMin2_i, ↓cAbs_i, ↓cInt_i, ↓cInt_b, ↓cLen_l, ↓cLen_q, ↓cLen_t, ↓cList_l, ↓cList_q, ↓cList_t, ↓cListO_l, ↓cListO_t, ↓dIx_l, ↓dIx_q, ↓dIx_t, ↓dIx_o', ↓exS, ↓exL, at_1, at_2, at_3, at_4, ix30, ix31, ix32, ↓dSlL_l, ↓dSlL_q, ↓asQ_l, ↓asL_l, at_0, ↓isi_non_int, ↓isi_non_bool, ↓isi_non_str, ↓isi_non_list, ↓isi_non_tuple, ↓isi_non_dict, ↓isi_bl_int, ↓isi_bl_bool, ↓isi_bl_str, ↓isi_bl_list, ↓isi_bl_tuple, ↓isi_bl_dict, ↓isi_int_int, ↓isi_int_bool, ↓isi_int_str, ↓isi_int_list, ↓isi_int_tuple, ↓isi_int_dict, ↓isi_str_int, ↓isi_str_bool, ↓isi_str_str, ↓isi_str_list, ↓isi_str_tuple, ↓isi_str_dict, ↓isi_lst_int, ↓isi_lst_bool, ↓isi_lst_str, ↓isi_lst_list, ↓isi_lst_tuple, ↓isi_lst_dict, ↓isi_sq_int, ↓isi_sq_bool, ↓isi_sq_str, ↓isi_sq_list, ↓isi_sq_tuple, ↓isi_sq_dict, ↓isi_tup_int, ↓isi_tup_bool, ↓isi_tup_str, ↓isi_tup_list, ↓isi_tup_tuple, ↓isi_tup_dict, ↓isi_dic_int, ↓isi_dic_bool, ↓isi_dic_str, ↓isi_dic_list, ↓isi_dic_tuple, ↓isi_dic_dict, if_true, if_false, Bool.not_true, Bool.not_false, true_and, and_true, reduceCtorEq, Bool.true_eq_false, Bool.false_eq_true, ite_true, ite_false, ↓exAny, ↓isLst_l, Int.toNat_natCast, Int.reduceToNat, dVar_e, sPar_e, sPar3_e, sAug_e])))
--MI
theorem rows_pyr {S : Sto} : ∀ {ds : List D} {t : List (List Int)}, RowsS S ds t → PyRA S ds (t.map rowP)
  | _, _, .nil => .nil
  | _, _, .cons (d := d) (r := r) e rs => .cons (by
      rcases asL_cases e with rfl | ⟨k, rfl, ek⟩
      · exact pyr_row r
      · exact .own ek (pyra_map PyR.int r)) (rows_pyr rs)
theorem tab_reprs {C : Addr} {S : Sto} {p e m : Nat} {d : D} {t : List (List Int)} {es : List (List (List Int))} {ms : List Nat} {B : Nat} {hs : List Nat} {G : D → D → Sto → Prop} {Ψ : KX} (pg : PageAt C S p e m d t es ms) (tb : TabH S B hs t) (q : ∀ Z, G (.str (tabP t).shown) (.str (tabP t).shown) (S ++ Z)) : sp_Page_table C [.own p] S (fun S1 x => cRepr [x] S1 fun S1 x => cRepr [.own B] S1 fun S2 y => G x y S2) Ψ := by
  have ok := pg.ok
  have fit := ok.fit
  refine ⟨p, e, m, d, t, rfl, pg.obj, by have := ok.hi; omega, ?_⟩
  unfold newTab
  have eB := (tabH_new S t).out
  have rd : PyR (S ++ cellsD t ++ [.lst (ownsD S.length t.length)]) (.own (S.length + t.length)) (tabP t) := by
    have := read_new (S := S) (X := cellsD t) (t := t) (T := []) rfl
    rw [List.append_nil] at this
    exact this
  refine cRepr_at (a := "list") (tyOf_L (asL_at' eB)) (.inl rfl) rd fit ?_
  have tb2 : TabH (S ++ cellsD t ++ [.lst (ownsD S.length t.length)]) B hs t := (tb.app).app
  obtain ⟨ds, e2, rr⟩ := tb2.tabS
  refine cRepr_at (a := "list") (tyOf_L (asL_at' tb2.out)) (.inl rfl) (.own tb2.out (rows_pyr ?_)) fit ?_
  · have := asL_at' tb2.out
    rw [this] at e2
    injection e2 with e2
    rw [e2]
    exact rr
  · rw [List.append_assoc]
    exact q _
theorem PageAt.fr {C : Addr} {S S' : Sto} {p e m : Nat} {d : D} {t : List (List Int)} {es : List (List (List Int))} {ms : List Nat} {A : List Nat} (g : PageAt C S p e m d t es ms) (f : Frm A S S') (h1 : p ∉ A) (h2 : e ∉ A) (h3 : m ∉ A) : PageAt C S' p e m d t es ms := ⟨f.get _ _ h1 g.obj, f.get _ _ h2 g.ear, f.get _ _ h3 g.mar, g.pe, g.pm, g.em, g.ok, g.eok, g.el, g.ml, g.mle, g.mo⟩
theorem FdAt.fr {S S' : Sto} {h n : Nat} {A : List Nat} (g : FdAt S h n) (f : Frm A S S') (h1 : h ∉ A) : FdAt S' h n := let ⟨c, e, q⟩ := g; ⟨c, f.get _ _ h1 e, q⟩
theorem TabH.fr {A : List Nat} {S S' : Sto} {b : Nat} {hs : List Nat} {t : List (List Int)} (k : TabH S b hs t) (f : Frm A S S') (hb : ∀ x ∈ A, x ≠ b ∧ x ∉ hs) : TabH S' b hs t := k.keep fun x hx c e => f.get x c (fun z => by
  rcases hx with rfl | hx
  · exact (hb x z).1 rfl
  · exact (hb x z).2 hx) e
theorem len3' {S : Sto} {X Y Z : Cell} : (S ++ [X] ++ [Y] ++ [Z]).length = S.length + 3 := by rw [List.length_append, List.length_append, List.length_append]; rfl
theorem len1' {S : Sto} {X : Cell} : (S ++ [X]).length = S.length + 1 := by rw [List.length_append]; rfl
local macro_rules | `(tactic| walk_at "nm") => `(tactic| (simp only [List.mem_cons, List.not_mem_nil, or_false, not_false_eq_true] <;> omega))
local macro_rules | `(tactic| walk_at "nh") => `(tactic| (simp only [List.mem_cons, List.not_mem_nil, or_false] at *; omega))
theorem off_of {k : Nat} {B : Nat} {hs : List Nat} (tbl : B < k ∧ ∀ a ∈ hs, a < k) {h : Nat} (hB : h ≠ B) (hhs : h ∉ hs) {A : List Nat} (hA : ∀ x ∈ A, x = h ∨ k ≤ x) : ∀ x ∈ A, x ≠ B ∧ x ∉ hs := fun x hx => by
  rcases hA x hx with rfl | z
  · exact ⟨hB, hhs⟩
  · exact ⟨by omega, fun y => by have := tbl.2 x y; omega⟩
theorem p__law_right (Cs C : Addr) : Rets sp__law_right (T__law_right Cs C) N__law_right := by
  rintro _ S Φ Ψ ⟨h, n, B, hs, t, c, rfl, fd, hn, tb, hB, hhs, ok, hc, q⟩
  unfold T__law_right
  have h6 := ok.hi
  walk_at "dl"
  have lhS := fd.lt
  have tbl := tb.lt
  refine ⟨h, n, rfl, fd, by omega, fun S1 ks g l f1 lok => ?_⟩
  have g1 := f1.at fd.lt
  have tb1 := tb.fs f1 ⟨hB, hhs⟩
  have len1 := f1.len
  refine ⟨_, rfl, rfl, _, _, rfl, _, _, rfl, _, _, rfl, rfl, ?_⟩
  refine ⟨ks, g, l, rfl, lok, ?_⟩
  dsimp only
  rw [fzID_o]
  refine ⟨Cs, styF ks g l, get_at, ?_⟩
  rw [set_at]
  obtain ⟨W, hW⟩ : ∃ W, W = D.ins Cs (styF ks g l) := ⟨_, rfl⟩
  rw [← hW]
  obtain ⟨S2, e2⟩ : ∃ S2, S2 = S1 ++ [Cell.gone] := ⟨_, rfl⟩
  rw [← e2]
  have len2 : S2.length = S1.length + 1 := by rw [e2, List.length_append]; rfl
  have tb2 : TabH S2 B hs t := by rw [e2]; exact tb1.app
  have g2 : FdAt S2 h (n + 40) := by rw [e2]; exact g1.app
  refine ⟨.own B, t, rfl, tb2.tabS, by omega, fun Z B2 hs2 td hB2 hh2 => ?_⟩
  refine fz_tabH td fun S4 e4 k4 => ?_
  have keep : ∀ x c, S2[x]? = some c → S4[x]? = some c := fun x c e => by
    have hx := get_lt e
    exact k4 x c (by omega) (fun z => by have := hh2 x z; omega) (get_app e)
  have len4 : S2.length ≤ S4.length := by rw [e4, List.length_append]; omega
  have tb4 : TabH S4 B hs t := tb2.keep fun x _ c e => keep x c e
  obtain ⟨cf, ef, ff⟩ := g2
  refine ⟨small (by decide), small (by decide), small (by decide), ?_⟩
  refine ⟨W, .own B, t, rfl, (tb4.app).tabS, ok, ?_⟩
  refine ⟨W, .own B, t, rfl, ((((tb4.app).app).app).app).tabS, ok, ?_⟩
  rw [len3', len1' (S := S4)]
  obtain ⟨S5, e5⟩ : ∃ S5, S5 = S4 ++ [Cell.lst [tabD t, D.lst [], D.lst []]] ++ [Cell.ins C (pageF W t (S4.length + 1 + 1) (S4.length + 1 + 2))] ++ [Cell.lst []] ++ [Cell.lst []] ++ [Cell.ins C (pageF W t (S4.length + 1 + 3 + 1) (S4.length + 1 + 3 + 2))] ++ [Cell.lst []] ++ [Cell.lst []] := ⟨_, rfl⟩
  rw [← e5]
  have at5 : ∀ j c, [Cell.lst [tabD t, D.lst [], D.lst []], Cell.ins C (pageF W t (S4.length + 1 + 1) (S4.length + 1 + 2)), Cell.lst [], Cell.lst [], Cell.ins C (pageF W t (S4.length + 1 + 3 + 1) (S4.length + 1 + 3 + 2)), Cell.lst [], Cell.lst []][j]? = some c → S5[S4.length + j]? = some c := fun j c e => by
    rw [e5]
    simp only [List.append_assoc, List.cons_append, List.nil_append]
    rw [List.getElem?_append_right (Nat.le_add_right _ _), Nat.add_sub_cancel_left]
    exact e
  have len5 : S5.length = S4.length + 7 := by rw [e5]; simp only [List.length_append, List.length_cons, List.length_nil]
  have up5 : ∀ x c, S4[x]? = some c → S5[x]? = some c := fun x c e => by
    rw [e5]
    simp only [List.append_assoc]
    exact get_app e
  have nil0 : ∀ u ∈ ([] : List (List (List Int))), TabOk u := fun _ z => nomatch z
  have niln : ∀ k ∈ ([] : List Nat), k ≤ ([] : List (List (List Int))).length := fun _ z => nomatch z
  have pg5 : PageAt C S5 (S4.length + 1) (S4.length + 2) (S4.length + 3) W t [] [] := ⟨at5 1 _ rfl, at5 2 _ rfl, at5 3 _ rfl, by omega, by omega, by omega, ok, nil0, by decide, by decide, niln, .nil⟩
  have po5 : PageAt C S5 (S4.length + 4) (S4.length + 5) (S4.length + 6) W t [] [] := ⟨at5 4 _ rfl, at5 5 _ rfl, at5 6 _ rfl, by omega, by omega, by omega, ok, nil0, by decide, by decide, niln, .nil⟩
  have lv5 : Lv C S5 h S4.length (S4.length + 1) (n + 40) W t [] [] (S4.length + 2) (S4.length + 3) (stD t [] []) := ⟨⟨cf, up5 _ _ (keep _ _ ef), ff⟩, pg5, at5 0 _ rfl, by omega, ⟨by omega, by omega, by omega⟩, ⟨by omega, by omega, by omega⟩⟩
  have tb5 : TabH S5 B hs t := tb4.keep fun x _ c e => up5 x c e
  have hL : S.length ≤ S4.length := by omega
  have hh : h < S.length := lhS
  clear at5 up5 keep k4 e5 e4 ef ff e2 td
  generalize S4.length = L at *
  refine ⟨h, L, L + 1, n + 40, W, t, [], [], L + 2, L + 3, c, rfl, lv5, by omega, by show 0 + c ≤ 100; omega, by show 0 + c ≤ 100; omega, fun S6 m1 t1 es1 ms1 lv6 le6 lm6 fr6 hm6 => ⟨true, rfl, ?_⟩⟩
  rw [if_neg (by decide)]
  have le6 : es1.length ≤ c := by rw [List.length_nil] at le6; omega
  have lm6 : ms1.length ≤ c := by rw [List.length_nil] at lm6; omega
  have len6 := fr6.len
  have po6 : PageAt C S6 (L + 4) (L + 5) (L + 6) W t [] [] := po5.fr fr6 (by walk_at "nm") (by walk_at "nm") (by walk_at "nm")
  have tb6 : TabH S6 B hs t := tb5.fr fr6 (off_of tbl hB hhs fun x hx => by walk_at "nh")
  have m1l : m1 < S6.length := get_lt lv6.pg.mar
  refine ⟨_, _, C, _, _, rfl, rfl, lv6.pg.obj, po6.obj, List.mem_singleton.mpr rfl, ⟨false, by simp, ?_⟩⟩
  rw [if_neg (by decide)]
  refine ⟨_, _, C, _, _, rfl, rfl, lv6.pg.obj, lv6.pg.obj, List.mem_singleton.mpr rfl, ⟨true, by simp, ?_⟩⟩
  rw [if_neg (by decide)]
  refine ⟨_, lv6.pg.asi, rfl, L + 1, L + 2, m1, W, t1, es1, ms1, rfl, lv6.pg, fun Z7 p3 e3 m3 pt7 hp3 he3 hm3 => ?_⟩
  obtain ⟨S7, e7⟩ : ∃ S7, S7 = S6 ++ Z7 := ⟨_, rfl⟩
  rw [← e7] at pt7 ⊢
  have lv7 := lv6.app Z7
  rw [← e7] at lv7
  have po7 : PageAt C S7 (L + 4) (L + 5) (L + 6) W t [] [] := by rw [e7]; exact po6.app
  have tb7 : TabH S7 B hs t := by rw [e7]; exact tb6.app
  have l7 := get_lt pt7.obj
  have l7e := get_lt pt7.ear
  have l7m := get_lt pt7.mar
  refine ⟨_, lv7.stt, tabD t1, rfl, _, lv7.stt, .lst (es1.map tabD), rfl, ?_⟩
  rw [cList_L rfl]
  refine ⟨_, lv7.stt, .lst (marksD ms1), rfl, ?_⟩
  rw [cList_L rfl]
  refine ⟨small (by decide), ?_⟩
  obtain ⟨S8, e8⟩ : ∃ S8, S8 = S7 ++ [Cell.lst [tabD t1, D.lst (es1.map tabD), D.lst (marksD ms1)]] := ⟨_, rfl⟩
  rw [← e8]
  have lv8 := lv7.app [Cell.lst [tabD t1, D.lst (es1.map tabD), D.lst (marksD ms1)]]
  rw [← e8] at lv8
  have po8 : PageAt C S8 (L + 4) (L + 5) (L + 6) W t [] [] := by rw [e8]; exact po7.app
  have pt8 : PageAt C S8 p3 e3 m3 W t1 es1 ms1 := by rw [e8]; exact pt7.app
  have tb8 : TabH S8 B hs t := by rw [e8]; exact tb7.app
  have s38 : S8[S7.length]? = some (.lst (stD t1 es1 ms1)) := by rw [e8]; exact get_at
  have len7 : S6.length ≤ S7.length := by rw [e7, List.length_append]; omega
  have len8 : S8.length = S7.length + 1 := by rw [e8]; exact len1'
  refine ⟨_, pt8.asi, rfl, p3, e3, m3, W, t1, es1, ms1, rfl, pt8, fun Z9 p4 e4 m4 pr9 hp4 he4 hm4 => ?_⟩
  obtain ⟨S9, e9⟩ : ∃ S9, S9 = S8 ++ Z9 := ⟨_, rfl⟩
  rw [← e9] at pr9 ⊢
  have lv9 := lv8.app Z9
  rw [← e9] at lv9
  have po9 : PageAt C S9 (L + 4) (L + 5) (L + 6) W t [] [] := by rw [e9]; exact po8.app
  have pt9 : PageAt C S9 p3 e3 m3 W t1 es1 ms1 := by rw [e9]; exact pt8.app
  have tb9 : TabH S9 B hs t := by rw [e9]; exact tb8.app
  have s39 : S9[S7.length]? = some (.lst (stD t1 es1 ms1)) := by rw [e9]; exact get_app s38
  have len9 : S8.length ≤ S9.length := by rw [e9, List.length_append]; omega
  have l9 := get_lt pr9.obj
  have l9e := get_lt pr9.ear
  have l9m := get_lt pr9.mar
  refine ⟨_, lv9.stt, tabD t1, rfl, _, lv9.stt, .lst (es1.map tabD), rfl, ?_⟩
  rw [cList_L rfl]
  refine ⟨_, lv9.stt, .lst (marksD ms1), rfl, ?_⟩
  rw [cList_L rfl]
  refine ⟨small (by decide), ?_⟩
  obtain ⟨SA, eA⟩ : ∃ SA, SA = S9 ++ [Cell.lst [tabD t1, D.lst (es1.map tabD), D.lst (marksD ms1)]] := ⟨_, rfl⟩
  rw [← eA]
  have lvA := lv9.app [Cell.lst [tabD t1, D.lst (es1.map tabD), D.lst (marksD ms1)]]
  rw [← eA] at lvA
  have poA : PageAt C SA (L + 4) (L + 5) (L + 6) W t [] [] := by rw [eA]; exact po9.app
  have ptA : PageAt C SA p3 e3 m3 W t1 es1 ms1 := by rw [eA]; exact pt9.app
  have prA : PageAt C SA p4 e4 m4 W t1 es1 ms1 := by rw [eA]; exact pr9.app
  have tbA : TabH SA B hs t := by rw [eA]; exact tb9.app
  have s3A : SA[S7.length]? = some (.lst (stD t1 es1 ms1)) := by rw [eA]; exact get_app s39
  have s4A : SA[S9.length]? = some (.lst (stD t1 es1 ms1)) := by rw [eA]; exact get_at
  have lenA : SA.length = S9.length + 1 := by rw [eA]; exact len1'
  have fdA := lvA.fd
  have pgA := lvA.pg
  have sA := lvA.stt
  clear lv5 pg5 po5 tb5 fr6 lv6 po6 tb6 pt7 lv7 po7 tb7 lv8 po8 pt8 tb8 s38 pr9 lv9 po9 pt9 tb9 s39 lvA e7 e8 e9 eA
  generalize S9.length = s4 at *
  generalize S7.length = s3 at *
  refine ⟨_, _, C, _, _, rfl, rfl, ptA.obj, pgA.obj, List.mem_singleton.mpr rfl, ⟨false, by rw [if_neg Bool.false_ne_true, decide_eq_false (by omega)], ?_⟩⟩
  rw [if_neg (by decide)]
  refine ⟨s3, p3, W, t1, es1, ms1, e3, m3, rfl, ptA, s3A, fun ZB => ⟨true, rfl, ?_⟩⟩
  rw [if_neg (by decide)]
  obtain ⟨SB, eB⟩ : ∃ SB, SB = SA ++ ZB := ⟨_, rfl⟩
  rw [← eB]
  have frB : Frm [] SA SB := by rw [eB]; exact Frm.refl.app ZB
  have pgB : PageAt C SB (L + 1) (L + 2) (m1) W t1 es1 ms1 := pgA.fr frB (by walk_at "nm") (by walk_at "nm") (by walk_at "nm")
  have ptB : PageAt C SB (p3) (e3) (m3) W t1 es1 ms1 := ptA.fr frB (by walk_at "nm") (by walk_at "nm") (by walk_at "nm")
  have prB : PageAt C SB (p4) (e4) (m4) W t1 es1 ms1 := prA.fr frB (by walk_at "nm") (by walk_at "nm") (by walk_at "nm")
  have poB : PageAt C SB (L + 4) (L + 5) (L + 6) W t [] [] := poA.fr frB (by walk_at "nm") (by walk_at "nm") (by walk_at "nm")
  have sB : SB[L]? = some (.lst (stD t1 es1 ms1)) := frB.get _ _ (by walk_at "nm") sA
  have s3B : SB[s3]? = some (.lst (stD t1 es1 ms1)) := frB.get _ _ (by walk_at "nm") s3A
  have s4B : SB[s4]? = some (.lst (stD t1 es1 ms1)) := frB.get _ _ (by walk_at "nm") s4A
  have tbB : TabH SB B hs t := tbA.fr frB (off_of tbl hB hhs fun x hx => nomatch hx)
  have fdB := fdA.fr frB (by walk_at "nm")
  have lenB := frB.len
  clear pgA ptA prA poA sA s3A s4A tbA fdA
  refine roll_at fdB (by decide) fun SC v fC fdC v0 v1 => ?_
  obtain ⟨k12, rfl⟩ := Int.eq_ofNat_of_zero_le v0
  have frC : Frm [h] SB SC := Frm.refl.fs fC (by simp)
  have pgC : PageAt C SC (L + 1) (L + 2) (m1) W t1 es1 ms1 := pgB.fr frC (by walk_at "nm") (by walk_at "nm") (by walk_at "nm")
  have ptC : PageAt C SC (p3) (e3) (m3) W t1 es1 ms1 := ptB.fr frC (by walk_at "nm") (by walk_at "nm") (by walk_at "nm")
  have prC : PageAt C SC (p4) (e4) (m4) W t1 es1 ms1 := prB.fr frC (by walk_at "nm") (by walk_at "nm") (by walk_at "nm")
  have poC : PageAt C SC (L + 4) (L + 5) (L + 6) W t [] [] := poB.fr frC (by walk_at "nm") (by walk_at "nm") (by walk_at "nm")
  have sC : SC[L]? = some (.lst (stD t1 es1 ms1)) := frC.get _ _ (by walk_at "nm") sB
  have s3C : SC[s3]? = some (.lst (stD t1 es1 ms1)) := frC.get _ _ (by walk_at "nm") s3B
  have s4C : SC[s4]? = some (.lst (stD t1 es1 ms1)) := frC.get _ _ (by walk_at "nm") s4B
  have tbC : TabH SC B hs t := tbB.fr frC (off_of tbl hB hhs fun x hx => by walk_at "nh")
  have lenC := frC.len
  clear pgB ptB prB poB sB s3B s4B tbB
  refine ⟨h, s4, p3, _, W, t1, es1, ms1, e3, m3, k12, rfl, ⟨fdC, ptC, s4C, by omega, ⟨by omega, by omega, by omega⟩, ⟨by omega, by omega, by omega⟩⟩, by omega, by omega, by omega, fun SD m3' t2 es2 ms2 lvD leD lmD frD hmD => ⟨true, rfl, ?_⟩⟩
  rw [if_neg (by decide)]
  have pgD : PageAt C SD (L + 1) (L + 2) (m1) W t1 es1 ms1 := pgC.fr frD (by walk_at "nm") (by walk_at "nm") (by walk_at "nm")
  have prD : PageAt C SD (p4) (e4) (m4) W t1 es1 ms1 := prC.fr frD (by walk_at "nm") (by walk_at "nm") (by walk_at "nm")
  have poD : PageAt C SD (L + 4) (L + 5) (L + 6) W t [] [] := poC.fr frD (by walk_at "nm") (by walk_at "nm") (by walk_at "nm")
  have sD : SD[L]? = some (.lst (stD t1 es1 ms1)) := frD.get _ _ (by walk_at "nm") sC
  have s3D : SD[s3]? = some (.lst (stD t1 es1 ms1)) := frD.get _ _ (by walk_at "nm") s3C
  have tbD : TabH SD B hs t := tbC.fr frD (off_of tbl hB hhs fun x hx => by walk_at "nh")
  have lenD := frD.len
  clear pgC prC poC sC s3C tbC
  have fdD := lvD.fd
  have ptD := lvD.pg
  have s4D := lvD.stt
  have m3l := get_lt ptD.mar
  have m3h : m3' = m3 ∨ SA.length ≤ m3' := by omega
  clear ptC s4C fdC lvD
  refine ⟨L, L + 1, W, t1, es1, ms1, L + 2, m1, rfl, pgD, sD, fun ZE => ⟨true, rfl, ?_⟩⟩
  rw [if_neg (by decide)]
  obtain ⟨SE, eE⟩ : ∃ SE, SE = SD ++ ZE := ⟨_, rfl⟩
  rw [← eE]
  have frE : Frm [] SD SE := by rw [eE]; exact Frm.refl.app ZE
  have pgE : PageAt C SE (L + 1) (L + 2) (m1) W t1 es1 ms1 := pgD.fr frE (by walk_at "nm") (by walk_at "nm") (by walk_at "nm")
  have ptE : PageAt C SE (p3) (e3) (m3') W t2 es2 ms2 := ptD.fr frE (by walk_at "nm") (by walk_at "nm") (by walk_at "nm")
  have prE : PageAt C SE (p4) (e4) (m4) W t1 es1 ms1 := prD.fr frE (by walk_at "nm") (by walk_at "nm") (by walk_at "nm")
  have poE : PageAt C SE (L + 4) (L + 5) (L + 6) W t [] [] := poD.fr frE (by walk_at "nm") (by walk_at "nm") (by walk_at "nm")
  have sE : SE[L]? = some (.lst (stD t1 es1 ms1)) := frE.get _ _ (by walk_at "nm") sD
  have s3E : SE[s3]? = some (.lst (stD t1 es1 ms1)) := frE.get _ _ (by walk_at "nm") s3D
  have s4E : SE[s4]? = some (.lst (stD t2 es2 ms2)) := frE.get _ _ (by walk_at "nm") s4D
  have tbE : TabH SE B hs t := tbD.fr frE (off_of tbl hB hhs fun x hx => nomatch hx)
  have fdE := fdD.fr frE (by walk_at "nm")
  have lenE := frE.len
  clear pgD ptD prD poD sD s3D s4D tbD fdD
  refine roll_at fdE (by decide) fun SF v fF fdF w0 w1 => ?_
  obtain ⟨k8, rfl⟩ := Int.eq_ofNat_of_zero_le w0
  have frF : Frm [h] SE SF := Frm.refl.fs fF (by simp)
  have pgF : PageAt C SF (L + 1) (L + 2) (m1) W t1 es1 ms1 := pgE.fr frF (by walk_at "nm") (by walk_at "nm") (by walk_at "nm")
  have ptF : PageAt C SF (p3) (e3) (m3') W t2 es2 ms2 := ptE.fr frF (by walk_at "nm") (by walk_at "nm") (by walk_at "nm")
  have prF : PageAt C SF (p4) (e4) (m4) W t1 es1 ms1 := prE.fr frF (by walk_at "nm") (by walk_at "nm") (by walk_at "nm")
  have poF : PageAt C SF (L + 4) (L + 5) (L + 6) W t [] [] := poE.fr frF (by walk_at "nm") (by walk_at "nm") (by walk_at "nm")
  have sF : SF[L]? = some (.lst (stD t1 es1 ms1)) := frF.get _ _ (by walk_at "nm") sE
  have s3F : SF[s3]? = some (.lst (stD t1 es1 ms1)) := frF.get _ _ (by walk_at "nm") s3E
  have s4F : SF[s4]? = some (.lst (stD t2 es2 ms2)) := frF.get _ _ (by walk_at "nm") s4E
  have tbF : TabH SF B hs t := tbE.fr frF (off_of tbl hB hhs fun x hx => by walk_at "nh")
  have lenF := frF.len
  clear pgE ptE prE poE sE s3E s4E tbE
  refine ⟨h, L, L + 1, _, W, t1, es1, ms1, L + 2, m1, k8, rfl, ⟨fdF, pgF, sF, by omega, ⟨by omega, by omega, by omega⟩, ⟨by omega, by omega, by omega⟩⟩, by omega, by omega, by omega, fun SG m1' t3 es3 ms3 lvG leG lmG frG hmG => ⟨true, rfl, ?_⟩⟩
  rw [if_neg (by decide)]
  have ptG : PageAt C SG (p3) (e3) (m3') W t2 es2 ms2 := ptF.fr frG (by walk_at "nm") (by walk_at "nm") (by walk_at "nm")
  have prG : PageAt C SG (p4) (e4) (m4) W t1 es1 ms1 := prF.fr frG (by walk_at "nm") (by walk_at "nm") (by walk_at "nm")
  have poG : PageAt C SG (L + 4) (L + 5) (L + 6) W t [] [] := poF.fr frG (by walk_at "nm") (by walk_at "nm") (by walk_at "nm")
  have s4G : SG[s4]? = some (.lst (stD t2 es2 ms2)) := frG.get _ _ (by walk_at "nm") s4F
  have s3G : SG[s3]? = some (.lst (stD t1 es1 ms1)) := frG.get _ _ (by walk_at "nm") s3F
  have tbG : TabH SG B hs t := tbF.fr frG (off_of tbl hB hhs fun x hx => by walk_at "nh")
  have lenG := frG.len
  clear ptF prF poF s4F s3F tbF
  have fdG := lvG.fd
  have pgG := lvG.pg
  have sG := lvG.stt
  have m1l2 := get_lt pgG.mar
  have m1h : m1' = m1 ∨ SE.length ≤ m1' := by omega
  have m3l2 := get_lt ptG.mar
  clear pgF sF fdF lvG
  refine ⟨s4, p3, W, t2, es2, ms2, e3, m3', rfl, ptG, s4G, fun ZH => ⟨true, rfl, ?_⟩⟩
  rw [if_neg (by decide)]
  obtain ⟨SH, eH⟩ : ∃ SH, SH = SG ++ ZH := ⟨_, rfl⟩
  rw [← eH]
  have frH : Frm [] SG SH := by rw [eH]; exact Frm.refl.app ZH
  have pgH : PageAt C SH (L + 1) (L + 2) (m1') W t3 es3 ms3 := pgG.fr frH (by walk_at "nm") (by walk_at "nm") (by walk_at "nm")
  have ptH : PageAt C SH (p3) (e3) (m3') W t2 es2 ms2 := ptG.fr frH (by walk_at "nm") (by walk_at "nm") (by walk_at "nm")
  have prH : PageAt C SH (p4) (e4) (m4) W t1 es1 ms1 := prG.fr frH (by walk_at "nm") (by walk_at "nm") (by walk_at "nm")
  have poH : PageAt C SH (L + 4) (L + 5) (L + 6) W t [] [] := poG.fr frH (by walk_at "nm") (by walk_at "nm") (by walk_at "nm")
  have sH : SH[L]? = some (.lst (stD t3 es3 ms3)) := frH.get _ _ (by walk_at "nm") sG
  have s3H : SH[s3]? = some (.lst (stD t1 es1 ms1)) := frH.get _ _ (by walk_at "nm") s3G
  have s4H : SH[s4]? = some (.lst (stD t2 es2 ms2)) := frH.get _ _ (by walk_at "nm") s4G
  have tbH : TabH SH B hs t := tbG.fr frH (off_of tbl hB hhs fun x hx => nomatch hx)
  have fdH := fdG.fr frH (by walk_at "nm")
  have lenH := frH.len
  clear pgG ptG prG poG sG s3G s4G tbG fdG
  refine ⟨s3, p4, W, t1, es1, ms1, e4, m4, rfl, prH, s3H, fun ZI => ⟨true, rfl, ?_⟩⟩
  rw [if_neg (by decide)]
  obtain ⟨SI, eI⟩ : ∃ SI, SI = SH ++ ZI := ⟨_, rfl⟩
  rw [← eI]
  have frI : Frm [] SH SI := by rw [eI]; exact Frm.refl.app ZI
  have pgI : PageAt C SI (L + 1) (L + 2) (m1') W t3 es3 ms3 := pgH.fr frI (by walk_at "nm") (by walk_at "nm") (by walk_at "nm")
  have ptI : PageAt C SI (p3) (e3) (m3') W t2 es2 ms2 := ptH.fr frI (by walk_at "nm") (by walk_at "nm") (by walk_at "nm")
  have prI : PageAt C SI (p4) (e4) (m4) W t1 es1 ms1 := prH.fr frI (by walk_at "nm") (by walk_at "nm") (by walk_at "nm")
  have poI : PageAt C SI (L + 4) (L + 5) (L + 6) W t [] [] := poH.fr frI (by walk_at "nm") (by walk_at "nm") (by walk_at "nm")
  have sI : SI[L]? = some (.lst (stD t3 es3 ms3)) := frI.get _ _ (by walk_at "nm") sH
  have s3I : SI[s3]? = some (.lst (stD t1 es1 ms1)) := frI.get _ _ (by walk_at "nm") s3H
  have s4I : SI[s4]? = some (.lst (stD t2 es2 ms2)) := frI.get _ _ (by walk_at "nm") s4H
  have tbI : TabH SI B hs t := tbH.fr frI (off_of tbl hB hhs fun x hx => nomatch hx)
  have fdI := fdH.fr frI (by walk_at "nm")
  have lenI := frI.len
  clear pgH ptH prH poH sH s3H s4H tbH fdH
  have fit := ok.fit
  refine ⟨_, poI.asi, tab_reprs poI tbI fun ZJ => nes_at fit fit ⟨false, by simp, ?_⟩⟩
  rw [if_neg (by decide)]
  obtain ⟨SJ, eJ⟩ : ∃ SJ, SJ = SI ++ ZJ := ⟨_, rfl⟩
  rw [← eJ]
  have frJ : Frm [] SI SJ := by rw [eJ]; exact Frm.refl.app ZJ
  have pgJ : PageAt C SJ (L + 1) (L + 2) (m1') W t3 es3 ms3 := pgI.fr frJ (by walk_at "nm") (by walk_at "nm") (by walk_at "nm")
  have ptJ : PageAt C SJ (p3) (e3) (m3') W t2 es2 ms2 := ptI.fr frJ (by walk_at "nm") (by walk_at "nm") (by walk_at "nm")
  have prJ : PageAt C SJ (p4) (e4) (m4) W t1 es1 ms1 := prI.fr frJ (by walk_at "nm") (by walk_at "nm") (by walk_at "nm")
  have poJ : PageAt C SJ (L + 4) (L + 5) (L + 6) W t [] [] := poI.fr frJ (by walk_at "nm") (by walk_at "nm") (by walk_at "nm")
  have sJ : SJ[L]? = some (.lst (stD t3 es3 ms3)) := frJ.get _ _ (by walk_at "nm") sI
  have s3J : SJ[s3]? = some (.lst (stD t1 es1 ms1)) := frJ.get _ _ (by walk_at "nm") s3I
  have s4J : SJ[s4]? = some (.lst (stD t2 es2 ms2)) := frJ.get _ _ (by walk_at "nm") s4I
  have tbJ : TabH SJ B hs t := tbI.fr frJ (off_of tbl hB hhs fun x hx => nomatch hx)
  have fdJ := fdI.fr frJ (by walk_at "nm")
  have lenJ := frJ.len
  clear pgI ptI prI poI sI s3I s4I tbI fdI
  refine ⟨s3, p4, W, t1, es1, ms1, e4, m4, rfl, prJ, s3J, ⟨by omega, by omega, by omega⟩, fun SK frK => ⟨true, rfl, ?_⟩⟩
  rw [if_neg (by decide)]
  have pgK : PageAt C SK (L + 1) (L + 2) (m1') W t3 es3 ms3 := pgJ.fr frK (by walk_at "nm") (by walk_at "nm") (by walk_at "nm")
  have ptK : PageAt C SK (p3) (e3) (m3') W t2 es2 ms2 := ptJ.fr frK (by walk_at "nm") (by walk_at "nm") (by walk_at "nm")
  have poK : PageAt C SK (L + 4) (L + 5) (L + 6) W t [] [] := poJ.fr frK (by walk_at "nm") (by walk_at "nm") (by walk_at "nm")
  have sK : SK[L]? = some (.lst (stD t3 es3 ms3)) := frK.get _ _ (by walk_at "nm") sJ
  have s4K : SK[s4]? = some (.lst (stD t2 es2 ms2)) := frK.get _ _ (by walk_at "nm") s4J
  have fdK := fdJ.fr frK (by walk_at "nm")
  have lenK := frK.len
  clear pgJ ptJ poJ sJ s4J fdJ
  refine ⟨s4, p3, W, t2, es2, ms2, e3, m3', rfl, ptK, s4K, ⟨by omega, by omega, by omega⟩, fun SM frM => ⟨true, rfl, ?_⟩⟩
  rw [if_neg (by decide)]
  have pgM : PageAt C SM (L + 1) (L + 2) (m1') W t3 es3 ms3 := pgK.fr frM (by walk_at "nm") (by walk_at "nm") (by walk_at "nm")
  have poM : PageAt C SM (L + 4) (L + 5) (L + 6) W t [] [] := poK.fr frM (by walk_at "nm") (by walk_at "nm") (by walk_at "nm")
  have sM : SM[L]? = some (.lst (stD t3 es3 ms3)) := frM.get _ _ (by walk_at "nm") sK
  have fdM := fdK.fr frM (by walk_at "nm")
  have lenM := frM.len
  clear pgK poK sK fdK
  refine ⟨L, L + 1, W, t3, es3, ms3, L + 2, m1', rfl, pgM, sM, fun ZN => ⟨true, rfl, ?_⟩⟩
  rw [if_neg (by decide)]
  obtain ⟨SN, eN⟩ : ∃ SN, SN = SM ++ ZN := ⟨_, rfl⟩
  rw [← eN]
  have frN : Frm [] SM SN := by rw [eN]; exact Frm.refl.app ZN
  have pgN : PageAt C SN (L + 1) (L + 2) (m1') W t3 es3 ms3 := pgM.fr frN (by walk_at "nm") (by walk_at "nm") (by walk_at "nm")
  have poN : PageAt C SN (L + 4) (L + 5) (L + 6) W t [] [] := poM.fr frN (by walk_at "nm") (by walk_at "nm") (by walk_at "nm")
  have sN : SN[L]? = some (.lst (stD t3 es3 ms3)) := frN.get _ _ (by walk_at "nm") sM
  have fdN := fdM.fr frN (by walk_at "nm")
  have lenN := frN.len
  clear pgM poM sM fdM
  refine ⟨L, L + 1, W, t3, es3, ms3, L + 2, m1', rfl, pgN, sN, ⟨by omega, by omega, by omega⟩, fun SO frO => ⟨true, rfl, ?_⟩⟩
  rw [if_pos rfl]
  have poO : PageAt C SO (L + 4) (L + 5) (L + 6) W t [] [] := poN.fr frO (by walk_at "nm") (by walk_at "nm") (by walk_at "nm")
  have fdO := fdN.fr frO (by walk_at "nm")
  have lenO := frO.len
  clear poN fdN
  refine ⟨_, _, rfl, poO.asi, ⟨rfl, L + 4, L + 5, L + 6, W, t, [], [], rfl, poO, 0, rfl, by decide, by decide, ?_⟩⟩
  walk_at "dl"
  exact ret_now (q SO (fdO.mono (by omega)))
end DL
namespace DL
open PySem PySem.Spec PyProof.Rows L2
local macro_rules | `(tactic| walk_at "dl") => `(tactic| ((try simp only [gstart, gwipe, List.set_set, List.map_cons, List.map_nil, List.length_cons, List.length_nil, rep_0, rep_s, List.cons_append, List.nil_append, List.set_cons_zero, List.set_cons_succ, Nat.reduceAdd, Nat.reduceSub, Nat.zero_add, Nat.add_zero]); (try simp only [↓dv0, ↓dv1, ↓dv2, ↓dv3, ↓dv4, ↓dv5, ↓dv6, ↓dv7, ↓dv8, ↓dv9, ↓dv10, ↓dv11, ↓dv12, ↓dv13, ↓dv14, ↓dv15, ↓dv16, ↓dv17, ↓dv18, ↓dv19, ↓dv20, ↓dv21, ↓dv22, ↓dv23, ↓dv24, ↓dv25, ↓dv26, ↓dv27, ↓dv28, ↓dv29, ↓dv30, ↓dv31, ↓dv32, ↓dv33, ↓dv34, ↓dv35, ↓dv36, ↓dv37, ↓dv38, ↓dv39, ↓nm0, ↓nm1, ↓nm2, ↓nm3, ↓nm4, ↓nm5, ↓nm6, ↓nm7, ↓nm8, ↓nm9, ↓nm10, ↓nm11, ↓nm12, ↓nm13, ↓nm14, ↓nm15, ↓nm16, ↓nm17, ↓nm18, ↓nm19, ↓nm20, ↓nm21, ↓nm22, ↓nm23, ↓nm24, ↓nm25, ↓nm26, ↓nm27, ↓nm28, ↓nm29, ↓nm30, ↓nm31, ↓nm32, ↓nm33, ↓nm34, ↓nm35, ↓nm36, ↓nm37, ↓nm38, ↓nm39, ↓sPar_n, ↓sPar3_n, ↓sAug_n, ↓reduceIte, List.set_set, ↓sNext_e, ↓sSeq_e, ↓sBrk_e, ↓sCnt_e, ↓sDrop_e, ↓sRet_e, ↓sRetN_e, ↓sIf_e, ↓sAsg_e, ↓sRaise_e, ↓nmG_e, ↓tupG_e, ↓gsNil_e, ↓gsCons_e, ↓subG_e, ↓dC_e, ↓dOp_e, ↓dUn_e, ↓dChain_e, ↓bOf_e, ↓bAnd_e, ↓bOr_e, ↓bNot_e, ↓bYes_e, ↓dAnd_e, ↓dOr_e, ↓dNot_e, ↓dIf_e, ↓lNil_e, ↓lCons_e, ↓dLst_e, ↓dDic0_e, ↓dDic1_e, ↓dLenSetG_e, dIsB_b, ↓dLstO_e, ↓dTup_e, ↓dCB_e, ↓dCall_e, ↓dCallK_e, ↓oNone_e, ↓oSome_e, ↓dSl_e, ↓dBM_e, ↓dBM0_e, ↓dFz_e, ↓dFz2_e, ↓d2_e, ↓dLone_e, ↓lStar_e, ↓dCallA_e, ↓dMakeA_e, ↓dMakeV_e, ↓dMethA_e, ↓dCMethA_e, ↓dPropA_e, ↓dFld_e, ↓sFldS_e, ↓dFzI_e, ↓fzID_o, ↓dM1_e, ↓dM0_e, ↓dRev_e, ↓mSplit_s, ↓mUpper_s, ↓exStr, ↓exZ, ↓cStrI_i, ↓cIntS_s, ↓iStrD_e, ↓dEqF_s, ↓dNeF_s, ↓dEqF_i, ↓dNeF_i, ↓dSign_s, ↓sRaiseI_e, ↓dXFld_e, ↓mPop_e, ↓dAddO_l, ↓dAddO_o, ↓dMk0_e, ↓sKeep_e, ↓sTryH_e, ↓dCVal_e, ↓dConI_e, ↓cLen_s, ↓dIx_s, ↓dSlS_s, ↓dAdd_s, ↓cTup_l, ↓pkP_e, ↓pkS_e, ↓lstG_e, ↓asI_i, ↓iSeq_e, ↓iTupD_e, ↓iRg1_e, ↓iRg2_e, ↓iZipD_e, iZrD_e, ↓iEnumD_e, ↓sFor_e, ↓dLc_e, ↓finF_e, ↓finO_e, ↓fzD_l, ↓fzD_i, ↓fzD_o, ↓fzD2_o, ↓dSetO_e, ↓mAppend_e, ↓mClear_e, ↓mReverse_e, List.map_cons, List.map_nil, List.length_cons, List.length_nil, rep_0, rep_s, List.cons_append, List.nil_append, List.getElem?_cons_zero, List.getElem?_cons_succ, List.set_cons_zero, List.set_cons_succ, Nat.reduceAdd, Nat.reduceSub, Nat.zero_add, Nat.add_zero, ↓exSS, ↓exB, ↓exI, ↓ex1, ↓ex2, ↓ex3, ↓exI1, ↓exI2, ↓exT, ↓exC, ↓exAs, ↓dAdd_i, ↓dAddI_i, ↓dSubI_i, ↓dLRg_e, ↓dIsiT_e, ↓dLenSet_e, ↓bChain3_e, ↓dLRg2_e, ↓iRg3_e, ↓dLc2_e, ↓dSlT_t, dAddT_t, ↓dNewK_e, ↓dDis1_e, ↓sDkp_e, ↓dDGet_e, ↓dDGet2_e, ↓dLVals_e, ↓kD_ex_i, ↓dSS_e, ↓dST_e, ↓dSI_e, ↓lsG_e, ↓dMulI_i, ↓dNew_e, ↓sDct_e, ↓dMulO_l, ↓dLRgO_e, ↓dAdd_l, ↓dSub_i, ↓dMul_i, ↓dMul_l, ↓dMod_i, ↓dDiv_i, ↓dPow_i, ↓dLt_i, ↓dLe_i, ↓dGt_i, ↓dGe_i, ↓uNeg_i, ↓cMax2_i, ↓cMin2_i, ↓cAbs_i, ↓cInt_i, ↓cInt_b, ↓cLen_l, ↓cLen_q, ↓cLen_t, ↓cList_l, ↓cList_q, ↓cList_t, ↓cListO_l, ↓cListO_t, ↓dIx_l, ↓dIx_q, ↓dIx_t, ↓dIx_o', ↓exS, ↓exL, at_1, at_2, at_3, at_4, ix30, ix31, ix32, ↓dSlL_l, ↓dSlL_q, ↓asQ_l, ↓asL_l, at_0, ↓isi_non_int, ↓isi_non_bool, ↓isi_non_str, ↓isi_non_list, ↓isi_non_tuple, ↓isi_non_dict, ↓isi_bl_int, ↓isi_bl_bool, ↓isi_bl_str, ↓isi_bl_list, ↓isi_bl_tuple, ↓isi_bl_dict, ↓isi_int_int, ↓isi_int_bool, ↓isi_int_str, ↓isi_int_list, ↓isi_int_tuple, ↓isi_int_dict, ↓isi_str_int, ↓isi_str_bool, ↓isi_str_str, ↓isi_str_list, ↓isi_str_tuple, ↓isi_str_dict, ↓isi_lst_int, ↓isi_lst_bool, ↓isi_lst_str, ↓isi_lst_list, ↓isi_lst_tuple, ↓isi_lst_dict, ↓isi_sq_int, ↓isi_sq_bool, ↓isi_sq_str, ↓isi_sq_list, ↓isi_sq_tuple, ↓isi_sq_dict, ↓isi_tup_int, ↓isi_tup_bool, ↓isi_tup_str, ↓isi_tup_list, ↓isi_tup_tuple, ↓isi_tup_dict, ↓isi_dic_int, ↓isi_dic_bool, ↓isi_dic_str, ↓isi_dic_list, ↓isi_dic_tuple, ↓isi_dic_dict, if_true, if_false, Bool.not_true, Bool.not_false, true_and, and_true, reduceCtorEq, Bool.true_eq_false, Bool.false_eq_true, ite_true, ite_false, ↓exAny, ↓isLst_l, Int.toNat_natCast, Int.reduceToNat, dVar_e, sPar_e, sPar3_e, sAug_e])))
local macro_rules | `(tactic| walk_at "dls") => `(tactic| ((try simp only [gstart, gwipe, List.set_set, List.map_cons, List.map_nil, List.length_cons, List.length_nil, rep_0, rep_s, List.cons_append, List.nil_append, List.set_cons_zero, List.set_cons_succ, Nat.reduceAdd, Nat.reduceSub, Nat.zero_add, Nat.add_zero]); (try simp only [*, ↓dv0, ↓dv1, ↓dv2, ↓dv3, ↓dv4, ↓dv5, ↓dv6, ↓dv7, ↓dv8, ↓dv9, ↓dv10, ↓dv11, ↓dv12, ↓dv13, ↓dv14, ↓dv15, ↓dv16, ↓dv17, ↓dv18, ↓dv19, ↓dv20, ↓dv21, ↓dv22, ↓dv23, ↓dv24, ↓dv25, ↓dv26, ↓dv27, ↓dv28, ↓dv29, ↓dv30, ↓dv31, ↓dv32, ↓dv33, ↓dv34, ↓dv35, ↓dv36, ↓dv37, ↓dv38, ↓dv39, ↓nm0, ↓nm1, ↓nm2, ↓nm3, ↓nm4, ↓nm5, ↓nm6, ↓nm7, ↓nm8, ↓nm9, ↓nm10, ↓nm11, ↓nm12, ↓nm13, ↓nm14, ↓nm15, ↓nm16, ↓nm17, ↓nm18, ↓nm19, ↓nm20, ↓nm21, ↓nm22, ↓nm23, ↓nm24, ↓nm25, ↓nm26, ↓nm27, ↓nm28, ↓nm29, ↓nm30, ↓nm31, ↓nm32, ↓nm33, ↓nm34, ↓nm35, ↓nm36, ↓nm37, ↓nm38, ↓nm39, ↓sPar_n, ↓sPar3_n, ↓sAug_n, ↓reduceIte, List.set_set, ↓sNext_e, ↓sSeq_e, ↓sBrk_e, ↓sCnt_e, ↓sDrop_e, ↓sRet_e, ↓sRetN_e, ↓sIf_e, ↓sAsg_e, ↓sRaise_e, ↓nmG_e, ↓tupG_e, ↓gsNil_e, ↓gsCons_e, ↓subG_e, ↓dC_e, ↓dOp_e, ↓dUn_e, ↓dChain_e, ↓bOf_e, ↓bAnd_e, ↓bOr_e, ↓bNot_e, ↓bYes_e, ↓dAnd_e, ↓dOr_e, ↓dNot_e, ↓dIf_e, ↓lNil_e, ↓lCons_e, ↓dLst_e, ↓dDic0_e, ↓dDic1_e, ↓dLenSetG_e, dIsB_b, ↓dLstO_e, ↓dTup_e, ↓dCB_e, ↓dCall_e, ↓dCallK_e, ↓oNone_e, ↓oSome_e, ↓dSl_e, ↓dBM_e, ↓dBM0_e, ↓dFz_e, ↓dFz2_e, ↓d2_e, ↓dLone_e, ↓lStar_e, ↓dCallA_e, ↓dMakeA_e, ↓dMakeV_e, ↓dMethA_e, ↓dCMethA_e, ↓dPropA_e, ↓dFld_e, ↓sFldS_e, ↓dFzI_e, ↓fzID_o, ↓dM1_e, ↓dM0_e, ↓dRev_e, ↓mSplit_s, ↓mUpper_s, ↓exStr, ↓exZ, ↓cStrI_i, ↓cIntS_s, ↓iStrD_e, ↓dEqF_s, ↓dNeF_s, ↓dEqF_i, ↓dNeF_i, ↓dSign_s, ↓sRaiseI_e, ↓dXFld_e, ↓mPop_e, ↓dAddO_l, ↓dAddO_o, ↓dMk0_e, ↓sKeep_e, ↓sTryH_e, ↓dCVal_e, ↓dConI_e, ↓cLen_s, ↓dIx_s, ↓dSlS_s, ↓dAdd_s, ↓cTup_l, ↓pkP_e, ↓pkS_e, ↓lstG_e, ↓asI_i, ↓iSeq_e, ↓iTupD_e, ↓iRg1_e, ↓iRg2_e, ↓iZipD_e, iZrD_e, ↓iEnumD_e, ↓sFor_e, ↓dLc_e, ↓finF_e, ↓finO_e, ↓fzD_l, ↓fzD_i, ↓fzD_o, ↓fzD2_o, ↓dSetO_e, ↓mAppend_e, ↓mClear_e, ↓mReverse_e, List.map_cons, List.map_nil, List.length_cons, List.length_nil, rep_0, rep_s, List.cons_append, List.nil_append, List.getElem?_cons_zero, List.getElem?_cons_succ, List.set_cons_zero, List.set_cons_succ, Nat.reduceAdd, Nat.reduceSub, Nat.zero_add, Nat.add_zero, ↓exSS, ↓exB, ↓exI, ↓ex1, ↓ex2, ↓ex3, ↓exI1, ↓exI2, ↓exT, ↓exC, ↓exAs, ↓dAdd_i, ↓dAddI_i, ↓dSubI_i, ↓dLRg_e, ↓dIsiT_e, ↓dLenSet_e, ↓bChain3_e, ↓dLRg2_e, ↓iRg3_e, ↓dLc2_e, ↓dSlT_t, dAddT_t, ↓dNewK_e, ↓dDis1_e, ↓sDkp_e, ↓dDGet_e, ↓dDGet2_e, ↓dLVals_e, ↓kD_ex_i, ↓dSS_e, ↓dST_e, ↓dSI_e, ↓lsG_e, ↓dMulI_i, ↓dNew_e, ↓sDct_e, ↓dMulO_l, ↓dLRgO_e, ↓dAdd_l, ↓dSub_i, ↓dMul_i, ↓dMul_l, ↓dMod_i, ↓dDiv_i, ↓dPow_i, ↓dLt_i, ↓dLe_i, ↓dGt_i, ↓dGe_i, ↓uNeg_i, ↓cMax2_i, ↓cMin2_i, ↓cAbs_i, ↓cInt_i, ↓cInt_b, ↓cLen_l, ↓cLen_q, ↓cLen_t, ↓cList_l, ↓cList_q, ↓cList_t, ↓cListO_l, ↓cListO_t, ↓dIx_l, ↓dIx_q, ↓dIx_t, ↓dIx_o', ↓exS, ↓exL, at_1, at_2, at_3, at_4, ix30, ix31, ix32, ↓dSlL_l, ↓dSlL_q, ↓asQ_l, ↓asL_l, at_0, ↓isi_non_int, ↓isi_non_bool, ↓isi_non_str, ↓isi_non_list, ↓isi_non_tuple, ↓isi_non_dict, ↓isi_bl_int, ↓isi_bl_bool, ↓isi_bl_str, ↓isi_bl_list, ↓isi_bl_tuple, ↓isi_bl_dict, ↓isi_int_int, ↓isi_int_bool, ↓isi_int_str, ↓isi_int_list, ↓isi_int_tuple, ↓isi_int_dict, ↓isi_str_int, ↓isi_str_bool, ↓isi_str_str, ↓isi_str_list, ↓isi_str_tuple, ↓isi_str_dict, ↓isi_lst_int, ↓isi_lst_bool, ↓isi_lst_str, ↓isi_lst_list, ↓isi_lst_tuple, ↓isi_lst_dict, ↓isi_sq_int, ↓isi_sq_bool, ↓isi_sq_str, ↓isi_sq_list, ↓isi_sq_tuple, ↓isi_sq_dict, ↓isi_tup_int, ↓isi_tup_bool, ↓isi_tup_str, ↓isi_tup_list, ↓isi_tup_tuple, ↓isi_tup_dict, ↓isi_dic_int, ↓isi_dic_bool, ↓isi_dic_str, ↓isi_dic_list, ↓isi_dic_tuple, ↓isi_dic_dict, if_true, if_false, Bool.not_true, Bool.not_false, true_and, and_true, reduceCtorEq, Bool.true_eq_false, Bool.false_eq_true, ite_true, ite_false, ↓exAny, ↓isLst_l, Int.toNat_natCast, Int.reduceToNat, dVar_e, sPar_e, sPar3_e, sAug_e])))
--MI
theorem sixty_ok {a b c : List Int} (ha : RowOk a) (hb : RowOk b) (hc : RowOk c) : TabOk (sixty a b c) := ⟨(by decide : 1 ≤ 60), (by decide : 60 ≤ 60), fun r hr => by
  unfold sixty at hr
  obtain ⟨l, hl, hr⟩ := List.mem_flatten.mp hr
  have := List.eq_of_mem_replicate hl
  subst this
  simp only [List.mem_cons, List.not_mem_nil, or_false] at hr
  rcases hr with rfl | rfl | rfl
  · exact ha
  · exact hb
  · exact hc⟩
theorem twelve_ok {a b c : List Int} (ha : RowOk a) (hb : RowOk b) (hc : RowOk c) : TabOk (twelve a b c) := ⟨(by decide : 1 ≤ 12), (by decide : 12 ≤ 60), fun r hr => by
  unfold twelve at hr
  simp only [List.mem_cons, List.not_mem_nil, or_false] at hr
  rcases hr with rfl | rfl | rfl | rfl | rfl | rfl | rfl | rfl | rfl | rfl | rfl | rfl <;> assumption⟩
theorem p__law_sixty (C I : Addr) : Rets (sp__law_sixty C) (T__law_sixty C I) N__law_sixty := by
  rintro _ S Φ Ψ ⟨d, a, b, c, rfl, ha, hb, hc, q⟩
  unfold T__law_sixty
  walk_at "dl"
  refine ⟨rfl, fun h => h.elim, small (show 60 ≤ 1000000 by decide), S.length, d, (sixty a b c).map rowD, sixty a b c, rfl, rows_map _, .inl ⟨get_at, sixty_ok ha hb hc, rfl, ret_now ?_⟩⟩
  rw [set_at, len1']
  exact q
theorem p__law_twelve (C I : Addr) : Rets (sp__law_twelve C) (T__law_twelve C I) N__law_twelve := by
  rintro _ S Φ Ψ ⟨d, a, b, c, rfl, ha, hb, hc, q⟩
  unfold T__law_twelve
  walk_at "dl"
  refine ⟨rfl, fun h => h.elim, small (show 12 ≤ 1000000 by decide), S.length, d, (twelve a b c).map rowD, twelve a b c, rfl, rows_map _, .inl ⟨get_at, twelve_ok ha hb hc, rfl, ret_now ?_⟩⟩
  rw [set_at, len1']
  exact q
theorem p__law_sixty_one (C I : Addr) : Rets (sp__law_sixty_one C I) (T__law_sixty_one C I) N__law_sixty_one := by
  rintro _ S Φ Ψ ⟨d, a, b, c, rfl, ha, hb, hc, q⟩
  unfold T__law_sixty_one
  refine (show sSeq _ _ _ _ _ from ?_)
  unfold sTryB
  walk_at "dl"
  exact ⟨rfl, fun h => h.elim, small (show 61 ≤ 1000000 by decide), S.length, d, (sixty a b c ++ [a]).map rowD, sixty a b c ++ [a], rfl, rows_map _, .inr ⟨rfl, List.mem_singleton.mpr rfl, ret_now (q _)⟩⟩
end DL
namespace DL
open PySem PySem.Spec PyProof.Rows L2
local macro_rules | `(tactic| walk_at "dl") => `(tactic| ((try simp only [gstart, gwipe, List.set_set, List.map_cons, List.map_nil, List.length_cons, List.length_nil, rep_0, rep_s, List.cons_append, List.nil_append, List.set_cons_zero, List.set_cons_succ, Nat.reduceAdd, Nat.reduceSub, Nat.zero_add, Nat.add_zero]); (try simp only [↓dv0, ↓dv1, ↓dv2, ↓dv3, ↓dv4, ↓dv5, ↓dv6, ↓dv7, ↓dv8, ↓dv9, ↓dv10, ↓dv11, ↓dv12, ↓dv13, ↓dv14, ↓dv15, ↓dv16, ↓dv17, ↓dv18, ↓dv19, ↓dv20, ↓dv21, ↓dv22, ↓dv23, ↓dv24, ↓dv25, ↓dv26, ↓dv27, ↓dv28, ↓dv29, ↓dv30, ↓dv31, ↓dv32, ↓dv33, ↓dv34, ↓dv35, ↓dv36, ↓dv37, ↓dv38, ↓dv39, ↓nm0, ↓nm1, ↓nm2, ↓nm3, ↓nm4, ↓nm5, ↓nm6, ↓nm7, ↓nm8, ↓nm9, ↓nm10, ↓nm11, ↓nm12, ↓nm13, ↓nm14, ↓nm15, ↓nm16, ↓nm17, ↓nm18, ↓nm19, ↓nm20, ↓nm21, ↓nm22, ↓nm23, ↓nm24, ↓nm25, ↓nm26, ↓nm27, ↓nm28, ↓nm29, ↓nm30, ↓nm31, ↓nm32, ↓nm33, ↓nm34, ↓nm35, ↓nm36, ↓nm37, ↓nm38, ↓nm39, ↓sPar_n, ↓sPar3_n, ↓sAug_n, ↓reduceIte, List.set_set, ↓sNext_e, ↓sSeq_e, ↓sBrk_e, ↓sCnt_e, ↓sDrop_e, ↓sRet_e, ↓sRetN_e, ↓sIf_e, ↓sAsg_e, ↓sRaise_e, ↓nmG_e, ↓tupG_e, ↓gsNil_e, ↓gsCons_e, ↓subG_e, ↓dC_e, ↓dOp_e, ↓dUn_e, ↓dChain_e, ↓bOf_e, ↓bAnd_e, ↓bOr_e, ↓bNot_e, ↓bYes_e, ↓dAnd_e, ↓dOr_e, ↓dNot_e, ↓dIf_e, ↓lNil_e, ↓lCons_e, ↓dLst_e, ↓dDic0_e, ↓dDic1_e, ↓dLenSetG_e, dIsB_b, ↓dLstO_e, ↓dTup_e, ↓dCB_e, ↓dCall_e, ↓dCallK_e, ↓oNone_e, ↓oSome_e, ↓dSl_e, ↓dBM_e, ↓dBM0_e, ↓dFz_e, ↓dFz2_e, ↓d2_e, ↓dLone_e, ↓lStar_e, ↓dCallA_e, ↓dMakeA_e, ↓dMakeV_e, ↓dMethA_e, ↓dCMethA_e, ↓dPropA_e, ↓dFld_e, ↓sFldS_e, ↓dFzI_e, ↓fzID_o, ↓dM1_e, ↓dM0_e, ↓dRev_e, ↓mSplit_s, ↓mUpper_s, ↓exStr, ↓exZ, ↓cStrI_i, ↓cIntS_s, ↓iStrD_e, ↓dEqF_s, ↓dNeF_s, ↓dEqF_i, ↓dNeF_i, ↓dSign_s, ↓sRaiseI_e, ↓dXFld_e, ↓mPop_e, ↓dAddO_l, ↓dAddO_o, ↓dMk0_e, ↓sKeep_e, ↓sTryH_e, ↓dCVal_e, ↓dConI_e, ↓cLen_s, ↓dIx_s, ↓dSlS_s, ↓dAdd_s, ↓cTup_l, ↓pkP_e, ↓pkS_e, ↓lstG_e, ↓asI_i, ↓iSeq_e, ↓iTupD_e, ↓iRg1_e, ↓iRg2_e, ↓iZipD_e, iZrD_e, ↓iEnumD_e, ↓sFor_e, ↓dLc_e, ↓finF_e, ↓finO_e, ↓fzD_l, ↓fzD_i, ↓fzD_o, ↓fzD2_o, ↓dSetO_e, ↓mAppend_e, ↓mClear_e, ↓mReverse_e, List.map_cons, List.map_nil, List.length_cons, List.length_nil, rep_0, rep_s, List.cons_append, List.nil_append, List.getElem?_cons_zero, List.getElem?_cons_succ, List.set_cons_zero, List.set_cons_succ, Nat.reduceAdd, Nat.reduceSub, Nat.zero_add, Nat.add_zero, ↓exSS, ↓exB, ↓exI, ↓ex1, ↓ex2, ↓ex3, ↓exI1, ↓exI2, ↓exT, ↓exC, ↓exAs, ↓dAdd_i, ↓dAddI_i, ↓dSubI_i, ↓dLRg_e, ↓dIsiT_e, ↓dLenSet_e, ↓bChain3_e, ↓dLRg2_e, ↓iRg3_e, ↓dLc2_e, ↓dSlT_t, dAddT_t, ↓dNewK_e, ↓dDis1_e, ↓sDkp_e, ↓dDGet_e, ↓dDGet2_e, ↓dLVals_e, ↓kD_ex_i, ↓dSS_e, ↓dST_e, ↓dSI_e, ↓lsG_e, ↓dMulI_i, ↓dNew_e, ↓sDct_e, ↓dMulO_l, ↓dLRgO_e, ↓dAdd_l, ↓dSub_i, ↓dMul_i, ↓dMul_l, ↓dMod_i, ↓dDiv_i, ↓dPow_i, ↓dLt_i, ↓dLe_i, ↓dGt_i, ↓dGe_i, ↓uNeg_i, ↓cMax2_i, ↓cMin2_i, ↓cAbs_i, ↓cInt_i, ↓cInt_b, ↓cLen_l, ↓cLen_q, ↓cLen_t, ↓cList_l, ↓cList_q, ↓cList_t, ↓cListO_l, ↓cListO_t, ↓dIx_l, ↓dIx_q, ↓dIx_t, ↓dIx_o', ↓exS, ↓exL, at_1, at_2, at_3, at_4, ix30, ix31, ix32, ↓dSlL_l, ↓dSlL_q, ↓asQ_l, ↓asL_l, at_0, ↓isi_non_int, ↓isi_non_bool, ↓isi_non_str, ↓isi_non_list, ↓isi_non_tuple, ↓isi_non_dict, ↓isi_bl_int, ↓isi_bl_bool, ↓isi_bl_str, ↓isi_bl_list, ↓isi_bl_tuple, ↓isi_bl_dict, ↓isi_int_int, ↓isi_int_bool, ↓isi_int_str, ↓isi_int_list, ↓isi_int_tuple, ↓isi_int_dict, ↓isi_str_int, ↓isi_str_bool, ↓isi_str_str, ↓isi_str_list, ↓isi_str_tuple, ↓isi_str_dict, ↓isi_lst_int, ↓isi_lst_bool, ↓isi_lst_str, ↓isi_lst_list, ↓isi_lst_tuple, ↓isi_lst_dict, ↓isi_sq_int, ↓isi_sq_bool, ↓isi_sq_str, ↓isi_sq_list, ↓isi_sq_tuple, ↓isi_sq_dict, ↓isi_tup_int, ↓isi_tup_bool, ↓isi_tup_str, ↓isi_tup_list, ↓isi_tup_tuple, ↓isi_tup_dict, ↓isi_dic_int, ↓isi_dic_bool, ↓isi_dic_str, ↓isi_dic_list, ↓isi_dic_tuple, ↓isi_dic_dict, if_true, if_false, Bool.not_true, Bool.not_false, true_and, and_true, reduceCtorEq, Bool.true_eq_false, Bool.false_eq_true, ite_true, ite_false, ↓exAny, ↓isLst_l, Int.toNat_natCast, Int.reduceToNat, dVar_e, sPar_e, sPar3_e, sAug_e])))
local macro_rules | `(tactic| walk_at "dls") => `(tactic| ((try simp only [gstart, gwipe, List.set_set, List.map_cons, List.map_nil, List.length_cons, List.length_nil, rep_0, rep_s, List.cons_append, List.nil_append, List.set_cons_zero, List.set_cons_succ, Nat.reduceAdd, Nat.reduceSub, Nat.zero_add, Nat.add_zero]); (try simp only [*, ↓dv0, ↓dv1, ↓dv2, ↓dv3, ↓dv4, ↓dv5, ↓dv6, ↓dv7, ↓dv8, ↓dv9, ↓dv10, ↓dv11, ↓dv12, ↓dv13, ↓dv14, ↓dv15, ↓dv16, ↓dv17, ↓dv18, ↓dv19, ↓dv20, ↓dv21, ↓dv22, ↓dv23, ↓dv24, ↓dv25, ↓dv26, ↓dv27, ↓dv28, ↓dv29, ↓dv30, ↓dv31, ↓dv32, ↓dv33, ↓dv34, ↓dv35, ↓dv36, ↓dv37, ↓dv38, ↓dv39, ↓nm0, ↓nm1, ↓nm2, ↓nm3, ↓nm4, ↓nm5, ↓nm6, ↓nm7, ↓nm8, ↓nm9, ↓nm10, ↓nm11, ↓nm12, ↓nm13, ↓nm14, ↓nm15, ↓nm16, ↓nm17, ↓nm18, ↓nm19, ↓nm20, ↓nm21, ↓nm22, ↓nm23, ↓nm24, ↓nm25, ↓nm26, ↓nm27, ↓nm28, ↓nm29, ↓nm30, ↓nm31, ↓nm32, ↓nm33, ↓nm34, ↓nm35, ↓nm36, ↓nm37, ↓nm38, ↓nm39, ↓sPar_n, ↓sPar3_n, ↓sAug_n, ↓reduceIte, List.set_set, ↓sNext_e, ↓sSeq_e, ↓sBrk_e, ↓sCnt_e, ↓sDrop_e, ↓sRet_e, ↓sRetN_e, ↓sIf_e, ↓sAsg_e, ↓sRaise_e, ↓nmG_e, ↓tupG_e, ↓gsNil_e, ↓gsCons_e, ↓subG_e, ↓dC_e, ↓dOp_e, ↓dUn_e, ↓dChain_e, ↓bOf_e, ↓bAnd_e, ↓bOr_e, ↓bNot_e, ↓bYes_e, ↓dAnd_e, ↓dOr_e, ↓dNot_e, ↓dIf_e, ↓lNil_e, ↓lCons_e, ↓dLst_e, ↓dDic0_e, ↓dDic1_e, ↓dLenSetG_e, dIsB_b, ↓dLstO_e, ↓dTup_e, ↓dCB_e, ↓dCall_e, ↓dCallK_e, ↓oNone_e, ↓oSome_e, ↓dSl_e, ↓dBM_e, ↓dBM0_e, ↓dFz_e, ↓dFz2_e, ↓d2_e, ↓dLone_e, ↓lStar_e, ↓dCallA_e, ↓dMakeA_e, ↓dMakeV_e, ↓dMethA_e, ↓dCMethA_e, ↓dPropA_e, ↓dFld_e, ↓sFldS_e, ↓dFzI_e, ↓fzID_o, ↓dM1_e, ↓dM0_e, ↓dRev_e, ↓mSplit_s, ↓mUpper_s, ↓exStr, ↓exZ, ↓cStrI_i, ↓cIntS_s, ↓iStrD_e, ↓dEqF_s, ↓dNeF_s, ↓dEqF_i, ↓dNeF_i, ↓dSign_s, ↓sRaiseI_e, ↓dXFld_e, ↓mPop_e, ↓dAddO_l, ↓dAddO_o, ↓dMk0_e, ↓sKeep_e, ↓sTryH_e, ↓dCVal_e, ↓dConI_e, ↓cLen_s, ↓dIx_s, ↓dSlS_s, ↓dAdd_s, ↓cTup_l, ↓pkP_e, ↓pkS_e, ↓lstG_e, ↓asI_i, ↓iSeq_e, ↓iTupD_e, ↓iRg1_e, ↓iRg2_e, ↓iZipD_e, iZrD_e, ↓iEnumD_e, ↓sFor_e, ↓dLc_e, ↓finF_e, ↓finO_e, ↓fzD_l, ↓fzD_i, ↓fzD_o, ↓fzD2_o, ↓dSetO_e, ↓mAppend_e, ↓mClear_e, ↓mReverse_e, List.map_cons, List.map_nil, List.length_cons, List.length_nil, rep_0, rep_s, List.cons_append, List.nil_append, List.getElem?_cons_zero, List.getElem?_cons_succ, List.set_cons_zero, List.set_cons_succ, Nat.reduceAdd, Nat.reduceSub, Nat.zero_add, Nat.add_zero, ↓exSS, ↓exB, ↓exI, ↓ex1, ↓ex2, ↓ex3, ↓exI1, ↓exI2, ↓exT, ↓exC, ↓exAs, ↓dAdd_i, ↓dAddI_i, ↓dSubI_i, ↓dLRg_e, ↓dIsiT_e, ↓dLenSet_e, ↓bChain3_e, ↓dLRg2_e, ↓iRg3_e, ↓dLc2_e, ↓dSlT_t, dAddT_t, ↓dNewK_e, ↓dDis1_e, ↓sDkp_e, ↓dDGet_e, ↓dDGet2_e, ↓dLVals_e, ↓kD_ex_i, ↓dSS_e, ↓dST_e, ↓dSI_e, ↓lsG_e, ↓dMulI_i, ↓dNew_e, ↓sDct_e, ↓dMulO_l, ↓dLRgO_e, ↓dAdd_l, ↓dSub_i, ↓dMul_i, ↓dMul_l, ↓dMod_i, ↓dDiv_i, ↓dPow_i, ↓dLt_i, ↓dLe_i, ↓dGt_i, ↓dGe_i, ↓uNeg_i, ↓cMax2_i, ↓cMin2_i, ↓cAbs_i, ↓cInt_i, ↓cInt_b, ↓cLen_l, ↓cLen_q, ↓cLen_t, ↓cList_l, ↓cList_q, ↓cList_t, ↓cListO_l, ↓cListO_t, ↓dIx_l, ↓dIx_q, ↓dIx_t, ↓dIx_o', ↓exS, ↓exL, at_1, at_2, at_3, at_4, ix30, ix31, ix32, ↓dSlL_l, ↓dSlL_q, ↓asQ_l, ↓asL_l, at_0, ↓isi_non_int, ↓isi_non_bool, ↓isi_non_str, ↓isi_non_list, ↓isi_non_tuple, ↓isi_non_dict, ↓isi_bl_int, ↓isi_bl_bool, ↓isi_bl_str, ↓isi_bl_list, ↓isi_bl_tuple, ↓isi_bl_dict, ↓isi_int_int, ↓isi_int_bool, ↓isi_int_str, ↓isi_int_list, ↓isi_int_tuple, ↓isi_int_dict, ↓isi_str_int, ↓isi_str_bool, ↓isi_str_str, ↓isi_str_list, ↓isi_str_tuple, ↓isi_str_dict, ↓isi_lst_int, ↓isi_lst_bool, ↓isi_lst_str, ↓isi_lst_list, ↓isi_lst_tuple, ↓isi_lst_dict, ↓isi_sq_int, ↓isi_sq_bool, ↓isi_sq_str, ↓isi_sq_list, ↓isi_sq_tuple, ↓isi_sq_dict, ↓isi_tup_int, ↓isi_tup_bool, ↓isi_tup_str, ↓isi_tup_list, ↓isi_tup_tuple, ↓isi_tup_dict, ↓isi_dic_int, ↓isi_dic_bool, ↓isi_dic_str, ↓isi_dic_list, ↓isi_dic_tuple, ↓isi_dic_dict, if_true, if_false, Bool.not_true, Bool.not_false, true_and, and_true, reduceCtorEq, Bool.true_eq_false, Bool.false_eq_true, ite_true, ite_false, ↓exAny, ↓isLst_l, Int.toNat_natCast, Int.reduceToNat, dVar_e, sPar_e, sPar3_e, sAug_e])))
--MI
theorem all0 {α : Type} {P : α → Prop} : ∀ y ∈ ([] : List α), P y := fun _ h => nomatch h
theorem allc {α : Type} {P : α → Prop} {a : α} {l : List α} (h : P a) (h2 : ∀ y ∈ l, P y) : ∀ y ∈ a :: l, P y := fun y hy => by
  rcases List.mem_cons.mp hy with e | e
  · rw [e]; exact h
  · exact h2 y e
theorem get1 {S : Sto} {X Y Z : Cell} : (S ++ [X] ++ [Y] ++ [Z])[S.length + 1]? = some Y := by
  have ln : (S ++ [X]).length = S.length + 1 := by rw [List.length_append]; rfl
  rw [← ln]
  exact get_app get_at
theorem get2 {S : Sto} {X Y Z : Cell} : (S ++ [X] ++ [Y] ++ [Z])[S.length + 2]? = some Z := by
  have ln : (S ++ [X] ++ [Y]).length = S.length + 2 := by rw [List.length_append, List.length_append]; rfl
  rw [← ln]
  exact get_at
theorem page_new {C : Addr} {S : Sto} {d : D} {t : List (List Int)} (ok : TabOk t) : PageAt C (S ++ [.ins C (pageF d t (S.length + 1) (S.length + 2))] ++ [.lst []] ++ [.lst []]) S.length (S.length + 1) (S.length + 2) d t [] [] :=
  ⟨get_app (get_app get_at), get1, get2, by omega, by omega, by omega, ok, (fun _ z => nomatch z), by decide, by decide, (fun _ z => nomatch z), .nil⟩
theorem Frm.kq0 {A : List Nat} {S S1 S2 : Sto} (a : Frm A S S1) {p e m : Nat} (k : Kq p e m S1 S2) (h1 : S.length ≤ p) (h2 : S.length ≤ e) (h3 : S.length ≤ m) : Frm A S S2 := ⟨Nat.le_trans a.len k.len, fun j c hj q => by
  have := get_lt q
  exact k.get j c (by omega) (by omega) (by omega) (a.get j c hj q)⟩
theorem fit30 {t : List (List Int)} (ok : TabOk t) : Fit 2 30000 (tabP t) := ok.fit.mono (by decide) (by decide)
theorem p__law_many_right (C Cs I : Addr) : Rets (sp__law_many_right Cs C) (T__law_many_right C Cs I) N__law_many_right := by
  rintro _ S Φ Ψ ⟨ks, g, l, a, b, c, rfl, lok, ha, hb, hc, q⟩
  unfold T__law_many_right
  walk_at "dl"
  have ok60 := sixty_ok ha hb hc
  have ok12 := twelve_ok ha hb hc
  refine ⟨_, a, b, c, rfl, ha, hb, hc, ?_⟩
  unfold newPage
  have pg1 := page_new (C := C) (S := S) (d := styD Cs ks g l) ok60
  have fr1 : Frm [] S (S ++ [Cell.ins C (pageF (styD Cs ks g l) (sixty a b c) (S.length + 1) (S.length + 2))] ++ [Cell.lst []] ++ [Cell.lst []]) := ((Frm.refl.app _).app _).app _
  have lt1 : (S ++ [Cell.ins C (pageF (styD Cs ks g l) (sixty a b c) (S.length + 1) (S.length + 2))] ++ [Cell.lst []] ++ [Cell.lst []]).length = S.length + 3 := len3'
  generalize S ++ [Cell.ins C (pageF (styD Cs ks g l) (sixty a b c) (S.length + 1) (S.length + 2))] ++ [Cell.lst []] ++ [Cell.lst []] = S1 at pg1 fr1 lt1 ⊢
  refine ⟨_, a, b, c, rfl, ha, hb, hc, ?_⟩
  unfold newPage
  have pg2 := page_new (C := C) (S := S1) (d := styD Cs ks g l) ok12
  have pg12 := (((pg1.app (T := [Cell.ins C (pageF (styD Cs ks g l) (twelve a b c) (S1.length + 1) (S1.length + 2))])).app (T := [Cell.lst []]))).app (T := [Cell.lst []])
  have fr2 := ((fr1.app [Cell.ins C (pageF (styD Cs ks g l) (twelve a b c) (S1.length + 1) (S1.length + 2))]).app [Cell.lst []]).app [Cell.lst []]
  generalize S1 ++ [Cell.ins C (pageF (styD Cs ks g l) (twelve a b c) (S1.length + 1) (S1.length + 2))] ++ [Cell.lst []] ++ [Cell.lst []] = S2 at pg2 pg12 fr2 ⊢
  generalize S1.length = L1 at *
  refine ⟨_, pg12.asi, _, _, _, _, _, rfl, pg12.obj, by have := ok60.hi; omega, ?_⟩
  unfold newTab
  have pg3 := (pg2.app (T := cellsD (sixty a b c))).app (T := [.lst (ownsD S2.length (sixty a b c).length)])
  have pg13 := (pg12.app (T := cellsD (sixty a b c))).app (T := [.lst (ownsD S2.length (sixty a b c).length)])
  have fr3 := (fr2.app (cellsD (sixty a b c))).app [.lst (ownsD S2.length (sixty a b c).length)]
  have rd1 : ∀ T, PyR (S2 ++ cellsD (sixty a b c) ++ [.lst (ownsD S2.length (sixty a b c).length)] ++ T) (.own (S2.length + (sixty a b c).length)) (tabP (sixty a b c)) := fun T => read_new rfl
  generalize S2 ++ cellsD (sixty a b c) ++ [.lst (ownsD S2.length (sixty a b c).length)] = S3 at pg3 pg13 fr3 rd1 ⊢
  refine ⟨_, pg3.asi, _, _, _, _, _, rfl, pg3.obj, by have := ok12.hi; omega, ?_⟩
  unfold newTab
  have pg14 := (pg13.app (T := cellsD (twelve a b c))).app (T := [.lst (ownsD S3.length (twelve a b c).length)])
  have fr4 := (fr3.app (cellsD (twelve a b c))).app [.lst (ownsD S3.length (twelve a b c).length)]
  have rd2 : PyR (S3 ++ cellsD (twelve a b c) ++ [.lst (ownsD S3.length (twelve a b c).length)]) (.own (S3.length + (twelve a b c).length)) (tabP (twelve a b c)) := by
    have := read_new (S := S3) (X := cellsD (twelve a b c)) (t := twelve a b c) (T := []) rfl
    rw [List.append_nil] at this
    exact this
  have rd3 := rd1 (cellsD (twelve a b c) ++ [.lst (ownsD S3.length (twelve a b c).length)])
  rw [← List.append_assoc] at rd3
  generalize S3 ++ cellsD (twelve a b c) ++ [.lst (ownsD S3.length (twelve a b c).length)] = S4 at pg14 fr4 rd2 rd3 ⊢
  have f2 : Fit 3 (2 + 2 * (30000 + 2)) (.list [tabP (sixty a b c), tabP (twelve a b c)]) := fit_list (allc (fit30 ok60) (allc (fit30 ok12) all0)) (Nat.le_refl 2)
  refine ⟨small (by decide), cRepr_at (a := "list") rfl (.inl rfl) (.lst (.cons rd3 (.cons rd2 .nil))) f2 ⟨small (by decide), by decide, by decide, small (by decide), small (by decide), small (by decide), ?_⟩⟩
  have e60 : D.lst (List.replicate 20 [rowD a, rowD b, rowD c]).flatten = tabD (sixty a b c) := rfl
  have e12 : D.lst [rowD a, rowD b, rowD c, rowD c, rowD b, rowD a, rowD b, rowD b, rowD a, rowD c, rowD a, rowD c] = tabD (twelve a b c) := rfl
  rw [e60, e12]
  refine cRepr_at (a := "list") rfl (.inl rfl) (.lst (.cons (pyr_tab _) (.cons (pyr_tab _) .nil))) f2 (nes_at f2 f2 ⟨false, by simp, ?_⟩)
  rw [if_neg (by decide)]
  refine ⟨_, pg14.asi, rfl, _, _, _, _, _, _, _, ks, g, l, rfl, pg14, rfl, lok, small (by decide), by decide, by decide, small (by decide), ?_⟩
  refine ⟨_, _, sixty a b c, rfl, tabS_l _, ok60, ?_⟩
  have pg5 := page_new (C := C) (S := S4) (d := styD Cs ks g l) ok60
  have pg15 := (((pg14.app (T := [Cell.ins C (pageF (styD Cs ks g l) (sixty a b c) (S4.length + 1) (S4.length + 2))])).app (T := [Cell.lst []]))).app (T := [Cell.lst []])
  have fr5 := ((fr4.app [Cell.ins C (pageF (styD Cs ks g l) (sixty a b c) (S4.length + 1) (S4.length + 2))]).app [Cell.lst []]).app [Cell.lst []]
  generalize S4 ++ [Cell.ins C (pageF (styD Cs ks g l) (sixty a b c) (S4.length + 1) (S4.length + 2))] ++ [Cell.lst []] ++ [Cell.lst []] = S5 at pg5 pg15 fr5 ⊢
  refine ⟨_, pg5.asi, rfl, _, _, _, _, _, _, _, ks, g, l, rfl, pg5, rfl, lok, ?_⟩
  walk_at "dl"
  rw [if_neg (by simp)]
  refine ⟨_, a, b, c, rfl, ha, hb, hc, fun Z => ⟨true, rfl, ?_⟩⟩
  rw [if_neg (by decide)]
  have pg6 := pg15.app (T := Z)
  have fr6 := fr5.app Z
  generalize S5 ++ Z = S6 at pg6 fr6 ⊢
  obtain ⟨c0, cs, rfl⟩ : ∃ c0 cs, c = c0 :: cs := by
    cases c with
    | nil => exact absurd hc.lo (by decide)
    | cons c0 cs => exact ⟨c0, cs, rfl⟩
  have ec : (cutD (List.map D.int (c0 :: cs)) (some 1) none) = cs.map D.int := (cut_from (j := 1)).trans (by rw [List.map_cons]; rfl)
  have lc := hc.hi
  rw [List.length_cons] at lc
  refine ⟨_, pg6.asi, rfl, S.length, _, _, _, sixty a b (c0 :: cs), [], [], 59, 0, 6, rfl, pg6, by decide, by show 59 < 60; decide, by show 0 < cs.length + 1; omega, by decide, by decide, fun S7 m7 pg7 kq hm => ?_⟩
  have fr7 := fr6.kq0 kq (Nat.le_refl _) (by omega) (by omega)
  have ok7 := pg7.ok
  have fit := ok7.fit
  refine ⟨_, pg7.asi, table_repr pg7 fun Z => ?_⟩
  rw [ec]
  refine ⟨small (by decide), by decide, by decide, small (by decide), small (by decide), small (by rw [List.length_map]; omega), small (by decide), small (show 57 + 3 ≤ 1000000 by decide), ?_⟩
  have ed : D.lst ((List.replicate 19 [rowD a, rowD b, rowD (c0 :: cs)]).flatten ++ [rowD a, rowD b, D.lst (D.int 6 :: cs.map D.int)]) = tabD (setAt (sixty a b (c0 :: cs)) 59 0 6) := rfl
  rw [ed]
  exact cRepr_at (a := "list") rfl (.inl rfl) (pyr_tab _) fit (eqs_at fit fit (ret_now (by rw [beq_self_eq_true]; exact q _ (fr7.app Z))))
end DL
namespace DL
open PySem PySem.Spec PyProof.Rows L2
local macro_rules | `(tactic| walk_at "dl") => `(tactic| ((try simp only [gstart, gwipe, List.set_set, List.map_cons, List.map_nil, List.length_cons, List.length_nil, rep_0, rep_s, List.cons_append, List.nil_append, List.set_cons_zero, List.set_cons_succ, Nat.reduceAdd, Nat.reduceSub, Nat.zero_add, Nat.add_zero]); (try simp only [↓dv0, ↓dv1, ↓dv2, ↓dv3, ↓dv4, ↓dv5, ↓dv6, ↓dv7, ↓dv8, ↓dv9, ↓dv10, ↓dv11, ↓dv12, ↓dv13, ↓dv14, ↓dv15, ↓dv16, ↓dv17, ↓dv18, ↓dv19, ↓dv20, ↓dv21, ↓dv22, ↓dv23, ↓dv24, ↓dv25, ↓dv26, ↓dv27, ↓dv28, ↓dv29, ↓dv30, ↓dv31, ↓dv32, ↓dv33, ↓dv34, ↓dv35, ↓dv36, ↓dv37, ↓dv38, ↓dv39, ↓nm0, ↓nm1, ↓nm2, ↓nm3, ↓nm4, ↓nm5, ↓nm6, ↓nm7, ↓nm8, ↓nm9, ↓nm10, ↓nm11, ↓nm12, ↓nm13, ↓nm14, ↓nm15, ↓nm16, ↓nm17, ↓nm18, ↓nm19, ↓nm20, ↓nm21, ↓nm22, ↓nm23, ↓nm24, ↓nm25, ↓nm26, ↓nm27, ↓nm28, ↓nm29, ↓nm30, ↓nm31, ↓nm32, ↓nm33, ↓nm34, ↓nm35, ↓nm36, ↓nm37, ↓nm38, ↓nm39, ↓sPar_n, ↓sPar3_n, ↓sAug_n, ↓reduceIte, List.set_set, ↓sNext_e, ↓sSeq_e, ↓sBrk_e, ↓sCnt_e, ↓sDrop_e, ↓sRet_e, ↓sRetN_e, ↓sIf_e, ↓sAsg_e, ↓sRaise_e, ↓nmG_e, ↓tupG_e, ↓gsNil_e, ↓gsCons_e, ↓subG_e, ↓dC_e, ↓dOp_e, ↓dUn_e, ↓dChain_e, ↓bOf_e, ↓bAnd_e, ↓bOr_e, ↓bNot_e, ↓bYes_e, ↓dAnd_e, ↓dOr_e, ↓dNot_e, ↓dIf_e, ↓lNil_e, ↓lCons_e, ↓dLst_e, ↓dDic0_e, ↓dDic1_e, ↓dLenSetG_e, dIsB_b, ↓dLstO_e, ↓dTup_e, ↓dCB_e, ↓dCall_e, ↓dCallK_e, ↓oNone_e, ↓oSome_e, ↓dSl_e, ↓dBM_e, ↓dBM0_e, ↓dFz_e, ↓dFz2_e, ↓d2_e, ↓dLone_e, ↓lStar_e, ↓dCallA_e, ↓dMakeA_e, ↓dMakeV_e, ↓dMethA_e, ↓dCMethA_e, ↓dPropA_e, ↓dFld_e, ↓sFldS_e, ↓dFzI_e, ↓fzID_o, ↓dM1_e, ↓dM0_e, ↓dRev_e, ↓mSplit_s, ↓mUpper_s, ↓exStr, ↓exZ, ↓cStrI_i, ↓cIntS_s, ↓iStrD_e, ↓dEqF_s, ↓dNeF_s, ↓dEqF_i, ↓dNeF_i, ↓dSign_s, ↓sRaiseI_e, ↓dXFld_e, ↓mPop_e, ↓dAddO_l, ↓dAddO_o, ↓dMk0_e, ↓sKeep_e, ↓sTryH_e, ↓dCVal_e, ↓dConI_e, ↓cLen_s, ↓dIx_s, ↓dSlS_s, ↓dAdd_s, ↓cTup_l, ↓pkP_e, ↓pkS_e, ↓lstG_e, ↓asI_i, ↓iSeq_e, ↓iTupD_e, ↓iRg1_e, ↓iRg2_e, ↓iZipD_e, iZrD_e, ↓iEnumD_e, ↓sFor_e, ↓dLc_e, ↓finF_e, ↓finO_e, ↓fzD_l, ↓fzD_i, ↓fzD_o, ↓fzD2_o, ↓dSetO_e, ↓mAppend_e, ↓mClear_e, ↓mReverse_e, List.map_cons, List.map_nil, List.length_cons, List.length_nil, rep_0, rep_s, List.cons_append, List.nil_append, List.getElem?_cons_zero, List.getElem?_cons_succ, List.set_cons_zero, List.set_cons_succ, Nat.reduceAdd, Nat.reduceSub, Nat.zero_add, Nat.add_zero, ↓exSS, ↓exB, ↓exI, ↓ex1, ↓ex2, ↓ex3, ↓exI1, ↓exI2, ↓exT, ↓exC, ↓exAs, ↓dAdd_i, ↓dAddI_i, ↓dSubI_i, ↓dLRg_e, ↓dIsiT_e, ↓dLenSet_e, ↓bChain3_e, ↓dLRg2_e, ↓iRg3_e, ↓dLc2_e, ↓dSlT_t, dAddT_t, ↓dNewK_e, ↓dDis1_e, ↓sDkp_e, ↓dDGet_e, ↓dDGet2_e, ↓dLVals_e, ↓kD_ex_i, ↓dSS_e, ↓dST_e, ↓dSI_e, ↓lsG_e, ↓dMulI_i, ↓dNew_e, ↓sDct_e, ↓dMulO_l, ↓dLRgO_e, ↓dAdd_l, ↓dSub_i, ↓dMul_i, ↓dMul_l, ↓dMod_i, ↓dDiv_i, ↓dPow_i, ↓dLt_i, ↓dLe_i, ↓dGt_i, ↓dGe_i, ↓uNeg_i, ↓cMax2_i, ↓cMin2_i, ↓cAbs_i, ↓cInt_i, ↓cInt_b, ↓cLen_l, ↓cLen_q, ↓cLen_t, ↓cList_l, ↓cList_q, ↓cList_t, ↓cListO_l, ↓cListO_t, ↓dIx_l, ↓dIx_q, ↓dIx_t, ↓dIx_o', ↓exS, ↓exL, at_1, at_2, at_3, at_4, ix30, ix31, ix32, ↓dSlL_l, ↓dSlL_q, ↓asQ_l, ↓asL_l, at_0, ↓isi_non_int, ↓isi_non_bool, ↓isi_non_str, ↓isi_non_list, ↓isi_non_tuple, ↓isi_non_dict, ↓isi_bl_int, ↓isi_bl_bool, ↓isi_bl_str, ↓isi_bl_list, ↓isi_bl_tuple, ↓isi_bl_dict, ↓isi_int_int, ↓isi_int_bool, ↓isi_int_str, ↓isi_int_list, ↓isi_int_tuple, ↓isi_int_dict, ↓isi_str_int, ↓isi_str_bool, ↓isi_str_str, ↓isi_str_list, ↓isi_str_tuple, ↓isi_str_dict, ↓isi_lst_int, ↓isi_lst_bool, ↓isi_lst_str, ↓isi_lst_list, ↓isi_lst_tuple, ↓isi_lst_dict, ↓isi_sq_int, ↓isi_sq_bool, ↓isi_sq_str, ↓isi_sq_list, ↓isi_sq_tuple, ↓isi_sq_dict, ↓isi_tup_int, ↓isi_tup_bool, ↓isi_tup_str, ↓isi_tup_list, ↓isi_tup_tuple, ↓isi_tup_dict, ↓isi_dic_int, ↓isi_dic_bool, ↓isi_dic_str, ↓isi_dic_list, ↓isi_dic_tuple, ↓isi_dic_dict, if_true, if_false, Bool.not_true, Bool.not_false, true_and, and_true, reduceCtorEq, Bool.true_eq_false, Bool.false_eq_true, ite_true, ite_false, ↓exAny, ↓isLst_l, Int.toNat_natCast, Int.reduceToNat, dVar_e, sPar_e, sPar3_e, sAug_e])))
local macro_rules | `(tactic| walk_at "dls") => `(tactic| ((try simp only [gstart, gwipe, List.set_set, List.map_cons, List.map_nil, List.length_cons, List.length_nil, rep_0, rep_s, List.cons_append, List.nil_append, List.set_cons_zero, List.set_cons_succ, Nat.reduceAdd, Nat.reduceSub, Nat.zero_add, Nat.add_zero]); (try simp only [*, ↓dv0, ↓dv1, ↓dv2, ↓dv3, ↓dv4, ↓dv5, ↓dv6, ↓dv7, ↓dv8, ↓dv9, ↓dv10, ↓dv11, ↓dv12, ↓dv13, ↓dv14, ↓dv15, ↓dv16, ↓dv17, ↓dv18, ↓dv19, ↓dv20, ↓dv21, ↓dv22, ↓dv23, ↓dv24, ↓dv25, ↓dv26, ↓dv27, ↓dv28, ↓dv29, ↓dv30, ↓dv31, ↓dv32, ↓dv33, ↓dv34, ↓dv35, ↓dv36, ↓dv37, ↓dv38, ↓dv39, ↓nm0, ↓nm1, ↓nm2, ↓nm3, ↓nm4, ↓nm5, ↓nm6, ↓nm7, ↓nm8, ↓nm9, ↓nm10, ↓nm11, ↓nm12, ↓nm13, ↓nm14, ↓nm15, ↓nm16, ↓nm17, ↓nm18, ↓nm19, ↓nm20, ↓nm21, ↓nm22, ↓nm23, ↓nm24, ↓nm25, ↓nm26, ↓nm27, ↓nm28, ↓nm29, ↓nm30, ↓nm31, ↓nm32, ↓nm33, ↓nm34, ↓nm35, ↓nm36, ↓nm37, ↓nm38, ↓nm39, ↓sPar_n, ↓sPar3_n, ↓sAug_n, ↓reduceIte, List.set_set, ↓sNext_e, ↓sSeq_e, ↓sBrk_e, ↓sCnt_e, ↓sDrop_e, ↓sRet_e, ↓sRetN_e, ↓sIf_e, ↓sAsg_e, ↓sRaise_e, ↓nmG_e, ↓tupG_e, ↓gsNil_e, ↓gsCons_e, ↓subG_e, ↓dC_e, ↓dOp_e, ↓dUn_e, ↓dChain_e, ↓bOf_e, ↓bAnd_e, ↓bOr_e, ↓bNot_e, ↓bYes_e, ↓dAnd_e, ↓dOr_e, ↓dNot_e, ↓dIf_e, ↓lNil_e, ↓lCons_e, ↓dLst_e, ↓dDic0_e, ↓dDic1_e, ↓dLenSetG_e, dIsB_b, ↓dLstO_e, ↓dTup_e, ↓dCB_e, ↓dCall_e, ↓dCallK_e, ↓oNone_e, ↓oSome_e, ↓dSl_e, ↓dBM_e, ↓dBM0_e, ↓dFz_e, ↓dFz2_e, ↓d2_e, ↓dLone_e, ↓lStar_e, ↓dCallA_e, ↓dMakeA_e, ↓dMakeV_e, ↓dMethA_e, ↓dCMethA_e, ↓dPropA_e, ↓dFld_e, ↓sFldS_e, ↓dFzI_e, ↓fzID_o, ↓dM1_e, ↓dM0_e, ↓dRev_e, ↓mSplit_s, ↓mUpper_s, ↓exStr, ↓exZ, ↓cStrI_i, ↓cIntS_s, ↓iStrD_e, ↓dEqF_s, ↓dNeF_s, ↓dEqF_i, ↓dNeF_i, ↓dSign_s, ↓sRaiseI_e, ↓dXFld_e, ↓mPop_e, ↓dAddO_l, ↓dAddO_o, ↓dMk0_e, ↓sKeep_e, ↓sTryH_e, ↓dCVal_e, ↓dConI_e, ↓cLen_s, ↓dIx_s, ↓dSlS_s, ↓dAdd_s, ↓cTup_l, ↓pkP_e, ↓pkS_e, ↓lstG_e, ↓asI_i, ↓iSeq_e, ↓iTupD_e, ↓iRg1_e, ↓iRg2_e, ↓iZipD_e, iZrD_e, ↓iEnumD_e, ↓sFor_e, ↓dLc_e, ↓finF_e, ↓finO_e, ↓fzD_l, ↓fzD_i, ↓fzD_o, ↓fzD2_o, ↓dSetO_e, ↓mAppend_e, ↓mClear_e, ↓mReverse_e, List.map_cons, List.map_nil, List.length_cons, List.length_nil, rep_0, rep_s, List.cons_append, List.nil_append, List.getElem?_cons_zero, List.getElem?_cons_succ, List.set_cons_zero, List.set_cons_succ, Nat.reduceAdd, Nat.reduceSub, Nat.zero_add, Nat.add_zero, ↓exSS, ↓exB, ↓exI, ↓ex1, ↓ex2, ↓ex3, ↓exI1, ↓exI2, ↓exT, ↓exC, ↓exAs, ↓dAdd_i, ↓dAddI_i, ↓dSubI_i, ↓dLRg_e, ↓dIsiT_e, ↓dLenSet_e, ↓bChain3_e, ↓dLRg2_e, ↓iRg3_e, ↓dLc2_e, ↓dSlT_t, dAddT_t, ↓dNewK_e, ↓dDis1_e, ↓sDkp_e, ↓dDGet_e, ↓dDGet2_e, ↓dLVals_e, ↓kD_ex_i, ↓dSS_e, ↓dST_e, ↓dSI_e, ↓lsG_e, ↓dMulI_i, ↓dNew_e, ↓sDct_e, ↓dMulO_l, ↓dLRgO_e, ↓dAdd_l, ↓dSub_i, ↓dMul_i, ↓dMul_l, ↓dMod_i, ↓dDiv_i, ↓dPow_i, ↓dLt_i, ↓dLe_i, ↓dGt_i, ↓dGe_i, ↓uNeg_i, ↓cMax2_i, ↓cMin2_i, ↓cAbs_i, ↓cInt_i, ↓cInt_b, ↓cLen_l, ↓cLen_q, ↓cLen_t, ↓cList_l, ↓cList_q, ↓cList_t, ↓cListO_l, ↓cListO_t, ↓dIx_l, ↓dIx_q, ↓dIx_t, ↓dIx_o', ↓exS, ↓exL, at_1, at_2, at_3, at_4, ix30, ix31, ix32, ↓dSlL_l, ↓dSlL_q, ↓asQ_l, ↓asL_l, at_0, ↓isi_non_int, ↓isi_non_bool, ↓isi_non_str, ↓isi_non_list, ↓isi_non_tuple, ↓isi_non_dict, ↓isi_bl_int, ↓isi_bl_bool, ↓isi_bl_str, ↓isi_bl_list, ↓isi_bl_tuple, ↓isi_bl_dict, ↓isi_int_int, ↓isi_int_bool, ↓isi_int_str, ↓isi_int_list, ↓isi_int_tuple, ↓isi_int_dict, ↓isi_str_int, ↓isi_str_bool, ↓isi_str_str, ↓isi_str_list, ↓isi_str_tuple, ↓isi_str_dict, ↓isi_lst_int, ↓isi_lst_bool, ↓isi_lst_str, ↓isi_lst_list, ↓isi_lst_tuple, ↓isi_lst_dict, ↓isi_sq_int, ↓isi_sq_bool, ↓isi_sq_str, ↓isi_sq_list, ↓isi_sq_tuple, ↓isi_sq_dict, ↓isi_tup_int, ↓isi_tup_bool, ↓isi_tup_str, ↓isi_tup_list, ↓isi_tup_tuple, ↓isi_tup_dict, ↓isi_dic_int, ↓isi_dic_bool, ↓isi_dic_str, ↓isi_dic_list, ↓isi_dic_tuple, ↓isi_dic_dict, if_true, if_false, Bool.not_true, Bool.not_false, true_and, and_true, reduceCtorEq, Bool.true_eq_false, Bool.false_eq_true, ite_true, ite_false, ↓exAny, ↓isLst_l, Int.toNat_natCast, Int.reduceToNat, dVar_e, sPar_e, sPar3_e, sAug_e])))
--MI
theorem pyra_snoc {S : Sto} {d : D} {p : PyData} (h : PyR S d p) : ∀ {ds : List D} {ps : List PyData}, PyRA S ds ps → PyRA S (ds ++ [d]) (ps ++ [p])
  | _, _, .nil => .cons h .nil
  | _, _, .cons a b => .cons a (pyra_snoc h b)
/-- [p.table for p in pages] -/
theorem lc_tabs {C : Addr} {src : Src} {G : TGd} {Te : TD} {vs : List Nat} {Fin : List D → Sto → KD → Prop} {Γ : Gam} {S : Sto} {Φ : KD} (ps : List (Nat × List (List Int))) (hl : ps.length ≤ 1000000) (hsrc : ∀ Z, src (S ++ Z) = some (ps.map fun p => D.own p.1))
    (hok : ∀ p ∈ ps, ∃ e m d es ms, PageAt C S p.1 e m d p.2 es ms)
    (hs : ∀ p ∈ ps, ∀ Z, ∀ R : KD, ∀ fs, asI (S ++ Z) (.own p.1) = some (C, fs) → sp_Page_table C [.own p.1] (S ++ Z) R (fun _ _ => False) → G (.own p.1) (gwipe Γ vs) (S ++ Z) fun Γ2 S2 => Te Γ2 S2 R (fun _ _ => False))
    (hd : ∀ Z acc, (∀ T, PyRA (S ++ Z ++ T) acc (ps.map fun p => tabP p.2)) → Fin acc (S ++ Z) Φ) : lcP src G bYes Te vs Fin Γ S Φ := by
  refine lc_s (ds := ps.map fun p => D.own p.1) (fun i acc S' => ∃ Z, S' = S ++ Z ∧ ∀ T, PyRA (S ++ Z ++ T) acc ((ps.take i).map fun p => tabP p.2)) (small (by rw [List.length_map]; exact hl)) ⟨[], by rw [List.append_nil], fun T => .nil⟩ (fun i acc S' hp => by obtain ⟨Z, rfl, _⟩ := hp; exact hsrc Z) (fun i acc S' hi hp => ?_) fun acc S' hp => ?_
  · obtain ⟨Z, rfl, hr⟩ := hp
    rw [List.length_map] at hi
    rw [List.getElem_map]
    obtain ⟨e, m, d, es, ms, pg⟩ := hok ps[i] (List.getElem_mem hi)
    have pg' := pg.app (T := Z)
    refine hs _ (List.getElem_mem hi) Z _ _ (asI_own pg'.obj) ⟨_, _, _, _, _, rfl, pg'.obj, by have := pg'.ok.hi; omega, ?_⟩
    unfold newTab
    refine ⟨Z ++ cellsD (ps[i]).2 ++ [.lst (ownsD (S ++ Z).length (ps[i]).2.length)], by simp only [List.append_assoc], fun T => ?_⟩
    rw [List.take_add_one, List.getElem?_eq_getElem hi, List.map_append]
    refine pyra_snoc ?_ ?_
    · have := read_new (S := S ++ Z) (X := cellsD (ps[i]).2) (t := (ps[i]).2) (T := T) rfl
      simpa only [List.append_assoc] using this
    · have := hr (cellsD (ps[i]).2 ++ [.lst (ownsD (S ++ Z).length (ps[i]).2.length)] ++ T)
      simpa only [List.append_assoc] using this
  · obtain ⟨Z, rfl, hr⟩ := hp
    rw [List.length_map, List.take_length] at hr
    exact hd Z acc hr
theorem init_page {C I : Addr} {S : Sto} {d : D} {t : List (List Int)} {Φ : KD} {Ψ : KX} (ok : TabOk t) (q : ∀ S1, PageAt C S1 S.length (S.length + 1) (S.length + 2) d t [] [] → Frm [] S S1 → S1.length = S.length + 3 → Φ S1 .non) : sp_Page___init__ C I [.own S.length, d, .tup (t.map rowD)] (S ++ [.ins C []]) Φ Ψ := by
  refine ⟨S.length, d, t.map rowD, t, rfl, rows_map t, .inl ⟨get_at, ok, ?_⟩⟩
  rw [set_at, len1' (S := S)]
  exact q _ (page_new ok) (((Frm.refl.app _).app _).app _) len3'
theorem p__law_single_right (Cs C I : Addr) : Rets sp__law_single_right (T__law_single_right Cs C I) N__law_single_right := by
  rintro _ S Φ Ψ ⟨h, n, rfl, fd, hn, q⟩
  unfold T__law_single_right
  refine seqJ (fun Γ S' => ∃ rows : List (List Int), Γ = (gstart N__law_single_right [.own h] |>.set 1 (some (.ins Cs (styF ["left"] 1 0))) |>.set 2 (some (.lst (rows.map rowD)))) ∧ rows.length = 7 ∧ (∀ r ∈ rows, RowOk r) ∧ FdAt S' h (n + 2000)) (fun N hN => ?_) fun Γ S' hp => ?_
  · walk_at "dl"
    refine ⟨rfl, fun h => h.elim, small (show 0 ≤ 1000000 by decide), S.length, [], 1, 0, rfl, get_at, ⟨by decide, by decide, by decide, by decide, by decide, by decide, by decide⟩, rfl, ?_⟩
    rw [set_at]
    refine ⟨Cs, styF (kindsOr []) 1 0, get_at, by decide, by decide, ?_⟩
    rw [set_at]
    refine lc_r0 (fun i acc S' => ∃ rows : List (List Int), acc = rows.map rowD ∧ rows.length = i ∧ (∀ r ∈ rows, RowOk r) ∧ FdAt S' h (n + 201 * i)) (small (by decide)) ⟨[], rfl, rfl, fun _ z => (nomatch z), fd.app⟩ (fun i acc S' hi hp => ?_) fun acc S' hp => ?_
    · obtain ⟨rows, rfl, hl, hr, f⟩ := hp
      walk_at "dl"
      refine roll_at f (by decide) fun S3 v f3 g3 hv0 hv1 => ?_
      refine ⟨h, _, 12, v, rfl, g3, by omega, by decide, by decide, hv0, hv1, fun S4 r f4 h1 h2 h3 => ?_⟩
      have g4 := f4.at g3.lt
      refine ⟨_, get_at, ?_⟩
      rw [set_at]
      refine ⟨rows ++ [r], by rw [List.map_append]; rfl, by rw [List.length_append, hl] <;> rfl, fun y hy => ?_, (g4.app).mono (by omega)⟩
      rcases List.mem_append.mp hy with hy | hy
      · exact hr y hy
      · rw [List.mem_singleton.mp hy]; exact ⟨h1, h2, h3⟩
    · obtain ⟨rows, rfl, hl, hr, f⟩ := hp
      walk_at "dl"
      exact hN _ _ ⟨rows, rfl, hl, hr, f.mono (by omega)⟩
  · obtain ⟨rows, rfl, hl, hr, f⟩ := hp
    match rows, hl, hr with
    | [r0, r1, r2, r3, r4, r5, r6], _, hr =>
    walk_at "dl"
    have k0 : RowOk r0 := hr _ (by simp)
    have k1 : RowOk r1 := hr _ (by simp)
    have k2 : RowOk r2 := hr _ (by simp)
    have k3 : RowOk r3 := hr _ (by simp)
    have k4 : RowOk r4 := hr _ (by simp)
    have k5 : RowOk r5 := hr _ (by simp)
    have k6 : RowOk r6 := hr _ (by simp)
    have o1 : TabOk [r0] := ⟨(by decide : 1 ≤ 1), (by decide : 1 ≤ 60), fun r hr => by simp only [List.mem_cons, List.not_mem_nil, or_false] at hr; rcases hr with rfl; assumption⟩
    have o2 : TabOk [r0, r1] := ⟨(by decide : 1 ≤ 2), (by decide : 2 ≤ 60), fun r hr => by simp only [List.mem_cons, List.not_mem_nil, or_false] at hr; rcases hr with rfl | rfl <;> assumption⟩
    have o3 : TabOk [r0, r0, r2] := ⟨(by decide : 1 ≤ 3), (by decide : 3 ≤ 60), fun r hr => by simp only [List.mem_cons, List.not_mem_nil, or_false] at hr; rcases hr with rfl | rfl | rfl <;> assumption⟩
    have o4 : TabOk [r6, r5, r4, r3, r2, r1, r0] := ⟨(by decide : 1 ≤ 7), (by decide : 7 ≤ 60), fun r hr => by simp only [List.mem_cons, List.not_mem_nil, or_false] at hr; rcases hr with rfl | rfl | rfl | rfl | rfl | rfl | rfl <;> assumption⟩
    obtain ⟨W, hW⟩ : ∃ W, W = D.ins Cs (styF ["left"] 1 0) := ⟨_, rfl⟩
    have lokW : LookOk ["left"] 1 0 := ⟨by decide, by decide, by decide, by decide, by decide, by decide, by decide⟩
    rw [← hW]
    refine ⟨rfl, fun h => h.elim, small (show 1 ≤ 1000000 by decide), init_page (t := [r0]) o1 fun S1 pa fa la => ⟨rfl, ?_⟩⟩
    refine ⟨rfl, fun h => h.elim, small (show 2 ≤ 1000000 by decide), init_page (t := [r0, r1]) o2 fun S2 pb fb lb => ⟨rfl, ?_⟩⟩
    refine ⟨rfl, fun h => h.elim, small (show 3 ≤ 1000000 by decide), init_page (t := [r0, r0, r2]) o3 fun S3 pc fc lc => ⟨rfl, ?_⟩⟩
    have pa3 := (pa.fr fb (by simp) (by simp) (by simp)).fr fc (by simp) (by simp) (by simp)
    have pb3 := pb.fr fc (by simp) (by simp) (by simp)
    have f3 : FdAt S3 h (n + 2000) := ((f.fr fa (by simp)).fr fb (by simp)).fr fc (by simp)
    refine ⟨small (show 3 ≤ 1000000 by decide), isLst_at get_at, _, rfl, _, rfl, ?_⟩
    have fe := Frm.refl.app (A := []) (S := S3) [Cell.lst [.own S'.length, .own S1.length, .own S2.length]]
    have c4 : (S3 ++ [Cell.lst [.own S'.length, .own S1.length, .own S2.length]])[S3.length]? = some (.lst [.own S'.length, .own S1.length, .own S2.length]) := get_at
    have l4 : (S3 ++ [Cell.lst [.own S'.length, .own S1.length, .own S2.length]]).length = S3.length + 1 := len1'
    generalize S3 ++ [Cell.lst [.own S'.length, .own S1.length, .own S2.length]] = S4 at fe c4 l4 ⊢
    refine ⟨rfl, fun h => h.elim, small (show 7 ≤ 1000000 by decide), init_page (t := [r6, r5, r4, r3, r2, r1, r0]) o4 fun S5 pd fd5 ld => ⟨rfl, ?_⟩⟩
    have pa5 := (pa3.fr fe (by simp) (by simp) (by simp)).fr fd5 (by simp) (by simp) (by simp)
    have pb5 := (pb3.fr fe (by simp) (by simp) (by simp)).fr fd5 (by simp) (by simp) (by simp)
    have pc5 := (pc.fr fe (by simp) (by simp) (by simp)).fr fd5 (by simp) (by simp) (by simp)
    have f5 : FdAt S5 h (n + 2000) := (f3.fr fe (by simp)).fr fd5 (by simp)
    have c5 := fd5.get _ _ (by simp) c4
    have hh : h < S'.length := f.lt
    clear pa3 pb3 pa pb pc f3 fe c4 fd5 fa fb fc
    generalize S4.length = L4 at *
    generalize S3.length = L3 at *
    generalize S2.length = L2 at *
    generalize S1.length = L1 at *
    generalize S'.length = L0 at *
    subst la lb lc
    have c6 := List.getElem?_set_self (a := Cell.lst ([.own L0, .own (L0 + 3), .own (L0 + 3 + 3)] ++ [.own L4])) (get_lt c5)
    refine ⟨_, c5, small (show 4 ≤ 1000000 by decide), small (show 3 ≤ 1000000 by decide), small (show 4 ≤ 1000000 by decide), ⟨_, asQ_L (asL_at' c6)⟩, ?_⟩
    have fs : Frm [L0 + 3 + 3 + 3] S5 (S5.set (L0 + 3 + 3 + 3) (Cell.lst ([.own L0, .own (L0 + 3), .own (L0 + 3 + 3)] ++ [.own L4]))) := Frm.refl.set _ (.inl (by simp))
    have pa6 := pa5.fr fs (by simp only [List.mem_singleton]; omega) (by simp only [List.mem_singleton]; omega) (by simp only [List.mem_singleton]; omega)
    have pb6 := pb5.fr fs (by simp only [List.mem_singleton]; omega) (by simp only [List.mem_singleton]; omega) (by simp only [List.mem_singleton]; omega)
    have pc6 := pc5.fr fs (by simp only [List.mem_singleton]; omega) (by simp only [List.mem_singleton]; omega) (by simp only [List.mem_singleton]; omega)
    have pd6 := pd.fr fs (by simp only [List.mem_singleton]; omega) (by simp only [List.mem_singleton]; omega) (by simp only [List.mem_singleton]; omega)
    have f6 := f5.fr fs (by simp only [List.mem_singleton]; omega)
    generalize S5.set (L0 + 3 + 3 + 3) (Cell.lst ([.own L0, .own (L0 + 3), .own (L0 + 3 + 3)] ++ [.own L4])) = S6 at *
    clear pa5 pb5 pc5 pd f5 c5 fs
    refine lc_tabs (C := C) [(L0, [r0]), (L0 + 3, [r0, r1]), (L0 + 3 + 3, [r0, r0, r2]), (L4, [r6, r5, r4, r3, r2, r1, r0])] (show 4 ≤ 1000000 by decide) (fun Z => asQ_L (asL_at' (get_app c6))) (allc ⟨_, _, _, _, _, pa6⟩ (allc ⟨_, _, _, _, _, pb6⟩ (allc ⟨_, _, _, _, _, pc6⟩ (allc ⟨_, _, _, _, _, pd6⟩ all0)))) (fun p hp Z R fs ei hR => ?_) fun Z acc rd => ?_
    · walk_at "dl"
      exact ⟨_, ei, hR⟩
    walk_at "dl"
    have rd0 := rd []
    rw [List.append_nil] at rd0
    have q1 := fit30 o1
    have q2 := fit30 o2
    have q3 := fit30 o3
    have q4 := fit30 o4
    have fd4 : Fit 3 (2 + 4 * (30000 + 2)) (.list [tabP [r0], tabP [r0, r1], tabP [r0, r0, r2], tabP [r6, r5, r4, r3, r2, r1, r0]]) := fit_list (allc q1 (allc q2 (allc q3 (allc q4 all0)))) (Nat.le_refl 4)
    refine cRepr_at (a := "list") rfl (.inl rfl) (.lst rd0) fd4 ?_
    have e4 : D.lst [D.lst (cutD [rowD r0, rowD r1, rowD r2, rowD r3, rowD r4, rowD r5, rowD r6] none (some 1)), D.lst (cutD [rowD r0, rowD r1, rowD r2, rowD r3, rowD r4, rowD r5, rowD r6] none (some 2)), D.lst [rowD r0, rowD r0, rowD r2], D.lst [rowD r0, rowD r1, rowD r2, rowD r3, rowD r4, rowD r5, rowD r6].reverse] = D.lst [tabD [r0], tabD [r0, r1], tabD [r0, r0, r2], tabD [r6, r5, r4, r3, r2, r1, r0]] := rfl
    rw [e4]
    refine cRepr_at (a := "list") rfl (.inl rfl) (.lst (.cons (pyr_tab _) (.cons (pyr_tab _) (.cons (pyr_tab _) (.cons (pyr_tab _) .nil))))) fd4 (nes_at fd4 fd4 ⟨false, by simp, ?_⟩)
    rw [if_neg (by decide)]
    rw [hW]
    refine ⟨["left"], 1, 0, r0, r1, r2, rfl, lokW, k0, k1, k2, fun S7 f7 => ⟨true, rfl, ?_⟩⟩
    rw [if_neg (by decide)]
    have pa7 := (pa6.app (T := Z)).fr f7 (by simp) (by simp) (by simp)
    have pb7 := (pb6.app (T := Z)).fr f7 (by simp) (by simp) (by simp)
    have pc7 := (pc6.app (T := Z)).fr f7 (by simp) (by simp) (by simp)
    have pd7 := (pd6.app (T := Z)).fr f7 (by simp) (by simp) (by simp)
    have g7 : FdAt S7 h (n + 2000) := (f6.app (T := Z)).fr f7 (by simp)
    have c7 := f7.get _ _ (by simp) (get_app (T := Z) c6)
    clear pa6 pb6 pc6 pd6 f6 f7 c6 rd rd0 e4
    have f3' : Fit 3 (2 + 3 * (30000 + 2)) (.list [tabP [r0], tabP [r0, r1], tabP [r6, r5, r4, r3, r2, r1, r0]]) := fit_list (allc q1 (allc q2 (allc q4 all0))) (Nat.le_refl 3)
    have e3 : D.lst (cutD [D.lst (cutD [rowD r0, rowD r1, rowD r2, rowD r3, rowD r4, rowD r5, rowD r6] none (some 1)), D.lst (cutD [rowD r0, rowD r1, rowD r2, rowD r3, rowD r4, rowD r5, rowD r6] none (some 2)), D.lst [rowD r0, rowD r0, rowD r2], D.lst [rowD r0, rowD r1, rowD r2, rowD r3, rowD r4, rowD r5, rowD r6].reverse] none (some 2) ++ cutD [D.lst (cutD [rowD r0, rowD r1, rowD r2, rowD r3, rowD r4, rowD r5, rowD r6] none (some 1)), D.lst (cutD [rowD r0, rowD r1, rowD r2, rowD r3, rowD r4, rowD r5, rowD r6] none (some 2)), D.lst [rowD r0, rowD r0, rowD r2], D.lst [rowD r0, rowD r1, rowD r2, rowD r3, rowD r4, rowD r5, rowD r6].reverse] (some 3) none) = D.lst [tabD [r0], tabD [r0, r1], tabD [r6, r5, r4, r3, r2, r1, r0]] := rfl
    rw [e3]
    refine ⟨small (show 2 + 1 ≤ 1000000 by decide), cRepr_at (a := "list") rfl (.inl rfl) (.lst (.cons (pyr_tab _) (.cons (pyr_tab _) (.cons (pyr_tab _) .nil)))) f3' ?_⟩
    clear e3
    obtain ⟨x0, xs, rfl⟩ : ∃ c0 cs, r0 = c0 :: cs := by
      cases r0 with
      | nil => exact absurd k0.lo (by decide)
      | cons c0 cs => exact ⟨c0, cs, rfl⟩
    have ec : (cutD (List.map D.int (x0 :: xs)) (some 1) none) = xs.map D.int := (cut_from (j := 1)).trans (by rw [List.map_cons]; rfl)
    have lx := k0.hi
    rw [List.length_cons] at lx
    refine ⟨_, c7, _, rfl, _, pc7.asi, rfl, _, _, _, _, _, [], [], 0, 0, 3, rfl, pc7, by decide, by show 0 < 3; omega, by show 0 < xs.length + 1; omega, by decide, by decide, fun S8 m8 pc8 kq hm => ?_⟩
    have L7 := get_lt c7
    have pa8 : PageAt C S8 _ _ _ _ _ _ _ := ⟨kq.get _ _ (by omega) (by omega) (by omega) pa7.obj, kq.get _ _ (by omega) (by omega) (by omega) pa7.ear, kq.get _ _ (by omega) (by omega) (by omega) pa7.mar, pa7.pe, pa7.pm, pa7.em, pa7.ok, pa7.eok, pa7.el, pa7.ml, pa7.mle, pa7.mo⟩
    have pb8 : PageAt C S8 _ _ _ _ _ _ _ := ⟨kq.get _ _ (by omega) (by omega) (by omega) pb7.obj, kq.get _ _ (by omega) (by omega) (by omega) pb7.ear, kq.get _ _ (by omega) (by omega) (by omega) pb7.mar, pb7.pe, pb7.pm, pb7.em, pb7.ok, pb7.eok, pb7.el, pb7.ml, pb7.mle, pb7.mo⟩
    have pd8 : PageAt C S8 _ _ _ _ _ _ _ := ⟨kq.get _ _ (by omega) (by omega) (by omega) pd7.obj, kq.get _ _ (by omega) (by omega) (by omega) pd7.ear, kq.get _ _ (by omega) (by omega) (by omega) pd7.mar, pd7.pe, pd7.pm, pd7.em, pd7.ok, pd7.eok, pd7.el, pd7.ml, pd7.mle, pd7.mo⟩
    have c8 := kq.get _ _ (by omega) (by omega) (by omega) c7
    have g8 : FdAt S8 h (n + 2000) := let ⟨c, e, w⟩ := g7; ⟨c, kq.get _ _ (by omega) (by omega) (by omega) e, w⟩
    have ok8 := pc8.ok
    refine ⟨_, c8, _, rfl, _, pc8.asi, _, _, _, _, _, rfl, pc8.obj, by have := ok8.hi; omega, ?_⟩
    unfold newTab
    have rd9' : PyR (S8 ++ cellsD (setAt [x0 :: xs, x0 :: xs, r2] 0 0 3) ++ [.lst (ownsD S8.length (setAt [x0 :: xs, x0 :: xs, r2] 0 0 3).length)]) (.own (S8.length + (setAt [x0 :: xs, x0 :: xs, r2] 0 0 3).length)) (tabP (setAt [x0 :: xs, x0 :: xs, r2] 0 0 3)) := by
      have := read_new (S := S8) (t := setAt [x0 :: xs, x0 :: xs, r2] 0 0 3) (T := []) rfl
      rw [List.append_nil] at this
      exact this
    have et := (tabH_new S8 (setAt [x0 :: xs, x0 :: xs, r2] 0 0 3)).out
    have fr9 := ((Frm.refl (A := []) (S := S8)).app (cellsD (setAt [x0 :: xs, x0 :: xs, r2] 0 0 3))).app [.lst (ownsD S8.length (setAt [x0 :: xs, x0 :: xs, r2] 0 0 3).length)]
    generalize S8 ++ cellsD (setAt [x0 :: xs, x0 :: xs, r2] 0 0 3) ++ [.lst (ownsD S8.length (setAt [x0 :: xs, x0 :: xs, r2] 0 0 3).length)] = S9 at rd9' et fr9 ⊢
    rw [ec]
    refine ⟨small (by decide), small (by rw [List.length_map]; omega), cRepr_at (a := "list") (tyOf_L (asL_at' et)) (.inl rfl) rd9' (fit30 ok8) ⟨small (by decide), ?_⟩⟩
    have e9 : D.lst [D.lst (D.int 3 :: xs.map D.int), rowD (x0 :: xs), rowD r2] = tabD (setAt [x0 :: xs, x0 :: xs, r2] 0 0 3) := rfl
    rw [e9]
    refine cRepr_at (a := "list") rfl (.inl rfl) (pyr_tab _) (fit30 ok8) (nes_at (fit30 ok8) (fit30 ok8) ⟨false, by simp, ?_⟩)
    rw [if_neg (by decide)]
    have pa9 := pa8.fr fr9 (by simp) (by simp) (by simp)
    have pb9 := pb8.fr fr9 (by simp) (by simp) (by simp)
    have pd9 := pd8.fr fr9 (by simp) (by simp) (by simp)
    have c9 := fr9.get _ _ (by simp) c8
    have g9 : FdAt S9 h (n + 2000) := g8.fr fr9 (by simp)
    unfold dSlL
    refine ⟨_, asQ_L (asL_at' c9), _, asQ_L (asL_at' c9), ?_⟩
    walk_at "dl"
    have ea : cutD [D.own L0, D.own (L0 + 3), D.own (L0 + 3 + 3), D.own L4] none (some 2) = [D.own L0, D.own (L0 + 3)] := rfl
    have eb : cutD [D.own L0, D.own (L0 + 3), D.own (L0 + 3 + 3), D.own L4] (some 3) none = [D.own L4] := rfl
    rw [ea, eb]
    refine ⟨small (show 2 + 1 ≤ 1000000 by decide), ?_⟩
    refine lc_tabs (C := C) [(L0, [x0 :: xs]), (L0 + 3, [x0 :: xs, r1]), (L4, [r6, r5, r4, r3, r2, r1, x0 :: xs])] (show 3 ≤ 1000000 by decide) (fun Z => rfl) (allc ⟨_, _, _, _, _, pa9⟩ (allc ⟨_, _, _, _, _, pb9⟩ (allc ⟨_, _, _, _, _, pd9⟩ all0))) (fun p hp Z R fs ei hR => ?_) fun Z acc rd => ?_
    · walk_at "dl"
      exact ⟨_, ei, hR⟩
    walk_at "dl"
    have rd0 := rd []
    rw [List.append_nil] at rd0
    refine cRepr_at (a := "list") rfl (.inl rfl) (.lst rd0) f3' (eqs_at f3' f3' (ret_now ?_))
    have g10 : FdAt (S9 ++ Z) h (n + 3000) := (g9.app).mono (by omega)
    have := q _ g10
    simpa using this
end DL
namespace DL
open PySem PySem.Spec PyProof.Rows L2
local macro_rules | `(tactic| walk_at "dl") => `(tactic| ((try simp only [gstart, gwipe, List.set_set, List.map_cons, List.map_nil, List.length_cons, List.length_nil, rep_0, rep_s, List.cons_append, List.nil_append, List.set_cons_zero, List.set_cons_succ, Nat.reduceAdd, Nat.reduceSub, Nat.zero_add, Nat.add_zero]); (try simp only [↓dv0, ↓dv1, ↓dv2, ↓dv3, ↓dv4, ↓dv5, ↓dv6, ↓dv7, ↓dv8, ↓dv9, ↓dv10, ↓dv11, ↓dv12, ↓dv13, ↓dv14, ↓dv15, ↓dv16, ↓dv17, ↓dv18, ↓dv19, ↓dv20, ↓dv21, ↓dv22, ↓dv23, ↓dv24, ↓dv25, ↓dv26, ↓dv27, ↓dv28, ↓dv29, ↓dv30, ↓dv31, ↓dv32, ↓dv33, ↓dv34, ↓dv35, ↓dv36, ↓dv37, ↓dv38, ↓dv39, ↓nm0, ↓nm1, ↓nm2, ↓nm3, ↓nm4, ↓nm5, ↓nm6, ↓nm7, ↓nm8, ↓nm9, ↓nm10, ↓nm11, ↓nm12, ↓nm13, ↓nm14, ↓nm15, ↓nm16, ↓nm17, ↓nm18, ↓nm19, ↓nm20, ↓nm21, ↓nm22, ↓nm23, ↓nm24, ↓nm25, ↓nm26, ↓nm27, ↓nm28, ↓nm29, ↓nm30, ↓nm31, ↓nm32, ↓nm33, ↓nm34, ↓nm35, ↓nm36, ↓nm37, ↓nm38, ↓nm39, ↓sPar_n, ↓sPar3_n, ↓sAug_n, ↓reduceIte, List.set_set, ↓sNext_e, ↓sSeq_e, ↓sBrk_e, ↓sCnt_e, ↓sDrop_e, ↓sRet_e, ↓sRetN_e, ↓sIf_e, ↓sAsg_e, ↓sRaise_e, ↓nmG_e, ↓tupG_e, ↓gsNil_e, ↓gsCons_e, ↓subG_e, ↓dC_e, ↓dOp_e, ↓dUn_e, ↓dChain_e, ↓bOf_e, ↓bAnd_e, ↓bOr_e, ↓bNot_e, ↓bYes_e, ↓dAnd_e, ↓dOr_e, ↓dNot_e, ↓dIf_e, ↓lNil_e, ↓lCons_e, ↓dLst_e, ↓dDic0_e, ↓dDic1_e, ↓dLenSetG_e, dIsB_b, ↓dLstO_e, ↓dTup_e, ↓dCB_e, ↓dCall_e, ↓dCallK_e, ↓oNone_e, ↓oSome_e, ↓dSl_e, ↓dBM_e, ↓dBM0_e, ↓dFz_e, ↓dFz2_e, ↓d2_e, ↓dLone_e, ↓lStar_e, ↓dCallA_e, ↓dMakeA_e, ↓dMakeV_e, ↓dMethA_e, ↓dCMethA_e, ↓dPropA_e, ↓dFld_e, ↓sFldS_e, ↓dFzI_e, ↓fzID_o, ↓dM1_e, ↓dM0_e, ↓dRev_e, ↓mSplit_s, ↓mUpper_s, ↓exStr, ↓exZ, ↓cStrI_i, ↓cIntS_s, ↓iStrD_e, ↓dEqF_s, ↓dNeF_s, ↓dEqF_i, ↓dNeF_i, ↓dSign_s, ↓sRaiseI_e, ↓dXFld_e, ↓mPop_e, ↓dAddO_l, ↓dAddO_o, ↓dMk0_e, ↓sKeep_e, ↓sTryH_e, ↓dCVal_e, ↓dConI_e, ↓cLen_s, ↓dIx_s, ↓dSlS_s, ↓dAdd_s, ↓cTup_l, ↓pkP_e, ↓pkS_e, ↓lstG_e, ↓asI_i, ↓iSeq_e, ↓iTupD_e, ↓iRg1_e, ↓iRg2_e, ↓iZipD_e, iZrD_e, ↓iEnumD_e, ↓sFor_e, ↓dLc_e, ↓finF_e, ↓finO_e, ↓fzD_l, ↓fzD_i, ↓fzD_o, ↓fzD2_o, ↓dSetO_e, ↓mAppend_e, ↓mClear_e, ↓mReverse_e, List.map_cons, List.map_nil, List.length_cons, List.length_nil, rep_0, rep_s, List.cons_append, List.nil_append, List.getElem?_cons_zero, List.getElem?_cons_succ, List.set_cons_zero, List.set_cons_succ, Nat.reduceAdd, Nat.reduceSub, Nat.zero_add, Nat.add_zero, ↓exSS, ↓exB, ↓exI, ↓ex1, ↓ex2, ↓ex3, ↓exI1, ↓exI2, ↓exT, ↓exC, ↓exAs, ↓dAdd_i, ↓dAddI_i, ↓dSubI_i, ↓dLRg_e, ↓dIsiT_e, ↓dLenSet_e, ↓bChain3_e, ↓dLRg2_e, ↓iRg3_e, ↓dLc2_e, ↓dSlT_t, dAddT_t, ↓dNewK_e, ↓dDis1_e, ↓sDkp_e, ↓dDGet_e, ↓dDGet2_e, ↓dLVals_e, ↓kD_ex_i, ↓dSS_e, ↓dST_e, ↓dSI_e, ↓lsG_e, ↓dMulI_i, ↓dNew_e, ↓sDct_e, ↓dMulO_l, ↓dLRgO_e, ↓dAdd_l, ↓dSub_i, ↓dMul_i, ↓dMul_l, ↓dMod_i, ↓dDiv_i, ↓dPow_i, ↓dLt_i, ↓dLe_i, ↓dGt_i, ↓dGe_i, ↓uNeg_i, ↓cMax2_i, ↓cMin2_i, ↓cAbs_i, ↓cInt_i, ↓cInt_b, ↓cLen_l, ↓cLen_q, ↓cLen_t, ↓cList_l, ↓cList_q, ↓cList_t, ↓cListO_l, ↓cListO_t, ↓dIx_l, ↓dIx_q, ↓dIx_t, ↓dIx_o', ↓exS, ↓exL, at_1, at_2, at_3, at_4, ix30, ix31, ix32, ↓dSlL_l, ↓dSlL_q, ↓asQ_l, ↓asL_l, at_0, ↓isi_non_int, ↓isi_non_bool, ↓isi_non_str, ↓isi_non_list, ↓isi_non_tuple, ↓isi_non_dict, ↓isi_bl_int, ↓isi_bl_bool, ↓isi_bl_str, ↓isi_bl_list, ↓isi_bl_tuple, ↓isi_bl_dict, ↓isi_int_int, ↓isi_int_bool, ↓isi_int_str, ↓isi_int_list, ↓isi_int_tuple, ↓isi_int_dict, ↓isi_str_int, ↓isi_str_bool, ↓isi_str_str, ↓isi_str_list, ↓isi_str_tuple, ↓isi_str_dict, ↓isi_lst_int, ↓isi_lst_bool, ↓isi_lst_str, ↓isi_lst_list, ↓isi_lst_tuple, ↓isi_lst_dict, ↓isi_sq_int, ↓isi_sq_bool, ↓isi_sq_str, ↓isi_sq_list, ↓isi_sq_tuple, ↓isi_sq_dict, ↓isi_tup_int, ↓isi_tup_bool, ↓isi_tup_str, ↓isi_tup_list, ↓isi_tup_tuple, ↓isi_tup_dict, ↓isi_dic_int, ↓isi_dic_bool, ↓isi_dic_str, ↓isi_dic_list, ↓isi_dic_tuple, ↓isi_dic_dict, if_true, if_false, Bool.not_true, Bool.not_false, true_and, and_true, reduceCtorEq, Bool.true_eq_false, Bool.false_eq_true, ite_true, ite_false, ↓exAny, ↓isLst_l, Int.toNat_natCast, Int.reduceToNat, dVar_e, sPar_e, sPar3_e, sAug_e])))
local macro_rules | `(tactic| walk_at "dls") => `(tactic| ((try simp only [gstart, gwipe, List.set_set, List.map_cons, List.map_nil, List.length_cons, List.length_nil, rep_0, rep_s, List.cons_append, List.nil_append, List.set_cons_zero, List.set_cons_succ, Nat.reduceAdd, Nat.reduceSub, Nat.zero_add, Nat.add_zero]); (try simp only [*, ↓dv0, ↓dv1, ↓dv2, ↓dv3, ↓dv4, ↓dv5, ↓dv6, ↓dv7, ↓dv8, ↓dv9, ↓dv10, ↓dv11, ↓dv12, ↓dv13, ↓dv14, ↓dv15, ↓dv16, ↓dv17, ↓dv18, ↓dv19, ↓dv20, ↓dv21, ↓dv22, ↓dv23, ↓dv24, ↓dv25, ↓dv26, ↓dv27, ↓dv28, ↓dv29, ↓dv30, ↓dv31, ↓dv32, ↓dv33, ↓dv34, ↓dv35, ↓dv36, ↓dv37, ↓dv38, ↓dv39, ↓nm0, ↓nm1, ↓nm2, ↓nm3, ↓nm4, ↓nm5, ↓nm6, ↓nm7, ↓nm8, ↓nm9, ↓nm10, ↓nm11, ↓nm12, ↓nm13, ↓nm14, ↓nm15, ↓nm16, ↓nm17, ↓nm18, ↓nm19, ↓nm20, ↓nm21, ↓nm22, ↓nm23, ↓nm24, ↓nm25, ↓nm26, ↓nm27, ↓nm28, ↓nm29, ↓nm30, ↓nm31, ↓nm32, ↓nm33, ↓nm34, ↓nm35, ↓nm36, ↓nm37, ↓nm38, ↓nm39, ↓sPar_n, ↓sPar3_n, ↓sAug_n, ↓reduceIte, List.set_set, ↓sNext_e, ↓sSeq_e, ↓sBrk_e, ↓sCnt_e, ↓sDrop_e, ↓sRet_e, ↓sRetN_e, ↓sIf_e, ↓sAsg_e, ↓sRaise_e, ↓nmG_e, ↓tupG_e, ↓gsNil_e, ↓gsCons_e, ↓subG_e, ↓dC_e, ↓dOp_e, ↓dUn_e, ↓dChain_e, ↓bOf_e, ↓bAnd_e, ↓bOr_e, ↓bNot_e, ↓bYes_e, ↓dAnd_e, ↓dOr_e, ↓dNot_e, ↓dIf_e, ↓lNil_e, ↓lCons_e, ↓dLst_e, ↓dDic0_e, ↓dDic1_e, ↓dLenSetG_e, dIsB_b, ↓dLstO_e, ↓dTup_e, ↓dCB_e, ↓dCall_e, ↓dCallK_e, ↓oNone_e, ↓oSome_e, ↓dSl_e, ↓dBM_e, ↓dBM0_e, ↓dFz_e, ↓dFz2_e, ↓d2_e, ↓dLone_e, ↓lStar_e, ↓dCallA_e, ↓dMakeA_e, ↓dMakeV_e, ↓dMethA_e, ↓dCMethA_e, ↓dPropA_e, ↓dFld_e, ↓sFldS_e, ↓dFzI_e, ↓fzID_o, ↓dM1_e, ↓dM0_e, ↓dRev_e, ↓mSplit_s, ↓mUpper_s, ↓exStr, ↓exZ, ↓cStrI_i, ↓cIntS_s, ↓iStrD_e, ↓dEqF_s, ↓dNeF_s, ↓dEqF_i, ↓dNeF_i, ↓dSign_s, ↓sRaiseI_e, ↓dXFld_e, ↓mPop_e, ↓dAddO_l, ↓dAddO_o, ↓dMk0_e, ↓sKeep_e, ↓sTryH_e, ↓dCVal_e, ↓dConI_e, ↓cLen_s, ↓dIx_s, ↓dSlS_s, ↓dAdd_s, ↓cTup_l, ↓pkP_e, ↓pkS_e, ↓lstG_e, ↓asI_i, ↓iSeq_e, ↓iTupD_e, ↓iRg1_e, ↓iRg2_e, ↓iZipD_e, iZrD_e, ↓iEnumD_e, ↓sFor_e, ↓dLc_e, ↓finF_e, ↓finO_e, ↓fzD_l, ↓fzD_i, ↓fzD_o, ↓fzD2_o, ↓dSetO_e, ↓mAppend_e, ↓mClear_e, ↓mReverse_e, List.map_cons, List.map_nil, List.length_cons, List.length_nil, rep_0, rep_s, List.cons_append, List.nil_append, List.getElem?_cons_zero, List.getElem?_cons_succ, List.set_cons_zero, List.set_cons_succ, Nat.reduceAdd, Nat.reduceSub, Nat.zero_add, Nat.add_zero, ↓exSS, ↓exB, ↓exI, ↓ex1, ↓ex2, ↓ex3, ↓exI1, ↓exI2, ↓exT, ↓exC, ↓exAs, ↓dAdd_i, ↓dAddI_i, ↓dSubI_i, ↓dLRg_e, ↓dIsiT_e, ↓dLenSet_e, ↓bChain3_e, ↓dLRg2_e, ↓iRg3_e, ↓dLc2_e, ↓dSlT_t, dAddT_t, ↓dNewK_e, ↓dDis1_e, ↓sDkp_e, ↓dDGet_e, ↓dDGet2_e, ↓dLVals_e, ↓kD_ex_i, ↓dSS_e, ↓dST_e, ↓dSI_e, ↓lsG_e, ↓dMulI_i, ↓dNew_e, ↓sDct_e, ↓dMulO_l, ↓dLRgO_e, ↓dAdd_l, ↓dSub_i, ↓dMul_i, ↓dMul_l, ↓dMod_i, ↓dDiv_i, ↓dPow_i, ↓dLt_i, ↓dLe_i, ↓dGt_i, ↓dGe_i, ↓uNeg_i, ↓cMax2_i, ↓cMin2_i, ↓cAbs_i, ↓cInt_i, ↓cInt_b, ↓cLen_l, ↓cLen_q, ↓cLen_t, ↓cList_l, ↓cList_q, ↓cList_t, ↓cListO_l, ↓cListO_t, ↓dIx_l, ↓dIx_q, ↓dIx_t, ↓dIx_o', ↓exS, ↓exL, at_1, at_2, at_3, at_4, ix30, ix31, ix32, ↓dSlL_l, ↓dSlL_q, ↓asQ_l, ↓asL_l, at_0, ↓isi_non_int, ↓isi_non_bool, ↓isi_non_str, ↓isi_non_list, ↓isi_non_tuple, ↓isi_non_dict, ↓isi_bl_int, ↓isi_bl_bool, ↓isi_bl_str, ↓isi_bl_list, ↓isi_bl_tuple, ↓isi_bl_dict, ↓isi_int_int, ↓isi_int_bool, ↓isi_int_str, ↓isi_int_list, ↓isi_int_tuple, ↓isi_int_dict, ↓isi_str_int, ↓isi_str_bool, ↓isi_str_str, ↓isi_str_list, ↓isi_str_tuple, ↓isi_str_dict, ↓isi_lst_int, ↓isi_lst_bool, ↓isi_lst_str, ↓isi_lst_list, ↓isi_lst_tuple, ↓isi_lst_dict, ↓isi_sq_int, ↓isi_sq_bool, ↓isi_sq_str, ↓isi_sq_list, ↓isi_sq_tuple, ↓isi_sq_dict, ↓isi_tup_int, ↓isi_tup_bool, ↓isi_tup_str, ↓isi_tup_list, ↓isi_tup_tuple, ↓isi_tup_dict, ↓isi_dic_int, ↓isi_dic_bool, ↓isi_dic_str, ↓isi_dic_list, ↓isi_dic_tuple, ↓isi_dic_dict, if_true, if_false, Bool.not_true, Bool.not_false, true_and, and_true, reduceCtorEq, Bool.true_eq_false, Bool.false_eq_true, ite_true, ite_false, ↓exAny, ↓isLst_l, Int.toNat_natCast, Int.reduceToNat, dVar_e, sPar_e, sPar3_e, sAug_e])))
--MI
/-- cells below lo and from hi on are as they were -/
structure Fri (lo hi : Nat) (S S' : Sto) : Prop where
  len : S.length ≤ S'.length
  get : ∀ i c, (i < lo ∨ hi ≤ i) → S[i]? = some c → S'[i]? = some c
theorem Fri.refl {lo hi : Nat} {S : Sto} : Fri lo hi S S := ⟨Nat.le_refl _, fun _ _ _ e => e⟩
theorem Fri.set {lo hi : Nat} {S S' : Sto} (a : Fri lo hi S S') {k : Nat} (h1 : lo ≤ k) (h2 : k < hi) (c : Cell) : Fri lo hi S (S'.set k c) := ⟨by rw [List.length_set]; exact a.len, fun i d hi e => by rw [List.getElem?_set_ne (by omega)]; exact a.get i d hi e⟩
theorem Fri.mono {lo hi lo' hi' : Nat} {S S' : Sto} (a : Fri lo hi S S') (h1 : lo' ≤ lo) (h2 : hi ≤ hi') : Fri lo' hi' S S' := ⟨a.len, fun i c hi e => a.get i c (by omega) e⟩
theorem Fri.trans {lo hi : Nat} {S S1 S2 : Sto} (a : Fri lo hi S S1) (b : Fri lo hi S1 S2) : Fri lo hi S S2 := ⟨Nat.le_trans a.len b.len, fun i c hi e => b.get i c hi (a.get i c hi e)⟩
theorem pyr_tabH {S : Sto} {b : Nat} {hs : List Nat} {t : List (List Int)} (k : TabH S b hs t) : PyR S (.own b) (tabP t) := by
  refine .own k.out ?_
  have go : ∀ (hs : List Nat) (t : List (List Int)), hs.length = t.length → (∀ i (h1 : i < hs.length) (h2 : i < t.length), S[hs[i]]? = some (.lst ((t[i]).map D.int))) → PyRA S (hs.map D.own) (t.map fun r => PyData.list (r.map PyData.int)) := by
    intro hs
    induction hs with
    | nil => intro t hl _; cases t with
      | nil => exact .nil
      | cons r t => simp at hl
    | cons a hs ih => intro t hl h; cases t with
      | nil => simp at hl
      | cons r t =>
        exact .cons (.own (h 0 (by simp) (by simp)) (pyra_map (fun i => .int i) r)) (ih t (by simpa using hl) fun i h1 h2 => h (i + 1) (by simpa using h1) (by simpa using h2))
  exact go hs t k.len k.row
theorem told3 {C Cs : Addr} {S : Sto} {p e m : Nat} {ks : List Str} {g l : Int} {t : List (List Int)} {es : List (List (List Int))} {ms : List Nat} {F : KD} {Ψ : KX} (pg : PageAt C S p e m (.ins Cs (styF ks g l)) t es ms) (lk : LookOk ks g l) (q : ∀ Z, F (S ++ Z) (.str (PyData.list [tabP t, tabP (stopsF g l t), .int (widthF g l t)]).shown)) :
    ∃ fs, asI S (.own p) = some (C, fs) ∧ sp_Page_table C (pick [0] [.own p] []) S (fun S1 x => ∃ fs, asI S1 (.own p) = some (C, fs) ∧ fs.lookup ("stops" : Str) = none ∧ sp_Page_stops Cs C (pick [0] [.own p] []) S1 (fun S1 x1 => ∃ fs, asI S1 (.own p) = some (C, fs) ∧ fs.lookup ("width" : Str) = none ∧ sp_Page_width Cs C (pick [0] [.own p] []) S1 (fun S1 x2 => 3 ≤ sizeLine ∧ cRepr [.lst [x, x1, x2]] S1 F) Ψ) Ψ) (fun _ _ => False) := by
  have ok := pg.ok
  refine ⟨_, pg.asi, _, _, _, _, _, rfl, pg.obj, by have := ok.hi; omega, ?_⟩
  unfold newTab
  have rd : ∀ T, PyR (S ++ cellsD t ++ [.lst (ownsD S.length t.length)] ++ T) (.own (S.length + t.length)) (tabP t) := fun T => read_new rfl
  have pg1 := (pg.app (T := cellsD t)).app (T := [.lst (ownsD S.length t.length)])
  refine ⟨_, pg1.asi, rfl, _, _, _, _, _, _, _, ks, g, l, rfl, pg1, rfl, fun Z b hs td _ _ => ?_⟩
  have pg2 := pg1.app (T := Z)
  refine ⟨_, pg2.asi, rfl, _, _, _, _, _, _, _, ks, g, l, rfl, pg2, rfl, lk, small (by decide), ?_⟩
  have ft : Fit 3 (2 + 3 * (30000 + 2)) (.list [tabP t, tabP (stopsF g l t), .int (widthF g l t)]) := fit_list (allc (fit30 ok) (allc ((stopsF_fit ok lk).mono (by decide) (by decide)) (allc (by
    have := width_in ok lk
    have : 23 * GREAT < 10 ^ 33 := by decide
    exact (fit_int (k := 33) (by omega)).mono (by decide) (by decide)) all0))) (Nat.le_refl 3)
  refine cRepr_at (a := "list") rfl (.inl rfl) (.lst (.cons (rd Z) (.cons (pyr_tabH td) (.cons (.int _) .nil)))) ft ?_
  have := q (cellsD t ++ [.lst (ownsD S.length t.length)] ++ Z)
  simpa only [List.append_assoc] using this
theorem told3_fit {ks : List Str} {g l : Int} {t : List (List Int)} (ok : TabOk t) (lk : LookOk ks g l) : Fit 3 (2 + 3 * (30000 + 2)) (.list [tabP t, tabP (stopsF g l t), .int (widthF g l t)]) := fit_list (allc (fit30 ok) (allc ((stopsF_fit ok lk).mono (by decide) (by decide)) (allc (by
    have := width_in ok lk
    have : 23 * GREAT < 10 ^ 33 := by decide
    exact (fit_int (k := 33) (by omega)).mono (by decide) (by decide)) all0))) (Nat.le_refl 3)
theorem p__law_lists_right (Cs C : Addr) : Rets sp__law_lists_right (T__law_lists_right Cs C) N__law_lists_right := by
  rintro _ S Φ Ψ ⟨h, n, B, hs, t, rfl, fd, tb, hB, hhs, ok, hl, q⟩
  unfold T__law_lists_right
  have lh := fd.lt
  have lB := tb.lt
  have lok : LookOk ["right"] 0 0 := ⟨by decide, by decide, by decide, by decide, by decide, by decide, by decide⟩
  have hr4 : RowOk [4, 5] := ⟨by decide, by decide, by decide⟩
  have okp : TabOk (putAt t 0 [4, 5]) := ok.putAt (Nat.zero_le _) (by omega) hr4
  refine seqJ (fun Γ S' => ∃ W, W = D.ins Cs (styF ["right"] 0 0) ∧ Γ = (gstart N__law_lists_right [.own h, .own B] |>.set 2 (some W)) ∧ S' = S ++ [.gone]) (fun N hN => ?_) fun Γ S' hp => ?_
  · walk_at "dl"
    refine ⟨rfl, fun h => h.elim, small (show 1 ≤ 1000000 by decide), S.length, ["right"], 0, 0, rfl, get_at, lok, ?_⟩
    rw [set_at]
    refine ⟨rfl, Cs, styF ["right"] 0 0, get_at, ?_⟩
    rw [set_at]
    exact hN _ _ ⟨_, rfl, rfl, rfl⟩
  obtain ⟨W, hW, rfl, rfl⟩ := hp
  walk_at "dl"
  refine ⟨W, .own B, t, rfl, tb.app.tabS, ok, ?_⟩
  have fd1 : FdAt (S ++ [.gone]) h n := fd.app
  have tb1 : TabH (S ++ [.gone]) B hs t := tb.app
  have l1 : (S ++ [Cell.gone]).length = S.length + 1 := len1'
  generalize S ++ [Cell.gone] = S1 at fd1 tb1 l1 ⊢
  have pg := page_new (C := C) (S := S1) (d := W) ok
  have fr := ((Frm.refl.app (A := []) (S := S1) [.ins C (pageF W t (S1.length + 1) (S1.length + 2))]).app [.lst []]).app [.lst []]
  have l2 : (S1 ++ [Cell.ins C (pageF W t (S1.length + 1) (S1.length + 2))] ++ [Cell.lst []] ++ [Cell.lst []]).length = S1.length + 3 := len3'
  generalize S1 ++ [Cell.ins C (pageF W t (S1.length + 1) (S1.length + 2))] ++ [Cell.lst []] ++ [Cell.lst []] = S2 at pg fr l2 ⊢
  have pg3 := pg.app (T := [Cell.lst [.int 4, .int 5]])
  have fr3 := fr.app [Cell.lst [.int 4, .int 5]]
  have cg : (S2 ++ [Cell.lst [.int 4, .int 5]])[S2.length]? = some (.lst ([4, 5].map D.int)) := get_at
  have l3 : (S2 ++ [Cell.lst [.int 4, .int 5]]).length = S2.length + 1 := len1'
  refine ⟨small (show 2 ≤ 1000000 by decide), ?_⟩
  generalize S2 ++ [Cell.lst [.int 4, .int 5]] = S3 at pg3 fr3 cg l3 ⊢
  clear pg fr
  generalize S2.length = g at *
  generalize S1.length = p at *
  refine ⟨_, pg3.asi, rfl, _, _, _, _, _, _, _, 0, _, [4, 5], rfl, pg3, by decide, Nat.zero_le _, by omega, asL_at' cg, hr4, fun S4 m4 pg4 kq hm => ?_⟩
  have hm4 : m4 = p + 2 ∨ p + 4 ≤ m4 := by omega
  have l4 := kq.len
  have cg4 := kq.get _ _ (by omega) (by omega) (by omega) cg
  have fd4 : FdAt S4 h n := let ⟨c, e, w⟩ := fd1.fr fr3 (by simp); ⟨c, kq.get _ _ (by omega) (by omega) (by omega) e, w⟩
  have tb4 : TabH S4 B hs t := (tb1.fr fr3 (by simp)).keep fun x hx c e => kq.get _ _ (by have := lB.2; rcases hx with rfl | hx; omega; have := lB.2 x hx; omega) (by have := lB.2; rcases hx with rfl | hx; omega; have := lB.2 x hx; omega) (by have := lB.2; rcases hx with rfl | hx; omega; have := lB.2 x hx; omega) e
  clear fd1 tb1 pg3 fr3 cg kq
  show ∃ fs, _ ∧ _
  rw [hW] at pg4
  refine told3 pg4 lok fun Z => ⟨isLst_at (get_app cg4), _, get_app cg4, under (show 2 ≤ 1000000 by decide), ?_⟩
  have fs5 : Frm [g] S4 ((S4 ++ Z).set g (.lst ([4, 5].map D.int ++ [.int 9]))) := (Frm.refl.app Z).set _ (.inl (by simp))
  have pg5 := pg4.fr fs5 (by simp; omega) (by simp; omega) (by simp; omega)
  have fd5 := fd4.fr fs5 (by simp; omega)
  have tb5 := tb4.fr fs5 (fun x hx => by rw [List.mem_singleton.mp hx]; exact ⟨by omega, fun z => by have := lB.2 _ z; omega⟩)
  have l5 := fs5.len
  clear pg4 fd4 tb4 cg4 fs5
  generalize (S4 ++ Z).set g (.lst ([4, 5].map D.int ++ [.int 9])) = S5 at pg5 fd5 tb5 l5 ⊢
  have ok5 := pg5.ok
  refine ⟨_, pg5.asi, _, _, _, _, _, rfl, pg5.obj, by have := ok5.hi; omega, ?_⟩
  unfold newTab
  have stl : (stopsF 0 0 (putAt t 0 [4, 5])).length = (putAt t 0 [4, 5]).length := by unfold stopsF; rw [List.length_map, List.length_range]
  have str : ∀ r ∈ stopsF 0 0 (putAt t 0 [4, 5]), r.length ≤ 12 := fun r hr => by
    unfold stopsF at hr
    obtain ⟨j, hj, rfl⟩ := List.mem_map.mp hr
    have hj := List.mem_range.mp hj
    rw [rowStops_len, tab_at hj]
    have := (ok5.row _ (List.getElem_mem hj)).hi
    omega
  have tr : ∀ r ∈ putAt t 0 [4, 5], r.length ≤ 12 := fun r hr => (ok5.row r hr).hi
  have t60 := ok5.hi
  generalize hT : putAt t 0 [4, 5] = T at *
  have ta := tabH_new S5 T
  have pg6 := (pg5.app (T := cellsD T)).app (T := [.lst (ownsD S5.length T.length)])
  have f6 := (Frm.refl.app (A := []) (S := S5) (cellsD T)).app [.lst (ownsD S5.length T.length)]
  have l6 : (S5 ++ cellsD T ++ [Cell.lst (ownsD S5.length T.length)]).length = S5.length + T.length + 1 := by rw [List.length_append, List.length_append]; simp [cellsD]
  refine ⟨_, pg6.asi, rfl, _, _, _, _, _, _, _, ["right"], 0, 0, rfl, pg6, rfl, fun Z2 b hs2 tb2 hb2 hh2 => ?_⟩
  generalize S5 ++ cellsD T ++ [.lst (ownsD S5.length T.length)] = S6 at ta pg6 f6 l6 tb2 hb2 hh2 ⊢
  have pg7 := pg6.app (T := Z2)
  refine ⟨_, pg7.asi, _, _, _, _, _, rfl, pg7.obj, by omega, ?_⟩
  unfold newTab
  have tc := tabH_new (S6 ++ Z2) T
  have tb7 := ((tb2.app (T := cellsD T)).app (T := [.lst (ownsD (S6 ++ Z2).length T.length)]))
  have ta7 := ((ta.app (T := Z2)).app (T := cellsD T)).app (T := [.lst (ownsD (S6 ++ Z2).length T.length)])
  have lt2 := tb2.lt
  have f8 := ((f6.app Z2).app (cellsD T)).app [.lst (ownsD (S6 ++ Z2).length T.length)]
  have l8 : (S6 ++ Z2 ++ cellsD T ++ [Cell.lst (ownsD (S6 ++ Z2).length T.length)]).length = (S6 ++ Z2).length + T.length + 1 := by rw [List.length_append, List.length_append]; simp [cellsD]
  have l7 : S6.length ≤ (S6 ++ Z2).length := by rw [List.length_append]; omega
  have pg8 := pg5.fr f8 (by simp) (by simp) (by simp)
  have fd8 := fd5.fr f8 (by simp)
  have tb8 := tb5.fr f8 (by simp)
  refine ⟨small (show 3 ≤ 1000000 by decide), ?_⟩
  generalize S6 ++ Z2 ++ cellsD T ++ [.lst (ownsD (S6 ++ Z2).length T.length)] = S8 at *
  generalize (S6 ++ Z2).length = L7 at *
  generalize S6.length = L6 at *
  have lp5 := get_lt pg5.obj
  have le5 := get_lt pg5.ear
  have lm5 := get_lt pg5.mar
  generalize S5.length = L5 at *
  clear f8 f6 tb2 ta pg6 pg7 pg5 fd5 tb5
  -- one list after the other is changed
  have one : ∀ (b : Nat) (hs : List Nat) (u : List (List Int)) (lo hi : Nat) (S' : Sto) (E : EdD) (o6 o7 : Option D) (K : D), TabH S' b hs u → u.length ≤ 60 → (∀ r ∈ u, r.length ≤ 12) → lo ≤ b → b < hi → (∀ a ∈ hs, lo ≤ a ∧ a < hi) → (∀ S2 o7', Fri lo hi S' S2 → E.nx [some (.own h), some (.own B), some W, some (.own p), some (.own g), some K, some (.own b), o7', none] S2) →
      sSeq (sFor (iSeq (dVar 6)) (nmG 7) (sDrop (dBM mAppend (dVar 7) (lCons (dC (.int 1)) lNil)))) (sDrop (dBM0 mClear (dVar 6))) E [some (.own h), some (.own B), some W, some (.own p), some (.own g), some K, some (.own b), o7, none] S' := by
    intro b hs u lo hi S' E o6 o7 K tu hu1 hu2 h1 h2 h3 hE
    have hl := tu.len
    refine seqJ (fun Γ S2 => ∃ o7', Γ = [some (.own h), some (.own B), some W, some (.own p), some (.own g), some K, some (.own b), o7', none] ∧ Fri lo hi S' S2 ∧ S2[b]? = some (.lst (hs.map D.own))) (fun N hN => ?_) fun Γ S2 hp => ?_
    · walk_at "dl"
      refine ⟨⟨_, asQ_L (asL_at' tu.out)⟩, for_s (ds := hs.map D.own) (fun i Γ S2 => ∃ o7', Γ = [some (.own h), some (.own B), some W, some (.own p), some (.own g), some K, some (.own b), o7', none] ∧ Fri lo hi S' S2 ∧ S2[b]? = some (.lst (hs.map D.own)) ∧ ∀ j (j1 : j < hs.length) (j2 : j < u.length), i ≤ j → S2[hs[j]]? = some (.lst ((u[j]).map D.int))) ⟨_, rfl, .refl, tu.out, fun j j1 j2 _ => tu.row j j1 j2⟩ (fun i Γ S2 hp => by obtain ⟨_, _, _, e, _⟩ := hp; exact asQ_L (asL_at' e)) (fun i Γ S2 hi hp => ?_) fun Γ S2 hp => ?_⟩
      · obtain ⟨o, rfl, f, e, rr⟩ := hp
        rw [List.length_map] at hi
        rw [List.getElem_map]
        have hi2 : i < u.length := by omega
        have ei := rr i hi hi2 (Nat.le_refl _)
        have hm := h3 _ (List.getElem_mem hi)
        walk_at "dl"
        refine ⟨isLst_at ei, _, ei, under (by rw [List.length_map]; have := hu2 _ (List.getElem_mem hi2); omega), _, rfl, f.set hm.1 hm.2 _, ?_, fun j j1 j2 hj => ?_⟩
        · rw [List.getElem?_set_ne (fun z => tu.nb (by rw [← z]; exact List.getElem_mem hi))]; exact e
        · rw [List.getElem?_set_ne (fun z => by
            have := (List.getElem_inj tu.nd (h₀ := hi) (h₁ := j1)).mp z
            omega)]
          exact rr j j1 j2 (by omega)
      · obtain ⟨o, rfl, f, e, _⟩ := hp
        exact hN _ _ ⟨o, rfl, f, e⟩
    · obtain ⟨o, rfl, f, e⟩ := hp
      walk_at "dl"
      refine ⟨isLst_at e, _, e, ?_⟩
      exact hE _ _ (f.set h1 h2 _)
  have kept : ∀ S9, Fri L5 (L7 + T.length + 1) S8 S9 → PageAt C S9 p (p + 1) m4 (.ins Cs (styF ["right"] 0 0)) T [t] [] ∧ FdAt S9 h n ∧ TabH S9 B hs t := fun S9 f9 => by
    refine ⟨⟨f9.get _ _ (by omega) pg8.obj, f9.get _ _ (by omega) pg8.ear, f9.get _ _ (by omega) pg8.mar, pg8.pe, pg8.pm, pg8.em, pg8.ok, pg8.eok, pg8.el, pg8.ml, pg8.mle, pg8.mo⟩, let ⟨c, e, w⟩ := fd8; ⟨c, f9.get _ _ (by omega) e, w⟩, tb8.keep fun x hx c e => f9.get _ _ ?_ e⟩
    rcases hx with rfl | hx
    · omega
    · have := lB.2 x hx; omega
  have inA : ∀ x, (x = L5 + T.length ∨ x ∈ (List.range T.length).map (L5 + ·)) → L5 ≤ x ∧ x < L6 := fun x hx => by
    rcases hx with rfl | hx
    · omega
    · obtain ⟨i, hi, rfl⟩ := List.mem_map.mp hx
      have := List.mem_range.mp hi
      omega
  have inB : ∀ x, (x = b ∨ x ∈ hs2) → L6 ≤ x ∧ x < L7 := fun x hx => by
    rcases hx with rfl | hx
    · exact ⟨hb2, lt2.1⟩
    · exact ⟨hh2 x hx, lt2.2 x hx⟩
  have inC : ∀ x, (x = L7 + T.length ∨ x ∈ (List.range T.length).map (L7 + ·)) → L7 ≤ x ∧ x < L7 + T.length + 1 := fun x hx => by
    rcases hx with rfl | hx
    · omega
    · obtain ⟨i, hi, rfl⟩ := List.mem_map.mp hx
      have := List.mem_range.mp hi
      omega
  refine for_l (ds := [D.own (L5 + T.length), D.own b, D.own (L7 + T.length)]) (fun i Γ S' => ∃ o6 o7, Γ = [some (.own h), some (.own B), some W, some (.own p), some (.own g), some (D.str (PyData.list [tabP T, tabP (stopsF 0 0 T), PyData.int (widthF 0 0 T)]).shown), o6, o7, none] ∧ Fri L5 ([L5, L6, L7].getD i (L7 + T.length + 1)) S8 S') ⟨_, _, rfl, .refl⟩ (fun i Γ S' hi hp => ?_) fun Γ S' hp => ?_
  · obtain ⟨o6, o7, rfl, f⟩ := hp
    match i, hi with
    | 0, _ =>
      have f : Fri L5 L5 S8 S' := f
      exact one _ _ _ L5 L6 S' _ none o7 _ (ta7.keep fun x hx c e => f.get _ _ (.inr (inA x hx).1) e) t60 tr (inA _ (.inl rfl)).1 (inA _ (.inl rfl)).2 (fun a ha => inA _ (.inr ha)) fun S2 o7' f2 => ⟨_, _, rfl, show Fri L5 L6 S8 S2 from (f.mono (Nat.le_refl _) (by omega)).trans f2⟩
    | 1, _ =>
      have f : Fri L5 L6 S8 S' := f
      exact one _ _ _ L6 L7 S' _ none o7 _ (tb7.keep fun x hx c e => f.get _ _ (.inr (inB x hx).1) e) (by omega) str (inB _ (.inl rfl)).1 (inB _ (.inl rfl)).2 (fun a ha => inB _ (.inr ha)) fun S2 o7' f2 => ⟨_, _, rfl, show Fri L5 L7 S8 S2 from (f.mono (Nat.le_refl _) (by omega)).trans (f2.mono (by omega) (Nat.le_refl _))⟩
    | 2, _ =>
      have f : Fri L5 L7 S8 S' := f
      exact one _ _ _ L7 (L7 + T.length + 1) S' _ none o7 _ (tc.keep fun x hx c e => f.get _ _ (.inr (inC x hx).1) e) t60 tr (inC _ (.inl rfl)).1 (inC _ (.inl rfl)).2 (fun a ha => inC _ (.inr ha)) fun S2 o7' f2 => ⟨_, _, rfl, show Fri L5 (L7 + T.length + 1) S8 S2 from (f.mono (Nat.le_refl _) (by omega)).trans (f2.mono (by omega) (Nat.le_refl _))⟩
  · obtain ⟨o6, o7, rfl, f⟩ := hp
    obtain ⟨pg9, fd9, tb9⟩ := kept S' f
    clear one kept inA inB inC
    obtain ⟨r0, tl, rfl⟩ : ∃ r0 tl, t = r0 :: tl := by
      cases t with
      | nil => exact absurd ok.lo (by decide)
      | cons r tl => exact ⟨r, tl, rfl⟩
    obtain ⟨h0, hs, rfl⟩ : ∃ h0 hs', hs = h0 :: hs' := by
      cases hs with
      | nil => have := tb.len; simp at this
      | cons a hs => exact ⟨a, hs, rfl⟩
    have e0 : S'[h0]? = some (.lst (r0.map D.int)) := tb9.row 0 (by simp) (by simp)
    have h0l : h0 < S.length := lB.2 _ (.head _)
    have r12 : r0.length ≤ 12 := (ok.row r0 (.head _)).hi
    have f10 : Frm [h0] S' (S'.set h0 (.lst (r0.map D.int ++ [.int 8]))) := Frm.refl.set _ (.inl (by simp))
    have eB : (S'.set h0 (.lst (r0.map D.int ++ [.int 8])))[B]? = some (.lst ((h0 :: hs).map D.own)) := f10.get _ _ (fun z => tb9.nb (by rw [List.mem_singleton.mp z]; exact .head _)) tb9.out
    have f11 : Frm [h0, B] S' ((S'.set h0 (.lst (r0.map D.int ++ [.int 8]))).set B (.lst ((h0 :: hs).map D.own).reverse)) := (Frm.refl.set _ (.inl (by simp))).set _ (.inl (by simp))
    have pg11 := pg9.fr f11 (by simp; omega) (by simp; omega) (by simp; omega)
    have fd11 := fd9.fr f11 (by simp only [List.mem_cons, List.not_mem_nil, or_false]; rintro (z | z); exact hhs (by rw [z]; exact .head _); exact hB z)
    walk_at "dl"
    refine ⟨_, tb9.out, .own h0, by simp only [List.map_cons, at_0], isLst_at e0, ?_⟩
    walk_at "dl"
    refine ⟨_, e0, under (by rw [List.length_map]; omega), isLst_at eB, _, eB, ?_⟩
    have ft := told3_fit ok5 lok
    refine told3 pg11 lok fun Z => eqs_at ft ft (ret_now ?_)
    have := q _ (fd11.app (T := Z))
    simpa using this
end DL
namespace DL
open PySem PySem.Spec PyProof.Rows L2
local macro_rules | `(tactic| walk_at "dl") => `(tactic| ((try simp only [gstart, gwipe, List.set_set, List.map_cons, List.map_nil, List.length_cons, List.length_nil, rep_0, rep_s, List.cons_append, List.nil_append, List.set_cons_zero, List.set_cons_succ, Nat.reduceAdd, Nat.reduceSub, Nat.zero_add, Nat.add_zero]); (try simp only [↓dv0, ↓dv1, ↓dv2, ↓dv3, ↓dv4, ↓dv5, ↓dv6, ↓dv7, ↓dv8, ↓dv9, ↓dv10, ↓dv11, ↓dv12, ↓dv13, ↓dv14, ↓dv15, ↓dv16, ↓dv17, ↓dv18, ↓dv19, ↓dv20, ↓dv21, ↓dv22, ↓dv23, ↓dv24, ↓dv25, ↓dv26, ↓dv27, ↓dv28, ↓dv29, ↓dv30, ↓dv31, ↓dv32, ↓dv33, ↓dv34, ↓dv35, ↓dv36, ↓dv37, ↓dv38, ↓dv39, ↓nm0, ↓nm1, ↓nm2, ↓nm3, ↓nm4, ↓nm5, ↓nm6, ↓nm7, ↓nm8, ↓nm9, ↓nm10, ↓nm11, ↓nm12, ↓nm13, ↓nm14, ↓nm15, ↓nm16, ↓nm17, ↓nm18, ↓nm19, ↓nm20, ↓nm21, ↓nm22, ↓nm23, ↓nm24, ↓nm25, ↓nm26, ↓nm27, ↓nm28, ↓nm29, ↓nm30, ↓nm31, ↓nm32, ↓nm33, ↓nm34, ↓nm35, ↓nm36, ↓nm37, ↓nm38, ↓nm39, ↓sPar_n, ↓sPar3_n, ↓sAug_n, ↓reduceIte, List.set_set, ↓sNext_e, ↓sSeq_e, ↓sBrk_e, ↓sCnt_e, ↓sDrop_e, ↓sRet_e, ↓sRetN_e, ↓sIf_e, ↓sAsg_e, ↓sRaise_e, ↓nmG_e, ↓tupG_e, ↓gsNil_e, ↓gsCons_e, ↓subG_e, ↓dC_e, ↓dOp_e, ↓dUn_e, ↓dChain_e, ↓bOf_e, ↓bAnd_e, ↓bOr_e, ↓bNot_e, ↓bYes_e, ↓dAnd_e, ↓dOr_e, ↓dNot_e, ↓dIf_e, ↓lNil_e, ↓lCons_e, ↓dLst_e, ↓dDic0_e, ↓dDic1_e, ↓dLenSetG_e, dIsB_b, ↓dLstO_e, ↓dTup_e, ↓dCB_e, ↓dCall_e, ↓dCallK_e, ↓oNone_e, ↓oSome_e, ↓dSl_e, ↓dBM_e, ↓dBM0_e, ↓dFz_e, ↓dFz2_e, ↓d2_e, ↓dLone_e, ↓lStar_e, ↓dCallA_e, ↓dMakeA_e, ↓dMakeV_e, ↓dMethA_e, ↓dCMethA_e, ↓dPropA_e, ↓dFld_e, ↓sFldS_e, ↓dFzI_e, ↓fzID_o, ↓dM1_e, ↓dM0_e, ↓dRev_e, ↓mSplit_s, ↓mUpper_s, ↓exStr, ↓exZ, ↓cStrI_i, ↓cIntS_s, ↓iStrD_e, ↓dEqF_s, ↓dNeF_s, ↓dEqF_i, ↓dNeF_i, ↓dSign_s, ↓sRaiseI_e, ↓dXFld_e, ↓mPop_e, ↓dAddO_l, ↓dAddO_o, ↓dMk0_e, ↓sKeep_e, ↓sTryH_e, ↓dCVal_e, ↓dConI_e, ↓cLen_s, ↓dIx_s, ↓dSlS_s, ↓dAdd_s, ↓cTup_l, ↓pkP_e, ↓pkS_e, ↓lstG_e, ↓asI_i, ↓iSeq_e, ↓iTupD_e, ↓iRg1_e, ↓iRg2_e, ↓iZipD_e, iZrD_e, ↓iEnumD_e, ↓sFor_e, ↓dLc_e, ↓finF_e, ↓finO_e, ↓fzD_l, ↓fzD_i, ↓fzD_o, ↓fzD2_o, ↓dSetO_e, ↓mAppend_e, ↓mClear_e, ↓mReverse_e, List.map_cons, List.map_nil, List.length_cons, List.length_nil, rep_0, rep_s, List.cons_append, List.nil_append, List.getElem?_cons_zero, List.getElem?_cons_succ, List.set_cons_zero, List.set_cons_succ, Nat.reduceAdd, Nat.reduceSub, Nat.zero_add, Nat.add_zero, ↓exSS, ↓exB, ↓exI, ↓ex1, ↓ex2, ↓ex3, ↓exI1, ↓exI2, ↓exT, ↓exC, ↓exAs, ↓dAdd_i, ↓dAddI_i, ↓dSubI_i, ↓dLRg_e, ↓dIsiT_e, ↓dLenSet_e, ↓bChain3_e, ↓dLRg2_e, ↓iRg3_e, ↓dLc2_e, ↓dSlT_t, dAddT_t, ↓dNewK_e, ↓dDis1_e, ↓sDkp_e, ↓dDGet_e, ↓dDGet2_e, ↓dLVals_e, ↓kD_ex_i, ↓dSS_e, ↓dST_e, ↓dSI_e, ↓lsG_e, ↓dMulI_i, ↓dNew_e, ↓sDct_e, ↓dMulO_l, ↓dLRgO_e, ↓dAdd_l, ↓dSub_i, ↓dMul_i, ↓dMul_l, ↓dMod_i, ↓dDiv_i, ↓dPow_i, ↓dLt_i, ↓dLe_i, ↓dGt_i, ↓dGe_i, ↓uNeg_i, ↓cMax2_i, ↓cMin2_i, ↓cAbs_i, ↓cInt_i, ↓cInt_b, ↓cLen_l, ↓cLen_q, ↓cLen_t, ↓cList_l, ↓cList_q, ↓cList_t, ↓cListO_l, ↓cListO_t, ↓dIx_l, ↓dIx_q, ↓dIx_t, ↓dIx_o', ↓exS, ↓exL, at_1, at_2, at_3, at_4, ix30, ix31, ix32, ↓dSlL_l, ↓dSlL_q, ↓asQ_l, ↓asL_l, at_0, ↓isi_non_int, ↓isi_non_bool, ↓isi_non_str, ↓isi_non_list, ↓isi_non_tuple, ↓isi_non_dict, ↓isi_bl_int, ↓isi_bl_bool, ↓isi_bl_str, ↓isi_bl_list, ↓isi_bl_tuple, ↓isi_bl_dict, ↓isi_int_int, ↓isi_int_bool, ↓isi_int_str, ↓isi_int_list, ↓isi_int_tuple, ↓isi_int_dict, ↓isi_str_int, ↓isi_str_bool, ↓isi_str_str, ↓isi_str_list, ↓isi_str_tuple, ↓isi_str_dict, ↓isi_lst_int, ↓isi_lst_bool, ↓isi_lst_str, ↓isi_lst_list, ↓isi_lst_tuple, ↓isi_lst_dict, ↓isi_sq_int, ↓isi_sq_bool, ↓isi_sq_str, ↓isi_sq_list, ↓isi_sq_tuple, ↓isi_sq_dict, ↓isi_tup_int, ↓isi_tup_bool, ↓isi_tup_str, ↓isi_tup_list, ↓isi_tup_tuple, ↓isi_tup_dict, ↓isi_dic_int, ↓isi_dic_bool, ↓isi_dic_str, ↓isi_dic_list, ↓isi_dic_tuple, ↓isi_dic_dict, if_true, if_false, Bool.not_true, Bool.not_false, true_and, and_true, reduceCtorEq, Bool.true_eq_false, Bool.false_eq_true, ite_true, ite_false, ↓exAny, ↓isLst_l, Int.toNat_natCast, Int.reduceToNat, dVar_e, sPar_e, sPar3_e, sAug_e])))
local macro_rules | `(tactic| walk_at "dls") => `(tactic| ((try simp only [gstart, gwipe, List.set_set, List.map_cons, List.map_nil, List.length_cons, List.length_nil, rep_0, rep_s, List.cons_append, List.nil_append, List.set_cons_zero, List.set_cons_succ, Nat.reduceAdd, Nat.reduceSub, Nat.zero_add, Nat.add_zero]); (try simp only [*, ↓dv0, ↓dv1, ↓dv2, ↓dv3, ↓dv4, ↓dv5, ↓dv6, ↓dv7, ↓dv8, ↓dv9, ↓dv10, ↓dv11, ↓dv12, ↓dv13, ↓dv14, ↓dv15, ↓dv16, ↓dv17, ↓dv18, ↓dv19, ↓dv20, ↓dv21, ↓dv22, ↓dv23, ↓dv24, ↓dv25, ↓dv26, ↓dv27, ↓dv28, ↓dv29, ↓dv30, ↓dv31, ↓dv32, ↓dv33, ↓dv34, ↓dv35, ↓dv36, ↓dv37, ↓dv38, ↓dv39, ↓nm0, ↓nm1, ↓nm2, ↓nm3, ↓nm4, ↓nm5, ↓nm6, ↓nm7, ↓nm8, ↓nm9, ↓nm10, ↓nm11, ↓nm12, ↓nm13, ↓nm14, ↓nm15, ↓nm16, ↓nm17, ↓nm18, ↓nm19, ↓nm20, ↓nm21, ↓nm22, ↓nm23, ↓nm24, ↓nm25, ↓nm26, ↓nm27, ↓nm28, ↓nm29, ↓nm30, ↓nm31, ↓nm32, ↓nm33, ↓nm34, ↓nm35, ↓nm36, ↓nm37, ↓nm38, ↓nm39, ↓sPar_n, ↓sPar3_n, ↓sAug_n, ↓reduceIte, List.set_set, ↓sNext_e, ↓sSeq_e, ↓sBrk_e, ↓sCnt_e, ↓sDrop_e, ↓sRet_e, ↓sRetN_e, ↓sIf_e, ↓sAsg_e, ↓sRaise_e, ↓nmG_e, ↓tupG_e, ↓gsNil_e, ↓gsCons_e, ↓subG_e, ↓dC_e, ↓dOp_e, ↓dUn_e, ↓dChain_e, ↓bOf_e, ↓bAnd_e, ↓bOr_e, ↓bNot_e, ↓bYes_e, ↓dAnd_e, ↓dOr_e, ↓dNot_e, ↓dIf_e, ↓lNil_e, ↓lCons_e, ↓dLst_e, ↓dDic0_e, ↓dDic1_e, ↓dLenSetG_e, dIsB_b, ↓dLstO_e, ↓dTup_e, ↓dCB_e, ↓dCall_e, ↓dCallK_e, ↓oNone_e, ↓oSome_e, ↓dSl_e, ↓dBM_e, ↓dBM0_e, ↓dFz_e, ↓dFz2_e, ↓d2_e, ↓dLone_e, ↓lStar_e, ↓dCallA_e, ↓dMakeA_e, ↓dMakeV_e, ↓dMethA_e, ↓dCMethA_e, ↓dPropA_e, ↓dFld_e, ↓sFldS_e, ↓dFzI_e, ↓fzID_o, ↓dM1_e, ↓dM0_e, ↓dRev_e, ↓mSplit_s, ↓mUpper_s, ↓exStr, ↓exZ, ↓cStrI_i, ↓cIntS_s, ↓iStrD_e, ↓dEqF_s, ↓dNeF_s, ↓dEqF_i, ↓dNeF_i, ↓dSign_s, ↓sRaiseI_e, ↓dXFld_e, ↓mPop_e, ↓dAddO_l, ↓dAddO_o, ↓dMk0_e, ↓sKeep_e, ↓sTryH_e, ↓dCVal_e, ↓dConI_e, ↓cLen_s, ↓dIx_s, ↓dSlS_s, ↓dAdd_s, ↓cTup_l, ↓pkP_e, ↓pkS_e, ↓lstG_e, ↓asI_i, ↓iSeq_e, ↓iTupD_e, ↓iRg1_e, ↓iRg2_e, ↓iZipD_e, iZrD_e, ↓iEnumD_e, ↓sFor_e, ↓dLc_e, ↓finF_e, ↓finO_e, ↓fzD_l, ↓fzD_i, ↓fzD_o, ↓fzD2_o, ↓dSetO_e, ↓mAppend_e, ↓mClear_e, ↓mReverse_e, List.map_cons, List.map_nil, List.length_cons, List.length_nil, rep_0, rep_s, List.cons_append, List.nil_append, List.getElem?_cons_zero, List.getElem?_cons_succ, List.set_cons_zero, List.set_cons_succ, Nat.reduceAdd, Nat.reduceSub, Nat.zero_add, Nat.add_zero, ↓exSS, ↓exB, ↓exI, ↓ex1, ↓ex2, ↓ex3, ↓exI1, ↓exI2, ↓exT, ↓exC, ↓exAs, ↓dAdd_i, ↓dAddI_i, ↓dSubI_i, ↓dLRg_e, ↓dIsiT_e, ↓dLenSet_e, ↓bChain3_e, ↓dLRg2_e, ↓iRg3_e, ↓dLc2_e, ↓dSlT_t, dAddT_t, ↓dNewK_e, ↓dDis1_e, ↓sDkp_e, ↓dDGet_e, ↓dDGet2_e, ↓dLVals_e, ↓kD_ex_i, ↓dSS_e, ↓dST_e, ↓dSI_e, ↓lsG_e, ↓dMulI_i, ↓dNew_e, ↓sDct_e, ↓dMulO_l, ↓dLRgO_e, ↓dAdd_l, ↓dSub_i, ↓dMul_i, ↓dMul_l, ↓dMod_i, ↓dDiv_i, ↓dPow_i, ↓dLt_i, ↓dLe_i, ↓dGt_i, ↓dGe_i, ↓uNeg_i, ↓cMax2_i, ↓cMin2_i, ↓cAbs_i, ↓cInt_i, ↓cInt_b, ↓cLen_l, ↓cLen_q, ↓cLen_t, ↓cList_l, ↓cList_q, ↓cList_t, ↓cListO_l, ↓cListO_t, ↓dIx_l, ↓dIx_q, ↓dIx_t, ↓dIx_o', ↓exS, ↓exL, at_1, at_2, at_3, at_4, ix30, ix31, ix32, ↓dSlL_l, ↓dSlL_q, ↓asQ_l, ↓asL_l, at_0, ↓isi_non_int, ↓isi_non_bool, ↓isi_non_str, ↓isi_non_list, ↓isi_non_tuple, ↓isi_non_dict, ↓isi_bl_int, ↓isi_bl_bool, ↓isi_bl_str, ↓isi_bl_list, ↓isi_bl_tuple, ↓isi_bl_dict, ↓isi_int_int, ↓isi_int_bool, ↓isi_int_str, ↓isi_int_list, ↓isi_int_tuple, ↓isi_int_dict, ↓isi_str_int, ↓isi_str_bool, ↓isi_str_str, ↓isi_str_list, ↓isi_str_tuple, ↓isi_str_dict, ↓isi_lst_int, ↓isi_lst_bool, ↓isi_lst_str, ↓isi_lst_list, ↓isi_lst_tuple, ↓isi_lst_dict, ↓isi_sq_int, ↓isi_sq_bool, ↓isi_sq_str, ↓isi_sq_list, ↓isi_sq_tuple, ↓isi_sq_dict, ↓isi_tup_int, ↓isi_tup_bool, ↓isi_tup_str, ↓isi_tup_list, ↓isi_tup_tuple, ↓isi_tup_dict, ↓isi_dic_int, ↓isi_dic_bool, ↓isi_dic_str, ↓isi_dic_list, ↓isi_dic_tuple, ↓isi_dic_dict, if_true, if_false, Bool.not_true, Bool.not_false, true_and, and_true, reduceCtorEq, Bool.true_eq_false, Bool.false_eq_true, ite_true, ite_false, ↓exAny, ↓isLst_l, Int.toNat_natCast, Int.reduceToNat, dVar_e, sPar_e, sPar3_e, sAug_e])))
--MI
theorem GridOk.tab {a b : Nat} {t : List (List Int)} (g : GridOk a b t) (h : a ≤ 60 := by decide) (h2 : b ≤ 12 := by decide) : TabOk t :=
  ⟨g.lo, Nat.le_trans g.hi h, fun r hr => ⟨(g.row r hr).1, Nat.le_trans (g.row r hr).2 h2, g.at_ r hr⟩⟩
theorem p_law : Rets sp_law T_law N_law := by
  rintro _ S Φ Ψ ⟨ns, rfl, q⟩
  unfold T_law
  walk_at "dl"
  refine ⟨ns, rfl, fun c0 f0 => ?_⟩
  dsimp only
  rw [List.length_map]
  obtain ⟨N, eN, hN⟩ : ∃ N : Nat, (2 + if (ns.length : Int) < 3 then (ns.length : Int) else 3) = (N : Int) ∧ N ≤ 5 := by
    by_cases c : (ns.length : Int) < 3
    · rw [if_pos c]
      exact ⟨2 + ns.length, by omega, by omega⟩
    · rw [if_neg c]
      exact ⟨5, rfl, Nat.le_refl _⟩
  rw [eN, Int.toNat_natCast]
  refine ⟨by omega, by omega, ?_⟩
  refine for_r0 (fun i Γ S' => ∃ o2 o3, Γ = [some (.sq (ns.map D.int)), some (.own S.length), o2, o3] ∧ FdAt S' S.length (1000000 * i)) ⟨_, _, rfl, ⟨c0, get_at, f0⟩⟩ (fun i Γ' S' hi hp => ?_) fun Γ' S' hp => ?_
  · obtain ⟨o2, o3, rfl, fd⟩ := hp
    walk_at "dl"
    refine roll_at fd (by decide) fun S1 x f1 g1 x0 x1 => ?_
    walk_at "dl"
    refine roll_at g1 (by decide) fun S2 y f2 g2 y0 y1 => ?_
    walk_at "dl"
    obtain ⟨c, ec, hc⟩ : ∃ c : Nat, atI [D.int (60 + x), D.int (1 + y)] (if decide (0 < (i : Int)) = true then 1 else 0) = some (.int (c : Int)) ∧ c ≤ 88 := by
      split
      · exact ⟨(1 + y).toNat, by rw [at_1, Int.toNat_of_nonneg (by omega)], by omega⟩
      · exact ⟨(60 + x).toNat, by rw [at_0, Int.toNat_of_nonneg (by omega)], by omega⟩
    refine ⟨small (show 2 ≤ 1000000 by decide), _, ec, ?_⟩
    refine ⟨_, _, 1, 8, 5, rfl, g2, by omega, by decide, by decide, by decide, by decide, by decide, fun S3 t B hs g3 kp tb hB hhs hlen gok _ => ?_⟩
    refine ⟨_, _, B, hs, t, c, rfl, g3, by omega, tb, hB, hhs, gok.tab, hc, fun S4 g4 => ⟨true, rfl, ?_⟩⟩
    rw [if_neg (by decide)]
    refine ⟨_, _, rfl, g4, by omega, fun S5 g5 => ⟨true, rfl, ?_⟩⟩
    rw [if_neg (by decide)]
    refine ⟨_, _, 1, 30, 11, rfl, g5, by omega, by decide, by decide, by decide, by decide, by decide, fun S6 t2 B2 hs2 g6 kp2 tb2 hB2 hhs2 hlen2 gok2 _ => ?_⟩
    refine ⟨_, _, B2, hs2, t2, rfl, g6, tb2, hB2, hhs2, gok2.tab, gok2.hi, fun S7 g7 => ⟨true, rfl, ?_⟩⟩
    rw [if_neg (by decide)]
    exact ⟨_, _, rfl, g7.mono (by omega)⟩
  · obtain ⟨o2, o3, rfl, fd⟩ := hp
    walk_at "dl"
    exact ret_now (q _)
end DL
namespace DL
open PySem PySem.Spec PyProof.Rows L2
theorem sc_is_integer : FnScope N_is_integer P_is_integer (defScope s_is_integer) := ⟨rfl, rfl, rfl, by decide +kernel, rfl, by decide +kernel, by decide +kernel⟩
theorem d_is_integer {P : Program} {wd : World} {K : PySem.W.Frag} {mg : Str → Option Value} {base : Heap} {f : Addr} {cdv : Value} {A : Around} {outer : List Env} {s : Shared} {H : Hp} {E : XK} (hG : (A.deeper (envOfC "is_integer" (defScope s_is_integer) s.heap.objs.size f cdv)).guards = some []) (hr : Room 0 (A.deeper (envOfC "is_integer" (defScope s_is_integer) s.heap.objs.size f cdv))) (m_int : mg "int" = none) (m_isinstance : mg "isinstance" = none) (m_bool : mg "bool" = none) :
    ∃ t, JB (cxOf (L2.CX P wd) P wd K mg base N_is_integer "is_integer" (defScope s_is_integer) f cdv A outer s H E) (WD E) (defBody s_is_integer) t T_is_integer := by
  have hu : (A.deeper (envOfC "is_integer" (defScope s_is_integer) s.heap.objs.size f cdv)).units + 64 < cLine := hr.units
  exact ⟨_, (jb_one (js_ret (je_and (je_callB call_isi cd_isi rfl m_isinstance (by decide +kernel) (ja_cons (je_var 0) (ja_cons (je_ty rfl m_int (by decide +kernel)) ja_nil))) (je_and (je_not (je_callB call_isi cd_isi rfl m_isinstance (by decide +kernel) (ja_cons (je_var 0) (ja_cons (je_ty rfl m_bool (by decide +kernel)) ja_nil)))) (je_one (je_chain op_le op_le opd_le opd_le (je_var 1) (je_var 0) (je_var 2)))))))⟩
theorem sc_is_cell : FnScope N_is_cell P_is_cell (defScope s_is_cell) := ⟨rfl, rfl, rfl, by decide +kernel, rfl, by decide +kernel, by decide +kernel⟩
theorem d_is_cell {P : Program} {wd : World} {K : PySem.W.Frag} {mg : Str → Option Value} {base : Heap} {f : Addr} {cdv : Value} {A : Around} {outer : List Env} {s : Shared} {H : Hp} {E : XK} (hG : (A.deeper (envOfC "is_cell" (defScope s_is_cell) s.heap.objs.size f cdv)).guards = some []) (hr : Room 1 (A.deeper (envOfC "is_cell" (defScope s_is_cell) s.heap.objs.size f cdv))) (c_is_integer : CalG P wd K mg base "is_integer" s_is_integer 1 P_is_integer sp_is_integer) (g_MOST_CELL : ∃ t, mg "MOST_CELL" = some (.int 1000000000000000000000000000000 t)) :
    ∃ t, JB (cxOf (L2.CX P wd) P wd K mg base N_is_cell "is_cell" (defScope s_is_cell) f cdv A outer s H E) (WD E) (defBody s_is_cell) t T_is_cell := by
  have hu : (A.deeper (envOfC "is_cell" (defScope s_is_cell) s.heap.objs.size f cdv)).units + 64 < cLine := hr.units
  exact ⟨_, (jb_one (js_ret (je_callCG c_is_integer hG (hr.mono (by decide)) rfl (takes_of rfl rfl rfl rfl) (ja_cons (je_var 0) (ja_cons je_int (ja_cons (je_gint rfl g_MOST_CELL) ja_nil))))))⟩
theorem sc_is_line : FnScope N_is_line P_is_line (defScope s_is_line) := ⟨rfl, rfl, rfl, by decide +kernel, rfl, by decide +kernel, by decide +kernel⟩
theorem d_is_line {P : Program} {wd : World} {K : PySem.W.Frag} {mg : Str → Option Value} {base : Heap} {f : Addr} {cdv : Value} {A : Around} {outer : List Env} {s : Shared} {H : Hp} {E : XK} (hG : (A.deeper (envOfC "is_line" (defScope s_is_line) s.heap.objs.size f cdv)).guards = some []) (hr : Room 2 (A.deeper (envOfC "is_line" (defScope s_is_line) s.heap.objs.size f cdv))) (m_list : mg "list" = none) (m_isinstance : mg "isinstance" = none) (m_len : mg "len" = none) (g_MOST_CELLS : ∃ t, mg "MOST_CELLS" = some (.int 12 t)) (c_is_cell : CalG P wd K mg base "is_cell" s_is_cell 2 P_is_cell sp_is_cell) (m_all : mg "all" = none) :
    ∃ t, JB (cxOf (L2.CX P wd) P wd K mg base N_is_line "is_line" (defScope s_is_line) f cdv A outer s H E) (WD E) (defBody s_is_line) t T_is_line := by
  have hu : (A.deeper (envOfC "is_line" (defScope s_is_line) s.heap.objs.size f cdv)).units + 64 < cLine := hr.units
  exact ⟨_, (jb_one (js_ret (je_and (je_callB call_isi cd_isi rfl m_isinstance (by decide +kernel) (ja_cons (je_var 0) (ja_cons (je_ty rfl m_list (by decide +kernel)) ja_nil))) (je_and (je_chain op_le op_le opd_le opd_le je_int (je_callB call_lenA cd_len rfl m_len (by decide +kernel) (ja_cons (je_var 0) ja_nil)) (je_gint rfl g_MOST_CELLS)) (je_one (je_callB (cr_all rfl) cd_all rfl m_all (by decide +kernel) (ja_cons (je_lc (own := ([("cell", 1)] : List (Str × Nat))) finF finF_ok rfl sc_is_line.nd (ji_list (je_var 0)) (blkOk_by (N := N_is_line) (sc := defScope s_is_line) (by decide +kernel)) (fun _ _ _ _ _ => (jg_name 1 sc_is_line.nd)) (by exact (gk_name (vs := [1]) (i := 1))) (fun _ _ _ _ _ => jts_nil) (fun _ _ _ _ _ => (je_callCG c_is_cell hG (hr.mono (by decide)) rfl takes0 (ja_cons (je_var 1) ja_nil)))) ja_nil)))))))⟩
theorem sc_is_table : FnScope N_is_table P_is_table (defScope s_is_table) := ⟨rfl, rfl, rfl, by decide +kernel, rfl, by decide +kernel, by decide +kernel⟩
theorem d_is_table {P : Program} {wd : World} {K : PySem.W.Frag} {mg : Str → Option Value} {base : Heap} {f : Addr} {cdv : Value} {A : Around} {outer : List Env} {s : Shared} {H : Hp} {E : XK} (hG : (A.deeper (envOfC "is_table" (defScope s_is_table) s.heap.objs.size f cdv)).guards = some []) (hr : Room 3 (A.deeper (envOfC "is_table" (defScope s_is_table) s.heap.objs.size f cdv))) (m_list : mg "list" = none) (m_isinstance : mg "isinstance" = none) (m_len : mg "len" = none) (g_MOST_LINES : ∃ t, mg "MOST_LINES" = some (.int 60 t)) (c_is_line : CalG P wd K mg base "is_line" s_is_line 3 P_is_line sp_is_line) (m_all : mg "all" = none) :
    ∃ t, JB (cxOf (L2.CX P wd) P wd K mg base N_is_table "is_table" (defScope s_is_table) f cdv A outer s H E) (WD E) (defBody s_is_table) t T_is_table := by
  have hu : (A.deeper (envOfC "is_table" (defScope s_is_table) s.heap.objs.size f cdv)).units + 64 < cLine := hr.units
  exact ⟨_, (jb_one (js_ret (je_and (je_callB call_isi cd_isi rfl m_isinstance (by decide +kernel) (ja_cons (je_var 0) (ja_cons (je_ty rfl m_list (by decide +kernel)) ja_nil))) (je_and (je_chain op_le op_le opd_le opd_le je_int (je_callB call_lenA cd_len rfl m_len (by decide +kernel) (ja_cons (je_var 0) ja_nil)) (je_gint rfl g_MOST_LINES)) (je_one (je_callB (cr_all rfl) cd_all rfl m_all (by decide +kernel) (ja_cons (je_lc (own := ([("line", 1)] : List (Str × Nat))) finF finF_ok rfl sc_is_table.nd (ji_list (je_var 0)) (blkOk_by (N := N_is_table) (sc := defScope s_is_table) (by decide +kernel)) (fun _ _ _ _ _ => (jg_name 1 sc_is_table.nd)) (by exact (gk_name (vs := [1]) (i := 1))) (fun _ _ _ _ _ => jts_nil) (fun _ _ _ _ _ => (je_callCG c_is_line hG (hr.mono (by decide)) rfl takes0 (ja_cons (je_var 1) ja_nil)))) ja_nil)))))))⟩
theorem sc_need_table : FnScope N_need_table P_need_table (defScope s_need_table) := ⟨rfl, rfl, rfl, by decide +kernel, rfl, by decide +kernel, by decide +kernel⟩
theorem d_need_table {C_InvalidTable : Addr} {P : Program} {wd : World} {K : PySem.W.Frag} {mg : Str → Option Value} {base : Heap} {f : Addr} {cdv : Value} {A : Around} {outer : List Env} {s : Shared} {H : Hp} {E : XK} (hG : (A.deeper (envOfC "need_table" (defScope s_need_table) s.heap.objs.size f cdv)).guards = some []) (hr : Room 4 (A.deeper (envOfC "need_table" (defScope s_need_table) s.heap.objs.size f cdv))) (c_is_table : CalG P wd K mg base "is_table" s_is_table 4 P_is_table sp_is_table) (e_InvalidTable : ExcF K mg "InvalidTable" C_InvalidTable) :
    ∃ t, JB (cxOf (L2.CX P wd) P wd K mg base N_need_table "need_table" (defScope s_need_table) f cdv A outer s H E) (WD E) (defBody s_need_table) t (T_need_table C_InvalidTable) := by
  have hu : (A.deeper (envOfC "need_table" (defScope s_need_table) s.heap.objs.size f cdv)).units + 64 < cLine := hr.units
  exact ⟨_, (jb_one (js_if (jt_not (jt_val (je_callCG c_is_table hG (hr.mono (by decide)) rfl (takes_of rfl rfl rfl rfl) (ja_cons (je_var 0) ja_nil))))
  (jb_one (js_raiseC e_InvalidTable rfl (takes_of rfl rfl rfl rfl) rfl))
  jb_nil))⟩
theorem sc_need_line : FnScope N_need_line P_need_line (defScope s_need_line) := ⟨rfl, rfl, rfl, by decide +kernel, rfl, by decide +kernel, by decide +kernel⟩
theorem d_need_line {C_InvalidLine : Addr} {P : Program} {wd : World} {K : PySem.W.Frag} {mg : Str → Option Value} {base : Heap} {f : Addr} {cdv : Value} {A : Around} {outer : List Env} {s : Shared} {H : Hp} {E : XK} (hG : (A.deeper (envOfC "need_line" (defScope s_need_line) s.heap.objs.size f cdv)).guards = some []) (hr : Room 1 (A.deeper (envOfC "need_line" (defScope s_need_line) s.heap.objs.size f cdv))) (c_is_integer : CalG P wd K mg base "is_integer" s_is_integer 1 P_is_integer sp_is_integer) (m_len : mg "len" = none) (e_InvalidLine : ExcF K mg "InvalidLine" C_InvalidLine) :
    ∃ t, JB (cxOf (L2.CX P wd) P wd K mg base N_need_line "need_line" (defScope s_need_line) f cdv A outer s H E) (WD E) (defBody s_need_line) t (T_need_line C_InvalidLine) := by
  have hu : (A.deeper (envOfC "need_line" (defScope s_need_line) s.heap.objs.size f cdv)).units + 64 < cLine := hr.units
  exact ⟨_, (jb_one (js_if (jt_not (jt_val (je_callCG c_is_integer hG (hr.mono (by decide)) rfl (takes_of rfl rfl rfl rfl) (ja_cons (je_var 1) (ja_cons je_int (ja_cons (je_op op_sub opd_sub (je_callB call_lenA cd_len rfl m_len (by decide +kernel) (ja_cons (je_var 0) ja_nil)) je_int) ja_nil))))))
  (jb_one (js_raiseC e_InvalidLine rfl (takes_of rfl rfl rfl rfl) rfl))
  jb_nil))⟩
theorem sc_copy_of : FnScope N_copy_of P_copy_of (defScope s_copy_of) := ⟨rfl, rfl, rfl, by decide +kernel, rfl, by decide +kernel, by decide +kernel⟩
theorem d_copy_of {P : Program} {wd : World} {K : PySem.W.Frag} {mg : Str → Option Value} {base : Heap} {f : Addr} {cdv : Value} {A : Around} {outer : List Env} {s : Shared} {H : Hp} {E : XK} (hG : (A.deeper (envOfC "copy_of" (defScope s_copy_of) s.heap.objs.size f cdv)).guards = some []) (hr : Room 0 (A.deeper (envOfC "copy_of" (defScope s_copy_of) s.heap.objs.size f cdv))) (m_list : mg "list" = none) :
    ∃ t, JB (cxOf (L2.CX P wd) P wd K mg base N_copy_of "copy_of" (defScope s_copy_of) f cdv A outer s H E) (WD E) (defBody s_copy_of) t T_copy_of := by
  have hu : (A.deeper (envOfC "copy_of" (defScope s_copy_of) s.heap.objs.size f cdv)).units + 64 < cLine := hr.units
  exact ⟨_, (jb_one (js_ret (je_lc (own := ([("cells", 1)] : List (Str × Nat))) finO finO_ok rfl sc_copy_of.nd (ji_list (je_var 0)) (blkOk_by (N := N_copy_of) (sc := defScope s_copy_of) (by decide +kernel)) (fun _ _ _ _ _ => (jg_name 1 sc_copy_of.nd)) (by exact (gk_name (vs := [1]) (i := 1))) (fun _ _ _ _ _ => jts_nil) (fun _ _ _ _ _ => (je_callTy call_list_of cd_listO rfl m_list (by decide +kernel) (ja_cons (je_var 1) ja_nil))))))⟩
theorem sc_tabs_in : FnScope N_tabs_in P_tabs_in (defScope s_tabs_in) := ⟨rfl, rfl, rfl, by decide +kernel, rfl, by decide +kernel, by decide +kernel⟩
theorem d_tabs_in {P : Program} {wd : World} {K : PySem.W.Frag} {mg : Str → Option Value} {base : Heap} {f : Addr} {cdv : Value} {A : Around} {outer : List Env} {s : Shared} {H : Hp} {E : XK} (hG : (A.deeper (envOfC "tabs_in" (defScope s_tabs_in) s.heap.objs.size f cdv)).guards = some []) (hr : Room 0 (A.deeper (envOfC "tabs_in" (defScope s_tabs_in) s.heap.objs.size f cdv))) (m_len : mg "len" = none) :
    ∃ t, JB (cxOf (L2.CX P wd) P wd K mg base N_tabs_in "tabs_in" (defScope s_tabs_in) f cdv A outer s H E) (WD E) (defBody s_tabs_in) t T_tabs_in := by
  have hu : (A.deeper (envOfC "tabs_in" (defScope s_tabs_in) s.heap.objs.size f cdv)).units + 64 < cLine := hr.units
  exact ⟨_, (jb_one (js_ret (je_lc (own := ([("cells", 1)] : List (Str × Nat))) finF finF_ok rfl sc_tabs_in.nd (ji_list (je_var 0)) (blkOk_by (N := N_tabs_in) (sc := defScope s_tabs_in) (by decide +kernel)) (fun _ _ _ _ _ => (jg_name 1 sc_tabs_in.nd)) (by exact (gk_name (vs := [1]) (i := 1))) (fun _ _ _ _ _ => jts_nil) (fun _ _ _ _ _ => (je_op op_sub opd_sub (je_callB call_lenA cd_len rfl m_len (by decide +kernel) (ja_cons (je_var 1) ja_nil)) je_int)))))⟩
theorem sc_blocks_of_column : FnScope N_blocks_of_column P_blocks_of_column (defScope s_blocks_of_column) := ⟨rfl, rfl, rfl, by decide +kernel, rfl, by decide +kernel, by decide +kernel⟩
theorem d_blocks_of_column {P : Program} {wd : World} {K : PySem.W.Frag} {mg : Str → Option Value} {base : Heap} {f : Addr} {cdv : Value} {A : Around} {outer : List Env} {s : Shared} {H : Hp} {E : XK} (hG : (A.deeper (envOfC "blocks_of_column" (defScope s_blocks_of_column) s.heap.objs.size f cdv)).guards = some []) (hr : Room 0 (A.deeper (envOfC "blocks_of_column" (defScope s_blocks_of_column) s.heap.objs.size f cdv))) (m_enumerate : mg "enumerate" = none) :
    ∃ t, JB (cxOf (L2.CX P wd) P wd K mg base N_blocks_of_column "blocks_of_column" (defScope s_blocks_of_column) f cdv A outer s H E) (WD E) (defBody s_blocks_of_column) t T_blocks_of_column := by
  have hu : (A.deeper (envOfC "blocks_of_column" (defScope s_blocks_of_column) s.heap.objs.size f cdv)).units + 64 < cLine := hr.units
  exact ⟨_, (jb_cons (js_set 2 sc_blocks_of_column.nd (je_lstO ja_nil))
  (jb_cons (js_set 3 sc_blocks_of_column.nd je_non)
  (jb_cons (js_for (passes_of rfl) rfl (ji_enum rfl m_enumerate (ja_cons (je_lst (ja_star (je_var 0) (ja_cons je_int ja_nil))) ja_nil)) (jg_tup rfl (jgs_cons (jg_name 4 sc_blocks_of_column.nd) (jgs_cons (jg_name 5 sc_blocks_of_column.nd) jgs_nil)))
  (jb_cons (js_if (JW.jt (jw_and (jt_cmp op_gt opd_gt (je_var 5) (je_var 1) (nomark _)) (jw_and1 (jt_cmp op_isN opd_isN (je_var 3) je_non (nomark _)))))
  (jb_one (js_set 3 sc_blocks_of_column.nd (je_var 4)))
  jb_nil)
  (jb_one (js_if (JW.jt (jw_and (jt_cmp op_le opd_le (je_var 5) (je_var 1) (nomark _)) (jw_and1 (jt_cmp op_notN opd_notN (je_var 3) je_non (nomark _)))))
  (jb_cons (js_expr (je_bm PySem.F.slot_list_append PySem.F.type_list_append mt_append mtd_append (je_var 2) (ja_cons (je_tup (ja_cons (je_var 1) (ja_cons (je_var 3) (ja_cons (je_op op_sub opd_sub (je_var 4) je_int) ja_nil)))) ja_nil)))
  (jb_one (js_set 3 sc_blocks_of_column.nd je_non)))
  jb_nil))))
  (jb_one (js_ret (je_fz (je_var 2)))))))⟩
theorem sc_blocks_by_tabs : FnScope N_blocks_by_tabs P_blocks_by_tabs (defScope s_blocks_by_tabs) := ⟨rfl, rfl, rfl, by decide +kernel, rfl, by decide +kernel, by decide +kernel⟩
theorem d_blocks_by_tabs {P : Program} {wd : World} {K : PySem.W.Frag} {mg : Str → Option Value} {base : Heap} {f : Addr} {cdv : Value} {A : Around} {outer : List Env} {s : Shared} {H : Hp} {E : XK} (hG : (A.deeper (envOfC "blocks_by_tabs" (defScope s_blocks_by_tabs) s.heap.objs.size f cdv)).guards = some []) (hr : Room 1 (A.deeper (envOfC "blocks_by_tabs" (defScope s_blocks_by_tabs) s.heap.objs.size f cdv))) (g_MOST_CELLS : ∃ t, mg "MOST_CELLS" = some (.int 12 t)) (m_range : mg "range" = none) (c_blocks_of_column : CalG P wd K mg base "blocks_of_column" s_blocks_of_column 1 P_blocks_of_column sp_blocks_of_column) :
    ∃ t, JB (cxOf (L2.CX P wd) P wd K mg base N_blocks_by_tabs "blocks_by_tabs" (defScope s_blocks_by_tabs) f cdv A outer s H E) (WD E) (defBody s_blocks_by_tabs) t T_blocks_by_tabs := by
  have hu : (A.deeper (envOfC "blocks_by_tabs" (defScope s_blocks_by_tabs) s.heap.objs.size f cdv)).units + 64 < cLine := hr.units
  exact ⟨_, (jb_cons (js_set 1 sc_blocks_by_tabs.nd (je_lstO ja_nil))
  (jb_cons (js_for (passes_of rfl) rfl (ji_range1 rfl m_range (ja_cons (je_op op_sub opd_sub (je_gint rfl g_MOST_CELLS) je_int) ja_nil)) (jg_name 2 sc_blocks_by_tabs.nd)
  (jb_one (js_expr (je_bm PySem.F.slot_list_extend PySem.F.type_list_extend mt_extend mtd_extend (je_var 1) (ja_cons (je_callCG c_blocks_of_column hG (hr.mono (by decide)) rfl (takes_of rfl rfl rfl rfl) (ja_cons (je_var 0) (ja_cons (je_var 2) ja_nil))) ja_nil)))))
  (jb_one (js_ret (je_fz (je_var 1))))))⟩
theorem sc_blocks_in : FnScope N_blocks_in P_blocks_in (defScope s_blocks_in) := ⟨rfl, rfl, rfl, by decide +kernel, rfl, by decide +kernel, by decide +kernel⟩
theorem d_blocks_in {P : Program} {wd : World} {K : PySem.W.Frag} {mg : Str → Option Value} {base : Heap} {f : Addr} {cdv : Value} {A : Around} {outer : List Env} {s : Shared} {H : Hp} {E : XK} (hG : (A.deeper (envOfC "blocks_in" (defScope s_blocks_in) s.heap.objs.size f cdv)).guards = some []) (hr : Room 2 (A.deeper (envOfC "blocks_in" (defScope s_blocks_in) s.heap.objs.size f cdv))) (c_blocks_by_tabs : CalG P wd K mg base "blocks_by_tabs" s_blocks_by_tabs 2 P_blocks_by_tabs sp_blocks_by_tabs) (c_tabs_in : CalG P wd K mg base "tabs_in" s_tabs_in 1 P_tabs_in sp_tabs_in) :
    ∃ t, JB (cxOf (L2.CX P wd) P wd K mg base N_blocks_in "blocks_in" (defScope s_blocks_in) f cdv A outer s H E) (WD E) (defBody s_blocks_in) t T_blocks_in := by
  have hu : (A.deeper (envOfC "blocks_in" (defScope s_blocks_in) s.heap.objs.size f cdv)).units + 64 < cLine := hr.units
  exact ⟨_, (jb_one (js_ret (je_callCG c_blocks_by_tabs hG (hr.mono (by decide)) rfl (takes_of rfl rfl rfl rfl) (ja_cons (je_callCG c_tabs_in hG (hr.mono (by decide)) rfl (takes_of rfl rfl rfl rfl) (ja_cons (je_var 0) ja_nil)) ja_nil))))⟩
theorem sc_greatest_in : FnScope N_greatest_in P_greatest_in (defScope s_greatest_in) := ⟨rfl, rfl, rfl, by decide +kernel, rfl, by decide +kernel, by decide +kernel⟩
theorem d_greatest_in {P : Program} {wd : World} {K : PySem.W.Frag} {mg : Str → Option Value} {base : Heap} {f : Addr} {cdv : Value} {A : Around} {outer : List Env} {s : Shared} {H : Hp} {E : XK} (hG : (A.deeper (envOfC "greatest_in" (defScope s_greatest_in) s.heap.objs.size f cdv)).guards = some []) (hr : Room 0 (A.deeper (envOfC "greatest_in" (defScope s_greatest_in) s.heap.objs.size f cdv))) (m_max : mg "max" = none) :
    ∃ t, JB (cxOf (L2.CX P wd) P wd K mg base N_greatest_in "greatest_in" (defScope s_greatest_in) f cdv A outer s H E) (WD E) (defBody s_greatest_in) t T_greatest_in := by
  have hu : (A.deeper (envOfC "greatest_in" (defScope s_greatest_in) s.heap.objs.size f cdv)).units + 64 < cLine := hr.units
  exact ⟨_, (jb_cons (js_asg (je_var 1) (jg_tup rfl (jgs_cons (jg_name 2 sc_greatest_in.nd) (jgs_cons (jg_name 3 sc_greatest_in.nd) (jgs_cons (jg_name 4 sc_greatest_in.nd) jgs_nil)))))
  (jb_one (js_ret (je_callB (cr_max rfl) cd_max rfl m_max (by decide +kernel) (ja_cons (je_lc (own := ([("cells", 5)] : List (Str × Nat))) finF finF_ok rfl sc_greatest_in.nd (ji_list (je_slice sl_list sld_l (je_var 0) (jo_some (je_var 3)) (jo_some (je_op op_addA opd_add (je_var 4) je_int)))) (blkOk_by (N := N_greatest_in) (sc := defScope s_greatest_in) (by decide +kernel)) (fun _ _ _ _ _ => (jg_name 5 sc_greatest_in.nd)) (by exact (gk_name (vs := [5]) (i := 5))) (fun _ _ _ _ _ => jts_nil) (fun _ _ _ _ _ => (je_ix ix_seq opd_ix (je_var 5) (je_var 2)))) ja_nil)))))⟩
theorem sc_room_of : FnScope N_room_of P_room_of (defScope s_room_of) := ⟨rfl, rfl, rfl, by decide +kernel, rfl, by decide +kernel, by decide +kernel⟩
theorem d_room_of {C_Style : Addr} {P : Program} {wd : World} {K : PySem.W.Frag} {mg : Str → Option Value} {base : Heap} {f : Addr} {cdv : Value} {A : Around} {outer : List Env} {s : Shared} {H : Hp} {E : XK} (hG : (A.deeper (envOfC "room_of" (defScope s_room_of) s.heap.objs.size f cdv)).guards = some []) (hr : Room 2 (A.deeper (envOfC "room_of" (defScope s_room_of) s.heap.objs.size f cdv))) (c_greatest_in : CalG P wd K mg base "greatest_in" s_greatest_in 1 P_greatest_in sp_greatest_in) (pr_Style_least : PropK P wd K mg base C_Style "least" 1 (pkP 1 [0] [] (sp_Style_least C_Style))) (m_max : mg "max" = none) :
    ∃ t, JB (cxOf (L2.CX P wd) P wd K mg base N_room_of "room_of" (defScope s_room_of) f cdv A outer s H E) (WD E) (defBody s_room_of) t (T_room_of C_Style) := by
  have hu : (A.deeper (envOfC "room_of" (defScope s_room_of) s.heap.objs.size f cdv)).units + 64 < cLine := hr.units
  exact ⟨_, (jb_one (js_ret (je_callB (call_max2 rfl) cd_max2 rfl m_max (by decide +kernel) (ja_cons (je_propA pr_Style_least hG (hr.mono (by decide)) (je_var 1)) (ja_cons (je_callCG c_greatest_in hG (hr.mono (by decide)) rfl (takes_of rfl rfl rfl rfl) (ja_cons (je_var 0) (ja_cons (je_var 2) ja_nil))) ja_nil)))))⟩
theorem sc_rooms_in : FnScope N_rooms_in P_rooms_in (defScope s_rooms_in) := ⟨rfl, rfl, rfl, by decide +kernel, rfl, by decide +kernel, by decide +kernel⟩
theorem d_rooms_in {C_Style : Addr} {P : Program} {wd : World} {K : PySem.W.Frag} {mg : Str → Option Value} {base : Heap} {f : Addr} {cdv : Value} {A : Around} {outer : List Env} {s : Shared} {H : Hp} {E : XK} (hG : (A.deeper (envOfC "rooms_in" (defScope s_rooms_in) s.heap.objs.size f cdv)).guards = some []) (hr : Room 3 (A.deeper (envOfC "rooms_in" (defScope s_rooms_in) s.heap.objs.size f cdv))) (c_blocks_in : CalG P wd K mg base "blocks_in" s_blocks_in 3 P_blocks_in sp_blocks_in) (c_room_of : CalG P wd K mg base "room_of" s_room_of 3 P_room_of (sp_room_of C_Style)) (m_range : mg "range" = none) :
    ∃ t, JB (cxOf (L2.CX P wd) P wd K mg base N_rooms_in "rooms_in" (defScope s_rooms_in) f cdv A outer s H E) (WD E) (defBody s_rooms_in) t (T_rooms_in C_Style) := by
  have hu : (A.deeper (envOfC "rooms_in" (defScope s_rooms_in) s.heap.objs.size f cdv)).units + 64 < cLine := hr.units
  exact ⟨_, (jb_cons (js_setLc 2 (own := ([("cells", 6)] : List (Str × Nat))) finO finO_ok rfl sc_rooms_in.nd (ji_list (je_var 0)) (blkOk_by (N := N_rooms_in) (sc := defScope s_rooms_in) (by decide +kernel)) (fun _ _ _ _ _ => (jg_name 6 sc_rooms_in.nd)) (by exact (gk_name (vs := [6]) (i := 6))) (fun _ _ _ _ _ => jts_nil) (fun _ _ _ _ _ => (je_lstO ja_nil)))
  (jb_cons (js_for (passes_of rfl) rfl (ji_list (je_callCG c_blocks_in hG (hr.mono (by decide)) rfl (takes_of rfl rfl rfl rfl) (ja_cons (je_var 0) ja_nil))) (jg_name 3 sc_rooms_in.nd)
  (jb_cons (js_set 4 sc_rooms_in.nd (je_callCG c_room_of hG (hr.mono (by decide)) rfl (takes_of rfl rfl rfl rfl) (ja_cons (je_var 0) (ja_cons (je_var 1) (ja_cons (je_var 3) ja_nil)))))
  (jb_one (js_for (passes_of rfl) rfl (ji_range2 rfl m_range (ja_cons (je_ix ix_seq opd_ix (je_var 3) je_int) (ja_cons (je_op op_addA opd_add (je_ix ix_seq opd_ix (je_var 3) je_int) je_int) ja_nil))) (jg_name 5 sc_rooms_in.nd)
  (jb_one (js_expr (je_bm PySem.F.slot_list_append PySem.F.type_list_append mt_append mtd_append (je_ix ix_seq opd_ix (je_var 2) (je_var 5)) (ja_cons (je_var 4) ja_nil))))))))
  (jb_one (js_ret (je_var 2)))))⟩
theorem sc_stops_in : FnScope N_stops_in P_stops_in (defScope s_stops_in) := ⟨rfl, rfl, rfl, by decide +kernel, rfl, by decide +kernel, by decide +kernel⟩
theorem d_stops_in {C_Style : Addr} {P : Program} {wd : World} {K : PySem.W.Frag} {mg : Str → Option Value} {base : Heap} {f : Addr} {cdv : Value} {A : Around} {outer : List Env} {s : Shared} {H : Hp} {E : XK} (hG : (A.deeper (envOfC "stops_in" (defScope s_stops_in) s.heap.objs.size f cdv)).guards = some []) (hr : Room 4 (A.deeper (envOfC "stops_in" (defScope s_stops_in) s.heap.objs.size f cdv))) (c_rooms_in : CalG P wd K mg base "rooms_in" s_rooms_in 4 P_rooms_in (sp_rooms_in C_Style)) (pr_Style_gap : PropK P wd K mg base C_Style "gap" 1 (pkP 1 [0] [] (sp_Style_gap C_Style))) :
    ∃ t, JB (cxOf (L2.CX P wd) P wd K mg base N_stops_in "stops_in" (defScope s_stops_in) f cdv A outer s H E) (WD E) (defBody s_stops_in) t (T_stops_in C_Style) := by
  have hu : (A.deeper (envOfC "stops_in" (defScope s_stops_in) s.heap.objs.size f cdv)).units + 64 < cLine := hr.units
  exact ⟨_, (jb_cons (js_set 2 sc_stops_in.nd (je_lstO ja_nil))
  (jb_cons (js_for (passes_of rfl) rfl (ji_list (je_fz2 (je_callCG c_rooms_in hG (hr.mono (by decide)) rfl (takes_of rfl rfl rfl rfl) (ja_cons (je_var 0) (ja_cons (je_var 1) ja_nil))))) (jg_name 3 sc_stops_in.nd)
  (jb_cons (js_par 4 5 rfl sc_stops_in.nd (ja_cons je_int (ja_cons (je_lstO ja_nil) ja_nil)))
  (jb_cons (js_for (passes_of rfl) rfl (ji_list (je_var 3)) (jg_name 6 sc_stops_in.nd)
  (jb_cons (js_aug 4 sc_stops_in.nd (je_op op_addA opd_add (je_var 6) (je_propA pr_Style_gap hG (hr.mono (by decide)) (je_var 1))) ip_add ipd_addI)
  (jb_one (js_expr (je_bm PySem.F.slot_list_append PySem.F.type_list_append mt_append mtd_append (je_var 5) (ja_cons (je_var 4) ja_nil))))))
  (jb_one (js_expr (je_bm PySem.F.slot_list_append PySem.F.type_list_append mt_append mtd_append (je_var 2) (ja_cons (je_var 5) ja_nil)))))))
  (jb_one (js_ret (je_var 2)))))⟩
theorem sc_ends_in : FnScope N_ends_in P_ends_in (defScope s_ends_in) := ⟨rfl, rfl, rfl, by decide +kernel, rfl, by decide +kernel, by decide +kernel⟩
theorem d_ends_in {C_Style : Addr} {P : Program} {wd : World} {K : PySem.W.Frag} {mg : Str → Option Value} {base : Heap} {f : Addr} {cdv : Value} {A : Around} {outer : List Env} {s : Shared} {H : Hp} {E : XK} (hG : (A.deeper (envOfC "ends_in" (defScope s_ends_in) s.heap.objs.size f cdv)).guards = some []) (hr : Room 5 (A.deeper (envOfC "ends_in" (defScope s_ends_in) s.heap.objs.size f cdv))) (c_stops_in : CalG P wd K mg base "stops_in" s_stops_in 5 P_stops_in (sp_stops_in C_Style)) (m_zip : mg "zip" = none) :
    ∃ t, JB (cxOf (L2.CX P wd) P wd K mg base N_ends_in "ends_in" (defScope s_ends_in) f cdv A outer s H E) (WD E) (defBody s_ends_in) t (T_ends_in C_Style) := by
  have hu : (A.deeper (envOfC "ends_in" (defScope s_ends_in) s.heap.objs.size f cdv)).units + 64 < cLine := hr.units
  exact ⟨_, (jb_cons (js_set 2 sc_ends_in.nd (je_lstO ja_nil))
  (jb_cons (js_for (passes_of rfl) rfl (ji_zip rfl m_zip (ja_cons (je_var 0) (ja_cons (je_fz2 (je_callCG c_stops_in hG (hr.mono (by decide)) rfl (takes_of rfl rfl rfl rfl) (ja_cons (je_var 0) (ja_cons (je_var 1) ja_nil)))) ja_nil))) (jg_tup rfl (jgs_cons (jg_name 3 sc_ends_in.nd) (jgs_cons (jg_name 4 sc_ends_in.nd) jgs_nil)))
  (jb_cons (js_set 5 sc_ends_in.nd (je_if (jt_cmp (op_neD hu) opd_ne (je_var 4) (je_lst ja_nil) (nomark _)) (je_ix ix_seq opd_ix (je_var 4) (je_neg je_int)) je_int))
  (jb_one (js_expr (je_bm PySem.F.slot_list_append PySem.F.type_list_append mt_append mtd_append (je_var 2) (ja_cons (je_op op_addA opd_add (je_var 5) (je_ix ix_seq opd_ix (je_var 3) (je_neg je_int))) ja_nil))))))
  (jb_one (js_ret (je_var 2)))))⟩
theorem sc_width_in : FnScope N_width_in P_width_in (defScope s_width_in) := ⟨rfl, rfl, rfl, by decide +kernel, rfl, by decide +kernel, by decide +kernel⟩
theorem d_width_in {C_Style : Addr} {P : Program} {wd : World} {K : PySem.W.Frag} {mg : Str → Option Value} {base : Heap} {f : Addr} {cdv : Value} {A : Around} {outer : List Env} {s : Shared} {H : Hp} {E : XK} (hG : (A.deeper (envOfC "width_in" (defScope s_width_in) s.heap.objs.size f cdv)).guards = some []) (hr : Room 6 (A.deeper (envOfC "width_in" (defScope s_width_in) s.heap.objs.size f cdv))) (c_ends_in : CalG P wd K mg base "ends_in" s_ends_in 6 P_ends_in (sp_ends_in C_Style)) (m_max : mg "max" = none) :
    ∃ t, JB (cxOf (L2.CX P wd) P wd K mg base N_width_in "width_in" (defScope s_width_in) f cdv A outer s H E) (WD E) (defBody s_width_in) t (T_width_in C_Style) := by
  have hu : (A.deeper (envOfC "width_in" (defScope s_width_in) s.heap.objs.size f cdv)).units + 64 < cLine := hr.units
  exact ⟨_, (jb_one (js_ret (je_callB (cr_max rfl) cd_max rfl m_max (by decide +kernel) (ja_cons (je_callCG c_ends_in hG (hr.mono (by decide)) rfl (takes_of rfl rfl rfl rfl) (ja_cons (je_var 0) (ja_cons (je_var 1) ja_nil))) ja_nil))))⟩
theorem sc_stops : FnScope N_stops P_stops (defScope s_stops) := ⟨rfl, rfl, rfl, by decide +kernel, rfl, by decide +kernel, by decide +kernel⟩
theorem d_stops {C_Style : Addr} {P : Program} {wd : World} {K : PySem.W.Frag} {mg : Str → Option Value} {base : Heap} {f : Addr} {cdv : Value} {A : Around} {outer : List Env} {s : Shared} {H : Hp} {E : XK} (hG : (A.deeper (envOfC "stops" (defScope s_stops) s.heap.objs.size f cdv)).guards = some []) (hr : Room 5 (A.deeper (envOfC "stops" (defScope s_stops) s.heap.objs.size f cdv))) (c_need_table : CalG P wd K mg base "need_table" s_need_table 5 P_need_table sp_need_table) (c_stops_in : CalG P wd K mg base "stops_in" s_stops_in 5 P_stops_in (sp_stops_in C_Style)) :
    ∃ t, JB (cxOf (L2.CX P wd) P wd K mg base N_stops "stops" (defScope s_stops) f cdv A outer s H E) (WD E) (defBody s_stops) t (T_stops C_Style) := by
  have hu : (A.deeper (envOfC "stops" (defScope s_stops) s.heap.objs.size f cdv)).units + 64 < cLine := hr.units
  exact ⟨_, (jb_cons (js_expr (je_callCG c_need_table hG (hr.mono (by decide)) rfl (takes_of rfl rfl rfl rfl) (ja_cons (je_var 0) ja_nil)))
  (jb_one (js_ret (je_callCG c_stops_in hG (hr.mono (by decide)) rfl (takes_of rfl rfl rfl rfl) (ja_cons (je_var 0) (ja_cons (je_var 1) ja_nil))))))⟩
theorem sc_width_of : FnScope N_width_of P_width_of (defScope s_width_of) := ⟨rfl, rfl, rfl, by decide +kernel, rfl, by decide +kernel, by decide +kernel⟩
theorem d_width_of {C_Style : Addr} {P : Program} {wd : World} {K : PySem.W.Frag} {mg : Str → Option Value} {base : Heap} {f : Addr} {cdv : Value} {A : Around} {outer : List Env} {s : Shared} {H : Hp} {E : XK} (hG : (A.deeper (envOfC "width_of" (defScope s_width_of) s.heap.objs.size f cdv)).guards = some []) (hr : Room 7 (A.deeper (envOfC "width_of" (defScope s_width_of) s.heap.objs.size f cdv))) (c_need_table : CalG P wd K mg base "need_table" s_need_table 5 P_need_table sp_need_table) (c_width_in : CalG P wd K mg base "width_in" s_width_in 7 P_width_in (sp_width_in C_Style)) :
    ∃ t, JB (cxOf (L2.CX P wd) P wd K mg base N_width_of "width_of" (defScope s_width_of) f cdv A outer s H E) (WD E) (defBody s_width_of) t (T_width_of C_Style) := by
  have hu : (A.deeper (envOfC "width_of" (defScope s_width_of) s.heap.objs.size f cdv)).units + 64 < cLine := hr.units
  exact ⟨_, (jb_cons (js_expr (je_callCG c_need_table hG (hr.mono (by decide)) rfl (takes_of rfl rfl rfl rfl) (ja_cons (je_var 0) ja_nil)))
  (jb_one (js_ret (je_callCG c_width_in hG (hr.mono (by decide)) rfl (takes_of rfl rfl rfl rfl) (ja_cons (je_var 0) (ja_cons (je_var 1) ja_nil))))))⟩
theorem sc_need_cell : FnScope N_need_cell P_need_cell (defScope s_need_cell) := ⟨rfl, rfl, rfl, by decide +kernel, rfl, by decide +kernel, by decide +kernel⟩
theorem d_need_cell {C_InvalidColumn C_InvalidCell : Addr} {P : Program} {wd : World} {K : PySem.W.Frag} {mg : Str → Option Value} {base : Heap} {f : Addr} {cdv : Value} {A : Around} {outer : List Env} {s : Shared} {H : Hp} {E : XK} (hG : (A.deeper (envOfC "need_cell" (defScope s_need_cell) s.heap.objs.size f cdv)).guards = some []) (hr : Room 5 (A.deeper (envOfC "need_cell" (defScope s_need_cell) s.heap.objs.size f cdv))) (c_need_table : CalG P wd K mg base "need_table" s_need_table 5 P_need_table sp_need_table) (c_need_line : CalG P wd K mg base "need_line" s_need_line 2 P_need_line sp_need_line) (m_len : mg "len" = none) (e_InvalidColumn : ExcF K mg "InvalidColumn" C_InvalidColumn) (c_is_cell : CalG P wd K mg base "is_cell" s_is_cell 2 P_is_cell sp_is_cell) (e_InvalidCell : ExcF K mg "InvalidCell" C_InvalidCell) :
    ∃ t, JB (cxOf (L2.CX P wd) P wd K mg base N_need_cell "need_cell" (defScope s_need_cell) f cdv A outer s H E) (WD E) (defBody s_need_cell) t (T_need_cell C_InvalidColumn C_InvalidCell) := by
  have hu : (A.deeper (envOfC "need_cell" (defScope s_need_cell) s.heap.objs.size f cdv)).units + 64 < cLine := hr.units
  exact ⟨_, (jb_cons (js_expr (je_callCG c_need_table hG (hr.mono (by decide)) rfl (takes_of rfl rfl rfl rfl) (ja_cons (je_var 0) ja_nil)))
  (jb_cons (js_expr (je_callCG c_need_line hG (hr.mono (by decide)) rfl (takes_of rfl rfl rfl rfl) (ja_cons (je_var 0) (ja_cons (je_var 1) ja_nil))))
  (jb_cons (js_if (jt_not (jt_chain op_le op_lt opd_le opd_lt je_int (je_var 2) (je_callB call_lenA cd_len rfl m_len (by decide +kernel) (ja_cons (je_ix ix_seq opd_ix (je_var 0) (je_var 1)) ja_nil))))
  (jb_one (js_raiseC e_InvalidColumn rfl (takes_of rfl rfl rfl rfl) rfl))
  jb_nil)
  (jb_one (js_if (jt_not (jt_val (je_callCG c_is_cell hG (hr.mono (by decide)) rfl (takes_of rfl rfl rfl rfl) (ja_cons (je_var 3) ja_nil))))
  (jb_one (js_raiseC e_InvalidCell rfl (takes_of rfl rfl rfl rfl) rfl))
  jb_nil)))))⟩
theorem sc_changed : FnScope N_changed P_changed (defScope s_changed) := ⟨rfl, rfl, rfl, by decide +kernel, rfl, by decide +kernel, by decide +kernel⟩
theorem d_changed {P : Program} {wd : World} {K : PySem.W.Frag} {mg : Str → Option Value} {base : Heap} {f : Addr} {cdv : Value} {A : Around} {outer : List Env} {s : Shared} {H : Hp} {E : XK} (hG : (A.deeper (envOfC "changed" (defScope s_changed) s.heap.objs.size f cdv)).guards = some []) (hr : Room 1 (A.deeper (envOfC "changed" (defScope s_changed) s.heap.objs.size f cdv))) (c_copy_of : CalG P wd K mg base "copy_of" s_copy_of 1 P_copy_of sp_copy_of) :
    ∃ t, JB (cxOf (L2.CX P wd) P wd K mg base N_changed "changed" (defScope s_changed) f cdv A outer s H E) (WD E) (defBody s_changed) t T_changed := by
  have hu : (A.deeper (envOfC "changed" (defScope s_changed) s.heap.objs.size f cdv)).units + 64 < cLine := hr.units
  exact ⟨_, (jb_cons (js_set 4 sc_changed.nd (je_callCG c_copy_of hG (hr.mono (by decide)) rfl (takes_of rfl rfl rfl rfl) (ja_cons (je_var 0) ja_nil)))
  (jb_cons (js_set 5 sc_changed.nd (je_ix ix_seq opd_ix (je_var 4) (je_var 1)))
  (jb_cons (js_asg (je_var 3) (jg_sub (je_var 5) (je_var 2) set_list setd_o))
  (jb_one (js_ret (je_var 4))))))⟩
theorem sc_with_cell : FnScope N_with_cell P_with_cell (defScope s_with_cell) := ⟨rfl, rfl, rfl, by decide +kernel, rfl, by decide +kernel, by decide +kernel⟩
theorem d_with_cell {P : Program} {wd : World} {K : PySem.W.Frag} {mg : Str → Option Value} {base : Heap} {f : Addr} {cdv : Value} {A : Around} {outer : List Env} {s : Shared} {H : Hp} {E : XK} (hG : (A.deeper (envOfC "with_cell" (defScope s_with_cell) s.heap.objs.size f cdv)).guards = some []) (hr : Room 6 (A.deeper (envOfC "with_cell" (defScope s_with_cell) s.heap.objs.size f cdv))) (c_need_cell : CalG P wd K mg base "need_cell" s_need_cell 6 P_need_cell sp_need_cell) (c_changed : CalG P wd K mg base "changed" s_changed 2 P_changed sp_changed) :
    ∃ t, JB (cxOf (L2.CX P wd) P wd K mg base N_with_cell "with_cell" (defScope s_with_cell) f cdv A outer s H E) (WD E) (defBody s_with_cell) t T_with_cell := by
  have hu : (A.deeper (envOfC "with_cell" (defScope s_with_cell) s.heap.objs.size f cdv)).units + 64 < cLine := hr.units
  exact ⟨_, (jb_cons (js_expr (je_callCG c_need_cell hG (hr.mono (by decide)) rfl (takes_of rfl rfl rfl rfl) (ja_cons (je_var 0) (ja_cons (je_var 1) (ja_cons (je_var 2) (ja_cons (je_var 3) ja_nil))))))
  (jb_one (js_ret (je_callCG c_changed hG (hr.mono (by decide)) rfl (takes_of rfl rfl rfl rfl) (ja_cons (je_var 0) (ja_cons (je_var 1) (ja_cons (je_var 2) (ja_cons (je_var 3) ja_nil))))))))⟩
theorem sc_with_line : FnScope N_with_line P_with_line (defScope s_with_line) := ⟨rfl, rfl, rfl, by decide +kernel, rfl, by decide +kernel, by decide +kernel⟩
theorem d_with_line {C_InvalidLine C_InvalidCell C_InvalidTable : Addr} {P : Program} {wd : World} {K : PySem.W.Frag} {mg : Str → Option Value} {base : Heap} {f : Addr} {cdv : Value} {A : Around} {outer : List Env} {s : Shared} {H : Hp} {E : XK} (hG : (A.deeper (envOfC "with_line" (defScope s_with_line) s.heap.objs.size f cdv)).guards = some []) (hr : Room 5 (A.deeper (envOfC "with_line" (defScope s_with_line) s.heap.objs.size f cdv))) (c_need_table : CalG P wd K mg base "need_table" s_need_table 5 P_need_table sp_need_table) (m_len : mg "len" = none) (e_InvalidLine : ExcF K mg "InvalidLine" C_InvalidLine) (c_is_line : CalG P wd K mg base "is_line" s_is_line 3 P_is_line sp_is_line) (e_InvalidCell : ExcF K mg "InvalidCell" C_InvalidCell) (g_MOST_LINES : ∃ t, mg "MOST_LINES" = some (.int 60 t)) (e_InvalidTable : ExcF K mg "InvalidTable" C_InvalidTable) (c_copy_of : CalG P wd K mg base "copy_of" s_copy_of 1 P_copy_of sp_copy_of) :
    ∃ t, JB (cxOf (L2.CX P wd) P wd K mg base N_with_line "with_line" (defScope s_with_line) f cdv A outer s H E) (WD E) (defBody s_with_line) t (T_with_line C_InvalidLine C_InvalidCell C_InvalidTable) := by
  have hu : (A.deeper (envOfC "with_line" (defScope s_with_line) s.heap.objs.size f cdv)).units + 64 < cLine := hr.units
  exact ⟨_, (jb_cons (js_expr (je_callCG c_need_table hG (hr.mono (by decide)) rfl (takes_of rfl rfl rfl rfl) (ja_cons (je_var 0) ja_nil)))
  (jb_cons (js_if (jt_not (jt_chain op_le op_le opd_le opd_le je_int (je_var 1) (je_callB call_lenA cd_len rfl m_len (by decide +kernel) (ja_cons (je_var 0) ja_nil))))
  (jb_one (js_raiseC e_InvalidLine rfl (takes_of rfl rfl rfl rfl) rfl))
  jb_nil)
  (jb_cons (js_if (jt_not (jt_val (je_callCG c_is_line hG (hr.mono (by decide)) rfl (takes_of rfl rfl rfl rfl) (ja_cons (je_var 2) ja_nil))))
  (jb_one (js_raiseC e_InvalidCell rfl (takes_of rfl rfl rfl rfl) rfl))
  jb_nil)
  (jb_cons (js_if (jt_cmp (op_eqD hu) opd_eq (je_callB call_lenA cd_len rfl m_len (by decide +kernel) (ja_cons (je_var 0) ja_nil)) (je_gint rfl g_MOST_LINES) (nomark _))
  (jb_one (js_raiseC e_InvalidTable rfl (takes_of rfl rfl rfl rfl) rfl))
  jb_nil)
  (jb_one (js_ret (je_callCG c_copy_of hG (hr.mono (by decide)) rfl (takes_of rfl rfl rfl rfl) (ja_cons (je_op op_addA opd_add (je_op op_addA opd_add (je_slice sl_list sld_l (je_var 0) jo_none (jo_some (je_var 1))) (je_lst (ja_cons (je_var 2) ja_nil))) (je_slice sl_list sld_l (je_var 0) (jo_some (je_var 1)) jo_none)) ja_nil))))))))⟩
theorem sc_without_line : FnScope N_without_line P_without_line (defScope s_without_line) := ⟨rfl, rfl, rfl, by decide +kernel, rfl, by decide +kernel, by decide +kernel⟩
theorem d_without_line {C_InvalidTable : Addr} {P : Program} {wd : World} {K : PySem.W.Frag} {mg : Str → Option Value} {base : Heap} {f : Addr} {cdv : Value} {A : Around} {outer : List Env} {s : Shared} {H : Hp} {E : XK} (hG : (A.deeper (envOfC "without_line" (defScope s_without_line) s.heap.objs.size f cdv)).guards = some []) (hr : Room 5 (A.deeper (envOfC "without_line" (defScope s_without_line) s.heap.objs.size f cdv))) (c_need_table : CalG P wd K mg base "need_table" s_need_table 5 P_need_table sp_need_table) (c_need_line : CalG P wd K mg base "need_line" s_need_line 2 P_need_line sp_need_line) (m_len : mg "len" = none) (e_InvalidTable : ExcF K mg "InvalidTable" C_InvalidTable) (c_copy_of : CalG P wd K mg base "copy_of" s_copy_of 1 P_copy_of sp_copy_of) :
    ∃ t, JB (cxOf (L2.CX P wd) P wd K mg base N_without_line "without_line" (defScope s_without_line) f cdv A outer s H E) (WD E) (defBody s_without_line) t (T_without_line C_InvalidTable) := by
  have hu : (A.deeper (envOfC "without_line" (defScope s_without_line) s.heap.objs.size f cdv)).units + 64 < cLine := hr.units
  exact ⟨_, (jb_cons (js_expr (je_callCG c_need_table hG (hr.mono (by decide)) rfl (takes_of rfl rfl rfl rfl) (ja_cons (je_var 0) ja_nil)))
  (jb_cons (js_expr (je_callCG c_need_line hG (hr.mono (by decide)) rfl (takes_of rfl rfl rfl rfl) (ja_cons (je_var 0) (ja_cons (je_var 1) ja_nil))))
  (jb_cons (js_if (jt_cmp (op_eqD hu) opd_eq (je_callB call_lenA cd_len rfl m_len (by decide +kernel) (ja_cons (je_var 0) ja_nil)) je_int (nomark _))
  (jb_one (js_raiseC e_InvalidTable rfl (takes_of rfl rfl rfl rfl) rfl))
  jb_nil)
  (jb_one (js_ret (je_callCG c_copy_of hG (hr.mono (by decide)) rfl (takes_of rfl rfl rfl rfl) (ja_cons (je_op op_addA opd_add (je_slice sl_list sld_l (je_var 0) jo_none (jo_some (je_var 1))) (je_slice sl_list sld_l (je_var 0) (jo_some (je_op op_addA opd_add (je_var 1) je_int)) jo_none)) ja_nil)))))))⟩
theorem sc_Page___init__ : FnScope N_Page___init__ P_Page___init__ (defScope s_Page___init__) := ⟨rfl, rfl, rfl, by decide +kernel, rfl, by decide +kernel, by decide +kernel⟩
theorem d_Page___init__ {C_InvalidTable C_Page : Addr} {P : Program} {wd : World} {K : PySem.W.Frag} {mg : Str → Option Value} {base : Heap} {f : Addr} {cdv : Value} {A : Around} {outer : List Env} {s : Shared} {H : Hp} {E : XK} (hG : (A.deeper (envOfC "Page.__init__" (defScope s_Page___init__) s.heap.objs.size f cdv)).guards = some []) (hr : Room 4 (A.deeper (envOfC "Page.__init__" (defScope s_Page___init__) s.heap.objs.size f cdv))) (c_is_table : CalG P wd K mg base "is_table" s_is_table 4 P_is_table sp_is_table) (m_list : mg "list" = none) (e_InvalidTable : ExcF K mg "InvalidTable" C_InvalidTable) (cl_Page : Cls K C_Page) (na_Page_own_style : NoAttr K C_Page "own_style") (na_Page_own_lines : NoAttr K C_Page "own_lines") (na_Page_earlier : NoAttr K C_Page "earlier") (na_Page_marked : NoAttr K C_Page "marked") :
    ∃ t, JB (cxOf (L2.CX P wd) P wd K mg base N_Page___init__ "Page.__init__" (defScope s_Page___init__) f cdv A outer s H E) (WD E) (defBody s_Page___init__) t (T_Page___init__ C_InvalidTable C_Page) := by
  have hu : (A.deeper (envOfC "Page.__init__" (defScope s_Page___init__) s.heap.objs.size f cdv)).units + 64 < cLine := hr.units
  exact ⟨_, (jb_cons (js_if (jt_not (jt_val (je_callCG c_is_table hG (hr.mono (by decide)) rfl (takes_of rfl rfl rfl rfl) (ja_cons (je_callTy call_list_of cd_list rfl m_list (by decide +kernel) (ja_cons (je_var 2) ja_nil)) ja_nil))))
  (jb_one (js_raiseC e_InvalidTable rfl (takes_of rfl rfl rfl rfl) rfl))
  jb_nil)
  (jb_cons (js_fld cl_Page na_Page_own_style (je_var 0) (je_var 1))
  (jb_cons (js_fld cl_Page na_Page_own_lines (je_var 0) (je_lc (own := ([("row", 3)] : List (Str × Nat))) finF finF_ok rfl sc_Page___init__.nd (ji_tup (je_var 2)) (blkOk_by (N := N_Page___init__) (sc := defScope s_Page___init__) (by decide +kernel)) (fun _ _ _ _ _ => (jg_name 3 sc_Page___init__.nd)) (by exact (gk_name (vs := [3]) (i := 3))) (fun _ _ _ _ _ => jts_nil) (fun _ _ _ _ _ => (je_callTy call_list_of cd_list rfl m_list (by decide +kernel) (ja_cons (je_var 3) ja_nil)))))
  (jb_cons (js_fld cl_Page na_Page_earlier (je_var 0) (je_lstO ja_nil))
  (jb_one (js_fld cl_Page na_Page_marked (je_var 0) (je_lstO ja_nil)))))))⟩
theorem sc_Page_of : FnScope N_Page_of P_Page_of (defScope s_Page_of) := ⟨rfl, rfl, rfl, by decide +kernel, rfl, by decide +kernel, by decide +kernel⟩
theorem d_Page_of {C_InvalidTable C_Page : Addr} {P : Program} {wd : World} {K : PySem.W.Frag} {mg : Str → Option Value} {base : Heap} {f : Addr} {cdv : Value} {A : Around} {outer : List Env} {s : Shared} {H : Hp} {E : XK} (hG : (A.deeper (envOfC "Page.of" (defScope s_Page_of) s.heap.objs.size f cdv)).guards = some []) (hr : Room 6 (A.deeper (envOfC "Page.of" (defScope s_Page_of) s.heap.objs.size f cdv))) (c_is_table : CalG P wd K mg base "is_table" s_is_table 4 P_is_table sp_is_table) (e_InvalidTable : ExcF K mg "InvalidTable" C_InvalidTable) (mk_Page___init___s2 : CtorK P wd K mg base C_Page 5 ([] : List Str) (pkS true 2 [0, 1] [] (sp_Page___init__ C_Page C_InvalidTable))) :
    ∃ t, JB (cxOf (L2.CX P wd) P wd K mg base N_Page_of "Page.of" (defScope s_Page_of) f cdv A outer s H E) (WD E) (defBody s_Page_of) t (T_Page_of C_InvalidTable C_Page) := by
  have hu : (A.deeper (envOfC "Page.of" (defScope s_Page_of) s.heap.objs.size f cdv)).units + 64 < cLine := hr.units
  exact ⟨_, (jb_cons (js_if (jt_not (jt_val (je_callCG c_is_table hG (hr.mono (by decide)) rfl (takes_of rfl rfl rfl rfl) (ja_cons (je_var 2) ja_nil))))
  (jb_one (js_raiseC e_InvalidTable rfl (takes_of rfl rfl rfl rfl) rfl))
  jb_nil)
  (jb_one (js_ret (je_makeV 0 mk_Page___init___s2 hG (hr.mono (by decide)) (takes_of rfl rfl rfl rfl) (jc_cons (ks := ([] : List Str)) (ja_cons (je_var 1) (ja_star (je_var 2) ja_nil)) jk_nil)))))⟩
theorem sc_Page_table : FnScope N_Page_table P_Page_table (defScope s_Page_table) := ⟨rfl, rfl, rfl, by decide +kernel, rfl, by decide +kernel, by decide +kernel⟩
theorem d_Page_table {C_Page : Addr} {P : Program} {wd : World} {K : PySem.W.Frag} {mg : Str → Option Value} {base : Heap} {f : Addr} {cdv : Value} {A : Around} {outer : List Env} {s : Shared} {H : Hp} {E : XK} (hG : (A.deeper (envOfC "Page.table" (defScope s_Page_table) s.heap.objs.size f cdv)).guards = some []) (hr : Room 0 (A.deeper (envOfC "Page.table" (defScope s_Page_table) s.heap.objs.size f cdv))) (cl_Page : Cls K C_Page) (na_Page_own_lines : NoAttr K C_Page "own_lines") (m_list : mg "list" = none) :
    ∃ t, JB (cxOf (L2.CX P wd) P wd K mg base N_Page_table "Page.table" (defScope s_Page_table) f cdv A outer s H E) (WD E) (defBody s_Page_table) t (T_Page_table C_Page) := by
  have hu : (A.deeper (envOfC "Page.table" (defScope s_Page_table) s.heap.objs.size f cdv)).units + 64 < cLine := hr.units
  exact ⟨_, (jb_one (js_ret (je_lc (own := ([("row", 1)] : List (Str × Nat))) finO finO_ok rfl sc_Page_table.nd (ji_list (je_fld cl_Page na_Page_own_lines (je_var 0))) (blkOk_by (N := N_Page_table) (sc := defScope s_Page_table) (by decide +kernel)) (fun _ _ _ _ _ => (jg_name 1 sc_Page_table.nd)) (by exact (gk_name (vs := [1]) (i := 1))) (fun _ _ _ _ _ => jts_nil) (fun _ _ _ _ _ => (je_callTy call_list_of cd_listO rfl m_list (by decide +kernel) (ja_cons (je_var 1) ja_nil))))))⟩
theorem sc_Page_go_on : FnScope N_Page_go_on P_Page_go_on (defScope s_Page_go_on) := ⟨rfl, rfl, rfl, by decide +kernel, rfl, by decide +kernel, by decide +kernel⟩
theorem d_Page_go_on {C_Page : Addr} {P : Program} {wd : World} {K : PySem.W.Frag} {mg : Str → Option Value} {base : Heap} {f : Addr} {cdv : Value} {A : Around} {outer : List Env} {s : Shared} {H : Hp} {E : XK} (hG : (A.deeper (envOfC "Page.go_on" (defScope s_Page_go_on) s.heap.objs.size f cdv)).guards = some []) (hr : Room 0 (A.deeper (envOfC "Page.go_on" (defScope s_Page_go_on) s.heap.objs.size f cdv))) (cl_Page : Cls K C_Page) (na_Page_earlier : NoAttr K C_Page "earlier") (na_Page_own_lines : NoAttr K C_Page "own_lines") :
    ∃ t, JB (cxOf (L2.CX P wd) P wd K mg base N_Page_go_on "Page.go_on" (defScope s_Page_go_on) f cdv A outer s H E) (WD E) (defBody s_Page_go_on) t (T_Page_go_on C_Page) := by
  have hu : (A.deeper (envOfC "Page.go_on" (defScope s_Page_go_on) s.heap.objs.size f cdv)).units + 64 < cLine := hr.units
  exact ⟨_, (jb_cons (js_expr (je_bm PySem.F.slot_list_append PySem.F.type_list_append mt_append mtd_append (je_fld cl_Page na_Page_earlier (je_var 0)) (ja_cons (je_fld cl_Page na_Page_own_lines (je_var 0)) ja_nil)))
  (jb_one (js_fld cl_Page na_Page_own_lines (je_var 0) (je_var 1))))⟩
theorem sc_Page_change : FnScope N_Page_change P_Page_change (defScope s_Page_change) := ⟨rfl, rfl, rfl, by decide +kernel, rfl, by decide +kernel, by decide +kernel⟩
theorem d_Page_change {C_Page : Addr} {P : Program} {wd : World} {K : PySem.W.Frag} {mg : Str → Option Value} {base : Heap} {f : Addr} {cdv : Value} {A : Around} {outer : List Env} {s : Shared} {H : Hp} {E : XK} (hG : (A.deeper (envOfC "Page.change" (defScope s_Page_change) s.heap.objs.size f cdv)).guards = some []) (hr : Room 7 (A.deeper (envOfC "Page.change" (defScope s_Page_change) s.heap.objs.size f cdv))) (c_with_cell : CalG P wd K mg base "with_cell" s_with_cell 7 P_with_cell sp_with_cell) (cl_Page : Cls K C_Page) (na_Page_own_lines : NoAttr K C_Page "own_lines") (mt_Page_go_on_2 : MethK P wd K mg base C_Page "go_on" 1 ([] : List Str) (pkP 2 [0, 1] [] (sp_Page_go_on C_Page))) :
    ∃ t, JB (cxOf (L2.CX P wd) P wd K mg base N_Page_change "Page.change" (defScope s_Page_change) f cdv A outer s H E) (WD E) (defBody s_Page_change) t (T_Page_change C_Page) := by
  have hu : (A.deeper (envOfC "Page.change" (defScope s_Page_change) s.heap.objs.size f cdv)).units + 64 < cLine := hr.units
  exact ⟨_, (jb_one (js_expr (je_methA mt_Page_go_on_2 hG (hr.mono (by decide)) (takes_of rfl rfl rfl rfl) (je_var 0) (jc_cons (ks := ([] : List Str)) (ja_cons (je_fz2 (je_callCG c_with_cell hG (hr.mono (by decide)) rfl (takes_of rfl rfl rfl rfl) (ja_cons (je_fld cl_Page na_Page_own_lines (je_var 0)) (ja_cons (je_var 1) (ja_cons (je_var 2) (ja_cons (je_var 3) ja_nil)))))) ja_nil) jk_nil))))⟩
theorem sc_Page_put : FnScope N_Page_put P_Page_put (defScope s_Page_put) := ⟨rfl, rfl, rfl, by decide +kernel, rfl, by decide +kernel, by decide +kernel⟩
theorem d_Page_put {C_Page : Addr} {P : Program} {wd : World} {K : PySem.W.Frag} {mg : Str → Option Value} {base : Heap} {f : Addr} {cdv : Value} {A : Around} {outer : List Env} {s : Shared} {H : Hp} {E : XK} (hG : (A.deeper (envOfC "Page.put" (defScope s_Page_put) s.heap.objs.size f cdv)).guards = some []) (hr : Room 6 (A.deeper (envOfC "Page.put" (defScope s_Page_put) s.heap.objs.size f cdv))) (c_with_line : CalG P wd K mg base "with_line" s_with_line 6 P_with_line sp_with_line) (cl_Page : Cls K C_Page) (na_Page_own_lines : NoAttr K C_Page "own_lines") (mt_Page_go_on_2 : MethK P wd K mg base C_Page "go_on" 1 ([] : List Str) (pkP 2 [0, 1] [] (sp_Page_go_on C_Page))) :
    ∃ t, JB (cxOf (L2.CX P wd) P wd K mg base N_Page_put "Page.put" (defScope s_Page_put) f cdv A outer s H E) (WD E) (defBody s_Page_put) t (T_Page_put C_Page) := by
  have hu : (A.deeper (envOfC "Page.put" (defScope s_Page_put) s.heap.objs.size f cdv)).units + 64 < cLine := hr.units
  exact ⟨_, (jb_one (js_expr (je_methA mt_Page_go_on_2 hG (hr.mono (by decide)) (takes_of rfl rfl rfl rfl) (je_var 0) (jc_cons (ks := ([] : List Str)) (ja_cons (je_fz2 (je_callCG c_with_line hG (hr.mono (by decide)) rfl (takes_of rfl rfl rfl rfl) (ja_cons (je_fld cl_Page na_Page_own_lines (je_var 0)) (ja_cons (je_var 1) (ja_cons (je_var 2) ja_nil))))) ja_nil) jk_nil))))⟩
theorem sc_Page_drop : FnScope N_Page_drop P_Page_drop (defScope s_Page_drop) := ⟨rfl, rfl, rfl, by decide +kernel, rfl, by decide +kernel, by decide +kernel⟩
theorem d_Page_drop {C_Page : Addr} {P : Program} {wd : World} {K : PySem.W.Frag} {mg : Str → Option Value} {base : Heap} {f : Addr} {cdv : Value} {A : Around} {outer : List Env} {s : Shared} {H : Hp} {E : XK} (hG : (A.deeper (envOfC "Page.drop" (defScope s_Page_drop) s.heap.objs.size f cdv)).guards = some []) (hr : Room 6 (A.deeper (envOfC "Page.drop" (defScope s_Page_drop) s.heap.objs.size f cdv))) (c_without_line : CalG P wd K mg base "without_line" s_without_line 6 P_without_line sp_without_line) (cl_Page : Cls K C_Page) (na_Page_own_lines : NoAttr K C_Page "own_lines") (mt_Page_go_on_2 : MethK P wd K mg base C_Page "go_on" 1 ([] : List Str) (pkP 2 [0, 1] [] (sp_Page_go_on C_Page))) :
    ∃ t, JB (cxOf (L2.CX P wd) P wd K mg base N_Page_drop "Page.drop" (defScope s_Page_drop) f cdv A outer s H E) (WD E) (defBody s_Page_drop) t (T_Page_drop C_Page) := by
  have hu : (A.deeper (envOfC "Page.drop" (defScope s_Page_drop) s.heap.objs.size f cdv)).units + 64 < cLine := hr.units
  exact ⟨_, (jb_one (js_expr (je_methA mt_Page_go_on_2 hG (hr.mono (by decide)) (takes_of rfl rfl rfl rfl) (je_var 0) (jc_cons (ks := ([] : List Str)) (ja_cons (je_fz2 (je_callCG c_without_line hG (hr.mono (by decide)) rfl (takes_of rfl rfl rfl rfl) (ja_cons (je_fld cl_Page na_Page_own_lines (je_var 0)) (ja_cons (je_var 1) ja_nil)))) ja_nil) jk_nil))))⟩
theorem sc_Page_width : FnScope N_Page_width P_Page_width (defScope s_Page_width) := ⟨rfl, rfl, rfl, by decide +kernel, rfl, by decide +kernel, by decide +kernel⟩
theorem d_Page_width {C_Page C_Style : Addr} {P : Program} {wd : World} {K : PySem.W.Frag} {mg : Str → Option Value} {base : Heap} {f : Addr} {cdv : Value} {A : Around} {outer : List Env} {s : Shared} {H : Hp} {E : XK} (hG : (A.deeper (envOfC "Page.width" (defScope s_Page_width) s.heap.objs.size f cdv)).guards = some []) (hr : Room 8 (A.deeper (envOfC "Page.width" (defScope s_Page_width) s.heap.objs.size f cdv))) (c_width_of : CalG P wd K mg base "width_of" s_width_of 8 P_width_of (sp_width_of C_Style)) (cl_Page : Cls K C_Page) (na_Page_own_style : NoAttr K C_Page "own_style") (na_Page_own_lines : NoAttr K C_Page "own_lines") :
    ∃ t, JB (cxOf (L2.CX P wd) P wd K mg base N_Page_width "Page.width" (defScope s_Page_width) f cdv A outer s H E) (WD E) (defBody s_Page_width) t (T_Page_width C_Page C_Style) := by
  have hu : (A.deeper (envOfC "Page.width" (defScope s_Page_width) s.heap.objs.size f cdv)).units + 64 < cLine := hr.units
  exact ⟨_, (jb_one (js_ret (je_callCG c_width_of hG (hr.mono (by decide)) rfl (takes_of rfl rfl rfl rfl) (ja_cons (je_fld cl_Page na_Page_own_lines (je_var 0)) (ja_cons (je_fld cl_Page na_Page_own_style (je_var 0)) ja_nil)))))⟩
theorem sc_Page_stops : FnScope N_Page_stops P_Page_stops (defScope s_Page_stops) := ⟨rfl, rfl, rfl, by decide +kernel, rfl, by decide +kernel, by decide +kernel⟩
theorem d_Page_stops {C_Page C_Style : Addr} {P : Program} {wd : World} {K : PySem.W.Frag} {mg : Str → Option Value} {base : Heap} {f : Addr} {cdv : Value} {A : Around} {outer : List Env} {s : Shared} {H : Hp} {E : XK} (hG : (A.deeper (envOfC "Page.stops" (defScope s_Page_stops) s.heap.objs.size f cdv)).guards = some []) (hr : Room 6 (A.deeper (envOfC "Page.stops" (defScope s_Page_stops) s.heap.objs.size f cdv))) (cl_Page : Cls K C_Page) (na_Page_own_style : NoAttr K C_Page "own_style") (na_Page_own_lines : NoAttr K C_Page "own_lines") (c_stops : CalG P wd K mg base "stops" s_stops 6 P_stops (sp_stops C_Style)) (al_stops_layout : mg "stops_layout" = mg "stops") :
    ∃ t, JB (cxOf (L2.CX P wd) P wd K mg base N_Page_stops "Page.stops" (defScope s_Page_stops) f cdv A outer s H E) (WD E) (defBody s_Page_stops) t (T_Page_stops C_Page C_Style) := by
  have hu : (A.deeper (envOfC "Page.stops" (defScope s_Page_stops) s.heap.objs.size f cdv)).units + 64 < cLine := hr.units
  exact ⟨_, (jb_one (js_ret (je_callAl c_stops al_stops_layout hG (hr.mono (by decide)) rfl (takes_of rfl rfl rfl rfl) (ja_cons (je_fld cl_Page na_Page_own_lines (je_var 0)) (ja_cons (je_fld cl_Page na_Page_own_style (je_var 0)) ja_nil)))))⟩
theorem sc_Page_undo : FnScope N_Page_undo P_Page_undo (defScope s_Page_undo) := ⟨rfl, rfl, rfl, by decide +kernel, rfl, by decide +kernel, by decide +kernel⟩
theorem d_Page_undo {C_Page C_NothingToUndo : Addr} {P : Program} {wd : World} {K : PySem.W.Frag} {mg : Str → Option Value} {base : Heap} {f : Addr} {cdv : Value} {A : Around} {outer : List Env} {s : Shared} {H : Hp} {E : XK} (hG : (A.deeper (envOfC "Page.undo" (defScope s_Page_undo) s.heap.objs.size f cdv)).guards = some []) (hr : Room 0 (A.deeper (envOfC "Page.undo" (defScope s_Page_undo) s.heap.objs.size f cdv))) (cl_Page : Cls K C_Page) (na_Page_earlier : NoAttr K C_Page "earlier") (e_NothingToUndo : ExcF K mg "NothingToUndo" C_NothingToUndo) (na_Page_own_lines : NoAttr K C_Page "own_lines") (na_Page_marked : NoAttr K C_Page "marked") (m_len : mg "len" = none) :
    ∃ t, JB (cxOf (L2.CX P wd) P wd K mg base N_Page_undo "Page.undo" (defScope s_Page_undo) f cdv A outer s H E) (WD E) (defBody s_Page_undo) t (T_Page_undo C_Page C_NothingToUndo) := by
  have hu : (A.deeper (envOfC "Page.undo" (defScope s_Page_undo) s.heap.objs.size f cdv)).units + 64 < cLine := hr.units
  exact ⟨_, (jb_cons (js_if (jt_cmp (op_eqD hu) opd_eq (je_fld cl_Page na_Page_earlier (je_var 0)) (je_lst ja_nil) (nomark _))
  (jb_one (js_raiseC e_NothingToUndo rfl (takes_of rfl rfl rfl rfl) rfl))
  jb_nil)
  (jb_cons (js_fld cl_Page na_Page_own_lines (je_var 0) (je_bm0 PySem.F.slot_list_pop PySem.F.type_list_pop mt_pop mtd_pop (je_fld cl_Page na_Page_earlier (je_var 0))))
  (jb_one (js_fld cl_Page na_Page_marked (je_var 0) (je_lc (own := ([("many", 1)] : List (Str × Nat))) finO finO_ok rfl sc_Page_undo.nd (ji_list (je_fld cl_Page na_Page_marked (je_var 0))) (blkOk_by (N := N_Page_undo) (sc := defScope s_Page_undo) (by decide +kernel)) (fun _ _ _ _ _ => (jg_name 1 sc_Page_undo.nd)) (by exact (gk_name (vs := [1]) (i := 1))) (fun _ _ _ _ _ => (jts_one (jt_cmp op_le opd_le (je_var 1) (je_callB call_lenA cd_len rfl m_len (by decide +kernel) (ja_cons (je_fld cl_Page na_Page_earlier (je_var 0)) ja_nil)) (nomark _)))) (fun _ _ _ _ _ => (je_var 1)))))))⟩
theorem sc_Page_mark : FnScope N_Page_mark P_Page_mark (defScope s_Page_mark) := ⟨rfl, rfl, rfl, by decide +kernel, rfl, by decide +kernel, by decide +kernel⟩
theorem d_Page_mark {C_Page : Addr} {P : Program} {wd : World} {K : PySem.W.Frag} {mg : Str → Option Value} {base : Heap} {f : Addr} {cdv : Value} {A : Around} {outer : List Env} {s : Shared} {H : Hp} {E : XK} (hG : (A.deeper (envOfC "Page.mark" (defScope s_Page_mark) s.heap.objs.size f cdv)).guards = some []) (hr : Room 0 (A.deeper (envOfC "Page.mark" (defScope s_Page_mark) s.heap.objs.size f cdv))) (cl_Page : Cls K C_Page) (na_Page_marked : NoAttr K C_Page "marked") (na_Page_earlier : NoAttr K C_Page "earlier") (m_len : mg "len" = none) :
    ∃ t, JB (cxOf (L2.CX P wd) P wd K mg base N_Page_mark "Page.mark" (defScope s_Page_mark) f cdv A outer s H E) (WD E) (defBody s_Page_mark) t (T_Page_mark C_Page) := by
  have hu : (A.deeper (envOfC "Page.mark" (defScope s_Page_mark) s.heap.objs.size f cdv)).units + 64 < cLine := hr.units
  exact ⟨_, (jb_cons (js_expr (je_bm PySem.F.slot_list_append PySem.F.type_list_append mt_append mtd_append (je_fld cl_Page na_Page_marked (je_var 0)) (ja_cons (je_callB call_lenA cd_len rfl m_len (by decide +kernel) (ja_cons (je_fld cl_Page na_Page_earlier (je_var 0)) ja_nil)) ja_nil)))
  (jb_one (js_ret (je_op op_sub opd_sub (je_callB call_lenA cd_len rfl m_len (by decide +kernel) (ja_cons (je_fld cl_Page na_Page_marked (je_var 0)) ja_nil)) je_int))))⟩
theorem sc_Page_undo_to : FnScope N_Page_undo_to P_Page_undo_to (defScope s_Page_undo_to) := ⟨rfl, rfl, rfl, by decide +kernel, rfl, by decide +kernel, by decide +kernel⟩
theorem d_Page_undo_to {C_Page C_InvalidNumber : Addr} {P : Program} {wd : World} {K : PySem.W.Frag} {mg : Str → Option Value} {base : Heap} {f : Addr} {cdv : Value} {A : Around} {outer : List Env} {s : Shared} {H : Hp} {E : XK} (hG : (A.deeper (envOfC "Page.undo_to" (defScope s_Page_undo_to) s.heap.objs.size f cdv)).guards = some []) (hr : Room 0 (A.deeper (envOfC "Page.undo_to" (defScope s_Page_undo_to) s.heap.objs.size f cdv))) (cl_Page : Cls K C_Page) (na_Page_marked : NoAttr K C_Page "marked") (m_len : mg "len" = none) (e_InvalidNumber : ExcF K mg "InvalidNumber" C_InvalidNumber) (na_Page_earlier : NoAttr K C_Page "earlier") (na_Page_own_lines : NoAttr K C_Page "own_lines") :
    ∃ t, JB (cxOf (L2.CX P wd) P wd K mg base N_Page_undo_to "Page.undo_to" (defScope s_Page_undo_to) f cdv A outer s H E) (WD E) (defBody s_Page_undo_to) t (T_Page_undo_to C_Page C_InvalidNumber) := by
  have hu : (A.deeper (envOfC "Page.undo_to" (defScope s_Page_undo_to) s.heap.objs.size f cdv)).units + 64 < cLine := hr.units
  exact ⟨_, (jb_cons (js_if (jt_not (jt_chain op_le op_lt opd_le opd_lt je_int (je_var 1) (je_callB call_lenA cd_len rfl m_len (by decide +kernel) (ja_cons (je_fld cl_Page na_Page_marked (je_var 0)) ja_nil))))
  (jb_one (js_raiseC e_InvalidNumber rfl (takes_of rfl rfl rfl rfl) rfl))
  jb_nil)
  (jb_cons (js_while (passes_of rfl) (jt_cmp op_gt opd_gt (je_callB call_lenA cd_len rfl m_len (by decide +kernel) (ja_cons (je_fld cl_Page na_Page_earlier (je_var 0)) ja_nil)) (je_ix ix_seq opd_ix (je_fld cl_Page na_Page_marked (je_var 0)) (je_var 1)) (nomark _))
  (jb_one (js_fld cl_Page na_Page_own_lines (je_var 0) (je_bm0 PySem.F.slot_list_pop PySem.F.type_list_pop mt_pop mtd_pop (je_fld cl_Page na_Page_earlier (je_var 0))))))
  (jb_one (js_fld cl_Page na_Page_marked (je_var 0) (je_slice sl_list sld_o (je_fld cl_Page na_Page_marked (je_var 0)) jo_none (jo_some (je_op op_addA opd_add (je_var 1) je_int)))))))⟩
theorem sc_Page___len__ : FnScope N_Page___len__ P_Page___len__ (defScope s_Page___len__) := ⟨rfl, rfl, rfl, by decide +kernel, rfl, by decide +kernel, by decide +kernel⟩
theorem d_Page___len__ {C_Page : Addr} {P : Program} {wd : World} {K : PySem.W.Frag} {mg : Str → Option Value} {base : Heap} {f : Addr} {cdv : Value} {A : Around} {outer : List Env} {s : Shared} {H : Hp} {E : XK} (hG : (A.deeper (envOfC "Page.__len__" (defScope s_Page___len__) s.heap.objs.size f cdv)).guards = some []) (hr : Room 0 (A.deeper (envOfC "Page.__len__" (defScope s_Page___len__) s.heap.objs.size f cdv))) (cl_Page : Cls K C_Page) (na_Page_earlier : NoAttr K C_Page "earlier") (m_len : mg "len" = none) :
    ∃ t, JB (cxOf (L2.CX P wd) P wd K mg base N_Page___len__ "Page.__len__" (defScope s_Page___len__) f cdv A outer s H E) (WD E) (defBody s_Page___len__) t (T_Page___len__ C_Page) := by
  have hu : (A.deeper (envOfC "Page.__len__" (defScope s_Page___len__) s.heap.objs.size f cdv)).units + 64 < cLine := hr.units
  exact ⟨_, (jb_one (js_ret (je_callB call_lenA cd_len rfl m_len (by decide +kernel) (ja_cons (je_fld cl_Page na_Page_earlier (je_var 0)) ja_nil))))⟩
theorem sc_Page_twin : FnScope N_Page_twin P_Page_twin (defScope s_Page_twin) := ⟨rfl, rfl, rfl, by decide +kernel, rfl, by decide +kernel, by decide +kernel⟩
theorem d_Page_twin {C_Page C_InvalidTable : Addr} {P : Program} {wd : World} {K : PySem.W.Frag} {mg : Str → Option Value} {base : Heap} {f : Addr} {cdv : Value} {A : Around} {outer : List Env} {s : Shared} {H : Hp} {E : XK} (hG : (A.deeper (envOfC "Page.twin" (defScope s_Page_twin) s.heap.objs.size f cdv)).guards = some []) (hr : Room 6 (A.deeper (envOfC "Page.twin" (defScope s_Page_twin) s.heap.objs.size f cdv))) (cl_Page : Cls K C_Page) (na_Page_own_lines : NoAttr K C_Page "own_lines") (na_Page_own_style : NoAttr K C_Page "own_style") (mk_Page___init___s2 : CtorK P wd K mg base C_Page 5 ([] : List Str) (pkS true 2 [0, 1] [] (sp_Page___init__ C_Page C_InvalidTable))) (h_Page : mg "Page" = some (.ref C_Page)) (na_Page_earlier : NoAttr K C_Page "earlier") (m_list : mg "list" = none) (na_Page_marked : NoAttr K C_Page "marked") :
    ∃ t, JB (cxOf (L2.CX P wd) P wd K mg base N_Page_twin "Page.twin" (defScope s_Page_twin) f cdv A outer s H E) (WD E) (defBody s_Page_twin) t (T_Page_twin C_Page C_InvalidTable) := by
  have hu : (A.deeper (envOfC "Page.twin" (defScope s_Page_twin) s.heap.objs.size f cdv)).units + 64 < cLine := hr.units
  exact ⟨_, (jb_cons (js_set 1 sc_Page_twin.nd (je_makeA mk_Page___init___s2 h_Page hG (hr.mono (by decide)) rfl (takes_of rfl rfl rfl rfl) (jc_cons (ks := ([] : List Str)) (ja_cons (je_fld cl_Page na_Page_own_style (je_var 0)) (ja_star (je_fld cl_Page na_Page_own_lines (je_var 0)) ja_nil)) jk_nil)))
  (jb_cons (js_fld cl_Page na_Page_earlier (je_var 1) (je_callTy call_list_of cd_listO rfl m_list (by decide +kernel) (ja_cons (je_fld cl_Page na_Page_earlier (je_var 0)) ja_nil)))
  (jb_cons (js_fld cl_Page na_Page_marked (je_var 1) (je_callTy call_list_of cd_listO rfl m_list (by decide +kernel) (ja_cons (je_fld cl_Page na_Page_marked (je_var 0)) ja_nil)))
  (jb_one (js_ret (je_var 1))))))⟩
theorem sc_are_kinds : FnScope N_are_kinds P_are_kinds (defScope s_are_kinds) := ⟨rfl, rfl, rfl, by decide +kernel, rfl, by decide +kernel, by decide +kernel⟩
theorem d_are_kinds {C_Kind : Addr} {P : Program} {wd : World} {K : PySem.W.Frag} {mg : Str → Option Value} {base : Heap} {f : Addr} {cdv : Value} {A : Around} {outer : List Env} {s : Shared} {H : Hp} {E : XK} (hG : (A.deeper (envOfC "are_kinds" (defScope s_are_kinds) s.heap.objs.size f cdv)).guards = some []) (hr : Room 0 (A.deeper (envOfC "are_kinds" (defScope s_are_kinds) s.heap.objs.size f cdv))) (m_list : mg "list" = none) (m_isinstance : mg "isinstance" = none) (m_len : mg "len" = none) (g_MOST_KINDS : ∃ t, mg "MOST_KINDS" = some (.int 12 t)) (m_str : mg "str" = none) (h_Kind : mg "Kind" = some (.ref C_Kind)) (cv_NAMES : ∀ q ∈ ((conNAMES C_Kind) : List (Addr × D)), CValF K q.1 "NAMES" q.2) (m_all : mg "all" = none) :
    ∃ t, JB (cxOf (L2.CX P wd) P wd K mg base N_are_kinds "are_kinds" (defScope s_are_kinds) f cdv A outer s H E) (WD E) (defBody s_are_kinds) t (T_are_kinds C_Kind) := by
  have hu : (A.deeper (envOfC "are_kinds" (defScope s_are_kinds) s.heap.objs.size f cdv)).units + 64 < cLine := hr.units
  exact ⟨_, (jb_cons (js_if (JW.jt (jw_or (jt_not (jt_val (je_callB call_isi cd_isi rfl m_isinstance (by decide +kernel) (ja_cons (je_var 0) (ja_cons (je_ty rfl m_list (by decide +kernel)) ja_nil))))) (jw_or1 (jt_not (jt_chain op_le op_le opd_le opd_le je_int (je_callB call_lenA cd_len rfl m_len (by decide +kernel) (ja_cons (je_var 0) ja_nil)) (je_gint rfl g_MOST_KINDS))))))
  (jb_one (js_ret je_bl))
  jb_nil)
  (jb_one (js_ret (je_callB (cr_all rfl) cd_all rfl m_all (by decide +kernel) (ja_cons (je_lc (own := ([("name", 1)] : List (Str × Nat))) finF finF_ok rfl sc_are_kinds.nd (ji_list (je_var 0)) (blkOk_by (N := N_are_kinds) (sc := defScope s_are_kinds) (by decide +kernel)) (fun _ _ _ _ _ => (jg_name 1 sc_are_kinds.nd)) (by exact (gk_name (vs := [1]) (i := 1))) (fun _ _ _ _ _ => jts_nil) (fun _ _ _ _ _ => (je_and (je_callB call_isi cd_isi rfl m_isinstance (by decide +kernel) (ja_cons (je_var 1) (ja_cons (je_ty rfl m_str (by decide +kernel)) ja_nil))) (je_one (je_cmp op_in_seq opd_in (je_var 1) (je_cval (tab := (conNAMES C_Kind)) cv_NAMES (je_gref rfl h_Kind)) (by rfl)))))) ja_nil)))))⟩
theorem sc_Style___init__ : FnScope N_Style___init__ P_Style___init__ (defScope s_Style___init__) := ⟨rfl, rfl, rfl, by decide +kernel, rfl, by decide +kernel, by decide +kernel⟩
theorem d_Style___init__ {C_InvalidStyle C_Style : Addr} {P : Program} {wd : World} {K : PySem.W.Frag} {mg : Str → Option Value} {base : Heap} {f : Addr} {cdv : Value} {A : Around} {outer : List Env} {s : Shared} {H : Hp} {E : XK} (hG : (A.deeper (envOfC "Style.__init__" (defScope s_Style___init__) s.heap.objs.size f cdv)).guards = some []) (hr : Room 2 (A.deeper (envOfC "Style.__init__" (defScope s_Style___init__) s.heap.objs.size f cdv))) (m_len : mg "len" = none) (m_list : mg "list" = none) (g_LEFT : ∃ t, mg "LEFT" = some (.str "left" t)) (c_are_kinds : CalG P wd K mg base "are_kinds" s_are_kinds 1 P_are_kinds sp_are_kinds) (c_is_cell : CalG P wd K mg base "is_cell" s_is_cell 2 P_is_cell sp_is_cell) (e_InvalidStyle : ExcF K mg "InvalidStyle" C_InvalidStyle) (cl_Style : Cls K C_Style) (na_Style_held_kinds : NoAttr K C_Style "held_kinds") (na_Style_held_gap : NoAttr K C_Style "held_gap") (na_Style_held_least : NoAttr K C_Style "held_least") :
    ∃ t, JB (cxOf (L2.CX P wd) P wd K mg base N_Style___init__ "Style.__init__" (defScope s_Style___init__) f cdv A outer s H E) (WD E) (defBody s_Style___init__) t (T_Style___init__ C_InvalidStyle C_Style) := by
  have hu : (A.deeper (envOfC "Style.__init__" (defScope s_Style___init__) s.heap.objs.size f cdv)).units + 64 < cLine := hr.units
  exact ⟨_, (jb_cons (js_set 4 sc_Style___init__.nd (je_if (jt_cmp op_gt opd_gt (je_callB call_lenA cd_len rfl m_len (by decide +kernel) (ja_cons (je_var 3) ja_nil)) je_int (nomark _)) (je_callTy call_list_of cd_list rfl m_list (by decide +kernel) (ja_cons (je_var 3) ja_nil)) (je_lst (ja_cons (je_gstr rfl g_LEFT) ja_nil))))
  (jb_cons (js_if (JW.jt (jw_or (jt_not (jt_val (je_callCG c_are_kinds hG (hr.mono (by decide)) rfl (takes_of rfl rfl rfl rfl) (ja_cons (je_var 4) ja_nil)))) (jw_or (jt_not (jt_val (je_callCG c_is_cell hG (hr.mono (by decide)) rfl (takes_of rfl rfl rfl rfl) (ja_cons (je_var 1) ja_nil)))) (jw_or1 (jt_not (jt_val (je_callCG c_is_cell hG (hr.mono (by decide)) rfl (takes_of rfl rfl rfl rfl) (ja_cons (je_var 2) ja_nil))))))))
  (jb_one (js_raiseC e_InvalidStyle rfl (takes_of rfl rfl rfl rfl) rfl))
  jb_nil)
  (jb_cons (js_fld cl_Style na_Style_held_kinds (je_var 0) (je_var 4))
  (jb_cons (js_fld cl_Style na_Style_held_gap (je_var 0) (je_var 1))
  (jb_one (js_fld cl_Style na_Style_held_least (je_var 0) (je_var 2)))))))⟩
theorem sc_Style_of : FnScope N_Style_of P_Style_of (defScope s_Style_of) := ⟨rfl, rfl, rfl, by decide +kernel, rfl, by decide +kernel, by decide +kernel⟩
theorem d_Style_of {C_InvalidStyle C_Style : Addr} {P : Program} {wd : World} {K : PySem.W.Frag} {mg : Str → Option Value} {base : Heap} {f : Addr} {cdv : Value} {A : Around} {outer : List Env} {s : Shared} {H : Hp} {E : XK} (hG : (A.deeper (envOfC "Style.of" (defScope s_Style_of) s.heap.objs.size f cdv)).guards = some []) (hr : Room 4 (A.deeper (envOfC "Style.of" (defScope s_Style_of) s.heap.objs.size f cdv))) (c_are_kinds : CalG P wd K mg base "are_kinds" s_are_kinds 1 P_are_kinds sp_are_kinds) (e_InvalidStyle : ExcF K mg "InvalidStyle" C_InvalidStyle) (mk_Style___init___s1_gap_least : CtorK P wd K mg base C_Style 3 (["gap", "least"] : List Str) (pkS true 1 [0, 1, 2] [] (sp_Style___init__ C_Style))) :
    ∃ t, JB (cxOf (L2.CX P wd) P wd K mg base N_Style_of "Style.of" (defScope s_Style_of) f cdv A outer s H E) (WD E) (defBody s_Style_of) t (T_Style_of C_InvalidStyle C_Style) := by
  have hu : (A.deeper (envOfC "Style.of" (defScope s_Style_of) s.heap.objs.size f cdv)).units + 64 < cLine := hr.units
  exact ⟨_, (jb_cons (js_if (jt_not (jt_val (je_callCG c_are_kinds hG (hr.mono (by decide)) rfl (takes_of rfl rfl rfl rfl) (ja_cons (je_var 1) ja_nil))))
  (jb_one (js_raiseC e_InvalidStyle rfl (takes_of rfl rfl rfl rfl) rfl))
  jb_nil)
  (jb_one (js_ret (je_makeV 0 mk_Style___init___s1_gap_least hG (hr.mono (by decide)) (takes_of rfl rfl rfl rfl) (jc_lone (ks := (["gap", "least"] : List Str)) (je_var 1) (jk_cons (je_var 2) (jk_cons (je_var 3) jk_nil)))))))⟩
theorem sc_Style_gap : FnScope N_Style_gap P_Style_gap (defScope s_Style_gap) := ⟨rfl, rfl, rfl, by decide +kernel, rfl, by decide +kernel, by decide +kernel⟩
theorem d_Style_gap {C_Style : Addr} {P : Program} {wd : World} {K : PySem.W.Frag} {mg : Str → Option Value} {base : Heap} {f : Addr} {cdv : Value} {A : Around} {outer : List Env} {s : Shared} {H : Hp} {E : XK} (hG : (A.deeper (envOfC "Style.gap" (defScope s_Style_gap) s.heap.objs.size f cdv)).guards = some []) (hr : Room 0 (A.deeper (envOfC "Style.gap" (defScope s_Style_gap) s.heap.objs.size f cdv))) (cl_Style : Cls K C_Style) (na_Style_held_gap : NoAttr K C_Style "held_gap") :
    ∃ t, JB (cxOf (L2.CX P wd) P wd K mg base N_Style_gap "Style.gap" (defScope s_Style_gap) f cdv A outer s H E) (WD E) (defBody s_Style_gap) t (T_Style_gap C_Style) := by
  have hu : (A.deeper (envOfC "Style.gap" (defScope s_Style_gap) s.heap.objs.size f cdv)).units + 64 < cLine := hr.units
  exact ⟨_, (jb_one (js_ret (je_fld cl_Style na_Style_held_gap (je_var 0))))⟩
theorem sc_Style_least : FnScope N_Style_least P_Style_least (defScope s_Style_least) := ⟨rfl, rfl, rfl, by decide +kernel, rfl, by decide +kernel, by decide +kernel⟩
theorem d_Style_least {C_Style : Addr} {P : Program} {wd : World} {K : PySem.W.Frag} {mg : Str → Option Value} {base : Heap} {f : Addr} {cdv : Value} {A : Around} {outer : List Env} {s : Shared} {H : Hp} {E : XK} (hG : (A.deeper (envOfC "Style.least" (defScope s_Style_least) s.heap.objs.size f cdv)).guards = some []) (hr : Room 0 (A.deeper (envOfC "Style.least" (defScope s_Style_least) s.heap.objs.size f cdv))) (cl_Style : Cls K C_Style) (na_Style_held_least : NoAttr K C_Style "held_least") :
    ∃ t, JB (cxOf (L2.CX P wd) P wd K mg base N_Style_least "Style.least" (defScope s_Style_least) f cdv A outer s H E) (WD E) (defBody s_Style_least) t (T_Style_least C_Style) := by
  have hu : (A.deeper (envOfC "Style.least" (defScope s_Style_least) s.heap.objs.size f cdv)).units + 64 < cLine := hr.units
  exact ⟨_, (jb_one (js_ret (je_fld cl_Style na_Style_held_least (je_var 0))))⟩
theorem sc__law_stock : FnScope N__law_stock P__law_stock (defScope s__law_stock) := ⟨rfl, rfl, rfl, by decide +kernel, rfl, by decide +kernel, by decide +kernel⟩
theorem d__law_stock {P : Program} {wd : World} {K : PySem.W.Frag} {mg : Str → Option Value} {base : Heap} {f : Addr} {cdv : Value} {A : Around} {outer : List Env} {s : Shared} {H : Hp} {E : XK} (hG : (A.deeper (envOfC "_law_stock" (defScope s__law_stock) s.heap.objs.size f cdv)).guards = some []) (hr : Room 0 (A.deeper (envOfC "_law_stock" (defScope s__law_stock) s.heap.objs.size f cdv))) (m_abs : mg "abs" = none) :
    ∃ t, JB (cxOf (L2.CX P wd) P wd K mg base N__law_stock "_law_stock" (defScope s__law_stock) f cdv A outer s H E) (WD E) (defBody s__law_stock) t T__law_stock := by
  have hu : (A.deeper (envOfC "_law_stock" (defScope s__law_stock) s.heap.objs.size f cdv)).units + 64 < cLine := hr.units
  exact ⟨_, (jb_cons (js_asg (je_tup (ja_cons je_int (ja_cons je_int ja_nil))) (jg_tup rfl (jgs_cons (jg_name 1 sc__law_stock.nd) (jgs_cons (jg_name 2 sc__law_stock.nd) jgs_nil))))
  (jb_cons (js_for (passes_of rfl) rfl (ji_list (je_slice sl_list sld_l (je_var 0) jo_none (jo_some je_int))) (jg_name 3 sc__law_stock.nd)
  (jb_cons (js_if (jt_cmp op_ge opd_ge (je_callB call_abs cd_abs rfl m_abs (by decide +kernel) (ja_cons (je_var 3) ja_nil)) (je_op op_powW opd_pow je_int je_int) (nomark _))
  (jb_one (js_set 1 sc__law_stock.nd (je_op op_addA opd_add (je_op op_mulA opd_mul (je_var 1) (je_op op_powW opd_pow (je_op op_powW opd_pow je_int je_int) je_int)) (je_op op_mod opd_mod (je_callB call_abs cd_abs rfl m_abs (by decide +kernel) (ja_cons (je_var 3) ja_nil)) (je_op op_powW opd_pow (je_op op_powW opd_pow je_int je_int) je_int)))))
  jb_nil)
  (jb_one (js_set 2 sc__law_stock.nd (je_op op_mod opd_mod (je_op op_addA opd_add (je_op op_addA opd_add (je_op op_mulA opd_mul (je_var 2) je_int) (je_op op_mod opd_mod (je_var 3) je_int)) je_int) je_int)))))
  (jb_one (js_ret (je_lstO (ja_cons (je_var 1) (ja_cons (je_var 2) (ja_cons je_int ja_nil))))))))⟩
theorem sc__law_roll : FnScope N__law_roll P__law_roll (defScope s__law_roll) := ⟨rfl, rfl, rfl, by decide +kernel, rfl, by decide +kernel, by decide +kernel⟩
theorem d__law_roll {P : Program} {wd : World} {K : PySem.W.Frag} {mg : Str → Option Value} {base : Heap} {f : Addr} {cdv : Value} {A : Around} {outer : List Env} {s : Shared} {H : Hp} {E : XK} (hG : (A.deeper (envOfC "_law_roll" (defScope s__law_roll) s.heap.objs.size f cdv)).guards = some []) (hr : Room 0 (A.deeper (envOfC "_law_roll" (defScope s__law_roll) s.heap.objs.size f cdv)))  :
    ∃ t, JB (cxOf (L2.CX P wd) P wd K mg base N__law_roll "_law_roll" (defScope s__law_roll) f cdv A outer s H E) (WD E) (defBody s__law_roll) t T__law_roll := by
  have hu : (A.deeper (envOfC "_law_roll" (defScope s__law_roll) s.heap.objs.size f cdv)).units + 64 < cLine := hr.units
  exact ⟨_, (jb_cons (js_if (jt_cmp op_gt opd_gt (je_ix ix_seq opd_ix (je_var 0) je_int) je_int (nomark _))
  (jb_cons (js_set 2 sc__law_roll.nd (je_op op_mod opd_mod (je_ix ix_seq opd_ix (je_var 0) je_int) (je_var 1)))
  (jb_cons (js_asg (je_op op_fdivW opd_div (je_ix ix_seq opd_ix (je_var 0) je_int) (je_var 1)) (jg_sub (je_var 0) je_int set_list setd_o))
  (jb_one (js_ret (je_var 2)))))
  jb_nil)
  (jb_cons (js_asg (je_op op_addA opd_add (je_ix ix_seq opd_ix (je_var 0) je_int) je_int) (jg_sub (je_var 0) je_int set_list setd_o))
  (jb_cons (js_set 3 sc__law_roll.nd (je_op op_mod opd_mod (je_op op_powW opd_pow (je_op op_addA opd_add (je_ix ix_seq opd_ix (je_var 0) je_int) (je_op op_mulA opd_mul je_int (je_ix ix_seq opd_ix (je_var 0) je_int))) je_int) je_int))
  (jb_cons (js_set 3 sc__law_roll.nd (je_op op_mod opd_mod (je_op op_powW opd_pow (je_op op_addA opd_add (je_var 3) (je_op op_mulA opd_mul je_int (je_ix ix_seq opd_ix (je_var 0) je_int))) je_int) (je_op op_addA opd_add (je_op op_powW opd_pow je_int je_int) je_int)))
  (jb_one (js_ret (je_op op_mod opd_mod (je_op op_fdivW opd_div (je_var 3) je_int) (je_var 1))))))))⟩
theorem sc__law_row : FnScope N__law_row P__law_row (defScope s__law_row) := ⟨rfl, rfl, rfl, by decide +kernel, rfl, by decide +kernel, by decide +kernel⟩
theorem d__law_row {P : Program} {wd : World} {K : PySem.W.Frag} {mg : Str → Option Value} {base : Heap} {f : Addr} {cdv : Value} {A : Around} {outer : List Env} {s : Shared} {H : Hp} {E : XK} (hG : (A.deeper (envOfC "_law_row" (defScope s__law_row) s.heap.objs.size f cdv)).guards = some []) (hr : Room 1 (A.deeper (envOfC "_law_row" (defScope s__law_row) s.heap.objs.size f cdv))) (c__law_roll : CalG P wd K mg base "_law_roll" s__law_roll 1 P__law_roll sp__law_roll) (m_range : mg "range" = none) (m_int : mg "int" = none) :
    ∃ t, JB (cxOf (L2.CX P wd) P wd K mg base N__law_row "_law_row" (defScope s__law_row) f cdv A outer s H E) (WD E) (defBody s__law_row) t T__law_row := by
  have hu : (A.deeper (envOfC "_law_row" (defScope s__law_row) s.heap.objs.size f cdv)).units + 64 < cLine := hr.units
  exact ⟨_, (jb_cons (js_par 3 4 rfl sc__law_row.nd (ja_cons (je_op op_addA opd_add je_int (je_callCG c__law_roll hG (hr.mono (by decide)) rfl (takes_of rfl rfl rfl rfl) (ja_cons (je_var 0) (ja_cons (je_var 1) ja_nil)))) (ja_cons (je_ix ix_seq opd_ix (je_lst (ja_cons je_int (ja_cons je_int (ja_cons (je_op op_addA opd_add (je_op op_powW opd_pow je_int je_int) je_int) (ja_cons je_int (ja_cons je_int ja_nil)))))) (je_var 2)) ja_nil)))
  (jb_cons (js_set 5 sc__law_row.nd (je_lstO ja_nil))
  (jb_cons (js_for (passes_of rfl) rfl (ji_range1 rfl m_range (ja_cons (je_var 3) ja_nil)) (jg_name 6 sc__law_row.nd)
  (jb_one (js_expr (je_bm PySem.F.slot_list_append PySem.F.type_list_append mt_append mtd_append (je_var 5) (ja_cons (je_op op_mulA opd_mul (je_callCG c__law_roll hG (hr.mono (by decide)) rfl (takes_of rfl rfl rfl rfl) (ja_cons (je_var 0) (ja_cons (je_var 4) ja_nil))) (je_callTy call_int1 cd_int rfl m_int (by decide +kernel) (ja_cons (je_or (je_cmp op_ne opd_neF (je_var 2) je_int (nomark _)) (je_one (je_cmp op_eq opd_eqF (je_callCG c__law_roll hG (hr.mono (by decide)) rfl (takes_of rfl rfl rfl rfl) (ja_cons (je_var 0) (ja_cons je_int ja_nil))) je_int (nomark _)))) ja_nil))) ja_nil)))))
  (jb_cons (js_if (JW.jt (jw_and (jt_cmp op_eq opd_eqF (je_var 2) je_int (nomark _)) (jw_and1 (jt_cmp op_eq opd_eqF (je_callCG c__law_roll hG (hr.mono (by decide)) rfl (takes_of rfl rfl rfl rfl) (ja_cons (je_var 0) (ja_cons je_int ja_nil))) je_int (nomark _)))))
  (jb_one (js_asg (je_op op_powW opd_pow je_int je_int) (jg_sub (je_var 5) (je_callCG c__law_roll hG (hr.mono (by decide)) rfl takes0 (ja_cons (je_var 0) (ja_cons (je_var 3) ja_nil))) set_list setd_o)))
  jb_nil)
  (jb_one (js_ret (je_var 5)))))))⟩
theorem sc__law_grid : FnScope N__law_grid P__law_grid (defScope s__law_grid) := ⟨rfl, rfl, rfl, by decide +kernel, rfl, by decide +kernel, by decide +kernel⟩
theorem d__law_grid {P : Program} {wd : World} {K : PySem.W.Frag} {mg : Str → Option Value} {base : Heap} {f : Addr} {cdv : Value} {A : Around} {outer : List Env} {s : Shared} {H : Hp} {E : XK} (hG : (A.deeper (envOfC "_law_grid" (defScope s__law_grid) s.heap.objs.size f cdv)).guards = some []) (hr : Room 2 (A.deeper (envOfC "_law_grid" (defScope s__law_grid) s.heap.objs.size f cdv))) (c__law_roll : CalG P wd K mg base "_law_roll" s__law_roll 1 P__law_roll sp__law_roll) (c__law_row : CalG P wd K mg base "_law_row" s__law_row 2 P__law_row sp__law_row) (m_range : mg "range" = none) (m_len : mg "len" = none) :
    ∃ t, JB (cxOf (L2.CX P wd) P wd K mg base N__law_grid "_law_grid" (defScope s__law_grid) f cdv A outer s H E) (WD E) (defBody s__law_grid) t T__law_grid := by
  have hu : (A.deeper (envOfC "_law_grid" (defScope s__law_grid) s.heap.objs.size f cdv)).units + 64 < cLine := hr.units
  exact ⟨_, (jb_cons (js_set 4 sc__law_grid.nd (je_op op_addA opd_add (je_var 1) (je_callCG c__law_roll hG (hr.mono (by decide)) rfl (takes_of rfl rfl rfl rfl) (ja_cons (je_var 0) (ja_cons (je_op op_addA opd_add (je_op op_sub opd_sub (je_var 2) (je_var 1)) je_int) ja_nil)))))
  (jb_cons (js_par3 5 6 7 rfl sc__law_grid.nd (ja_cons (je_callCG c__law_roll hG (hr.mono (by decide)) rfl (takes_of rfl rfl rfl rfl) (ja_cons (je_var 0) (ja_cons je_int ja_nil))) (ja_cons (je_callCG c__law_roll hG (hr.mono (by decide)) rfl (takes_of rfl rfl rfl rfl) (ja_cons (je_var 0) (ja_cons je_int ja_nil))) (ja_cons (je_lstO ja_nil) ja_nil))))
  (jb_cons (js_set 8 sc__law_grid.nd (je_callCG c__law_row hG (hr.mono (by decide)) rfl (takes_of rfl rfl rfl rfl) (ja_cons (je_var 0) (ja_cons (je_var 3) (ja_cons (je_var 5) ja_nil)))))
  (jb_cons (js_for (passes_of rfl) rfl (ji_range1 rfl m_range (ja_cons (je_var 4) ja_nil)) (jg_name 9 sc__law_grid.nd)
  (jb_cons (js_set 10 sc__law_grid.nd (je_callCG c__law_row hG (hr.mono (by decide)) rfl (takes_of rfl rfl rfl rfl) (ja_cons (je_var 0) (ja_cons (je_ix ix_seq opd_ix (je_lst (ja_cons (je_var 3) (ja_cons (je_var 3) (ja_cons (je_op op_addA opd_add je_int (je_callCG c__law_roll hG (hr.mono (by decide)) rfl (takes_of rfl rfl rfl rfl) (ja_cons (je_var 0) (ja_cons (je_var 3) ja_nil)))) (ja_cons je_int ja_nil))))) (je_var 6)) (ja_cons (je_var 5) ja_nil)))))
  (jb_cons (js_if (jt_cmp op_eq opd_eqF (je_var 6) je_int (nomark _))
  (jb_one (js_set 10 sc__law_grid.nd (je_slice sl_list sld_o (je_op op_addA opd_add (je_op op_addA opd_add (je_var 10) (je_var 8)) (je_op op_mulA opd_mul (je_lst (ja_cons je_int ja_nil)) (je_var 3))) jo_none (jo_some (je_callB call_lenA cd_len rfl m_len (by decide +kernel) (ja_cons (je_var 8) ja_nil))))))
  jb_nil)
  (jb_cons (js_if (JW.jt (jw_and (jt_cmp op_eq opd_eqF (je_var 6) je_int (nomark _)) (jw_and1 (jt_cmp op_eq opd_eqF (je_callCG c__law_roll hG (hr.mono (by decide)) rfl (takes_of rfl rfl rfl rfl) (ja_cons (je_var 0) (ja_cons je_int ja_nil))) je_int (nomark _)))))
  (jb_one (js_set 10 sc__law_grid.nd (je_slice sl_list sld_o (je_var 10) jo_none (jo_some je_int))))
  jb_nil)
  (jb_one (js_expr (je_bm PySem.F.slot_list_append PySem.F.type_list_append mt_append mtd_append (je_var 7) (ja_cons (je_var 10) ja_nil))))))))
  (jb_one (js_ret (je_var 7)))))))⟩
theorem sc__law_look : FnScope N__law_look P__law_look (defScope s__law_look) := ⟨rfl, rfl, rfl, by decide +kernel, rfl, by decide +kernel, by decide +kernel⟩
theorem d__law_look {P : Program} {wd : World} {K : PySem.W.Frag} {mg : Str → Option Value} {base : Heap} {f : Addr} {cdv : Value} {A : Around} {outer : List Env} {s : Shared} {H : Hp} {E : XK} (hG : (A.deeper (envOfC "_law_look" (defScope s__law_look) s.heap.objs.size f cdv)).guards = some []) (hr : Room 1 (A.deeper (envOfC "_law_look" (defScope s__law_look) s.heap.objs.size f cdv))) (c__law_roll : CalG P wd K mg base "_law_roll" s__law_roll 1 P__law_roll sp__law_roll) (m_range : mg "range" = none) :
    ∃ t, JB (cxOf (L2.CX P wd) P wd K mg base N__law_look "_law_look" (defScope s__law_look) f cdv A outer s H E) (WD E) (defBody s__law_look) t T__law_look := by
  have hu : (A.deeper (envOfC "_law_look" (defScope s__law_look) s.heap.objs.size f cdv)).units + 64 < cLine := hr.units
  exact ⟨_, (jb_cons (js_set 1 sc__law_look.nd (je_op op_addA opd_add je_int (je_callCG c__law_roll hG (hr.mono (by decide)) rfl (takes_of rfl rfl rfl rfl) (ja_cons (je_var 0) (ja_cons (je_ix ix_seq opd_ix (je_lst (ja_cons je_int (ja_cons je_int ja_nil))) (je_callCG c__law_roll hG (hr.mono (by decide)) rfl (takes_of rfl rfl rfl rfl) (ja_cons (je_var 0) (ja_cons je_int ja_nil)))) ja_nil)))))
  (jb_cons (js_setLc 2 (own := ([("_law_spot", 6)] : List (Str × Nat))) finF finF_ok rfl sc__law_look.nd (ji_range1 rfl m_range (ja_cons (je_var 1) ja_nil)) (blkOk_by (N := N__law_look) (sc := defScope s__law_look) (by decide +kernel)) (fun _ _ _ _ _ => (jg_name 6 sc__law_look.nd)) (by exact (gk_name (vs := [6]) (i := 6))) (fun _ _ _ _ _ => jts_nil) (fun _ _ _ _ _ => (je_ix ix_seq opd_ix (je_lst (ja_cons je_str (ja_cons je_str (ja_cons je_str ja_nil)))) (je_callCG c__law_roll hG (hr.mono (by decide)) rfl takes0 (ja_cons (je_var 0) (ja_cons je_int ja_nil))))))
  (jb_cons (js_set 3 sc__law_look.nd (je_lstO ja_nil))
  (jb_cons (js_for (passes_of rfl) rfl (ji_range1 rfl m_range (ja_cons je_int ja_nil)) (jg_name 4 sc__law_look.nd)
  (jb_cons (js_set 5 sc__law_look.nd (je_lst (ja_cons je_int (ja_cons je_int (ja_cons je_int (ja_cons (je_callCG c__law_roll hG (hr.mono (by decide)) rfl (takes_of rfl rfl rfl rfl) (ja_cons (je_var 0) (ja_cons je_int ja_nil))) (ja_cons (je_callCG c__law_roll hG (hr.mono (by decide)) rfl (takes_of rfl rfl rfl rfl) (ja_cons (je_var 0) (ja_cons (je_op op_addA opd_add (je_op op_powW opd_pow je_int je_int) je_int) ja_nil))) ja_nil)))))))
  (jb_one (js_expr (je_bm PySem.F.slot_list_append PySem.F.type_list_append mt_append mtd_append (je_var 3) (ja_cons (je_ix ix_seq opd_ix (je_var 5) (je_callCG c__law_roll hG (hr.mono (by decide)) rfl (takes_of rfl rfl rfl rfl) (ja_cons (je_var 0) (ja_cons je_int ja_nil)))) ja_nil))))))
  (jb_one (js_ret (je_tup (ja_cons (je_var 2) (ja_cons (je_ix ix_seq opd_ix (je_var 3) je_int) (ja_cons (je_ix ix_seq opd_ix (je_var 3) je_int) ja_nil))))))))))⟩
theorem sc__law_copied : FnScope N__law_copied P__law_copied (defScope s__law_copied) := ⟨rfl, rfl, rfl, by decide +kernel, rfl, by decide +kernel, by decide +kernel⟩
theorem d__law_copied {P : Program} {wd : World} {K : PySem.W.Frag} {mg : Str → Option Value} {base : Heap} {f : Addr} {cdv : Value} {A : Around} {outer : List Env} {s : Shared} {H : Hp} {E : XK} (hG : (A.deeper (envOfC "_law_copied" (defScope s__law_copied) s.heap.objs.size f cdv)).guards = some []) (hr : Room 0 (A.deeper (envOfC "_law_copied" (defScope s__law_copied) s.heap.objs.size f cdv))) (m_list : mg "list" = none) :
    ∃ t, JB (cxOf (L2.CX P wd) P wd K mg base N__law_copied "_law_copied" (defScope s__law_copied) f cdv A outer s H E) (WD E) (defBody s__law_copied) t T__law_copied := by
  have hu : (A.deeper (envOfC "_law_copied" (defScope s__law_copied) s.heap.objs.size f cdv)).units + 64 < cLine := hr.units
  exact ⟨_, (jb_one (js_ret (je_lc (own := ([("_law_row_here", 1)] : List (Str × Nat))) finO finO_ok rfl sc__law_copied.nd (ji_list (je_var 0)) (blkOk_by (N := N__law_copied) (sc := defScope s__law_copied) (by decide +kernel)) (fun _ _ _ _ _ => (jg_name 1 sc__law_copied.nd)) (by exact (gk_name (vs := [1]) (i := 1))) (fun _ _ _ _ _ => jts_nil) (fun _ _ _ _ _ => (je_callTy call_list_of cd_listO rfl m_list (by decide +kernel) (ja_cons (je_var 1) ja_nil))))))⟩
theorem sc__law_edit : FnScope N__law_edit P__law_edit (defScope s__law_edit) := ⟨rfl, rfl, rfl, by decide +kernel, rfl, by decide +kernel, by decide +kernel⟩
theorem d__law_edit {C_Page : Addr} {P : Program} {wd : World} {K : PySem.W.Frag} {mg : Str → Option Value} {base : Heap} {f : Addr} {cdv : Value} {A : Around} {outer : List Env} {s : Shared} {H : Hp} {E : XK} (hG : (A.deeper (envOfC "_law_edit" (defScope s__law_edit) s.heap.objs.size f cdv)).guards = some []) (hr : Room 8 (A.deeper (envOfC "_law_edit" (defScope s__law_edit) s.heap.objs.size f cdv))) (c__law_roll : CalG P wd K mg base "_law_roll" s__law_roll 1 P__law_roll sp__law_roll) (m_len : mg "len" = none) (c__law_copied : CalG P wd K mg base "_law_copied" s__law_copied 1 P__law_copied sp__law_copied) (mt_Page_change_4 : MethK P wd K mg base C_Page "change" 8 ([] : List Str) (pkP 4 [0, 1, 2, 3] [] (sp_Page_change C_Page))) (mt_Page_change_1_cell_column_line : MethK P wd K mg base C_Page "change" 8 (["cell", "column", "line"] : List Str) (pkP 1 [0, 3, 2, 1] [] (sp_Page_change C_Page))) (mt_Page_drop_2 : MethK P wd K mg base C_Page "drop" 7 ([] : List Str) (pkP 2 [0, 1] [] (sp_Page_drop C_Page))) (mt_Page_drop_1_line : MethK P wd K mg base C_Page "drop" 7 (["line"] : List Str) (pkP 1 [0, 1] [] (sp_Page_drop C_Page))) (c__law_row : CalG P wd K mg base "_law_row" s__law_row 2 P__law_row sp__law_row) (m_list : mg "list" = none) (mt_Page_put_3 : MethK P wd K mg base C_Page "put" 7 ([] : List Str) (pkP 3 [0, 1, 2] [] (sp_Page_put C_Page))) (mt_Page_put_1_cells_line : MethK P wd K mg base C_Page "put" 7 (["cells", "line"] : List Str) (pkP 1 [0, 2, 1] [] (sp_Page_put C_Page))) :
    ∃ t, JB (cxOf (L2.CX P wd) P wd K mg base N__law_edit "_law_edit" (defScope s__law_edit) f cdv A outer s H E) (WD E) (defBody s__law_edit) t (T__law_edit C_Page) := by
  have hu : (A.deeper (envOfC "_law_edit" (defScope s__law_edit) s.heap.objs.size f cdv)).units + 64 < cLine := hr.units
  exact ⟨_, (jb_cons (js_par 4 5 rfl sc__law_edit.nd (ja_cons (je_ix ix_seq opd_ix (je_var 2) je_int) (ja_cons (je_callCG c__law_roll hG (hr.mono (by decide)) rfl (takes_of rfl rfl rfl rfl) (ja_cons (je_var 0) (ja_cons je_int ja_nil))) ja_nil)))
  (jb_cons (js_par 6 7 rfl sc__law_edit.nd (ja_cons (je_callCG c__law_copied hG (hr.mono (by decide)) rfl (takes_of rfl rfl rfl rfl) (ja_cons (je_var 4) ja_nil)) (ja_cons (je_callCG c__law_roll hG (hr.mono (by decide)) rfl (takes_of rfl rfl rfl rfl) (ja_cons (je_var 0) (ja_cons (je_callB call_lenA cd_len rfl m_len (by decide +kernel) (ja_cons (je_var 4) ja_nil)) ja_nil))) ja_nil)))
  (jb_cons (js_if (jt_cmp op_lt opd_lt (je_var 5) je_int (nomark _))
  (jb_cons (js_set 8 sc__law_edit.nd (je_callCG c__law_roll hG (hr.mono (by decide)) rfl (takes_of rfl rfl rfl rfl) (ja_cons (je_var 0) (ja_cons (je_callB call_lenA cd_len rfl m_len (by decide +kernel) (ja_cons (je_ix ix_seq opd_ix (je_var 4) (je_var 7)) ja_nil)) ja_nil))))
  (jb_cons (js_set 9 sc__law_edit.nd (je_ix ix_seq opd_ix (je_lst (ja_cons (je_callCG c__law_roll hG (hr.mono (by decide)) rfl (takes_of rfl rfl rfl rfl) (ja_cons (je_var 0) (ja_cons je_int ja_nil))) (ja_cons (je_callCG c__law_roll hG (hr.mono (by decide)) rfl (takes_of rfl rfl rfl rfl) (ja_cons (je_var 0) (ja_cons (je_op op_addA opd_add (je_op op_powW opd_pow je_int je_int) je_int) ja_nil))) (ja_cons je_int ja_nil)))) (je_callCG c__law_roll hG (hr.mono (by decide)) rfl (takes_of rfl rfl rfl rfl) (ja_cons (je_var 0) (ja_cons je_int ja_nil)))))
  (jb_cons (js_set 10 sc__law_edit.nd (je_ix ix_seq opd_ix (je_var 6) (je_var 7)))
  (jb_cons (js_asg (je_var 9) (jg_sub (je_var 10) (je_var 8) set_list setd_o))
  (jb_one (js_set 11 sc__law_edit.nd (je_if (jt_cmp op_gt opd_gt (je_var 5) je_int (nomark _)) (je_methA mt_Page_change_4 hG (hr.mono (by decide)) (takes_of rfl rfl rfl rfl) (je_var 1) (jc_cons (ks := ([] : List Str)) (ja_cons (je_var 7) (ja_cons (je_var 8) (ja_cons (je_var 9) ja_nil))) jk_nil)) (je_methA mt_Page_change_1_cell_column_line hG (hr.mono (by decide)) (takes_of rfl rfl rfl rfl) (je_var 1) (jc_nil (ks := (["cell", "column", "line"] : List Str)) (jk_cons (je_var 9) (jk_cons (je_var 8) (jk_cons (je_var 7) jk_nil))))))))))))
  (jb_one (js_if (JW.jt (jw_and (jt_cmp op_gt opd_gt (je_callB call_lenA cd_len rfl m_len (by decide +kernel) (ja_cons (je_var 4) ja_nil)) je_int (nomark _)) (jw_and1 (JW.jt (jw_or (jt_cmp op_eq opd_eqF (je_var 5) je_int (nomark _)) (jw_or1 (jt_cmp op_ge opd_ge (je_callB call_lenA cd_len rfl m_len (by decide +kernel) (ja_cons (je_var 4) ja_nil)) (je_var 3) (nomark _))))))))
  (jb_cons (js_expr (je_bm PySem.F.slot_list_pop PySem.F.type_list_pop mt_popAt mtd_popAt (je_var 6) (ja_cons (je_var 7) ja_nil)))
  (jb_one (js_set 11 sc__law_edit.nd (je_if (jt_cmp op_eq opd_eqF (je_callCG c__law_roll hG (hr.mono (by decide)) rfl (takes_of rfl rfl rfl rfl) (ja_cons (je_var 0) (ja_cons je_int ja_nil))) je_int (nomark _)) (je_methA mt_Page_drop_2 hG (hr.mono (by decide)) (takes_of rfl rfl rfl rfl) (je_var 1) (jc_cons (ks := ([] : List Str)) (ja_cons (je_var 7) ja_nil) jk_nil)) (je_methA mt_Page_drop_1_line hG (hr.mono (by decide)) (takes_of rfl rfl rfl rfl) (je_var 1) (jc_nil (ks := (["line"] : List Str)) (jk_cons (je_var 7) jk_nil)))))))
  (jb_one (js_if (jt_cmp op_lt opd_lt (je_callB call_lenA cd_len rfl m_len (by decide +kernel) (ja_cons (je_var 4) ja_nil)) (je_var 3) (nomark _))
  (jb_cons (js_set 7 sc__law_edit.nd (je_callCG c__law_roll hG (hr.mono (by decide)) rfl (takes_of rfl rfl rfl rfl) (ja_cons (je_var 0) (ja_cons (je_op op_addA opd_add (je_callB call_lenA cd_len rfl m_len (by decide +kernel) (ja_cons (je_var 4) ja_nil)) je_int) ja_nil))))
  (jb_cons (js_set 10 sc__law_edit.nd (je_callCG c__law_row hG (hr.mono (by decide)) rfl (takes_of rfl rfl rfl rfl) (ja_cons (je_var 0) (ja_cons (je_ix ix_seq opd_ix (je_lst (ja_cons je_int (ja_cons je_int ja_nil))) (je_callCG c__law_roll hG (hr.mono (by decide)) rfl (takes_of rfl rfl rfl rfl) (ja_cons (je_var 0) (ja_cons je_int ja_nil)))) (ja_cons (je_callCG c__law_roll hG (hr.mono (by decide)) rfl (takes_of rfl rfl rfl rfl) (ja_cons (je_var 0) (ja_cons je_int ja_nil))) ja_nil)))))
  (jb_cons (js_expr (je_bm PySem.F.slot_list_insert PySem.F.type_list_insert mt_insert mtd_ins (je_var 6) (ja_cons (je_var 7) (ja_cons (je_callTy call_list_of cd_listO rfl m_list (by decide +kernel) (ja_cons (je_var 10) ja_nil)) ja_nil))))
  (jb_cons (js_set 11 sc__law_edit.nd (je_if (jt_cmp op_eq opd_eqF (je_var 5) je_int (nomark _)) (je_methA mt_Page_put_3 hG (hr.mono (by decide)) (takes_of rfl rfl rfl rfl) (je_var 1) (jc_cons (ks := ([] : List Str)) (ja_cons (je_var 7) (ja_cons (je_var 10) ja_nil)) jk_nil)) (je_methA mt_Page_put_1_cells_line hG (hr.mono (by decide)) (takes_of rfl rfl rfl rfl) (je_var 1) (jc_nil (ks := (["cells", "line"] : List Str)) (jk_cons (je_var 10) (jk_cons (je_var 7) jk_nil))))))
  (jb_one (js_expr (je_bm PySem.F.slot_list_append PySem.F.type_list_append mt_append mtd_append (je_var 10) (ja_cons je_int ja_nil))))))))
  (jb_cons (js_set 10 sc__law_edit.nd (je_ix ix_seq opd_ix (je_var 6) (je_var 7)))
  (jb_cons (js_asg je_int (jg_sub (je_var 10) je_int set_list setd_o))
  (jb_one (js_set 11 sc__law_edit.nd (je_methA mt_Page_change_4 hG (hr.mono (by decide)) (takes_of rfl rfl rfl rfl) (je_var 1) (jc_cons (ks := ([] : List Str)) (ja_cons (je_var 7) (ja_cons je_int (ja_cons je_int ja_nil))) jk_nil)))))))))))
  (jb_cons (js_asg (je_op op_addA opd_add (je_ix ix_seq opd_ix (je_var 2) je_int) (je_lst (ja_cons (je_var 4) ja_nil))) (jg_sub (je_var 2) je_int set_list setd_o))
  (jb_cons (js_asg (je_fz2 (je_var 6)) (jg_sub (je_var 2) je_int set_list setd_o))
  (jb_one (js_ret (je_cmp op_isN opd_isN (je_var 11) je_non (nomark _)))))))))⟩
theorem sc__law_same : FnScope N__law_same P__law_same (defScope s__law_same) := ⟨rfl, rfl, rfl, by decide +kernel, rfl, by decide +kernel, by decide +kernel⟩
theorem d__law_same {C_Page : Addr} {P : Program} {wd : World} {K : PySem.W.Frag} {mg : Str → Option Value} {base : Heap} {f : Addr} {cdv : Value} {A : Around} {outer : List Env} {s : Shared} {H : Hp} {E : XK} (hG : (A.deeper (envOfC "_law_same" (defScope s__law_same) s.heap.objs.size f cdv)).guards = some []) (hr : Room 2 (A.deeper (envOfC "_law_same" (defScope s__law_same) s.heap.objs.size f cdv))) (pr_Page_table : PropK P wd K mg base C_Page "table" 1 (pkP 1 [0] [] (sp_Page_table C_Page))) (m_repr : mg "repr" = none) (lk_Page : LenK P wd K mg base C_Page 1 (pkP 1 [0] [] (sp_Page___len__ C_Page))) (m_len : mg "len" = none) :
    ∃ t, JB (cxOf (L2.CX P wd) P wd K mg base N__law_same "_law_same" (defScope s__law_same) f cdv A outer s H E) (WD E) (defBody s__law_same) t (T__law_same C_Page) := by
  have hu : (A.deeper (envOfC "_law_same" (defScope s__law_same) s.heap.objs.size f cdv)).units + 64 < cLine := hr.units
  exact ⟨_, (jb_one (js_ret (je_and (je_cmp (op_eqD hu) opd_eq (je_callB (call_reprD hG hu) cd_repr rfl m_repr (by decide +kernel) (ja_cons (je_propA pr_Page_table hG (hr.mono (by decide)) (je_var 0)) ja_nil)) (je_callB (call_reprD hG hu) cd_repr rfl m_repr (by decide +kernel) (ja_cons (je_ix ix_seq opd_ix (je_var 1) je_int) ja_nil)) (nomark _)) (je_one (je_cmp op_eq opd_eqF (je_callB SkE.call_repr_int cd_strI rfl m_repr (by decide +kernel) (ja_cons (je_callB (call_lenI lk_Page hG (hr.mono (by decide))) cd_lenI rfl m_len (by decide +kernel) (ja_cons (je_var 0) ja_nil)) ja_nil)) (je_callB SkE.call_repr_int cd_strI rfl m_repr (by decide +kernel) (ja_cons (je_callB call_lenA cd_len rfl m_len (by decide +kernel) (ja_cons (je_ix ix_seq opd_ix (je_var 1) je_int) ja_nil)) ja_nil)) (nomark _))))))⟩
theorem sc__law_marked : FnScope N__law_marked P__law_marked (defScope s__law_marked) := ⟨rfl, rfl, rfl, by decide +kernel, rfl, by decide +kernel, by decide +kernel⟩
theorem d__law_marked {C_Page : Addr} {P : Program} {wd : World} {K : PySem.W.Frag} {mg : Str → Option Value} {base : Heap} {f : Addr} {cdv : Value} {A : Around} {outer : List Env} {s : Shared} {H : Hp} {E : XK} (hG : (A.deeper (envOfC "_law_marked" (defScope s__law_marked) s.heap.objs.size f cdv)).guards = some []) (hr : Room 9 (A.deeper (envOfC "_law_marked" (defScope s__law_marked) s.heap.objs.size f cdv))) (m_range : mg "range" = none) (c__law_roll : CalG P wd K mg base "_law_roll" s__law_roll 1 P__law_roll sp__law_roll) (m_len : mg "len" = none) (mt_Page_mark_1 : MethK P wd K mg base C_Page "mark" 1 ([] : List Str) (pkP 1 [0] [] (sp_Page_mark C_Page))) (c__law_edit : CalG P wd K mg base "_law_edit" s__law_edit 9 P__law_edit (sp__law_edit C_Page)) (c__law_same : CalG P wd K mg base "_law_same" s__law_same 3 P__law_same (sp__law_same C_Page)) :
    ∃ t, JB (cxOf (L2.CX P wd) P wd K mg base N__law_marked "_law_marked" (defScope s__law_marked) f cdv A outer s H E) (WD E) (defBody s__law_marked) t (T__law_marked C_Page) := by
  have hu : (A.deeper (envOfC "_law_marked" (defScope s__law_marked) s.heap.objs.size f cdv)).units + 64 < cLine := hr.units
  exact ⟨_, (jb_cons (js_for (passes_of rfl) rfl (ji_range1 rfl m_range (ja_cons (je_var 3) ja_nil)) (jg_name 4 sc__law_marked.nd)
  (jb_one (js_if (jt_cmp op_eq opd_eqF (je_callCG c__law_roll hG (hr.mono (by decide)) rfl (takes_of rfl rfl rfl rfl) (ja_cons (je_var 0) (ja_cons je_int ja_nil))) je_int (nomark _))
  (jb_cons (js_asg (je_op op_addA opd_add (je_ix ix_seq opd_ix (je_var 2) je_int) (je_lst (ja_cons (je_callB call_lenA cd_len rfl m_len (by decide +kernel) (ja_cons (je_ix ix_seq opd_ix (je_var 2) je_int) ja_nil)) ja_nil))) (jg_sub (je_var 2) je_int set_list setd_o))
  (jb_one (js_if (jt_cmp op_ne opd_neF (je_methA mt_Page_mark_1 hG (hr.mono (by decide)) (takes_of rfl rfl rfl rfl) (je_var 1) (jc_nil (ks := ([] : List Str)) jk_nil)) (je_op op_sub opd_sub (je_callB call_lenA cd_len rfl m_len (by decide +kernel) (ja_cons (je_ix ix_seq opd_ix (je_var 2) je_int) ja_nil)) je_int) (nomark _))
  (jb_one (js_ret je_bl))
  jb_nil)))
  (jb_one (js_if (jt_not (jt_val (je_callCG c__law_edit hG (hr.mono (by decide)) rfl (takes_of rfl rfl rfl rfl) (ja_cons (je_var 0) (ja_cons (je_var 1) (ja_cons (je_var 2) (ja_cons je_int ja_nil)))))))
  (jb_one (js_ret je_bl))
  jb_nil)))))
  (jb_one (js_ret (je_callCG c__law_same hG (hr.mono (by decide)) rfl (takes_of rfl rfl rfl rfl) (ja_cons (je_var 1) (ja_cons (je_var 2) ja_nil))))))⟩
theorem sc__law_emptied : FnScope N__law_emptied P__law_emptied (defScope s__law_emptied) := ⟨rfl, rfl, rfl, by decide +kernel, rfl, by decide +kernel, by decide +kernel⟩
theorem d__law_emptied {C_Page : Addr} {P : Program} {wd : World} {K : PySem.W.Frag} {mg : Str → Option Value} {base : Heap} {f : Addr} {cdv : Value} {A : Around} {outer : List Env} {s : Shared} {H : Hp} {E : XK} (hG : (A.deeper (envOfC "_law_emptied" (defScope s__law_emptied) s.heap.objs.size f cdv)).guards = some []) (hr : Room 2 (A.deeper (envOfC "_law_emptied" (defScope s__law_emptied) s.heap.objs.size f cdv))) (m_len : mg "len" = none) (m_range : mg "range" = none) (mt_Page_undo_to_2 : MethK P wd K mg base C_Page "undo_to" 1 ([] : List Str) (pkP 2 [0, 1] [] (sp_Page_undo_to C_Page))) (pr_Page_table : PropK P wd K mg base C_Page "table" 1 (pkP 1 [0] [] (sp_Page_table C_Page))) (m_repr : mg "repr" = none) (lk_Page : LenK P wd K mg base C_Page 1 (pkP 1 [0] [] (sp_Page___len__ C_Page))) (mt_Page_undo_1 : MethK P wd K mg base C_Page "undo" 1 ([] : List Str) (pkP 1 [0] [] (sp_Page_undo C_Page))) :
    ∃ t, JB (cxOf (L2.CX P wd) P wd K mg base N__law_emptied "_law_emptied" (defScope s__law_emptied) f cdv A outer s H E) (WD E) (defBody s__law_emptied) t (T__law_emptied C_Page) := by
  have hu : (A.deeper (envOfC "_law_emptied" (defScope s__law_emptied) s.heap.objs.size f cdv)).units + 64 < cLine := hr.units
  exact ⟨_, (jb_cons (js_for (passes_of rfl) rfl (ji_range3 rfl m_range (ja_cons (je_op op_sub opd_sub (je_callB call_lenA cd_len rfl m_len (by decide +kernel) (ja_cons (je_ix ix_seq opd_ix (je_var 1) je_int) ja_nil)) je_int) (ja_cons (je_neg je_int) (ja_cons (je_neg je_int) ja_nil)))) (jg_name 2 sc__law_emptied.nd)
  (jb_cons (js_expr (je_methA mt_Page_undo_to_2 hG (hr.mono (by decide)) (takes_of rfl rfl rfl rfl) (je_var 0) (jc_cons (ks := ([] : List Str)) (ja_cons (je_var 2) ja_nil) jk_nil)))
  (jb_cons (js_set 3 sc__law_emptied.nd (je_ix ix_seq opd_ix (je_op op_addA opd_add (je_ix ix_seq opd_ix (je_var 1) je_int) (je_lst (ja_cons (je_ix ix_seq opd_ix (je_var 1) je_int) ja_nil))) (je_ix ix_seq opd_ix (je_ix ix_seq opd_ix (je_var 1) je_int) (je_var 2))))
  (jb_one (js_if (JW.jt (jw_or (jt_cmp (op_neD hu) opd_ne (je_callB (call_reprD hG hu) cd_repr rfl m_repr (by decide +kernel) (ja_cons (je_propA pr_Page_table hG (hr.mono (by decide)) (je_var 0)) ja_nil)) (je_callB (call_reprD hG hu) cd_repr rfl m_repr (by decide +kernel) (ja_cons (je_var 3) ja_nil)) (nomark _)) (jw_or1 (jt_cmp op_ne opd_neF (je_callB (call_lenI lk_Page hG (hr.mono (by decide))) cd_lenI rfl m_len (by decide +kernel) (ja_cons (je_var 0) ja_nil)) (je_ix ix_seq opd_ix (je_ix ix_seq opd_ix (je_var 1) je_int) (je_var 2)) (nomark _)))))
  (jb_one (js_ret je_bl))
  jb_nil)))))
  (jb_cons (js_while (passes_of rfl) (jt_cmp op_gt opd_gt (je_callB (call_lenI lk_Page hG (hr.mono (by decide))) cd_lenI rfl m_len (by decide +kernel) (ja_cons (je_var 0) ja_nil)) je_int (nomark _))
  (jb_one (js_expr (je_methA mt_Page_undo_1 hG (hr.mono (by decide)) (takes_of rfl rfl rfl rfl) (je_var 0) (jc_nil (ks := ([] : List Str)) jk_nil)))))
  (jb_one (js_ret (je_cmp (op_eqD hu) opd_eq (je_callB (call_reprD hG hu) cd_repr rfl m_repr (by decide +kernel) (ja_cons (je_propA pr_Page_table hG (hr.mono (by decide)) (je_var 0)) ja_nil)) (je_callB (call_reprD hG hu) cd_repr rfl m_repr (by decide +kernel) (ja_cons (je_ix ix_seq opd_ix (je_op op_addA opd_add (je_ix ix_seq opd_ix (je_var 1) je_int) (je_lst (ja_cons (je_ix ix_seq opd_ix (je_var 1) je_int) ja_nil))) je_int) ja_nil)) (nomark _))))))⟩
theorem sc__law_right : FnScope N__law_right P__law_right (defScope s__law_right) := ⟨rfl, rfl, rfl, by decide +kernel, rfl, by decide +kernel, by decide +kernel⟩
theorem d__law_right {C_Style C_Page : Addr} {P : Program} {wd : World} {K : PySem.W.Frag} {mg : Str → Option Value} {base : Heap} {f : Addr} {cdv : Value} {A : Around} {outer : List Env} {s : Shared} {H : Hp} {E : XK} (hG : (A.deeper (envOfC "_law_right" (defScope s__law_right) s.heap.objs.size f cdv)).guards = some []) (hr : Room 10 (A.deeper (envOfC "_law_right" (defScope s__law_right) s.heap.objs.size f cdv))) (c__law_look : CalG P wd K mg base "_law_look" s__law_look 2 P__law_look sp__law_look) (c__law_copied : CalG P wd K mg base "_law_copied" s__law_copied 1 P__law_copied sp__law_copied) (h_Style : mg "Style" = some (.ref C_Style)) (cm_Style_Style_of_4 : CMetK P wd K mg base C_Style "of" 5 ([] : List Str) (pkP 4 [0, 1, 2, 3] [] (sp_Style_of C_Style))) (h_Page : mg "Page" = some (.ref C_Page)) (cm_Page_Page_of_1_style_table : CMetK P wd K mg base C_Page "of" 7 (["style", "table"] : List Str) (pkP 1 [0, 1, 2] [] (sp_Page_of C_Page))) (cm_Page_Page_of_3 : CMetK P wd K mg base C_Page "of" 7 ([] : List Str) (pkP 3 [0, 1, 2] [] (sp_Page_of C_Page))) (c__law_marked : CalG P wd K mg base "_law_marked" s__law_marked 10 P__law_marked (sp__law_marked C_Page)) (i_Page : IdC K C_Page) (m_list : mg "list" = none) (mt_Page_twin_1 : MethK P wd K mg base C_Page "twin" 7 ([] : List Str) (pkP 1 [0] [] (sp_Page_twin C_Page))) (c__law_same : CalG P wd K mg base "_law_same" s__law_same 3 P__law_same (sp__law_same C_Page)) (c__law_roll : CalG P wd K mg base "_law_roll" s__law_roll 1 P__law_roll sp__law_roll) (pr_Page_table : PropK P wd K mg base C_Page "table" 1 (pkP 1 [0] [] (sp_Page_table C_Page))) (m_repr : mg "repr" = none) (c__law_emptied : CalG P wd K mg base "_law_emptied" s__law_emptied 3 P__law_emptied (sp__law_emptied C_Page)) (lk_Page : LenK P wd K mg base C_Page 1 (pkP 1 [0] [] (sp_Page___len__ C_Page))) (m_len : mg "len" = none) :
    ∃ t, JB (cxOf (L2.CX P wd) P wd K mg base N__law_right "_law_right" (defScope s__law_right) f cdv A outer s H E) (WD E) (defBody s__law_right) t (T__law_right C_Style C_Page) := by
  have hu : (A.deeper (envOfC "_law_right" (defScope s__law_right) s.heap.objs.size f cdv)).units + 64 < cLine := hr.units
  exact ⟨_, (jb_cons (js_asg (je_callCG c__law_look hG (hr.mono (by decide)) rfl (takes_of rfl rfl rfl rfl) (ja_cons (je_var 0) ja_nil)) (jg_tup rfl (jgs_cons (jg_name 3 sc__law_right.nd) (jgs_cons (jg_name 4 sc__law_right.nd) (jgs_cons (jg_name 5 sc__law_right.nd) jgs_nil)))))
  (jb_cons (js_par 6 7 rfl sc__law_right.nd (ja_cons (je_fzI (je_cmethA cm_Style_Style_of_4 hG (hr.mono (by decide)) (takes_of rfl rfl rfl rfl) (je_gref rfl h_Style) (jc_cons (ks := ([] : List Str)) (ja_cons (je_var 3) (ja_cons (je_var 4) (ja_cons (je_var 5) ja_nil))) jk_nil))) (ja_cons (je_lstO (ja_cons (je_fz2 (je_callCG c__law_copied hG (hr.mono (by decide)) rfl (takes_of rfl rfl rfl rfl) (ja_cons (je_var 1) ja_nil))) (ja_cons (je_lst ja_nil) (ja_cons (je_lst ja_nil) ja_nil)))) ja_nil)))
  (jb_cons (js_par 8 9 rfl sc__law_right.nd (ja_cons (je_cmethA cm_Page_Page_of_3 hG (hr.mono (by decide)) (takes_of rfl rfl rfl rfl) (je_gref rfl h_Page) (jc_cons (ks := ([] : List Str)) (ja_cons (je_var 6) (ja_cons (je_var 1) ja_nil)) jk_nil)) (ja_cons (je_cmethA cm_Page_Page_of_1_style_table hG (hr.mono (by decide)) (takes_of rfl rfl rfl rfl) (je_gref rfl h_Page) (jc_nil (ks := (["style", "table"] : List Str)) (jk_cons (je_var 6) (jk_cons (je_var 1) jk_nil)))) ja_nil)))
  (jb_cons (js_if (jt_not (jt_val (je_callCG c__law_marked hG (hr.mono (by decide)) rfl (takes_of rfl rfl rfl rfl) (ja_cons (je_var 0) (ja_cons (je_var 8) (ja_cons (je_var 7) (ja_cons (je_var 2) ja_nil)))))))
  (jb_one (js_ret je_bl))
  jb_nil)
  (jb_cons (js_if (JW.jt (jw_or (jt_cmp (op_idE hu) (opd_idI (fun C hC => (List.mem_singleton.mp hC) ▸ i_Page)) (je_var 8) (je_var 9) (nomark _)) (jw_or1 (jt_not (jt_cmp (op_idE hu) (opd_idI (fun C hC => (List.mem_singleton.mp hC) ▸ i_Page)) (je_var 8) (je_var 8) (nomark _))))))
  (jb_one (js_ret je_bl))
  jb_nil)
  (jb_cons (js_par 10 11 rfl sc__law_right.nd (ja_cons (je_methA mt_Page_twin_1 hG (hr.mono (by decide)) (takes_of rfl rfl rfl rfl) (je_var 8) (jc_nil (ks := ([] : List Str)) jk_nil)) (ja_cons (je_lstO (ja_cons (je_ix ix_seq opd_ix (je_var 7) je_int) (ja_cons (je_callTy call_list_of cd_list rfl m_list (by decide +kernel) (ja_cons (je_ix ix_seq opd_ix (je_var 7) je_int) ja_nil)) (ja_cons (je_callTy call_list_of cd_list rfl m_list (by decide +kernel) (ja_cons (je_ix ix_seq opd_ix (je_var 7) je_int) ja_nil)) ja_nil)))) ja_nil)))
  (jb_cons (js_set 12 sc__law_right.nd (je_methA mt_Page_twin_1 hG (hr.mono (by decide)) (takes_of rfl rfl rfl rfl) (je_var 10) (jc_nil (ks := ([] : List Str)) jk_nil)))
  (jb_cons (js_set 13 sc__law_right.nd (je_lstO (ja_cons (je_ix ix_seq opd_ix (je_var 7) je_int) (ja_cons (je_callTy call_list_of cd_list rfl m_list (by decide +kernel) (ja_cons (je_ix ix_seq opd_ix (je_var 7) je_int) ja_nil)) (ja_cons (je_callTy call_list_of cd_list rfl m_list (by decide +kernel) (ja_cons (je_ix ix_seq opd_ix (je_var 7) je_int) ja_nil)) ja_nil)))))
  (jb_cons (js_if (JW.jt (jw_or (jt_cmp (op_idE hu) (opd_idI (fun C hC => (List.mem_singleton.mp hC) ▸ i_Page)) (je_var 10) (je_var 8) (nomark _)) (jw_or1 (jt_not (jt_val (je_callCG c__law_same hG (hr.mono (by decide)) rfl (takes_of rfl rfl rfl rfl) (ja_cons (je_var 10) (ja_cons (je_var 11) ja_nil))))))))
  (jb_one (js_ret je_bl))
  jb_nil)
  (jb_cons (js_if (jt_not (jt_val (je_callCG c__law_marked hG (hr.mono (by decide)) rfl (takes_of rfl rfl rfl rfl) (ja_cons (je_var 0) (ja_cons (je_var 10) (ja_cons (je_var 13) (ja_cons (je_callCG c__law_roll hG (hr.mono (by decide)) rfl (takes_of rfl rfl rfl rfl) (ja_cons (je_var 0) (ja_cons je_int ja_nil))) ja_nil)))))))
  (jb_one (js_ret je_bl))
  jb_nil)
  (jb_cons (js_if (JW.jt (jw_or (jt_not (jt_val (je_callCG c__law_same hG (hr.mono (by decide)) rfl (takes_of rfl rfl rfl rfl) (ja_cons (je_var 8) (ja_cons (je_var 7) ja_nil))))) (jw_or1 (jt_not (jt_val (je_callCG c__law_marked hG (hr.mono (by decide)) rfl (takes_of rfl rfl rfl rfl) (ja_cons (je_var 0) (ja_cons (je_var 8) (ja_cons (je_var 7) (ja_cons (je_callCG c__law_roll hG (hr.mono (by decide)) rfl (takes_of rfl rfl rfl rfl) (ja_cons (je_var 0) (ja_cons je_int ja_nil))) ja_nil))))))))))
  (jb_one (js_ret je_bl))
  jb_nil)
  (jb_cons (js_if (JW.jt (jw_or (jt_not (jt_val (je_callCG c__law_same hG (hr.mono (by decide)) rfl (takes_of rfl rfl rfl rfl) (ja_cons (je_var 10) (ja_cons (je_var 13) ja_nil))))) (jw_or (jt_not (jt_val (je_callCG c__law_same hG (hr.mono (by decide)) rfl (takes_of rfl rfl rfl rfl) (ja_cons (je_var 12) (ja_cons (je_var 11) ja_nil))))) (jw_or1 (jt_cmp (op_neD hu) opd_ne (je_callB (call_reprD hG hu) cd_repr rfl m_repr (by decide +kernel) (ja_cons (je_propA pr_Page_table hG (hr.mono (by decide)) (je_var 9)) ja_nil)) (je_callB (call_reprD hG hu) cd_repr rfl m_repr (by decide +kernel) (ja_cons (je_var 1) ja_nil)) (nomark _))))))
  (jb_one (js_ret je_bl))
  jb_nil)
  (jb_cons (js_if (JW.jt (jw_or (jt_not (jt_val (je_callCG c__law_emptied hG (hr.mono (by decide)) rfl (takes_of rfl rfl rfl rfl) (ja_cons (je_var 12) (ja_cons (je_var 11) ja_nil))))) (jw_or (jt_not (jt_val (je_callCG c__law_emptied hG (hr.mono (by decide)) rfl (takes_of rfl rfl rfl rfl) (ja_cons (je_var 10) (ja_cons (je_var 13) ja_nil))))) (jw_or1 (jt_not (jt_val (je_callCG c__law_same hG (hr.mono (by decide)) rfl (takes_of rfl rfl rfl rfl) (ja_cons (je_var 8) (ja_cons (je_var 7) ja_nil)))))))))
  (jb_one (js_ret je_bl))
  jb_nil)
  (jb_one (js_ret (je_and (je_callCG c__law_emptied hG (hr.mono (by decide)) rfl (takes_of rfl rfl rfl rfl) (ja_cons (je_var 8) (ja_cons (je_var 7) ja_nil))) (je_one (je_cmp op_eq opd_eqF (je_callB (call_lenI lk_Page hG (hr.mono (by decide))) cd_lenI rfl m_len (by decide +kernel) (ja_cons (je_var 9) ja_nil)) je_int (nomark _)))))))))))))))))))⟩
theorem sc__law_single_right : FnScope N__law_single_right P__law_single_right (defScope s__law_single_right) := ⟨rfl, rfl, rfl, by decide +kernel, rfl, by decide +kernel, by decide +kernel⟩
theorem d__law_single_right {C_Style C_Page C_InvalidTable : Addr} {P : Program} {wd : World} {K : PySem.W.Frag} {mg : Str → Option Value} {base : Heap} {f : Addr} {cdv : Value} {A : Around} {outer : List Env} {s : Shared} {H : Hp} {E : XK} (hG : (A.deeper (envOfC "_law_single_right" (defScope s__law_single_right) s.heap.objs.size f cdv)).guards = some []) (hr : Room 10 (A.deeper (envOfC "_law_single_right" (defScope s__law_single_right) s.heap.objs.size f cdv))) (m_range : mg "range" = none) (c__law_row : CalG P wd K mg base "_law_row" s__law_row 2 P__law_row sp__law_row) (c__law_roll : CalG P wd K mg base "_law_roll" s__law_roll 1 P__law_roll sp__law_roll) (mk_Style___init___s1 : CtorK P wd K mg base C_Style 3 ([] : List Str) (pkS true 1 [0, 1, 2] [D.int 1, D.int 0] (sp_Style___init__ C_Style))) (h_Style : mg "Style" = some (.ref C_Style)) (mk_Page___init___s2 : CtorK P wd K mg base C_Page 5 ([] : List Str) (pkS true 2 [0, 1] [] (sp_Page___init__ C_Page C_InvalidTable))) (h_Page : mg "Page" = some (.ref C_Page)) (pr_Page_table : PropK P wd K mg base C_Page "table" 1 (pkP 1 [0] [] (sp_Page_table C_Page))) (m_repr : mg "repr" = none) (c__law_many_right : CalG P wd K mg base "_law_many_right" s__law_many_right 10 P__law_many_right (sp__law_many_right C_Style C_Page)) (mt_Page_change_4 : MethK P wd K mg base C_Page "change" 8 ([] : List Str) (pkP 4 [0, 1, 2, 3] [] (sp_Page_change C_Page))) :
    ∃ t, JB (cxOf (L2.CX P wd) P wd K mg base N__law_single_right "_law_single_right" (defScope s__law_single_right) f cdv A outer s H E) (WD E) (defBody s__law_single_right) t (T__law_single_right C_Style C_Page C_InvalidTable) := by
  have hu : (A.deeper (envOfC "_law_single_right" (defScope s__law_single_right) s.heap.objs.size f cdv)).units + 64 < cLine := hr.units
  exact ⟨_, (jb_cons (js_par 1 2 rfl sc__law_single_right.nd (ja_cons (je_fzI (je_makeA mk_Style___init___s1 h_Style hG (hr.mono (by decide)) rfl (takes_of rfl rfl rfl rfl) (jc_nil (ks := ([] : List Str)) jk_nil))) (ja_cons (je_lc (own := ([("_law_turn", 8)] : List (Str × Nat))) finF finF_ok rfl sc__law_single_right.nd (ji_range1 rfl m_range (ja_cons je_int ja_nil)) (blkOk_by (N := N__law_single_right) (sc := defScope s__law_single_right) (by decide +kernel)) (fun _ _ _ _ _ => (jg_name 8 sc__law_single_right.nd)) (by exact (gk_name (vs := [8]) (i := 8))) (fun _ _ _ _ _ => jts_nil) (fun _ _ _ _ _ => (je_fz (je_callCG c__law_row hG (hr.mono (by decide)) rfl takes0 (ja_cons (je_var 0) (ja_cons je_int (ja_cons (je_callCG c__law_roll hG (hr.mono (by decide)) rfl takes0 (ja_cons (je_var 0) (ja_cons je_int ja_nil))) ja_nil))))))) ja_nil)))
  (jb_cons (js_set 3 sc__law_single_right.nd (je_lstO (ja_cons (je_makeA mk_Page___init___s2 h_Page hG (hr.mono (by decide)) rfl (takes_of rfl rfl rfl rfl) (jc_cons (ks := ([] : List Str)) (ja_cons (je_var 1) (ja_cons (je_ix ix_seq opd_ix (je_var 2) je_int) ja_nil)) jk_nil)) (ja_cons (je_makeA mk_Page___init___s2 h_Page hG (hr.mono (by decide)) rfl (takes_of rfl rfl rfl rfl) (jc_cons (ks := ([] : List Str)) (ja_cons (je_var 1) (ja_cons (je_ix ix_seq opd_ix (je_var 2) je_int) (ja_cons (je_ix ix_seq opd_ix (je_var 2) je_int) ja_nil))) jk_nil)) (ja_cons (je_makeA mk_Page___init___s2 h_Page hG (hr.mono (by decide)) rfl (takes_of rfl rfl rfl rfl) (jc_cons (ks := ([] : List Str)) (ja_cons (je_var 1) (ja_cons (je_ix ix_seq opd_ix (je_var 2) je_int) (ja_cons (je_ix ix_seq opd_ix (je_var 2) je_int) (ja_cons (je_ix ix_seq opd_ix (je_var 2) je_int) ja_nil)))) jk_nil)) ja_nil)))))
  (jb_cons (js_expr (je_bm PySem.F.slot_list_append PySem.F.type_list_append mt_append mtd_append (je_var 3) (ja_cons (je_makeA mk_Page___init___s2 h_Page hG (hr.mono (by decide)) rfl (takes_of rfl rfl rfl rfl) (jc_cons (ks := ([] : List Str)) (ja_cons (je_var 1) (ja_cons (je_ix ix_seq opd_ix (je_var 2) je_int) (ja_cons (je_ix ix_seq opd_ix (je_var 2) je_int) (ja_cons (je_ix ix_seq opd_ix (je_var 2) je_int) (ja_cons (je_ix ix_seq opd_ix (je_var 2) je_int) (ja_cons (je_ix ix_seq opd_ix (je_var 2) je_int) (ja_cons (je_ix ix_seq opd_ix (je_var 2) je_int) (ja_cons (je_ix ix_seq opd_ix (je_var 2) je_int) ja_nil)))))))) jk_nil)) ja_nil)))
  (jb_cons (js_set 4 sc__law_single_right.nd (je_lst (ja_cons (je_slice sl_list sld_l (je_var 2) jo_none (jo_some je_int)) (ja_cons (je_slice sl_list sld_l (je_var 2) jo_none (jo_some je_int)) (ja_cons (je_lst (ja_cons (je_ix ix_seq opd_ix (je_var 2) je_int) (ja_cons (je_ix ix_seq opd_ix (je_var 2) je_int) (ja_cons (je_ix ix_seq opd_ix (je_var 2) je_int) ja_nil)))) (ja_cons (je_rev (je_var 2)) ja_nil))))))
  (jb_cons (js_if (jt_cmp (op_neD hu) opd_ne (je_callB (call_reprD hG hu) cd_repr rfl m_repr (by decide +kernel) (ja_cons (je_lc (own := ([("_law_page", 9)] : List (Str × Nat))) finF finF_ok rfl sc__law_single_right.nd (ji_list (je_var 3)) (blkOk_by (N := N__law_single_right) (sc := defScope s__law_single_right) (by decide +kernel)) (fun _ _ _ _ _ => (jg_name 9 sc__law_single_right.nd)) (by exact (gk_name (vs := [9]) (i := 9))) (fun _ _ _ _ _ => jts_nil) (fun _ _ _ _ _ => (je_propA pr_Page_table hG (hr.mono (by decide)) (je_var 9)))) ja_nil)) (je_callB (call_reprD hG hu) cd_repr rfl m_repr (by decide +kernel) (ja_cons (je_var 4) ja_nil)) (nomark _))
  (jb_one (js_ret je_bl))
  jb_nil)
  (jb_cons (js_if (jt_not (jt_val (je_callCG c__law_many_right hG (hr.mono (by decide)) rfl (takes_of rfl rfl rfl rfl) (ja_cons (je_var 1) (ja_cons (je_ix ix_seq opd_ix (je_var 2) je_int) (ja_cons (je_ix ix_seq opd_ix (je_var 2) je_int) (ja_cons (je_ix ix_seq opd_ix (je_var 2) je_int) ja_nil)))))))
  (jb_one (js_ret je_bl))
  jb_nil)
  (jb_cons (js_set 5 sc__law_single_right.nd (je_callB (call_reprD hG hu) cd_repr rfl m_repr (by decide +kernel) (ja_cons (je_op op_addA opd_add (je_slice sl_list sld_l (je_var 4) jo_none (jo_some je_int)) (je_slice sl_list sld_l (je_var 4) (jo_some je_int) jo_none)) ja_nil)))
  (jb_cons (js_expr (je_methA mt_Page_change_4 hG (hr.mono (by decide)) (takes_of rfl rfl rfl rfl) (je_ix ix_seq opd_ix (je_var 3) je_int) (jc_cons (ks := ([] : List Str)) (ja_cons je_int (ja_cons je_int (ja_cons je_int ja_nil))) jk_nil)))
  (jb_cons (js_set 6 sc__law_single_right.nd (je_propA pr_Page_table hG (hr.mono (by decide)) (je_ix ix_seq opd_ix (je_var 3) je_int)))
  (jb_cons (js_set 7 sc__law_single_right.nd (je_op op_addA opd_add (je_lst (ja_cons je_int ja_nil)) (je_slice sl_list sld_l (je_ix ix_seq opd_ix (je_var 2) je_int) (jo_some je_int) jo_none)))
  (jb_cons (js_if (jt_cmp (op_neD hu) opd_ne (je_callB (call_reprD hG hu) cd_repr rfl m_repr (by decide +kernel) (ja_cons (je_var 6) ja_nil)) (je_callB (call_reprD hG hu) cd_repr rfl m_repr (by decide +kernel) (ja_cons (je_lst (ja_cons (je_var 7) (ja_cons (je_ix ix_seq opd_ix (je_var 2) je_int) (ja_cons (je_ix ix_seq opd_ix (je_var 2) je_int) ja_nil)))) ja_nil)) (nomark _))
  (jb_one (js_ret je_bl))
  jb_nil)
  (jb_one (js_ret (je_cmp (op_eqD hu) opd_eq (je_callB (call_reprD hG hu) cd_repr rfl m_repr (by decide +kernel) (ja_cons (je_lc (own := ([("_law_one", 10)] : List (Str × Nat))) finF finF_ok rfl sc__law_single_right.nd (ji_list (je_op op_addA opd_add (je_slice sl_list sld_l (je_var 3) jo_none (jo_some je_int)) (je_slice sl_list sld_l (je_var 3) (jo_some je_int) jo_none))) (blkOk_by (N := N__law_single_right) (sc := defScope s__law_single_right) (by decide +kernel)) (fun _ _ _ _ _ => (jg_name 10 sc__law_single_right.nd)) (by exact (gk_name (vs := [10]) (i := 10))) (fun _ _ _ _ _ => jts_nil) (fun _ _ _ _ _ => (je_propA pr_Page_table hG (hr.mono (by decide)) (je_var 10)))) ja_nil)) (je_var 5) (nomark _)))))))))))))))⟩
theorem sc__law_sixty : FnScope N__law_sixty P__law_sixty (defScope s__law_sixty) := ⟨rfl, rfl, rfl, by decide +kernel, rfl, by decide +kernel, by decide +kernel⟩
theorem d__law_sixty {C_Page C_InvalidTable : Addr} {P : Program} {wd : World} {K : PySem.W.Frag} {mg : Str → Option Value} {base : Heap} {f : Addr} {cdv : Value} {A : Around} {outer : List Env} {s : Shared} {H : Hp} {E : XK} (hG : (A.deeper (envOfC "_law_sixty" (defScope s__law_sixty) s.heap.objs.size f cdv)).guards = some []) (hr : Room 6 (A.deeper (envOfC "_law_sixty" (defScope s__law_sixty) s.heap.objs.size f cdv))) (mk_Page___init___s2 : CtorK P wd K mg base C_Page 5 ([] : List Str) (pkS true 2 [0, 1] [] (sp_Page___init__ C_Page C_InvalidTable))) (h_Page : mg "Page" = some (.ref C_Page)) :
    ∃ t, JB (cxOf (L2.CX P wd) P wd K mg base N__law_sixty "_law_sixty" (defScope s__law_sixty) f cdv A outer s H E) (WD E) (defBody s__law_sixty) t (T__law_sixty C_Page C_InvalidTable) := by
  have hu : (A.deeper (envOfC "_law_sixty" (defScope s__law_sixty) s.heap.objs.size f cdv)).units + 64 < cLine := hr.units
  exact ⟨_, (jb_one (js_ret (je_makeA mk_Page___init___s2 h_Page hG (hr.mono (by decide)) rfl (takes_of rfl rfl rfl rfl) (jc_cons (ks := ([] : List Str)) (ja_cons (je_var 0) (ja_cons (je_var 1) (ja_cons (je_var 2) (ja_cons (je_var 3) (ja_cons (je_var 1) (ja_cons (je_var 2) (ja_cons (je_var 3) (ja_cons (je_var 1) (ja_cons (je_var 2) (ja_cons (je_var 3) (ja_cons (je_var 1) (ja_cons (je_var 2) (ja_cons (je_var 3) (ja_cons (je_var 1) (ja_cons (je_var 2) (ja_cons (je_var 3) (ja_cons (je_var 1) (ja_cons (je_var 2) (ja_cons (je_var 3) (ja_cons (je_var 1) (ja_cons (je_var 2) (ja_cons (je_var 3) (ja_cons (je_var 1) (ja_cons (je_var 2) (ja_cons (je_var 3) (ja_cons (je_var 1) (ja_cons (je_var 2) (ja_cons (je_var 3) (ja_cons (je_var 1) (ja_cons (je_var 2) (ja_cons (je_var 3) (ja_cons (je_var 1) (ja_cons (je_var 2) (ja_cons (je_var 3) (ja_cons (je_var 1) (ja_cons (je_var 2) (ja_cons (je_var 3) (ja_cons (je_var 1) (ja_cons (je_var 2) (ja_cons (je_var 3) (ja_cons (je_var 1) (ja_cons (je_var 2) (ja_cons (je_var 3) (ja_cons (je_var 1) (ja_cons (je_var 2) (ja_cons (je_var 3) (ja_cons (je_var 1) (ja_cons (je_var 2) (ja_cons (je_var 3) (ja_cons (je_var 1) (ja_cons (je_var 2) (ja_cons (je_var 3) (ja_cons (je_var 1) (ja_cons (je_var 2) (ja_cons (je_var 3) (ja_cons (je_var 1) (ja_cons (je_var 2) (ja_cons (je_var 3) (ja_cons (je_var 1) (ja_cons (je_var 2) (ja_cons (je_var 3) ja_nil))))))))))))))))))))))))))))))))))))))))))))))))))))))))))))) jk_nil))))⟩
theorem sc__law_sixty_one : FnScope N__law_sixty_one P__law_sixty_one (defScope s__law_sixty_one) := ⟨rfl, rfl, rfl, by decide +kernel, rfl, by decide +kernel, by decide +kernel⟩
theorem d__law_sixty_one {C_Page C_InvalidTable : Addr} {P : Program} {wd : World} {K : PySem.W.Frag} {mg : Str → Option Value} {base : Heap} {f : Addr} {cdv : Value} {A : Around} {outer : List Env} {s : Shared} {H : Hp} {E : XK} (hG : (A.deeper (envOfC "_law_sixty_one" (defScope s__law_sixty_one) s.heap.objs.size f cdv)).guards = some []) (hr : Room 6 (A.deeper (envOfC "_law_sixty_one" (defScope s__law_sixty_one) s.heap.objs.size f cdv))) (mk_Page___init___s2 : CtorK P wd K mg base C_Page 5 ([] : List Str) (pkS true 2 [0, 1] [] (sp_Page___init__ C_Page C_InvalidTable))) (h_Page : mg "Page" = some (.ref C_Page)) (xm_InvalidTable : ∀ C ∈ ([C_InvalidTable] : List Addr), PySem.W.exmOne K (.ref C) (.ref C_InvalidTable) = some true) (h_InvalidTable : mg "InvalidTable" = some (.ref C_InvalidTable)) :
    ∃ t, JB (cxOf (L2.CX P wd) P wd K mg base N__law_sixty_one "_law_sixty_one" (defScope s__law_sixty_one) f cdv A outer s H E) (WD E) (defBody s__law_sixty_one) t (T__law_sixty_one C_Page C_InvalidTable) := by
  have hu : (A.deeper (envOfC "_law_sixty_one" (defScope s__law_sixty_one) s.heap.objs.size f cdv)).units + 64 < cLine := hr.units
  exact ⟨_, (jb_cons (js_tryB (X := cxOf (L2.CX P wd) P wd K mg base N__law_sixty_one "_law_sixty_one" (defScope s__law_sixty_one) f cdv A outer s H E) (b := true) rfl rfl rfl ⟨rfl, by decide, .inl h_InvalidTable⟩ xm_InvalidTable (fun W2 pn xe tkT => (je_makeA (X := (cxOf (L2.CX P wd) P wd K mg base N__law_sixty_one "_law_sixty_one" (defScope s__law_sixty_one) f cdv A outer s H E).tr pn xe) (W := W2) mk_Page___init___s2 h_Page hG (hr.mono (by decide)) rfl tkT (jc_cons (ks := ([] : List Str)) (ja_cons (je_var 0) (ja_cons (je_var 1) (ja_cons (je_var 2) (ja_cons (je_var 3) (ja_cons (je_var 1) (ja_cons (je_var 2) (ja_cons (je_var 3) (ja_cons (je_var 1) (ja_cons (je_var 2) (ja_cons (je_var 3) (ja_cons (je_var 1) (ja_cons (je_var 2) (ja_cons (je_var 3) (ja_cons (je_var 1) (ja_cons (je_var 2) (ja_cons (je_var 3) (ja_cons (je_var 1) (ja_cons (je_var 2) (ja_cons (je_var 3) (ja_cons (je_var 1) (ja_cons (je_var 2) (ja_cons (je_var 3) (ja_cons (je_var 1) (ja_cons (je_var 2) (ja_cons (je_var 3) (ja_cons (je_var 1) (ja_cons (je_var 2) (ja_cons (je_var 3) (ja_cons (je_var 1) (ja_cons (je_var 2) (ja_cons (je_var 3) (ja_cons (je_var 1) (ja_cons (je_var 2) (ja_cons (je_var 3) (ja_cons (je_var 1) (ja_cons (je_var 2) (ja_cons (je_var 3) (ja_cons (je_var 1) (ja_cons (je_var 2) (ja_cons (je_var 3) (ja_cons (je_var 1) (ja_cons (je_var 2) (ja_cons (je_var 3) (ja_cons (je_var 1) (ja_cons (je_var 2) (ja_cons (je_var 3) (ja_cons (je_var 1) (ja_cons (je_var 2) (ja_cons (je_var 3) (ja_cons (je_var 1) (ja_cons (je_var 2) (ja_cons (je_var 3) (ja_cons (je_var 1) (ja_cons (je_var 2) (ja_cons (je_var 3) (ja_cons (je_var 1) (ja_cons (je_var 2) (ja_cons (je_var 3) (ja_cons (je_var 1) (ja_cons (je_var 2) (ja_cons (je_var 3) (ja_cons (je_var 1) ja_nil)))))))))))))))))))))))))))))))))))))))))))))))))))))))))))))) jk_nil))) (fun _ _ _ => je_bl))
  (jb_one (js_ret je_bl)))⟩
theorem sc__law_twelve : FnScope N__law_twelve P__law_twelve (defScope s__law_twelve) := ⟨rfl, rfl, rfl, by decide +kernel, rfl, by decide +kernel, by decide +kernel⟩
theorem d__law_twelve {C_Page C_InvalidTable : Addr} {P : Program} {wd : World} {K : PySem.W.Frag} {mg : Str → Option Value} {base : Heap} {f : Addr} {cdv : Value} {A : Around} {outer : List Env} {s : Shared} {H : Hp} {E : XK} (hG : (A.deeper (envOfC "_law_twelve" (defScope s__law_twelve) s.heap.objs.size f cdv)).guards = some []) (hr : Room 6 (A.deeper (envOfC "_law_twelve" (defScope s__law_twelve) s.heap.objs.size f cdv))) (mk_Page___init___s2 : CtorK P wd K mg base C_Page 5 ([] : List Str) (pkS true 2 [0, 1] [] (sp_Page___init__ C_Page C_InvalidTable))) (h_Page : mg "Page" = some (.ref C_Page)) :
    ∃ t, JB (cxOf (L2.CX P wd) P wd K mg base N__law_twelve "_law_twelve" (defScope s__law_twelve) f cdv A outer s H E) (WD E) (defBody s__law_twelve) t (T__law_twelve C_Page C_InvalidTable) := by
  have hu : (A.deeper (envOfC "_law_twelve" (defScope s__law_twelve) s.heap.objs.size f cdv)).units + 64 < cLine := hr.units
  exact ⟨_, (jb_one (js_ret (je_makeA mk_Page___init___s2 h_Page hG (hr.mono (by decide)) rfl (takes_of rfl rfl rfl rfl) (jc_cons (ks := ([] : List Str)) (ja_cons (je_var 0) (ja_cons (je_var 1) (ja_cons (je_var 2) (ja_cons (je_var 3) (ja_cons (je_var 3) (ja_cons (je_var 2) (ja_cons (je_var 1) (ja_cons (je_var 2) (ja_cons (je_var 2) (ja_cons (je_var 1) (ja_cons (je_var 3) (ja_cons (je_var 1) (ja_cons (je_var 3) ja_nil))))))))))))) jk_nil))))⟩
theorem sc__law_many_right : FnScope N__law_many_right P__law_many_right (defScope s__law_many_right) := ⟨rfl, rfl, rfl, by decide +kernel, rfl, by decide +kernel, by decide +kernel⟩
theorem d__law_many_right {C_Page C_Style C_InvalidTable : Addr} {P : Program} {wd : World} {K : PySem.W.Frag} {mg : Str → Option Value} {base : Heap} {f : Addr} {cdv : Value} {A : Around} {outer : List Env} {s : Shared} {H : Hp} {E : XK} (hG : (A.deeper (envOfC "_law_many_right" (defScope s__law_many_right) s.heap.objs.size f cdv)).guards = some []) (hr : Room 9 (A.deeper (envOfC "_law_many_right" (defScope s__law_many_right) s.heap.objs.size f cdv))) (c__law_twelve : CalG P wd K mg base "_law_twelve" s__law_twelve 7 P__law_twelve (sp__law_twelve C_Page)) (c__law_sixty : CalG P wd K mg base "_law_sixty" s__law_sixty 7 P__law_sixty (sp__law_sixty C_Page)) (pr_Page_table : PropK P wd K mg base C_Page "table" 1 (pkP 1 [0] [] (sp_Page_table C_Page))) (m_repr : mg "repr" = none) (mt_Page_width_1 : MethK P wd K mg base C_Page "width" 9 ([] : List Str) (pkP 1 [0] [] (sp_Page_width C_Style C_Page))) (h_Page : mg "Page" = some (.ref C_Page)) (cm_Page_Page_of_3 : CMetK P wd K mg base C_Page "of" 7 ([] : List Str) (pkP 3 [0, 1, 2] [] (sp_Page_of C_Page))) (c__law_sixty_one : CalG P wd K mg base "_law_sixty_one" s__law_sixty_one 7 P__law_sixty_one (sp__law_sixty_one C_Page C_InvalidTable)) (mt_Page_change_4 : MethK P wd K mg base C_Page "change" 8 ([] : List Str) (pkP 4 [0, 1, 2, 3] [] (sp_Page_change C_Page))) :
    ∃ t, JB (cxOf (L2.CX P wd) P wd K mg base N__law_many_right "_law_many_right" (defScope s__law_many_right) f cdv A outer s H E) (WD E) (defBody s__law_many_right) t (T__law_many_right C_Page C_Style C_InvalidTable) := by
  have hu : (A.deeper (envOfC "_law_many_right" (defScope s__law_many_right) s.heap.objs.size f cdv)).units + 64 < cLine := hr.units
  exact ⟨_, (jb_cons (js_par 4 5 rfl sc__law_many_right.nd (ja_cons (je_callCG c__law_sixty hG (hr.mono (by decide)) rfl (takes_of rfl rfl rfl rfl) (ja_cons (je_var 0) (ja_cons (je_var 1) (ja_cons (je_var 2) (ja_cons (je_var 3) ja_nil))))) (ja_cons (je_callCG c__law_twelve hG (hr.mono (by decide)) rfl (takes_of rfl rfl rfl rfl) (ja_cons (je_var 0) (ja_cons (je_var 1) (ja_cons (je_var 2) (ja_cons (je_var 3) ja_nil))))) ja_nil)))
  (jb_cons (js_if (jt_cmp (op_neD hu) opd_ne (je_callB (call_reprD hG hu) cd_repr rfl m_repr (by decide +kernel) (ja_cons (je_lst (ja_cons (je_propA pr_Page_table hG (hr.mono (by decide)) (je_var 4)) (ja_cons (je_propA pr_Page_table hG (hr.mono (by decide)) (je_var 5)) ja_nil))) ja_nil)) (je_callB (call_reprD hG hu) cd_repr rfl m_repr (by decide +kernel) (ja_cons (je_lst (ja_cons (je_op op_mulA opd_mul (je_lst (ja_cons (je_var 1) (ja_cons (je_var 2) (ja_cons (je_var 3) ja_nil)))) je_int) (ja_cons (je_lst (ja_cons (je_var 1) (ja_cons (je_var 2) (ja_cons (je_var 3) (ja_cons (je_var 3) (ja_cons (je_var 2) (ja_cons (je_var 1) (ja_cons (je_var 2) (ja_cons (je_var 2) (ja_cons (je_var 1) (ja_cons (je_var 3) (ja_cons (je_var 1) (ja_cons (je_var 3) ja_nil))))))))))))) ja_nil))) ja_nil)) (nomark _))
  (jb_one (js_ret je_bl))
  jb_nil)
  (jb_cons (js_if (JW.jt (jw_or (jt_cmp op_ne opd_neF (je_methA mt_Page_width_1 hG (hr.mono (by decide)) (takes_of rfl rfl rfl rfl) (je_var 4) (jc_nil (ks := ([] : List Str)) jk_nil)) (je_methA mt_Page_width_1 hG (hr.mono (by decide)) (takes_of rfl rfl rfl rfl) (je_cmethA cm_Page_Page_of_3 hG (hr.mono (by decide)) (takes_of rfl rfl rfl rfl) (je_gref rfl h_Page) (jc_cons (ks := ([] : List Str)) (ja_cons (je_var 0) (ja_cons (je_op op_mulA opd_mul (je_lst (ja_cons (je_var 1) (ja_cons (je_var 2) (ja_cons (je_var 3) ja_nil)))) je_int) ja_nil)) jk_nil)) (jc_nil (ks := ([] : List Str)) jk_nil)) (nomark _)) (jw_or1 (jt_not (jt_val (je_callCG c__law_sixty_one hG (hr.mono (by decide)) rfl (takes_of rfl rfl rfl rfl) (ja_cons (je_var 0) (ja_cons (je_var 1) (ja_cons (je_var 2) (ja_cons (je_var 3) ja_nil))))))))))
  (jb_one (js_ret je_bl))
  jb_nil)
  (jb_cons (js_expr (je_methA mt_Page_change_4 hG (hr.mono (by decide)) (takes_of rfl rfl rfl rfl) (je_var 4) (jc_cons (ks := ([] : List Str)) (ja_cons je_int (ja_cons je_int (ja_cons je_int ja_nil))) jk_nil)))
  (jb_one (js_ret (je_cmp (op_eqD hu) opd_eq (je_callB (call_reprD hG hu) cd_repr rfl m_repr (by decide +kernel) (ja_cons (je_propA pr_Page_table hG (hr.mono (by decide)) (je_var 4)) ja_nil)) (je_callB (call_reprD hG hu) cd_repr rfl m_repr (by decide +kernel) (ja_cons (je_op op_addA opd_add (je_op op_mulA opd_mul (je_lst (ja_cons (je_var 1) (ja_cons (je_var 2) (ja_cons (je_var 3) ja_nil)))) je_int) (je_lst (ja_cons (je_var 1) (ja_cons (je_var 2) (ja_cons (je_op op_addA opd_add (je_lst (ja_cons je_int ja_nil)) (je_slice sl_list sld_l (je_var 3) (jo_some je_int) jo_none)) ja_nil))))) ja_nil)) (nomark _))))))))⟩
theorem sc__law_lists_right : FnScope N__law_lists_right P__law_lists_right (defScope s__law_lists_right) := ⟨rfl, rfl, rfl, by decide +kernel, rfl, by decide +kernel, by decide +kernel⟩
theorem d__law_lists_right {C_Style C_Page : Addr} {P : Program} {wd : World} {K : PySem.W.Frag} {mg : Str → Option Value} {base : Heap} {f : Addr} {cdv : Value} {A : Around} {outer : List Env} {s : Shared} {H : Hp} {E : XK} (hG : (A.deeper (envOfC "_law_lists_right" (defScope s__law_lists_right) s.heap.objs.size f cdv)).guards = some []) (hr : Room 9 (A.deeper (envOfC "_law_lists_right" (defScope s__law_lists_right) s.heap.objs.size f cdv))) (mk_Style___init___s1_gap : CtorK P wd K mg base C_Style 3 (["gap"] : List Str) (pkS true 1 [0, 2, 1] [D.int 0] (sp_Style___init__ C_Style))) (h_Style : mg "Style" = some (.ref C_Style)) (h_Page : mg "Page" = some (.ref C_Page)) (cm_Page_Page_of_3 : CMetK P wd K mg base C_Page "of" 7 ([] : List Str) (pkP 3 [0, 1, 2] [] (sp_Page_of C_Page))) (mt_Page_put_3 : MethK P wd K mg base C_Page "put" 7 ([] : List Str) (pkP 3 [0, 1, 2] [] (sp_Page_put C_Page))) (mt_Page_width_1 : MethK P wd K mg base C_Page "width" 9 ([] : List Str) (pkP 1 [0] [] (sp_Page_width C_Style C_Page))) (mt_Page_stops_1 : MethK P wd K mg base C_Page "stops" 7 ([] : List Str) (pkP 1 [0] [] (sp_Page_stops C_Style C_Page))) (pr_Page_table : PropK P wd K mg base C_Page "table" 1 (pkP 1 [0] [] (sp_Page_table C_Page))) (m_repr : mg "repr" = none) :
    ∃ t, JB (cxOf (L2.CX P wd) P wd K mg base N__law_lists_right "_law_lists_right" (defScope s__law_lists_right) f cdv A outer s H E) (WD E) (defBody s__law_lists_right) t (T__law_lists_right C_Style C_Page) := by
  have hu : (A.deeper (envOfC "_law_lists_right" (defScope s__law_lists_right) s.heap.objs.size f cdv)).units + 64 < cLine := hr.units
  exact ⟨_, (jb_cons (js_set 2 sc__law_lists_right.nd (je_fzI (je_makeA mk_Style___init___s1_gap h_Style hG (hr.mono (by decide)) rfl (takes_of rfl rfl rfl rfl) (jc_cons (ks := (["gap"] : List Str)) (ja_cons je_str ja_nil) (jk_cons je_int jk_nil)))))
  (jb_cons (js_par 3 4 rfl sc__law_lists_right.nd (ja_cons (je_cmethA cm_Page_Page_of_3 hG (hr.mono (by decide)) (takes_of rfl rfl rfl rfl) (je_gref rfl h_Page) (jc_cons (ks := ([] : List Str)) (ja_cons (je_var 2) (ja_cons (je_var 1) ja_nil)) jk_nil)) (ja_cons (je_lstO (ja_cons je_int (ja_cons je_int ja_nil))) ja_nil)))
  (jb_cons (js_expr (je_methA mt_Page_put_3 hG (hr.mono (by decide)) (takes_of rfl rfl rfl rfl) (je_var 3) (jc_cons (ks := ([] : List Str)) (ja_cons je_int (ja_cons (je_var 4) ja_nil)) jk_nil)))
  (jb_cons (js_set 5 sc__law_lists_right.nd (je_callB (call_reprD hG hu) cd_repr rfl m_repr (by decide +kernel) (ja_cons (je_lst (ja_cons (je_propA pr_Page_table hG (hr.mono (by decide)) (je_var 3)) (ja_cons (je_methA mt_Page_stops_1 hG (hr.mono (by decide)) (takes_of rfl rfl rfl rfl) (je_var 3) (jc_nil (ks := ([] : List Str)) jk_nil)) (ja_cons (je_methA mt_Page_width_1 hG (hr.mono (by decide)) (takes_of rfl rfl rfl rfl) (je_var 3) (jc_nil (ks := ([] : List Str)) jk_nil)) ja_nil)))) ja_nil)))
  (jb_cons (js_expr (je_bm PySem.F.slot_list_append PySem.F.type_list_append mt_append mtd_append (je_var 4) (ja_cons je_int ja_nil)))
  (jb_cons (js_for (passes_of rfl) rfl (ji_list (je_lst (ja_cons (je_propA pr_Page_table hG (hr.mono (by decide)) (je_var 3)) (ja_cons (je_methA mt_Page_stops_1 hG (hr.mono (by decide)) (takes_of rfl rfl rfl rfl) (je_var 3) (jc_nil (ks := ([] : List Str)) jk_nil)) (ja_cons (je_propA pr_Page_table hG (hr.mono (by decide)) (je_var 3)) ja_nil))))) (jg_name 6 sc__law_lists_right.nd)
  (jb_cons (js_for (passes_of rfl) rfl (ji_list (je_var 6)) (jg_name 7 sc__law_lists_right.nd)
  (jb_one (js_expr (je_bm PySem.F.slot_list_append PySem.F.type_list_append mt_append mtd_append (je_var 7) (ja_cons je_int ja_nil)))))
  (jb_one (js_expr (je_bm0 PySem.F.slot_list_clear PySem.F.type_list_clear mt_clear mtd_clear (je_var 6))))))
  (jb_cons (js_set 8 sc__law_lists_right.nd (je_ix ix_seq opd_ix (je_var 1) je_int))
  (jb_cons (js_expr (je_bm PySem.F.slot_list_append PySem.F.type_list_append mt_append mtd_append (je_var 8) (ja_cons je_int ja_nil)))
  (jb_cons (js_expr (je_bm0 PySem.F.slot_list_reverse PySem.F.type_list_reverse mt_reverse mtd_reverse (je_var 1)))
  (jb_one (js_ret (je_cmp (op_eqD hu) opd_eq (je_callB (call_reprD hG hu) cd_repr rfl m_repr (by decide +kernel) (ja_cons (je_lst (ja_cons (je_propA pr_Page_table hG (hr.mono (by decide)) (je_var 3)) (ja_cons (je_methA mt_Page_stops_1 hG (hr.mono (by decide)) (takes_of rfl rfl rfl rfl) (je_var 3) (jc_nil (ks := ([] : List Str)) jk_nil)) (ja_cons (je_methA mt_Page_width_1 hG (hr.mono (by decide)) (takes_of rfl rfl rfl rfl) (je_var 3) (jc_nil (ks := ([] : List Str)) jk_nil)) ja_nil)))) ja_nil)) (je_var 5) (nomark _)))))))))))))⟩
theorem sc_law : FnScope N_law P_law (defScope s_law) := ⟨rfl, rfl, rfl, by decide +kernel, rfl, by decide +kernel, by decide +kernel⟩
theorem d_law {P : Program} {wd : World} {K : PySem.W.Frag} {mg : Str → Option Value} {base : Heap} {f : Addr} {cdv : Value} {A : Around} {outer : List Env} {s : Shared} {H : Hp} {E : XK} (hG : (A.deeper (envOfC "law" (defScope s_law) s.heap.objs.size f cdv)).guards = some []) (hr : Room 11 (A.deeper (envOfC "law" (defScope s_law) s.heap.objs.size f cdv))) (c__law_stock : CalG P wd K mg base "_law_stock" s__law_stock 1 P__law_stock sp__law_stock) (m_len : mg "len" = none) (m_min : mg "min" = none) (m_range : mg "range" = none) (c__law_roll : CalG P wd K mg base "_law_roll" s__law_roll 1 P__law_roll sp__law_roll) (m_int : mg "int" = none) (c__law_right : CalG P wd K mg base "_law_right" s__law_right 11 P__law_right sp__law_right) (c__law_grid : CalG P wd K mg base "_law_grid" s__law_grid 3 P__law_grid sp__law_grid) (c__law_single_right : CalG P wd K mg base "_law_single_right" s__law_single_right 11 P__law_single_right sp__law_single_right) (c__law_lists_right : CalG P wd K mg base "_law_lists_right" s__law_lists_right 10 P__law_lists_right sp__law_lists_right) :
    ∃ t, JB (cxOf (L2.CX P wd) P wd K mg base N_law "law" (defScope s_law) f cdv A outer s H E) (WD E) (defBody s_law) t T_law := by
  have hu : (A.deeper (envOfC "law" (defScope s_law) s.heap.objs.size f cdv)).units + 64 < cLine := hr.units
  exact ⟨_, (jb_cons (js_set 1 sc_law.nd (je_callCG c__law_stock hG (hr.mono (by decide)) rfl (takes_of rfl rfl rfl rfl) (ja_cons (je_var 0) ja_nil)))
  (jb_cons (js_for (passes_of rfl) rfl (ji_range1 rfl m_range (ja_cons (je_op op_addA opd_add je_int (je_callB (call_min2 rfl) cd_min2 rfl m_min (by decide +kernel) (ja_cons je_int (ja_cons (je_callB call_lenA cd_len rfl m_len (by decide +kernel) (ja_cons (je_var 0) ja_nil)) ja_nil)))) ja_nil)) (jg_name 2 sc_law.nd)
  (jb_cons (js_set 3 sc_law.nd (je_ix ix_seq opd_ix (je_lst (ja_cons (je_op op_addA opd_add je_int (je_callCG c__law_roll hG (hr.mono (by decide)) rfl (takes_of rfl rfl rfl rfl) (ja_cons (je_var 1) (ja_cons je_int ja_nil)))) (ja_cons (je_op op_addA opd_add je_int (je_callCG c__law_roll hG (hr.mono (by decide)) rfl (takes_of rfl rfl rfl rfl) (ja_cons (je_var 1) (ja_cons je_int ja_nil)))) ja_nil))) (je_callTy call_int1 cd_int rfl m_int (by decide +kernel) (ja_cons (je_cmp op_gt opd_gt (je_var 2) je_int (nomark _)) ja_nil))))
  (jb_cons (js_if (JW.jt (jw_or (jt_not (jt_val (je_callCG c__law_right hG (hr.mono (by decide)) rfl (takes_of rfl rfl rfl rfl) (ja_cons (je_var 1) (ja_cons (je_callCG c__law_grid hG (hr.mono (by decide)) rfl (takes_of rfl rfl rfl rfl) (ja_cons (je_var 1) (ja_cons je_int (ja_cons je_int (ja_cons je_int ja_nil))))) (ja_cons (je_var 3) ja_nil)))))) (jw_or1 (jt_not (jt_val (je_callCG c__law_single_right hG (hr.mono (by decide)) rfl (takes_of rfl rfl rfl rfl) (ja_cons (je_var 1) ja_nil)))))))
  (jb_one (js_ret je_bl))
  jb_nil)
  (jb_one (js_if (jt_not (jt_val (je_callCG c__law_lists_right hG (hr.mono (by decide)) rfl (takes_of rfl rfl rfl rfl) (ja_cons (je_var 1) (ja_cons (je_callCG c__law_grid hG (hr.mono (by decide)) rfl (takes_of rfl rfl rfl rfl) (ja_cons (je_var 1) (ja_cons je_int (ja_cons je_int (ja_cons je_int ja_nil))))) ja_nil)))))
  (jb_one (js_ret je_bl))
  jb_nil)))))
  (jb_one (js_ret je_bl))))⟩
end DL
namespace DL
open PySem PySem.Spec PyProof.Rows L2
theorem fun_one {K : PySem.W.Frag} {x : Str} {st : Stmt} {f : Addr} {fd fd2 : FuncData} (F : FunS K x st f fd) (F2 : FunS K x st f fd2) : fd = fd2 := by
  obtain ⟨⟨_, _, _, _, _, _, _, _, _, _, _, e, lk, _⟩, _⟩ := F
  obtain ⟨⟨_, _, _, _, _, _, _, _, _, _, _, e2, lk2, _⟩, _⟩ := F2
  rw [e] at e2
  cases e2
  rfl
theorem len_is_integer : ∀ ds S Φ Ψ, sp_is_integer ds S Φ Ψ → ds.length = (P_is_integer : List Str).length := by
  intro ds S Φ Ψ h
  repeat' (first | (obtain ⟨e, _⟩ := h; (rw [e]; rfl)) | (refine Or.elim h ?_ ?_ <;> clear h <;> intro h) | (obtain ⟨_, h⟩ := h))
theorem len_is_cell : ∀ ds S Φ Ψ, sp_is_cell ds S Φ Ψ → ds.length = (P_is_cell : List Str).length := by
  intro ds S Φ Ψ h
  repeat' (first | (obtain ⟨e, _⟩ := h; (rw [e]; rfl)) | (refine Or.elim h ?_ ?_ <;> clear h <;> intro h) | (obtain ⟨_, h⟩ := h))
theorem len_is_line : ∀ ds S Φ Ψ, sp_is_line ds S Φ Ψ → ds.length = (P_is_line : List Str).length := by
  intro ds S Φ Ψ h
  repeat' (first | (obtain ⟨e, _⟩ := h; (rw [e]; rfl)) | (refine Or.elim h ?_ ?_ <;> clear h <;> intro h) | (obtain ⟨_, h⟩ := h))
theorem len_is_table : ∀ ds S Φ Ψ, sp_is_table ds S Φ Ψ → ds.length = (P_is_table : List Str).length := by
  intro ds S Φ Ψ h
  repeat' (first | (obtain ⟨e, _⟩ := h; (rw [e]; rfl)) | (refine Or.elim h ?_ ?_ <;> clear h <;> intro h) | (obtain ⟨_, h⟩ := h))
theorem len_need_table : ∀ ds S Φ Ψ, sp_need_table ds S Φ Ψ → ds.length = (P_need_table : List Str).length := by
  intro ds S Φ Ψ h
  repeat' (first | (obtain ⟨e, _⟩ := h; (rw [e]; rfl)) | (refine Or.elim h ?_ ?_ <;> clear h <;> intro h) | (obtain ⟨_, h⟩ := h))
theorem len_need_line : ∀ ds S Φ Ψ, sp_need_line ds S Φ Ψ → ds.length = (P_need_line : List Str).length := by
  intro ds S Φ Ψ h
  repeat' (first | (obtain ⟨e, _⟩ := h; (rw [e]; rfl)) | (refine Or.elim h ?_ ?_ <;> clear h <;> intro h) | (obtain ⟨_, h⟩ := h))
theorem len_copy_of : ∀ ds S Φ Ψ, sp_copy_of ds S Φ Ψ → ds.length = (P_copy_of : List Str).length := by
  intro ds S Φ Ψ h
  repeat' (first | (obtain ⟨e, _⟩ := h; (rw [e]; rfl)) | (refine Or.elim h ?_ ?_ <;> clear h <;> intro h) | (obtain ⟨_, h⟩ := h))
theorem len_tabs_in : ∀ ds S Φ Ψ, sp_tabs_in ds S Φ Ψ → ds.length = (P_tabs_in : List Str).length := by
  intro ds S Φ Ψ h
  repeat' (first | (obtain ⟨e, _⟩ := h; (rw [e]; rfl)) | (refine Or.elim h ?_ ?_ <;> clear h <;> intro h) | (obtain ⟨_, h⟩ := h))
theorem len_blocks_of_column : ∀ ds S Φ Ψ, sp_blocks_of_column ds S Φ Ψ → ds.length = (P_blocks_of_column : List Str).length := by
  intro ds S Φ Ψ h
  repeat' (first | (obtain ⟨e, _⟩ := h; (rw [e]; rfl)) | (refine Or.elim h ?_ ?_ <;> clear h <;> intro h) | (obtain ⟨_, h⟩ := h))
theorem len_blocks_by_tabs : ∀ ds S Φ Ψ, sp_blocks_by_tabs ds S Φ Ψ → ds.length = (P_blocks_by_tabs : List Str).length := by
  intro ds S Φ Ψ h
  repeat' (first | (obtain ⟨e, _⟩ := h; (rw [e]; rfl)) | (refine Or.elim h ?_ ?_ <;> clear h <;> intro h) | (obtain ⟨_, h⟩ := h))
theorem len_blocks_in : ∀ ds S Φ Ψ, sp_blocks_in ds S Φ Ψ → ds.length = (P_blocks_in : List Str).length := by
  intro ds S Φ Ψ h
  repeat' (first | (obtain ⟨e, _⟩ := h; (rw [e]; rfl)) | (refine Or.elim h ?_ ?_ <;> clear h <;> intro h) | (obtain ⟨_, h⟩ := h))
theorem len_greatest_in : ∀ ds S Φ Ψ, sp_greatest_in ds S Φ Ψ → ds.length = (P_greatest_in : List Str).length := by
  intro ds S Φ Ψ h
  repeat' (first | (obtain ⟨e, _⟩ := h; (rw [e]; rfl)) | (refine Or.elim h ?_ ?_ <;> clear h <;> intro h) | (obtain ⟨_, h⟩ := h))
theorem len_room_of {C_Style : Addr} : ∀ ds S Φ Ψ, (sp_room_of C_Style) ds S Φ Ψ → ds.length = (P_room_of : List Str).length := by
  intro ds S Φ Ψ h
  repeat' (first | (obtain ⟨e, _⟩ := h; (rw [e]; rfl)) | (refine Or.elim h ?_ ?_ <;> clear h <;> intro h) | (obtain ⟨_, h⟩ := h))
theorem len_rooms_in {C_Style : Addr} : ∀ ds S Φ Ψ, (sp_rooms_in C_Style) ds S Φ Ψ → ds.length = (P_rooms_in : List Str).length := by
  intro ds S Φ Ψ h
  repeat' (first | (obtain ⟨e, _⟩ := h; (rw [e]; rfl)) | (refine Or.elim h ?_ ?_ <;> clear h <;> intro h) | (obtain ⟨_, h⟩ := h))
theorem len_stops_in {C_Style : Addr} : ∀ ds S Φ Ψ, (sp_stops_in C_Style) ds S Φ Ψ → ds.length = (P_stops_in : List Str).length := by
  intro ds S Φ Ψ h
  repeat' (first | (obtain ⟨e, _⟩ := h; (rw [e]; rfl)) | (refine Or.elim h ?_ ?_ <;> clear h <;> intro h) | (obtain ⟨_, h⟩ := h))
theorem len_ends_in {C_Style : Addr} : ∀ ds S Φ Ψ, (sp_ends_in C_Style) ds S Φ Ψ → ds.length = (P_ends_in : List Str).length := by
  intro ds S Φ Ψ h
  repeat' (first | (obtain ⟨e, _⟩ := h; (rw [e]; rfl)) | (refine Or.elim h ?_ ?_ <;> clear h <;> intro h) | (obtain ⟨_, h⟩ := h))
theorem len_width_in {C_Style : Addr} : ∀ ds S Φ Ψ, (sp_width_in C_Style) ds S Φ Ψ → ds.length = (P_width_in : List Str).length := by
  intro ds S Φ Ψ h
  repeat' (first | (obtain ⟨e, _⟩ := h; (rw [e]; rfl)) | (refine Or.elim h ?_ ?_ <;> clear h <;> intro h) | (obtain ⟨_, h⟩ := h))
theorem len_stops {C_Style : Addr} : ∀ ds S Φ Ψ, (sp_stops C_Style) ds S Φ Ψ → ds.length = (P_stops : List Str).length := by
  intro ds S Φ Ψ h
  repeat' (first | (obtain ⟨e, _⟩ := h; (rw [e]; rfl)) | (refine Or.elim h ?_ ?_ <;> clear h <;> intro h) | (obtain ⟨_, h⟩ := h))
theorem len_width_of {C_Style : Addr} : ∀ ds S Φ Ψ, (sp_width_of C_Style) ds S Φ Ψ → ds.length = (P_width_of : List Str).length := by
  intro ds S Φ Ψ h
  repeat' (first | (obtain ⟨e, _⟩ := h; (rw [e]; rfl)) | (refine Or.elim h ?_ ?_ <;> clear h <;> intro h) | (obtain ⟨_, h⟩ := h))
theorem len_need_cell : ∀ ds S Φ Ψ, sp_need_cell ds S Φ Ψ → ds.length = (P_need_cell : List Str).length := by
  intro ds S Φ Ψ h
  repeat' (first | (obtain ⟨e, _⟩ := h; (rw [e]; rfl)) | (refine Or.elim h ?_ ?_ <;> clear h <;> intro h) | (obtain ⟨_, h⟩ := h))
theorem len_changed : ∀ ds S Φ Ψ, sp_changed ds S Φ Ψ → ds.length = (P_changed : List Str).length := by
  intro ds S Φ Ψ h
  repeat' (first | (obtain ⟨e, _⟩ := h; (rw [e]; rfl)) | (refine Or.elim h ?_ ?_ <;> clear h <;> intro h) | (obtain ⟨_, h⟩ := h))
theorem len_with_cell : ∀ ds S Φ Ψ, sp_with_cell ds S Φ Ψ → ds.length = (P_with_cell : List Str).length := by
  intro ds S Φ Ψ h
  repeat' (first | (obtain ⟨e, _⟩ := h; (rw [e]; rfl)) | (refine Or.elim h ?_ ?_ <;> clear h <;> intro h) | (obtain ⟨_, h⟩ := h))
theorem len_with_line : ∀ ds S Φ Ψ, sp_with_line ds S Φ Ψ → ds.length = (P_with_line : List Str).length := by
  intro ds S Φ Ψ h
  repeat' (first | (obtain ⟨e, _⟩ := h; (rw [e]; rfl)) | (refine Or.elim h ?_ ?_ <;> clear h <;> intro h) | (obtain ⟨_, h⟩ := h))
theorem len_without_line : ∀ ds S Φ Ψ, sp_without_line ds S Φ Ψ → ds.length = (P_without_line : List Str).length := by
  intro ds S Φ Ψ h
  repeat' (first | (obtain ⟨e, _⟩ := h; (rw [e]; rfl)) | (refine Or.elim h ?_ ?_ <;> clear h <;> intro h) | (obtain ⟨_, h⟩ := h))
theorem len_Page___init__ {C_Page C_InvalidTable : Addr} : ∀ ds S Φ Ψ, (sp_Page___init__ C_Page C_InvalidTable) ds S Φ Ψ → ds.length = (P_Page___init__ : List Str).length := by
  intro ds S Φ Ψ h
  repeat' (first | (obtain ⟨e, _⟩ := h; (rw [e]; rfl)) | (refine Or.elim h ?_ ?_ <;> clear h <;> intro h) | (obtain ⟨_, h⟩ := h))
theorem len_Page_of {C_Page : Addr} : ∀ ds S Φ Ψ, (sp_Page_of C_Page) ds S Φ Ψ → ds.length = (P_Page_of : List Str).length := by
  intro ds S Φ Ψ h
  repeat' (first | (obtain ⟨e, _⟩ := h; (rw [e]; rfl)) | (refine Or.elim h ?_ ?_ <;> clear h <;> intro h) | (obtain ⟨_, h⟩ := h))
theorem len_Page_table {C_Page : Addr} : ∀ ds S Φ Ψ, (sp_Page_table C_Page) ds S Φ Ψ → ds.length = (P_Page_table : List Str).length := by
  intro ds S Φ Ψ h
  repeat' (first | (obtain ⟨e, _⟩ := h; (rw [e]; rfl)) | (refine Or.elim h ?_ ?_ <;> clear h <;> intro h) | (obtain ⟨_, h⟩ := h))
theorem len_Page_go_on {C_Page : Addr} : ∀ ds S Φ Ψ, (sp_Page_go_on C_Page) ds S Φ Ψ → ds.length = (P_Page_go_on : List Str).length := by
  intro ds S Φ Ψ h
  repeat' (first | (obtain ⟨e, _⟩ := h; (rw [e]; rfl)) | (refine Or.elim h ?_ ?_ <;> clear h <;> intro h) | (obtain ⟨_, h⟩ := h))
theorem len_Page_change {C_Page : Addr} : ∀ ds S Φ Ψ, (sp_Page_change C_Page) ds S Φ Ψ → ds.length = (P_Page_change : List Str).length := by
  intro ds S Φ Ψ h
  repeat' (first | (obtain ⟨e, _⟩ := h; (rw [e]; rfl)) | (refine Or.elim h ?_ ?_ <;> clear h <;> intro h) | (obtain ⟨_, h⟩ := h))
theorem len_Page_put {C_Page : Addr} : ∀ ds S Φ Ψ, (sp_Page_put C_Page) ds S Φ Ψ → ds.length = (P_Page_put : List Str).length := by
  intro ds S Φ Ψ h
  repeat' (first | (obtain ⟨e, _⟩ := h; (rw [e]; rfl)) | (refine Or.elim h ?_ ?_ <;> clear h <;> intro h) | (obtain ⟨_, h⟩ := h))
theorem len_Page_drop {C_Page : Addr} : ∀ ds S Φ Ψ, (sp_Page_drop C_Page) ds S Φ Ψ → ds.length = (P_Page_drop : List Str).length := by
  intro ds S Φ Ψ h
  repeat' (first | (obtain ⟨e, _⟩ := h; (rw [e]; rfl)) | (refine Or.elim h ?_ ?_ <;> clear h <;> intro h) | (obtain ⟨_, h⟩ := h))
theorem len_Page_width {C_Style C_Page : Addr} : ∀ ds S Φ Ψ, (sp_Page_width C_Style C_Page) ds S Φ Ψ → ds.length = (P_Page_width : List Str).length := by
  intro ds S Φ Ψ h
  repeat' (first | (obtain ⟨e, _⟩ := h; (rw [e]; rfl)) | (refine Or.elim h ?_ ?_ <;> clear h <;> intro h) | (obtain ⟨_, h⟩ := h))
theorem len_Page_stops {C_Style C_Page : Addr} : ∀ ds S Φ Ψ, (sp_Page_stops C_Style C_Page) ds S Φ Ψ → ds.length = (P_Page_stops : List Str).length := by
  intro ds S Φ Ψ h
  repeat' (first | (obtain ⟨e, _⟩ := h; (rw [e]; rfl)) | (refine Or.elim h ?_ ?_ <;> clear h <;> intro h) | (obtain ⟨_, h⟩ := h))
theorem len_Page_undo {C_Page : Addr} : ∀ ds S Φ Ψ, (sp_Page_undo C_Page) ds S Φ Ψ → ds.length = (P_Page_undo : List Str).length := by
  intro ds S Φ Ψ h
  repeat' (first | (obtain ⟨e, _⟩ := h; (rw [e]; rfl)) | (refine Or.elim h ?_ ?_ <;> clear h <;> intro h) | (obtain ⟨_, h⟩ := h))
theorem len_Page_mark {C_Page : Addr} : ∀ ds S Φ Ψ, (sp_Page_mark C_Page) ds S Φ Ψ → ds.length = (P_Page_mark : List Str).length := by
  intro ds S Φ Ψ h
  repeat' (first | (obtain ⟨e, _⟩ := h; (rw [e]; rfl)) | (refine Or.elim h ?_ ?_ <;> clear h <;> intro h) | (obtain ⟨_, h⟩ := h))
theorem len_Page_undo_to {C_Page : Addr} : ∀ ds S Φ Ψ, (sp_Page_undo_to C_Page) ds S Φ Ψ → ds.length = (P_Page_undo_to : List Str).length := by
  intro ds S Φ Ψ h
  repeat' (first | (obtain ⟨e, _⟩ := h; (rw [e]; rfl)) | (refine Or.elim h ?_ ?_ <;> clear h <;> intro h) | (obtain ⟨_, h⟩ := h))
theorem len_Page___len__ {C_Page : Addr} : ∀ ds S Φ Ψ, (sp_Page___len__ C_Page) ds S Φ Ψ → ds.length = (P_Page___len__ : List Str).length := by
  intro ds S Φ Ψ h
  repeat' (first | (obtain ⟨e, _⟩ := h; (rw [e]; rfl)) | (refine Or.elim h ?_ ?_ <;> clear h <;> intro h) | (obtain ⟨_, h⟩ := h))
theorem len_Page_twin {C_Page : Addr} : ∀ ds S Φ Ψ, (sp_Page_twin C_Page) ds S Φ Ψ → ds.length = (P_Page_twin : List Str).length := by
  intro ds S Φ Ψ h
  repeat' (first | (obtain ⟨e, _⟩ := h; (rw [e]; rfl)) | (refine Or.elim h ?_ ?_ <;> clear h <;> intro h) | (obtain ⟨_, h⟩ := h))
theorem len_are_kinds : ∀ ds S Φ Ψ, sp_are_kinds ds S Φ Ψ → ds.length = (P_are_kinds : List Str).length := by
  intro ds S Φ Ψ h
  repeat' (first | (obtain ⟨e, _⟩ := h; (rw [e]; rfl)) | (refine Or.elim h ?_ ?_ <;> clear h <;> intro h) | (obtain ⟨_, h⟩ := h))
theorem len_Style___init__ {C_Style : Addr} : ∀ ds S Φ Ψ, (sp_Style___init__ C_Style) ds S Φ Ψ → ds.length = (P_Style___init__ : List Str).length := by
  intro ds S Φ Ψ h
  repeat' (first | (obtain ⟨e, _⟩ := h; (rw [e]; rfl)) | (refine Or.elim h ?_ ?_ <;> clear h <;> intro h) | (obtain ⟨_, h⟩ := h))
theorem len_Style_of {C_Style : Addr} : ∀ ds S Φ Ψ, (sp_Style_of C_Style) ds S Φ Ψ → ds.length = (P_Style_of : List Str).length := by
  intro ds S Φ Ψ h
  repeat' (first | (obtain ⟨e, _⟩ := h; (rw [e]; rfl)) | (refine Or.elim h ?_ ?_ <;> clear h <;> intro h) | (obtain ⟨_, h⟩ := h))
theorem len_Style_gap {C_Style : Addr} : ∀ ds S Φ Ψ, (sp_Style_gap C_Style) ds S Φ Ψ → ds.length = (P_Style_gap : List Str).length := by
  intro ds S Φ Ψ h
  repeat' (first | (obtain ⟨e, _⟩ := h; (rw [e]; rfl)) | (refine Or.elim h ?_ ?_ <;> clear h <;> intro h) | (obtain ⟨_, h⟩ := h))
theorem len_Style_least {C_Style : Addr} : ∀ ds S Φ Ψ, (sp_Style_least C_Style) ds S Φ Ψ → ds.length = (P_Style_least : List Str).length := by
  intro ds S Φ Ψ h
  repeat' (first | (obtain ⟨e, _⟩ := h; (rw [e]; rfl)) | (refine Or.elim h ?_ ?_ <;> clear h <;> intro h) | (obtain ⟨_, h⟩ := h))
theorem len__law_stock : ∀ ds S Φ Ψ, sp__law_stock ds S Φ Ψ → ds.length = (P__law_stock : List Str).length := by
  intro ds S Φ Ψ h
  repeat' (first | (obtain ⟨e, _⟩ := h; (rw [e]; rfl)) | (refine Or.elim h ?_ ?_ <;> clear h <;> intro h) | (obtain ⟨_, h⟩ := h))
theorem len__law_roll : ∀ ds S Φ Ψ, sp__law_roll ds S Φ Ψ → ds.length = (P__law_roll : List Str).length := by
  intro ds S Φ Ψ h
  repeat' (first | (obtain ⟨e, _⟩ := h; (rw [e]; rfl)) | (refine Or.elim h ?_ ?_ <;> clear h <;> intro h) | (obtain ⟨_, h⟩ := h))
theorem len__law_row : ∀ ds S Φ Ψ, sp__law_row ds S Φ Ψ → ds.length = (P__law_row : List Str).length := by
  intro ds S Φ Ψ h
  repeat' (first | (obtain ⟨e, _⟩ := h; (rw [e]; rfl)) | (refine Or.elim h ?_ ?_ <;> clear h <;> intro h) | (obtain ⟨_, h⟩ := h))
theorem len__law_grid : ∀ ds S Φ Ψ, sp__law_grid ds S Φ Ψ → ds.length = (P__law_grid : List Str).length := by
  intro ds S Φ Ψ h
  repeat' (first | (obtain ⟨e, _⟩ := h; (rw [e]; rfl)) | (refine Or.elim h ?_ ?_ <;> clear h <;> intro h) | (obtain ⟨_, h⟩ := h))
theorem len__law_look : ∀ ds S Φ Ψ, sp__law_look ds S Φ Ψ → ds.length = (P__law_look : List Str).length := by
  intro ds S Φ Ψ h
  repeat' (first | (obtain ⟨e, _⟩ := h; (rw [e]; rfl)) | (refine Or.elim h ?_ ?_ <;> clear h <;> intro h) | (obtain ⟨_, h⟩ := h))
theorem len__law_copied : ∀ ds S Φ Ψ, sp__law_copied ds S Φ Ψ → ds.length = (P__law_copied : List Str).length := by
  intro ds S Φ Ψ h
  repeat' (first | (obtain ⟨e, _⟩ := h; (rw [e]; rfl)) | (refine Or.elim h ?_ ?_ <;> clear h <;> intro h) | (obtain ⟨_, h⟩ := h))
theorem len__law_edit {C_Page : Addr} : ∀ ds S Φ Ψ, (sp__law_edit C_Page) ds S Φ Ψ → ds.length = (P__law_edit : List Str).length := by
  intro ds S Φ Ψ h
  repeat' (first | (obtain ⟨e, _⟩ := h; (rw [e]; rfl)) | (refine Or.elim h ?_ ?_ <;> clear h <;> intro h) | (obtain ⟨_, h⟩ := h))
theorem len__law_same {C_Page : Addr} : ∀ ds S Φ Ψ, (sp__law_same C_Page) ds S Φ Ψ → ds.length = (P__law_same : List Str).length := by
  intro ds S Φ Ψ h
  repeat' (first | (obtain ⟨e, _⟩ := h; (rw [e]; rfl)) | (refine Or.elim h ?_ ?_ <;> clear h <;> intro h) | (obtain ⟨_, h⟩ := h))
theorem len__law_marked {C_Page : Addr} : ∀ ds S Φ Ψ, (sp__law_marked C_Page) ds S Φ Ψ → ds.length = (P__law_marked : List Str).length := by
  intro ds S Φ Ψ h
  repeat' (first | (obtain ⟨e, _⟩ := h; (rw [e]; rfl)) | (refine Or.elim h ?_ ?_ <;> clear h <;> intro h) | (obtain ⟨_, h⟩ := h))
theorem len__law_emptied {C_Page : Addr} : ∀ ds S Φ Ψ, (sp__law_emptied C_Page) ds S Φ Ψ → ds.length = (P__law_emptied : List Str).length := by
  intro ds S Φ Ψ h
  repeat' (first | (obtain ⟨e, _⟩ := h; (rw [e]; rfl)) | (refine Or.elim h ?_ ?_ <;> clear h <;> intro h) | (obtain ⟨_, h⟩ := h))
theorem len__law_right : ∀ ds S Φ Ψ, sp__law_right ds S Φ Ψ → ds.length = (P__law_right : List Str).length := by
  intro ds S Φ Ψ h
  repeat' (first | (obtain ⟨e, _⟩ := h; (rw [e]; rfl)) | (refine Or.elim h ?_ ?_ <;> clear h <;> intro h) | (obtain ⟨_, h⟩ := h))
theorem len__law_single_right : ∀ ds S Φ Ψ, sp__law_single_right ds S Φ Ψ → ds.length = (P__law_single_right : List Str).length := by
  intro ds S Φ Ψ h
  repeat' (first | (obtain ⟨e, _⟩ := h; (rw [e]; rfl)) | (refine Or.elim h ?_ ?_ <;> clear h <;> intro h) | (obtain ⟨_, h⟩ := h))
theorem len__law_sixty {C_Page : Addr} : ∀ ds S Φ Ψ, (sp__law_sixty C_Page) ds S Φ Ψ → ds.length = (P__law_sixty : List Str).length := by
  intro ds S Φ Ψ h
  repeat' (first | (obtain ⟨e, _⟩ := h; (rw [e]; rfl)) | (refine Or.elim h ?_ ?_ <;> clear h <;> intro h) | (obtain ⟨_, h⟩ := h))
theorem len__law_sixty_one {C_Page C_InvalidTable : Addr} : ∀ ds S Φ Ψ, (sp__law_sixty_one C_Page C_InvalidTable) ds S Φ Ψ → ds.length = (P__law_sixty_one : List Str).length := by
  intro ds S Φ Ψ h
  repeat' (first | (obtain ⟨e, _⟩ := h; (rw [e]; rfl)) | (refine Or.elim h ?_ ?_ <;> clear h <;> intro h) | (obtain ⟨_, h⟩ := h))
theorem len__law_twelve {C_Page : Addr} : ∀ ds S Φ Ψ, (sp__law_twelve C_Page) ds S Φ Ψ → ds.length = (P__law_twelve : List Str).length := by
  intro ds S Φ Ψ h
  repeat' (first | (obtain ⟨e, _⟩ := h; (rw [e]; rfl)) | (refine Or.elim h ?_ ?_ <;> clear h <;> intro h) | (obtain ⟨_, h⟩ := h))
theorem len__law_many_right {C_Style C_Page : Addr} : ∀ ds S Φ Ψ, (sp__law_many_right C_Style C_Page) ds S Φ Ψ → ds.length = (P__law_many_right : List Str).length := by
  intro ds S Φ Ψ h
  repeat' (first | (obtain ⟨e, _⟩ := h; (rw [e]; rfl)) | (refine Or.elim h ?_ ?_ <;> clear h <;> intro h) | (obtain ⟨_, h⟩ := h))
theorem len__law_lists_right : ∀ ds S Φ Ψ, sp__law_lists_right ds S Φ Ψ → ds.length = (P__law_lists_right : List Str).length := by
  intro ds S Φ Ψ h
  repeat' (first | (obtain ⟨e, _⟩ := h; (rw [e]; rfl)) | (refine Or.elim h ?_ ?_ <;> clear h <;> intro h) | (obtain ⟨_, h⟩ := h))
theorem len_law : ∀ ds S Φ Ψ, sp_law ds S Φ Ψ → ds.length = (P_law : List Str).length := by
  intro ds S Φ Ψ h
  repeat' (first | (obtain ⟨e, _⟩ := h; (rw [e]; rfl)) | (refine Or.elim h ?_ ?_ <;> clear h <;> intro h) | (obtain ⟨_, h⟩ := h))
theorem sub_Style___init___s1 (K : PySem.W.Frag) : ∀ q ∈ ([("gap", V.int 1), ("least", V.int 0)] : List (Str × V)), q ∈ dd_Style___init__.kws K := by
  intro q hq
  simp only [List.mem_cons, List.not_mem_nil, or_false] at hq
  (try rcases hq with rfl | rfl) <;> (try subst hq) <;> simp [dd_Style___init__, He5.DefA.kws, He.Dv.v]
theorem sub_Style___init___s1_gap (K : PySem.W.Frag) : ∀ q ∈ ([("least", V.int 0)] : List (Str × V)), q ∈ dd_Style___init__.kws K := by
  intro q hq
  simp only [List.mem_cons, List.not_mem_nil, or_false] at hq
  (try rcases hq with rfl | rfl) <;> (try subst hq) <;> simp [dd_Style___init__, He5.DefA.kws, He.Dv.v]
theorem factsL {P : Program} {wd : World} {K : PySem.W.Frag} {h : Heap} {mg : Str → Option Value} {f : Addr} (X : K.In h) (G : h.Ns mainGlobals mg) (hfa : mg ("law" : Str) = some (.ref f)) (c : SaysX faL fnL K) :
    ∃ fd : FuncData, (∀ (s : Shared) (v : Value), BindsTo s fd ⟨[v], []⟩ [("_law_script", v)]) ∧ ∀ base : Heap, K.In base → base.Ns mainGlobals mg → FnOkG P wd K mg base (L2.CX P wd) 12 f fd ["_law_script"] (spOf K sp_law) := by
  have t_is_integer : Tx K mg "is_integer" s_is_integer := ⟨let ⟨fd, F⟩ := c.def_ 0 (d := dd_is_integer) rfl; ⟨_, fd, F, He.glo_ok X G (c.fact 0 (f := (fun K => (He.Fa.glo "is_integer").ok K)) rfl)⟩⟩
  have t_is_cell : Tx K mg "is_cell" s_is_cell := ⟨let ⟨fd, F⟩ := c.def_ 1 (d := dd_is_cell) rfl; ⟨_, fd, F, He.glo_ok X G (c.fact 1 (f := (fun K => (He.Fa.glo "is_cell").ok K)) rfl)⟩⟩
  have t_is_line : Tx K mg "is_line" s_is_line := ⟨let ⟨fd, F⟩ := c.def_ 2 (d := dd_is_line) rfl; ⟨_, fd, F, He.glo_ok X G (c.fact 2 (f := (fun K => (He.Fa.glo "is_line").ok K)) rfl)⟩⟩
  have t_is_table : Tx K mg "is_table" s_is_table := ⟨let ⟨fd, F⟩ := c.def_ 3 (d := dd_is_table) rfl; ⟨_, fd, F, He.glo_ok X G (c.fact 3 (f := (fun K => (He.Fa.glo "is_table").ok K)) rfl)⟩⟩
  have t_need_table : Tx K mg "need_table" s_need_table := ⟨let ⟨fd, F⟩ := c.def_ 4 (d := dd_need_table) rfl; ⟨_, fd, F, He.glo_ok X G (c.fact 4 (f := (fun K => (He.Fa.glo "need_table").ok K)) rfl)⟩⟩
  have t_need_line : Tx K mg "need_line" s_need_line := ⟨let ⟨fd, F⟩ := c.def_ 5 (d := dd_need_line) rfl; ⟨_, fd, F, He.glo_ok X G (c.fact 5 (f := (fun K => (He.Fa.glo "need_line").ok K)) rfl)⟩⟩
  have t_copy_of : Tx K mg "copy_of" s_copy_of := ⟨let ⟨fd, F⟩ := c.def_ 6 (d := dd_copy_of) rfl; ⟨_, fd, F, He.glo_ok X G (c.fact 6 (f := (fun K => (He.Fa.glo "copy_of").ok K)) rfl)⟩⟩
  have t_tabs_in : Tx K mg "tabs_in" s_tabs_in := ⟨let ⟨fd, F⟩ := c.def_ 7 (d := dd_tabs_in) rfl; ⟨_, fd, F, He.glo_ok X G (c.fact 7 (f := (fun K => (He.Fa.glo "tabs_in").ok K)) rfl)⟩⟩
  have t_blocks_of_column : Tx K mg "blocks_of_column" s_blocks_of_column := ⟨let ⟨fd, F⟩ := c.def_ 8 (d := dd_blocks_of_column) rfl; ⟨_, fd, F, He.glo_ok X G (c.fact 8 (f := (fun K => (He.Fa.glo "blocks_of_column").ok K)) rfl)⟩⟩
  have t_blocks_by_tabs : Tx K mg "blocks_by_tabs" s_blocks_by_tabs := ⟨let ⟨fd, F⟩ := c.def_ 9 (d := dd_blocks_by_tabs) rfl; ⟨_, fd, F, He.glo_ok X G (c.fact 9 (f := (fun K => (He.Fa.glo "blocks_by_tabs").ok K)) rfl)⟩⟩
  have t_blocks_in : Tx K mg "blocks_in" s_blocks_in := ⟨let ⟨fd, F⟩ := c.def_ 10 (d := dd_blocks_in) rfl; ⟨_, fd, F, He.glo_ok X G (c.fact 10 (f := (fun K => (He.Fa.glo "blocks_in").ok K)) rfl)⟩⟩
  have t_greatest_in : Tx K mg "greatest_in" s_greatest_in := ⟨let ⟨fd, F⟩ := c.def_ 11 (d := dd_greatest_in) rfl; ⟨_, fd, F, He.glo_ok X G (c.fact 11 (f := (fun K => (He.Fa.glo "greatest_in").ok K)) rfl)⟩⟩
  have t_room_of : Tx K mg "room_of" s_room_of := ⟨let ⟨fd, F⟩ := c.def_ 12 (d := dd_room_of) rfl; ⟨_, fd, F, He.glo_ok X G (c.fact 12 (f := (fun K => (He.Fa.glo "room_of").ok K)) rfl)⟩⟩
  have t_rooms_in : Tx K mg "rooms_in" s_rooms_in := ⟨let ⟨fd, F⟩ := c.def_ 13 (d := dd_rooms_in) rfl; ⟨_, fd, F, He.glo_ok X G (c.fact 13 (f := (fun K => (He.Fa.glo "rooms_in").ok K)) rfl)⟩⟩
  have t_stops_in : Tx K mg "stops_in" s_stops_in := ⟨let ⟨fd, F⟩ := c.def_ 14 (d := dd_stops_in) rfl; ⟨_, fd, F, He.glo_ok X G (c.fact 14 (f := (fun K => (He.Fa.glo "stops_in").ok K)) rfl)⟩⟩
  have t_ends_in : Tx K mg "ends_in" s_ends_in := ⟨let ⟨fd, F⟩ := c.def_ 15 (d := dd_ends_in) rfl; ⟨_, fd, F, He.glo_ok X G (c.fact 15 (f := (fun K => (He.Fa.glo "ends_in").ok K)) rfl)⟩⟩
  have t_width_in : Tx K mg "width_in" s_width_in := ⟨let ⟨fd, F⟩ := c.def_ 16 (d := dd_width_in) rfl; ⟨_, fd, F, He.glo_ok X G (c.fact 16 (f := (fun K => (He.Fa.glo "width_in").ok K)) rfl)⟩⟩
  have t_stops : Tx K mg "stops" s_stops := ⟨let ⟨fd, F⟩ := c.def_ 17 (d := dd_stops) rfl; ⟨_, fd, F, He.glo_ok X G (c.fact 17 (f := (fun K => (He.Fa.glo "stops").ok K)) rfl)⟩⟩
  have t_width_of : Tx K mg "width_of" s_width_of := ⟨let ⟨fd, F⟩ := c.def_ 18 (d := dd_width_of) rfl; ⟨_, fd, F, He.glo_ok X G (c.fact 18 (f := (fun K => (He.Fa.glo "width_of").ok K)) rfl)⟩⟩
  have t_need_cell : Tx K mg "need_cell" s_need_cell := ⟨let ⟨fd, F⟩ := c.def_ 19 (d := dd_need_cell) rfl; ⟨_, fd, F, He.glo_ok X G (c.fact 19 (f := (fun K => (He.Fa.glo "need_cell").ok K)) rfl)⟩⟩
  have t_changed : Tx K mg "changed" s_changed := ⟨let ⟨fd, F⟩ := c.def_ 20 (d := dd_changed) rfl; ⟨_, fd, F, He.glo_ok X G (c.fact 20 (f := (fun K => (He.Fa.glo "changed").ok K)) rfl)⟩⟩
  have t_with_cell : Tx K mg "with_cell" s_with_cell := ⟨let ⟨fd, F⟩ := c.def_ 21 (d := dd_with_cell) rfl; ⟨_, fd, F, He.glo_ok X G (c.fact 21 (f := (fun K => (He.Fa.glo "with_cell").ok K)) rfl)⟩⟩
  have t_with_line : Tx K mg "with_line" s_with_line := ⟨let ⟨fd, F⟩ := c.def_ 22 (d := dd_with_line) rfl; ⟨_, fd, F, He.glo_ok X G (c.fact 22 (f := (fun K => (He.Fa.glo "with_line").ok K)) rfl)⟩⟩
  have t_without_line : Tx K mg "without_line" s_without_line := ⟨let ⟨fd, F⟩ := c.def_ 23 (d := dd_without_line) rfl; ⟨_, fd, F, He.glo_ok X G (c.fact 23 (f := (fun K => (He.Fa.glo "without_line").ok K)) rfl)⟩⟩
  have t_are_kinds : Tx K mg "are_kinds" s_are_kinds := ⟨let ⟨fd, F⟩ := c.def_ 38 (d := dd_are_kinds) rfl; ⟨_, fd, F, He.glo_ok X G (c.fact 24 (f := (fun K => (He.Fa.glo "are_kinds").ok K)) rfl)⟩⟩
  have t__law_stock : Tx K mg "_law_stock" s__law_stock := ⟨let ⟨fd, F⟩ := c.def_ 43 (d := dd__law_stock) rfl; ⟨_, fd, F, He.glo_ok X G (c.fact 25 (f := (fun K => (He.Fa.glo "_law_stock").ok K)) rfl)⟩⟩
  have t__law_roll : Tx K mg "_law_roll" s__law_roll := ⟨let ⟨fd, F⟩ := c.def_ 44 (d := dd__law_roll) rfl; ⟨_, fd, F, He.glo_ok X G (c.fact 26 (f := (fun K => (He.Fa.glo "_law_roll").ok K)) rfl)⟩⟩
  have t__law_row : Tx K mg "_law_row" s__law_row := ⟨let ⟨fd, F⟩ := c.def_ 45 (d := dd__law_row) rfl; ⟨_, fd, F, He.glo_ok X G (c.fact 27 (f := (fun K => (He.Fa.glo "_law_row").ok K)) rfl)⟩⟩
  have t__law_grid : Tx K mg "_law_grid" s__law_grid := ⟨let ⟨fd, F⟩ := c.def_ 46 (d := dd__law_grid) rfl; ⟨_, fd, F, He.glo_ok X G (c.fact 28 (f := (fun K => (He.Fa.glo "_law_grid").ok K)) rfl)⟩⟩
  have t__law_look : Tx K mg "_law_look" s__law_look := ⟨let ⟨fd, F⟩ := c.def_ 47 (d := dd__law_look) rfl; ⟨_, fd, F, He.glo_ok X G (c.fact 29 (f := (fun K => (He.Fa.glo "_law_look").ok K)) rfl)⟩⟩
  have t__law_copied : Tx K mg "_law_copied" s__law_copied := ⟨let ⟨fd, F⟩ := c.def_ 48 (d := dd__law_copied) rfl; ⟨_, fd, F, He.glo_ok X G (c.fact 30 (f := (fun K => (He.Fa.glo "_law_copied").ok K)) rfl)⟩⟩
  have t__law_edit : Tx K mg "_law_edit" s__law_edit := ⟨let ⟨fd, F⟩ := c.def_ 49 (d := dd__law_edit) rfl; ⟨_, fd, F, He.glo_ok X G (c.fact 31 (f := (fun K => (He.Fa.glo "_law_edit").ok K)) rfl)⟩⟩
  have t__law_same : Tx K mg "_law_same" s__law_same := ⟨let ⟨fd, F⟩ := c.def_ 50 (d := dd__law_same) rfl; ⟨_, fd, F, He.glo_ok X G (c.fact 32 (f := (fun K => (He.Fa.glo "_law_same").ok K)) rfl)⟩⟩
  have t__law_marked : Tx K mg "_law_marked" s__law_marked := ⟨let ⟨fd, F⟩ := c.def_ 51 (d := dd__law_marked) rfl; ⟨_, fd, F, He.glo_ok X G (c.fact 33 (f := (fun K => (He.Fa.glo "_law_marked").ok K)) rfl)⟩⟩
  have t__law_emptied : Tx K mg "_law_emptied" s__law_emptied := ⟨let ⟨fd, F⟩ := c.def_ 52 (d := dd__law_emptied) rfl; ⟨_, fd, F, He.glo_ok X G (c.fact 34 (f := (fun K => (He.Fa.glo "_law_emptied").ok K)) rfl)⟩⟩
  have t__law_right : Tx K mg "_law_right" s__law_right := ⟨let ⟨fd, F⟩ := c.def_ 53 (d := dd__law_right) rfl; ⟨_, fd, F, He.glo_ok X G (c.fact 35 (f := (fun K => (He.Fa.glo "_law_right").ok K)) rfl)⟩⟩
  have t__law_single_right : Tx K mg "_law_single_right" s__law_single_right := ⟨let ⟨fd, F⟩ := c.def_ 54 (d := dd__law_single_right) rfl; ⟨_, fd, F, He.glo_ok X G (c.fact 36 (f := (fun K => (He.Fa.glo "_law_single_right").ok K)) rfl)⟩⟩
  have t__law_sixty : Tx K mg "_law_sixty" s__law_sixty := ⟨let ⟨fd, F⟩ := c.def_ 55 (d := dd__law_sixty) rfl; ⟨_, fd, F, He.glo_ok X G (c.fact 37 (f := (fun K => (He.Fa.glo "_law_sixty").ok K)) rfl)⟩⟩
  have t__law_sixty_one : Tx K mg "_law_sixty_one" s__law_sixty_one := ⟨let ⟨fd, F⟩ := c.def_ 56 (d := dd__law_sixty_one) rfl; ⟨_, fd, F, He.glo_ok X G (c.fact 38 (f := (fun K => (He.Fa.glo "_law_sixty_one").ok K)) rfl)⟩⟩
  have t__law_twelve : Tx K mg "_law_twelve" s__law_twelve := ⟨let ⟨fd, F⟩ := c.def_ 57 (d := dd__law_twelve) rfl; ⟨_, fd, F, He.glo_ok X G (c.fact 39 (f := (fun K => (He.Fa.glo "_law_twelve").ok K)) rfl)⟩⟩
  have t__law_many_right : Tx K mg "_law_many_right" s__law_many_right := ⟨let ⟨fd, F⟩ := c.def_ 58 (d := dd__law_many_right) rfl; ⟨_, fd, F, He.glo_ok X G (c.fact 40 (f := (fun K => (He.Fa.glo "_law_many_right").ok K)) rfl)⟩⟩
  have t__law_lists_right : Tx K mg "_law_lists_right" s__law_lists_right := ⟨let ⟨fd, F⟩ := c.def_ 59 (d := dd__law_lists_right) rfl; ⟨_, fd, F, He.glo_ok X G (c.fact 41 (f := (fun K => (He.Fa.glo "_law_lists_right").ok K)) rfl)⟩⟩
  have t_law : Tx K mg "law" s_law := ⟨let ⟨fd, F⟩ := c.def_ 60 (d := dd_law) rfl; ⟨_, fd, F, He.glo_ok X G (c.fact 42 (f := (fun K => (He.Fa.glo "law").ok K)) rfl)⟩⟩
  have m_int := He.free_ok X G (c.fact 43 (f := (fun K => (He.Fa.free "int").ok K)) rfl)
  have m_isinstance := He.free_ok X G (c.fact 44 (f := (fun K => (He.Fa.free "isinstance").ok K)) rfl)
  have m_bool := He.free_ok X G (c.fact 45 (f := (fun K => (He.Fa.free "bool").ok K)) rfl)
  have g_MOST_CELL := He.int_ok X G (c.fact 46 (f := (fun K => (He.Fa.int "MOST_CELL" 1000000000000000000000000000000).ok K)) rfl)
  have m_list := He.free_ok X G (c.fact 47 (f := (fun K => (He.Fa.free "list").ok K)) rfl)
  have m_len := He.free_ok X G (c.fact 48 (f := (fun K => (He.Fa.free "len").ok K)) rfl)
  have g_MOST_CELLS := He.int_ok X G (c.fact 49 (f := (fun K => (He.Fa.int "MOST_CELLS" 12).ok K)) rfl)
  have m_all := He.free_ok X G (c.fact 50 (f := (fun K => (He.Fa.free "all").ok K)) rfl)
  have g_MOST_LINES := He.int_ok X G (c.fact 51 (f := (fun K => (He.Fa.int "MOST_LINES" 60).ok K)) rfl)
  have e_InvalidTable : ExcF K mg "InvalidTable" (He.ga K "InvalidTable") := let ⟨a, b, d, e⟩ := He.exc_ok (c.fact 53 (f := (fun K => (He.Fa.exc "InvalidTable").ok K)) rfl); ⟨a, He.glo_ok X G (c.fact 52 (f := (fun K => (He.Fa.glo "InvalidTable").ok K)) rfl), b, d, e⟩
  have e_InvalidLine : ExcF K mg "InvalidLine" (He.ga K "InvalidLine") := let ⟨a, b, d, e⟩ := He.exc_ok (c.fact 55 (f := (fun K => (He.Fa.exc "InvalidLine").ok K)) rfl); ⟨a, He.glo_ok X G (c.fact 54 (f := (fun K => (He.Fa.glo "InvalidLine").ok K)) rfl), b, d, e⟩
  have m_enumerate := He.free_ok X G (c.fact 56 (f := (fun K => (He.Fa.free "enumerate").ok K)) rfl)
  have m_range := He.free_ok X G (c.fact 57 (f := (fun K => (He.Fa.free "range").ok K)) rfl)
  have m_max := He.free_ok X G (c.fact 58 (f := (fun K => (He.Fa.free "max").ok K)) rfl)
  have m_zip := He.free_ok X G (c.fact 62 (f := (fun K => (He.Fa.free "zip").ok K)) rfl)
  have e_InvalidColumn : ExcF K mg "InvalidColumn" (He.ga K "InvalidColumn") := let ⟨a, b, d, e⟩ := He.exc_ok (c.fact 64 (f := (fun K => (He.Fa.exc "InvalidColumn").ok K)) rfl); ⟨a, He.glo_ok X G (c.fact 63 (f := (fun K => (He.Fa.glo "InvalidColumn").ok K)) rfl), b, d, e⟩
  have e_InvalidCell : ExcF K mg "InvalidCell" (He.ga K "InvalidCell") := let ⟨a, b, d, e⟩ := He.exc_ok (c.fact 66 (f := (fun K => (He.Fa.exc "InvalidCell").ok K)) rfl); ⟨a, He.glo_ok X G (c.fact 65 (f := (fun K => (He.Fa.glo "InvalidCell").ok K)) rfl), b, d, e⟩
  have cl_Page := He.cls_ok (c.fact 67 (f := (fun K => (He.Fa.cls "Page").ok K)) rfl)
  have na_Page_own_style := He.noat_ok (c.fact 68 (f := (fun K => (He.Fa.noat "Page" "own_style").ok K)) rfl)
  have na_Page_own_lines := He.noat_ok (c.fact 69 (f := (fun K => (He.Fa.noat "Page" "own_lines").ok K)) rfl)
  have na_Page_earlier := He.noat_ok (c.fact 70 (f := (fun K => (He.Fa.noat "Page" "earlier").ok K)) rfl)
  have na_Page_marked := He.noat_ok (c.fact 71 (f := (fun K => (He.Fa.noat "Page" "marked").ok K)) rfl)
  have al_stops_layout := bAli_ok (c.fact 75 (f := (bAli "stops_layout" "stops")) rfl) (He.glo_ok X G (c.fact 74 (f := (fun K => (He.Fa.glo "stops_layout").ok K)) rfl)) (He.glo_ok X G (c.fact 17 (f := (fun K => (He.Fa.glo "stops").ok K)) rfl))
  have e_NothingToUndo : ExcF K mg "NothingToUndo" (He.ga K "NothingToUndo") := let ⟨a, b, d, e⟩ := He.exc_ok (c.fact 77 (f := (fun K => (He.Fa.exc "NothingToUndo").ok K)) rfl); ⟨a, He.glo_ok X G (c.fact 76 (f := (fun K => (He.Fa.glo "NothingToUndo").ok K)) rfl), b, d, e⟩
  have e_InvalidNumber : ExcF K mg "InvalidNumber" (He.ga K "InvalidNumber") := let ⟨a, b, d, e⟩ := He.exc_ok (c.fact 79 (f := (fun K => (He.Fa.exc "InvalidNumber").ok K)) rfl); ⟨a, He.glo_ok X G (c.fact 78 (f := (fun K => (He.Fa.glo "InvalidNumber").ok K)) rfl), b, d, e⟩
  have h_Page := He.glo_ok X G (c.fact 80 (f := (fun K => (He.Fa.glo "Page").ok K)) rfl)
  have g_MOST_KINDS := He.int_ok X G (c.fact 81 (f := (fun K => (He.Fa.int "MOST_KINDS" 12).ok K)) rfl)
  have m_str := He.free_ok X G (c.fact 82 (f := (fun K => (He.Fa.free "str").ok K)) rfl)
  have h_Kind := He.glo_ok X G (c.fact 83 (f := (fun K => (He.Fa.glo "Kind").ok K)) rfl)
  have cv_NAMES : ∀ q ∈ ((conNAMES (He.ga K "Kind")) : List (Addr × D)), CValF K q.1 "NAMES" q.2 := by
    intro q hq
    simp only [conNAMES, List.mem_cons, List.not_mem_nil, or_false] at hq
    subst hq
    exact bCVT_ok (c.fact 84 (f := (bCVT "Kind" "NAMES" ["left", "right", "center"])) rfl)
  have g_LEFT := He.str_ok X G (c.fact 85 (f := (fun K => (He.Fa.str "LEFT" "left").ok K)) rfl)
  have e_InvalidStyle : ExcF K mg "InvalidStyle" (He.ga K "InvalidStyle") := let ⟨a, b, d, e⟩ := He.exc_ok (c.fact 87 (f := (fun K => (He.Fa.exc "InvalidStyle").ok K)) rfl); ⟨a, He.glo_ok X G (c.fact 86 (f := (fun K => (He.Fa.glo "InvalidStyle").ok K)) rfl), b, d, e⟩
  have cl_Style := He.cls_ok (c.fact 59 (f := (fun K => (He.Fa.cls "Style").ok K)) rfl)
  have na_Style_held_kinds := He.noat_ok (c.fact 88 (f := (fun K => (He.Fa.noat "Style" "held_kinds").ok K)) rfl)
  have na_Style_held_gap := He.noat_ok (c.fact 89 (f := (fun K => (He.Fa.noat "Style" "held_gap").ok K)) rfl)
  have na_Style_held_least := He.noat_ok (c.fact 90 (f := (fun K => (He.Fa.noat "Style" "held_least").ok K)) rfl)
  have m_abs := He.free_ok X G (c.fact 92 (f := (fun K => (He.Fa.free "abs").ok K)) rfl)
  have m_repr := He.free_ok X G (c.fact 97 (f := (fun K => (He.Fa.free "repr").ok K)) rfl)
  have h_Style := He.glo_ok X G (c.fact 102 (f := (fun K => (He.Fa.glo "Style").ok K)) rfl)
  have i_Page := bId_ok (c.fact 107 (f := (bId "Page")) rfl)
  have xm_InvalidTable : ∀ C ∈ ([(He.ga K "InvalidTable")] : List Addr), PySem.W.exmOne K (.ref C) (.ref (He.ga K "InvalidTable")) = some true := by
    intro q hq
    simp only [List.mem_cons, List.not_mem_nil, or_false] at hq
    subst hq
    exact bExm_ok (c.fact 109 (f := (bExm "InvalidTable" "InvalidTable")) rfl)
  have h_InvalidTable := He.glo_ok X G (c.fact 52 (f := (fun K => (He.Fa.glo "InvalidTable").ok K)) rfl)
  have m_min := He.free_ok X G (c.fact 112 (f := (fun K => (He.Fa.free "min").ok K)) rfl)
  have all : ∀ base : Heap, CalG P wd K mg base "law" s_law 12 P_law sp_law := fun base => by
    have c_is_integer : CalG P wd K mg base "is_integer" s_is_integer 1 P_is_integer sp_is_integer := calG_ok t_is_integer (fun _ _ _ _ _ _ us hl => match us, hl with | [_, _, _], _ => rfl) sc_is_integer (len_is_integer) fun f cdv A outer s H E hG hr => let ⟨t, jb⟩ := d_is_integer hG hr m_int m_isinstance m_bool; ⟨t, _, jb, p_is_integer⟩
    have c_copy_of : CalG P wd K mg base "copy_of" s_copy_of 1 P_copy_of sp_copy_of := calG_ok t_copy_of (fun _ _ _ _ _ _ us hl => match us, hl with | [_], _ => rfl) sc_copy_of (len_copy_of) fun f cdv A outer s H E hG hr => let ⟨t, jb⟩ := d_copy_of hG hr m_list; ⟨t, _, jb, p_copy_of⟩
    have c_tabs_in : CalG P wd K mg base "tabs_in" s_tabs_in 1 P_tabs_in sp_tabs_in := calG_ok t_tabs_in (fun _ _ _ _ _ _ us hl => match us, hl with | [_], _ => rfl) sc_tabs_in (len_tabs_in) fun f cdv A outer s H E hG hr => let ⟨t, jb⟩ := d_tabs_in hG hr m_len; ⟨t, _, jb, p_tabs_in⟩
    have c_blocks_of_column : CalG P wd K mg base "blocks_of_column" s_blocks_of_column 1 P_blocks_of_column sp_blocks_of_column := calG_ok t_blocks_of_column (fun _ _ _ _ _ _ us hl => match us, hl with | [_, _], _ => rfl) sc_blocks_of_column (len_blocks_of_column) fun f cdv A outer s H E hG hr => let ⟨t, jb⟩ := d_blocks_of_column hG hr m_enumerate; ⟨t, _, jb, p_blocks_of_column⟩
    have c_greatest_in : CalG P wd K mg base "greatest_in" s_greatest_in 1 P_greatest_in sp_greatest_in := calG_ok t_greatest_in (fun _ _ _ _ _ _ us hl => match us, hl with | [_, _], _ => rfl) sc_greatest_in (len_greatest_in) fun f cdv A outer s H E hG hr => let ⟨t, jb⟩ := d_greatest_in hG hr m_max; ⟨t, _, jb, p_greatest_in⟩
    have k_Page_table_1 : FnK P wd K mg base 1 ((fun K => He5.wf K (He.ga K "Page") "property" "table") K) ([] : List Str) (pkP 1 [0] [] (sp_Page_table (He.ga K "Page"))) := (let ⟨fd, F⟩ := c.def_ 26 (d := dd_Page_table) rfl; fnK_plain (ms := []) (md := []) (ks := ([] : List Str)) (perm := [0]) (n := 1) F sc_Page_table (fun q hq => nomatch hq) (fun _ => .nil) (len_Page_table) (fun D kV doc pm an cdv ct us mv ws _ l1 l2 l3 => match us, mv, ws, l1, l2, l3 with | [_], [], [], _, _, _ => rfl) fun cdv A outer s H E hG hr => let ⟨t, jb⟩ := d_Page_table hG hr cl_Page na_Page_own_lines m_list; ⟨t, _, jb, p_Page_table (He.ga K "Page")⟩)
    have pr_Page_table : PropK P wd K mg base (He.ga K "Page") "table" 1 (pkP 1 [0] [] (sp_Page_table (He.ga K "Page"))) := ⟨He.cls_ok (c.fact 67 (f := (fun K => (He.Fa.cls "Page").ok K)) rfl), _, _, bProp_ok (c.fact 96 (f := (bProp "Page" "table")) rfl), k_Page_table_1⟩
    have k_Page_go_on_2 : FnK P wd K mg base 1 ((fun K => He.ma K (He.ga K "Page") "go_on") K) ([] : List Str) (pkP 2 [0, 1] [] (sp_Page_go_on (He.ga K "Page"))) := (let ⟨fd, F⟩ := c.def_ 27 (d := dd_Page_go_on) rfl; fnK_plain (ms := []) (md := []) (ks := ([] : List Str)) (perm := [0, 1]) (n := 2) F sc_Page_go_on (fun q hq => nomatch hq) (fun _ => .nil) (len_Page_go_on) (fun D kV doc pm an cdv ct us mv ws _ l1 l2 l3 => match us, mv, ws, l1, l2, l3 with | [_, _], [], [], _, _, _ => rfl) fun cdv A outer s H E hG hr => let ⟨t, jb⟩ := d_Page_go_on hG hr cl_Page na_Page_earlier na_Page_own_lines; ⟨t, _, jb, p_Page_go_on (He.ga K "Page")⟩)
    have mt_Page_go_on_2 : MethK P wd K mg base (He.ga K "Page") "go_on" 1 ([] : List Str) (pkP 2 [0, 1] [] (sp_Page_go_on (He.ga K "Page"))) := ⟨He.cls_ok (c.fact 67 (f := (fun K => (He.Fa.cls "Page").ok K)) rfl), _, He.meth_ok (c.fact 73 (f := (fun K => (He.Fa.meth "Page" "go_on").ok K)) rfl), k_Page_go_on_2⟩
    have k_Page_undo_1 : FnK P wd K mg base 1 ((fun K => He.ma K (He.ga K "Page") "undo") K) ([] : List Str) (pkP 1 [0] [] (sp_Page_undo (He.ga K "Page"))) := (let ⟨fd, F⟩ := c.def_ 33 (d := dd_Page_undo) rfl; fnK_plain (ms := []) (md := []) (ks := ([] : List Str)) (perm := [0]) (n := 1) F sc_Page_undo (fun q hq => nomatch hq) (fun _ => .nil) (len_Page_undo) (fun D kV doc pm an cdv ct us mv ws _ l1 l2 l3 => match us, mv, ws, l1, l2, l3 with | [_], [], [], _, _, _ => rfl) fun cdv A outer s H E hG hr => let ⟨t, jb⟩ := d_Page_undo hG hr cl_Page na_Page_earlier e_NothingToUndo na_Page_own_lines na_Page_marked m_len; ⟨t, _, jb, p_Page_undo (He.ga K "Page") (He.ga K "NothingToUndo")⟩)
    have mt_Page_undo_1 : MethK P wd K mg base (He.ga K "Page") "undo" 1 ([] : List Str) (pkP 1 [0] [] (sp_Page_undo (He.ga K "Page"))) := ⟨He.cls_ok (c.fact 67 (f := (fun K => (He.Fa.cls "Page").ok K)) rfl), _, He.meth_ok (c.fact 101 (f := (fun K => (He.Fa.meth "Page" "undo").ok K)) rfl), k_Page_undo_1⟩
    have k_Page_mark_1 : FnK P wd K mg base 1 ((fun K => He.ma K (He.ga K "Page") "mark") K) ([] : List Str) (pkP 1 [0] [] (sp_Page_mark (He.ga K "Page"))) := (let ⟨fd, F⟩ := c.def_ 34 (d := dd_Page_mark) rfl; fnK_plain (ms := []) (md := []) (ks := ([] : List Str)) (perm := [0]) (n := 1) F sc_Page_mark (fun q hq => nomatch hq) (fun _ => .nil) (len_Page_mark) (fun D kV doc pm an cdv ct us mv ws _ l1 l2 l3 => match us, mv, ws, l1, l2, l3 with | [_], [], [], _, _, _ => rfl) fun cdv A outer s H E hG hr => let ⟨t, jb⟩ := d_Page_mark hG hr cl_Page na_Page_marked na_Page_earlier m_len; ⟨t, _, jb, p_Page_mark (He.ga K "Page")⟩)
    have mt_Page_mark_1 : MethK P wd K mg base (He.ga K "Page") "mark" 1 ([] : List Str) (pkP 1 [0] [] (sp_Page_mark (He.ga K "Page"))) := ⟨He.cls_ok (c.fact 67 (f := (fun K => (He.Fa.cls "Page").ok K)) rfl), _, He.meth_ok (c.fact 99 (f := (fun K => (He.Fa.meth "Page" "mark").ok K)) rfl), k_Page_mark_1⟩
    have k_Page_undo_to_2 : FnK P wd K mg base 1 ((fun K => He.ma K (He.ga K "Page") "undo_to") K) ([] : List Str) (pkP 2 [0, 1] [] (sp_Page_undo_to (He.ga K "Page"))) := (let ⟨fd, F⟩ := c.def_ 35 (d := dd_Page_undo_to) rfl; fnK_plain (ms := []) (md := []) (ks := ([] : List Str)) (perm := [0, 1]) (n := 2) F sc_Page_undo_to (fun q hq => nomatch hq) (fun _ => .nil) (len_Page_undo_to) (fun D kV doc pm an cdv ct us mv ws _ l1 l2 l3 => match us, mv, ws, l1, l2, l3 with | [_, _], [], [], _, _, _ => rfl) fun cdv A outer s H E hG hr => let ⟨t, jb⟩ := d_Page_undo_to hG hr cl_Page na_Page_marked m_len e_InvalidNumber na_Page_earlier na_Page_own_lines; ⟨t, _, jb, p_Page_undo_to (He.ga K "Page") (He.ga K "InvalidNumber")⟩)
    have mt_Page_undo_to_2 : MethK P wd K mg base (He.ga K "Page") "undo_to" 1 ([] : List Str) (pkP 2 [0, 1] [] (sp_Page_undo_to (He.ga K "Page"))) := ⟨He.cls_ok (c.fact 67 (f := (fun K => (He.Fa.cls "Page").ok K)) rfl), _, He.meth_ok (c.fact 100 (f := (fun K => (He.Fa.meth "Page" "undo_to").ok K)) rfl), k_Page_undo_to_2⟩
    have k_Page___len___1 : FnK P wd K mg base 1 ((fun K => He.ma K (He.ga K "Page") "__len__") K) ([] : List Str) (pkP 1 [0] [] (sp_Page___len__ (He.ga K "Page"))) := (let ⟨fd, F⟩ := c.def_ 36 (d := dd_Page___len__) rfl; fnK_plain (ms := []) (md := []) (ks := ([] : List Str)) (perm := [0]) (n := 1) F sc_Page___len__ (fun q hq => nomatch hq) (fun _ => .nil) (len_Page___len__) (fun D kV doc pm an cdv ct us mv ws _ l1 l2 l3 => match us, mv, ws, l1, l2, l3 with | [_], [], [], _, _, _ => rfl) fun cdv A outer s H E hG hr => let ⟨t, jb⟩ := d_Page___len__ hG hr cl_Page na_Page_earlier m_len; ⟨t, _, jb, p_Page___len__ (He.ga K "Page")⟩)
    have lk_Page : LenK P wd K mg base (He.ga K "Page") 1 (pkP 1 [0] [] (sp_Page___len__ (He.ga K "Page"))) := ⟨_, He.meth_ok (c.fact 98 (f := (fun K => (He.Fa.meth "Page" "__len__").ok K)) rfl), k_Page___len___1⟩
    have c_are_kinds : CalG P wd K mg base "are_kinds" s_are_kinds 1 P_are_kinds sp_are_kinds := calG_ok t_are_kinds (fun _ _ _ _ _ _ us hl => match us, hl with | [_], _ => rfl) sc_are_kinds (len_are_kinds) fun f cdv A outer s H E hG hr => let ⟨t, jb⟩ := d_are_kinds hG hr m_list m_isinstance m_len g_MOST_KINDS m_str h_Kind cv_NAMES m_all; ⟨t, _, jb, p_are_kinds (He.ga K "Kind")⟩
    have k_Style_gap_1 : FnK P wd K mg base 1 ((fun K => He5.wf K (He.ga K "Style") "property" "gap") K) ([] : List Str) (pkP 1 [0] [] (sp_Style_gap (He.ga K "Style"))) := (let ⟨fd, F⟩ := c.def_ 41 (d := dd_Style_gap) rfl; fnK_plain (ms := []) (md := []) (ks := ([] : List Str)) (perm := [0]) (n := 1) F sc_Style_gap (fun q hq => nomatch hq) (fun _ => .nil) (len_Style_gap) (fun D kV doc pm an cdv ct us mv ws _ l1 l2 l3 => match us, mv, ws, l1, l2, l3 with | [_], [], [], _, _, _ => rfl) fun cdv A outer s H E hG hr => let ⟨t, jb⟩ := d_Style_gap hG hr cl_Style na_Style_held_gap; ⟨t, _, jb, p_Style_gap (He.ga K "Style")⟩)
    have pr_Style_gap : PropK P wd K mg base (He.ga K "Style") "gap" 1 (pkP 1 [0] [] (sp_Style_gap (He.ga K "Style"))) := ⟨He.cls_ok (c.fact 59 (f := (fun K => (He.Fa.cls "Style").ok K)) rfl), _, _, bProp_ok (c.fact 61 (f := (bProp "Style" "gap")) rfl), k_Style_gap_1⟩
    have k_Style_least_1 : FnK P wd K mg base 1 ((fun K => He5.wf K (He.ga K "Style") "property" "least") K) ([] : List Str) (pkP 1 [0] [] (sp_Style_least (He.ga K "Style"))) := (let ⟨fd, F⟩ := c.def_ 42 (d := dd_Style_least) rfl; fnK_plain (ms := []) (md := []) (ks := ([] : List Str)) (perm := [0]) (n := 1) F sc_Style_least (fun q hq => nomatch hq) (fun _ => .nil) (len_Style_least) (fun D kV doc pm an cdv ct us mv ws _ l1 l2 l3 => match us, mv, ws, l1, l2, l3 with | [_], [], [], _, _, _ => rfl) fun cdv A outer s H E hG hr => let ⟨t, jb⟩ := d_Style_least hG hr cl_Style na_Style_held_least; ⟨t, _, jb, p_Style_least (He.ga K "Style")⟩)
    have pr_Style_least : PropK P wd K mg base (He.ga K "Style") "least" 1 (pkP 1 [0] [] (sp_Style_least (He.ga K "Style"))) := ⟨He.cls_ok (c.fact 59 (f := (fun K => (He.Fa.cls "Style").ok K)) rfl), _, _, bProp_ok (c.fact 60 (f := (bProp "Style" "least")) rfl), k_Style_least_1⟩
    have c__law_stock : CalG P wd K mg base "_law_stock" s__law_stock 1 P__law_stock sp__law_stock := calG_ok t__law_stock (fun _ _ _ _ _ _ us hl => match us, hl with | [_], _ => rfl) sc__law_stock (len__law_stock) fun f cdv A outer s H E hG hr => let ⟨t, jb⟩ := d__law_stock hG hr m_abs; ⟨t, _, jb, p__law_stock⟩
    have c__law_roll : CalG P wd K mg base "_law_roll" s__law_roll 1 P__law_roll sp__law_roll := calG_ok t__law_roll (fun _ _ _ _ _ _ us hl => match us, hl with | [_, _], _ => rfl) sc__law_roll (len__law_roll) fun f cdv A outer s H E hG hr => let ⟨t, jb⟩ := d__law_roll hG hr ; ⟨t, _, jb, p__law_roll⟩
    have c__law_copied : CalG P wd K mg base "_law_copied" s__law_copied 1 P__law_copied sp__law_copied := calG_ok t__law_copied (fun _ _ _ _ _ _ us hl => match us, hl with | [_], _ => rfl) sc__law_copied (len__law_copied) fun f cdv A outer s H E hG hr => let ⟨t, jb⟩ := d__law_copied hG hr m_list; ⟨t, _, jb, p__law_copied⟩
    have c_is_cell : CalG P wd K mg base "is_cell" s_is_cell 2 P_is_cell sp_is_cell := calG_ok t_is_cell (fun _ _ _ _ _ _ us hl => match us, hl with | [_], _ => rfl) sc_is_cell (len_is_cell) fun f cdv A outer s H E hG hr => let ⟨t, jb⟩ := d_is_cell hG hr c_is_integer g_MOST_CELL; ⟨t, _, jb, p_is_cell⟩
    have c_need_line : CalG P wd K mg base "need_line" s_need_line 2 P_need_line sp_need_line := calG_ok t_need_line (fun _ _ _ _ _ _ us hl => match us, hl with | [_, _], _ => rfl) sc_need_line (len_need_line) fun f cdv A outer s H E hG hr => let ⟨t, jb⟩ := d_need_line hG hr c_is_integer m_len e_InvalidLine; ⟨t, _, jb, p_need_line (He.ga K "InvalidLine")⟩
    have c_blocks_by_tabs : CalG P wd K mg base "blocks_by_tabs" s_blocks_by_tabs 2 P_blocks_by_tabs sp_blocks_by_tabs := calG_ok t_blocks_by_tabs (fun _ _ _ _ _ _ us hl => match us, hl with | [_], _ => rfl) sc_blocks_by_tabs (len_blocks_by_tabs) fun f cdv A outer s H E hG hr => let ⟨t, jb⟩ := d_blocks_by_tabs hG hr g_MOST_CELLS m_range c_blocks_of_column; ⟨t, _, jb, p_blocks_by_tabs⟩
    have c_changed : CalG P wd K mg base "changed" s_changed 2 P_changed sp_changed := calG_ok t_changed (fun _ _ _ _ _ _ us hl => match us, hl with | [_, _, _, _], _ => rfl) sc_changed (len_changed) fun f cdv A outer s H E hG hr => let ⟨t, jb⟩ := d_changed hG hr c_copy_of; ⟨t, _, jb, p_changed⟩
    have c__law_row : CalG P wd K mg base "_law_row" s__law_row 2 P__law_row sp__law_row := calG_ok t__law_row (fun _ _ _ _ _ _ us hl => match us, hl with | [_, _, _], _ => rfl) sc__law_row (len__law_row) fun f cdv A outer s H E hG hr => let ⟨t, jb⟩ := d__law_row hG hr c__law_roll m_range m_int; ⟨t, _, jb, p__law_row⟩
    have c__law_look : CalG P wd K mg base "_law_look" s__law_look 2 P__law_look sp__law_look := calG_ok t__law_look (fun _ _ _ _ _ _ us hl => match us, hl with | [_], _ => rfl) sc__law_look (len__law_look) fun f cdv A outer s H E hG hr => let ⟨t, jb⟩ := d__law_look hG hr c__law_roll m_range; ⟨t, _, jb, p__law_look⟩
    have c_is_line : CalG P wd K mg base "is_line" s_is_line 3 P_is_line sp_is_line := calG_ok t_is_line (fun _ _ _ _ _ _ us hl => match us, hl with | [_], _ => rfl) sc_is_line (len_is_line) fun f cdv A outer s H E hG hr => let ⟨t, jb⟩ := d_is_line hG hr m_list m_isinstance m_len g_MOST_CELLS c_is_cell m_all; ⟨t, _, jb, p_is_line⟩
    have c_blocks_in : CalG P wd K mg base "blocks_in" s_blocks_in 3 P_blocks_in sp_blocks_in := calG_ok t_blocks_in (fun _ _ _ _ _ _ us hl => match us, hl with | [_], _ => rfl) sc_blocks_in (len_blocks_in) fun f cdv A outer s H E hG hr => let ⟨t, jb⟩ := d_blocks_in hG hr c_blocks_by_tabs c_tabs_in; ⟨t, _, jb, p_blocks_in⟩
    have c_room_of : CalG P wd K mg base "room_of" s_room_of 3 P_room_of (sp_room_of (He.ga K "Style")) := calG_ok t_room_of (fun _ _ _ _ _ _ us hl => match us, hl with | [_, _, _], _ => rfl) sc_room_of (len_room_of) fun f cdv A outer s H E hG hr => let ⟨t, jb⟩ := d_room_of hG hr c_greatest_in pr_Style_least m_max; ⟨t, _, jb, p_room_of (He.ga K "Style")⟩
    have k_Style___init___s1_gap_least : FnK P wd K mg base 3 ((fun K => He.ma K (He.ga K "Style") "__init__") K) (["gap", "least"] : List Str) (pkS true 1 [0, 1, 2] [] (sp_Style___init__ (He.ga K "Style"))) := (let ⟨fd, F⟩ := c.def_ 39 (d := dd_Style___init__) rfl; fnK_star (ps := P0_Style___init__) (pv := "kinds") (a := 1) (b := true) (ms := []) (md := []) (ks := (["gap", "least"] : List Str)) (perm := [0, 1, 2]) F sc_Style___init__ (fun q hq => nomatch hq) (fun _ => .nil) (len_Style___init__) (fun D kV doc pm an cdv ct us rest mv ws _ hb l1 l2 l3 => match us, rest, mv, ws, l1, l2, l3, hb with | [_], [], [], [_, _], _, _, _, _ => rfl | [_], _ :: _, [], [_, _], _, _, _, _ => rfl) fun cdv A outer s H E hG hr => let ⟨t, jb⟩ := d_Style___init__ hG hr m_len m_list g_LEFT c_are_kinds c_is_cell e_InvalidStyle cl_Style na_Style_held_kinds na_Style_held_gap na_Style_held_least; ⟨t, _, jb, p_Style___init__ (He.ga K "InvalidStyle") (He.ga K "Style")⟩)
    have mk_Style___init___s1_gap_least : CtorK P wd K mg base (He.ga K "Style") 3 (["gap", "least"] : List Str) (pkS true 1 [0, 1, 2] [] (sp_Style___init__ (He.ga K "Style"))) := ⟨_, He.mkr_ok (c.fact 91 (f := (fun K => (He.Fa.mkr "Style").ok K)) rfl), k_Style___init___s1_gap_least⟩
    have k_Style___init___s1 : FnK P wd K mg base 3 ((fun K => He.ma K (He.ga K "Style") "__init__") K) ([] : List Str) (pkS true 1 [0, 1, 2] [D.int 1, D.int 0] (sp_Style___init__ (He.ga K "Style"))) := (let ⟨fd, F⟩ := c.def_ 39 (d := dd_Style___init__) rfl; fnK_star (ps := P0_Style___init__) (pv := "kinds") (a := 1) (b := true) (ms := [("gap", V.int 1), ("least", V.int 0)]) (md := [D.int 1, D.int 0]) (ks := ([] : List Str)) (perm := [0, 1, 2]) F sc_Style___init__ (sub_Style___init___s1 K) (fun _ => .cons (.int _) (.cons (.int _) (.nil))) (len_Style___init__) (fun D kV doc pm an cdv ct us rest mv ws h1 hb l1 l2 l3 => match us, rest, mv, ws, l1, l2, l3, hb with | [_], [], [_, _], [], _, _, _, _ => h1.elim (fun z => nomatch z) fun e => by subst e; exact ⟨_, _, _, _, _, _, rfl, rfl, ⟨_, _, _, _, _, _, rfl, rfl, rfl⟩⟩ | [_], _ :: _, [_, _], [], _, _, _, _ => h1.elim (fun z => nomatch z) fun e => by subst e; exact ⟨_, _, _, _, _, _, rfl, rfl, ⟨_, _, _, _, _, _, rfl, rfl, rfl⟩⟩) fun cdv A outer s H E hG hr => let ⟨t, jb⟩ := d_Style___init__ hG hr m_len m_list g_LEFT c_are_kinds c_is_cell e_InvalidStyle cl_Style na_Style_held_kinds na_Style_held_gap na_Style_held_least; ⟨t, _, jb, p_Style___init__ (He.ga K "InvalidStyle") (He.ga K "Style")⟩)
    have mk_Style___init___s1 : CtorK P wd K mg base (He.ga K "Style") 3 ([] : List Str) (pkS true 1 [0, 1, 2] [D.int 1, D.int 0] (sp_Style___init__ (He.ga K "Style"))) := ⟨_, He.mkr_ok (c.fact 91 (f := (fun K => (He.Fa.mkr "Style").ok K)) rfl), k_Style___init___s1⟩
    have k_Style___init___s1_gap : FnK P wd K mg base 3 ((fun K => He.ma K (He.ga K "Style") "__init__") K) (["gap"] : List Str) (pkS true 1 [0, 2, 1] [D.int 0] (sp_Style___init__ (He.ga K "Style"))) := (let ⟨fd, F⟩ := c.def_ 39 (d := dd_Style___init__) rfl; fnK_star (ps := P0_Style___init__) (pv := "kinds") (a := 1) (b := true) (ms := [("least", V.int 0)]) (md := [D.int 0]) (ks := (["gap"] : List Str)) (perm := [0, 2, 1]) F sc_Style___init__ (sub_Style___init___s1_gap K) (fun _ => .cons (.int _) (.nil)) (len_Style___init__) (fun D kV doc pm an cdv ct us rest mv ws h1 hb l1 l2 l3 => match us, rest, mv, ws, l1, l2, l3, hb with | [_], [], [_], [_], _, _, _, _ => h1.elim (fun z => nomatch z) fun e => by subst e; exact ⟨_, _, _, _, _, _, rfl, rfl, rfl⟩ | [_], _ :: _, [_], [_], _, _, _, _ => h1.elim (fun z => nomatch z) fun e => by subst e; exact ⟨_, _, _, _, _, _, rfl, rfl, rfl⟩) fun cdv A outer s H E hG hr => let ⟨t, jb⟩ := d_Style___init__ hG hr m_len m_list g_LEFT c_are_kinds c_is_cell e_InvalidStyle cl_Style na_Style_held_kinds na_Style_held_gap na_Style_held_least; ⟨t, _, jb, p_Style___init__ (He.ga K "InvalidStyle") (He.ga K "Style")⟩)
    have mk_Style___init___s1_gap : CtorK P wd K mg base (He.ga K "Style") 3 (["gap"] : List Str) (pkS true 1 [0, 2, 1] [D.int 0] (sp_Style___init__ (He.ga K "Style"))) := ⟨_, He.mkr_ok (c.fact 91 (f := (fun K => (He.Fa.mkr "Style").ok K)) rfl), k_Style___init___s1_gap⟩
    have c__law_grid : CalG P wd K mg base "_law_grid" s__law_grid 3 P__law_grid sp__law_grid := calG_ok t__law_grid (fun _ _ _ _ _ _ us hl => match us, hl with | [_, _, _, _], _ => rfl) sc__law_grid (len__law_grid) fun f cdv A outer s H E hG hr => let ⟨t, jb⟩ := d__law_grid hG hr c__law_roll c__law_row m_range m_len; ⟨t, _, jb, p__law_grid⟩
    have c__law_same : CalG P wd K mg base "_law_same" s__law_same 3 P__law_same (sp__law_same (He.ga K "Page")) := calG_ok t__law_same (fun _ _ _ _ _ _ us hl => match us, hl with | [_, _], _ => rfl) sc__law_same (len__law_same) fun f cdv A outer s H E hG hr => let ⟨t, jb⟩ := d__law_same hG hr pr_Page_table m_repr lk_Page m_len; ⟨t, _, jb, p__law_same (He.ga K "Page")⟩
    have c__law_emptied : CalG P wd K mg base "_law_emptied" s__law_emptied 3 P__law_emptied (sp__law_emptied (He.ga K "Page")) := calG_ok t__law_emptied (fun _ _ _ _ _ _ us hl => match us, hl with | [_, _], _ => rfl) sc__law_emptied (len__law_emptied) fun f cdv A outer s H E hG hr => let ⟨t, jb⟩ := d__law_emptied hG hr m_len m_range mt_Page_undo_to_2 pr_Page_table m_repr lk_Page mt_Page_undo_1; ⟨t, _, jb, p__law_emptied (He.ga K "Page")⟩
    have c_is_table : CalG P wd K mg base "is_table" s_is_table 4 P_is_table sp_is_table := calG_ok t_is_table (fun _ _ _ _ _ _ us hl => match us, hl with | [_], _ => rfl) sc_is_table (len_is_table) fun f cdv A outer s H E hG hr => let ⟨t, jb⟩ := d_is_table hG hr m_list m_isinstance m_len g_MOST_LINES c_is_line m_all; ⟨t, _, jb, p_is_table⟩
    have c_rooms_in : CalG P wd K mg base "rooms_in" s_rooms_in 4 P_rooms_in (sp_rooms_in (He.ga K "Style")) := calG_ok t_rooms_in (fun _ _ _ _ _ _ us hl => match us, hl with | [_, _], _ => rfl) sc_rooms_in (len_rooms_in) fun f cdv A outer s H E hG hr => let ⟨t, jb⟩ := d_rooms_in hG hr c_blocks_in c_room_of m_range; ⟨t, _, jb, p_rooms_in (He.ga K "Style")⟩
    have c_need_table : CalG P wd K mg base "need_table" s_need_table 5 P_need_table sp_need_table := calG_ok t_need_table (fun _ _ _ _ _ _ us hl => match us, hl with | [_], _ => rfl) sc_need_table (len_need_table) fun f cdv A outer s H E hG hr => let ⟨t, jb⟩ := d_need_table hG hr c_is_table e_InvalidTable; ⟨t, _, jb, p_need_table (He.ga K "InvalidTable")⟩
    have c_stops_in : CalG P wd K mg base "stops_in" s_stops_in 5 P_stops_in (sp_stops_in (He.ga K "Style")) := calG_ok t_stops_in (fun _ _ _ _ _ _ us hl => match us, hl with | [_, _], _ => rfl) sc_stops_in (len_stops_in) fun f cdv A outer s H E hG hr => let ⟨t, jb⟩ := d_stops_in hG hr c_rooms_in pr_Style_gap; ⟨t, _, jb, p_stops_in (He.ga K "Style")⟩
    have k_Page___init___s2 : FnK P wd K mg base 5 ((fun K => He.ma K (He.ga K "Page") "__init__") K) ([] : List Str) (pkS true 2 [0, 1] [] (sp_Page___init__ (He.ga K "Page") (He.ga K "InvalidTable"))) := (let ⟨fd, F⟩ := c.def_ 24 (d := dd_Page___init__) rfl; fnK_star (ps := P0_Page___init__) (pv := "lines") (a := 2) (b := true) (ms := []) (md := []) (ks := ([] : List Str)) (perm := [0, 1]) F sc_Page___init__ (fun q hq => nomatch hq) (fun _ => .nil) (len_Page___init__) (fun D kV doc pm an cdv ct us rest mv ws _ hb l1 l2 l3 => match us, rest, mv, ws, l1, l2, l3, hb with | [_, _], [], [], [], _, _, _, _ => rfl | [_, _], _ :: _, [], [], _, _, _, _ => rfl) fun cdv A outer s H E hG hr => let ⟨t, jb⟩ := d_Page___init__ hG hr c_is_table m_list e_InvalidTable cl_Page na_Page_own_style na_Page_own_lines na_Page_earlier na_Page_marked; ⟨t, _, jb, p_Page___init__ (He.ga K "InvalidTable") (He.ga K "Page")⟩)
    have mk_Page___init___s2 : CtorK P wd K mg base (He.ga K "Page") 5 ([] : List Str) (pkS true 2 [0, 1] [] (sp_Page___init__ (He.ga K "Page") (He.ga K "InvalidTable"))) := ⟨_, He.mkr_ok (c.fact 72 (f := (fun K => (He.Fa.mkr "Page").ok K)) rfl), k_Page___init___s2⟩
    have k_Style_of_4 : FnK P wd K mg base 5 ((fun K => He5.wf K (He.ga K "Style") "classmethod" "of") K) ([] : List Str) (pkP 4 [0, 1, 2, 3] [] (sp_Style_of (He.ga K "Style"))) := (let ⟨fd, F⟩ := c.def_ 40 (d := dd_Style_of) rfl; fnK_plain (ms := []) (md := []) (ks := ([] : List Str)) (perm := [0, 1, 2, 3]) (n := 4) F sc_Style_of (fun q hq => nomatch hq) (fun _ => .nil) (len_Style_of) (fun D kV doc pm an cdv ct us mv ws _ l1 l2 l3 => match us, mv, ws, l1, l2, l3 with | [_, _, _, _], [], [], _, _, _ => rfl) fun cdv A outer s H E hG hr => let ⟨t, jb⟩ := d_Style_of hG hr c_are_kinds e_InvalidStyle mk_Style___init___s1_gap_least; ⟨t, _, jb, p_Style_of (He.ga K "InvalidStyle") (He.ga K "Style")⟩)
    have cm_Style_Style_of_4 : CMetK P wd K mg base (He.ga K "Style") "of" 5 ([] : List Str) (pkP 4 [0, 1, 2, 3] [] (sp_Style_of (He.ga K "Style"))) := ⟨_, _, _, bCRd_ok (c.fact 103 (f := (bCRd "Style")) rfl), bCMet_ok (c.fact 104 (f := (bCMet "Style" "of")) rfl), k_Style_of_4⟩
    have c_ends_in : CalG P wd K mg base "ends_in" s_ends_in 6 P_ends_in (sp_ends_in (He.ga K "Style")) := calG_ok t_ends_in (fun _ _ _ _ _ _ us hl => match us, hl with | [_, _], _ => rfl) sc_ends_in (len_ends_in) fun f cdv A outer s H E hG hr => let ⟨t, jb⟩ := d_ends_in hG hr c_stops_in m_zip; ⟨t, _, jb, p_ends_in (He.ga K "Style")⟩
    have c_stops : CalG P wd K mg base "stops" s_stops 6 P_stops (sp_stops (He.ga K "Style")) := calG_ok t_stops (fun _ _ _ _ _ _ us hl => match us, hl with | [_, _], _ => rfl) sc_stops (len_stops) fun f cdv A outer s H E hG hr => let ⟨t, jb⟩ := d_stops hG hr c_need_table c_stops_in; ⟨t, _, jb, p_stops (He.ga K "Style")⟩
    have c_need_cell : CalG P wd K mg base "need_cell" s_need_cell 6 P_need_cell sp_need_cell := calG_ok t_need_cell (fun _ _ _ _ _ _ us hl => match us, hl with | [_, _, _, _], _ => rfl) sc_need_cell (len_need_cell) fun f cdv A outer s H E hG hr => let ⟨t, jb⟩ := d_need_cell hG hr c_need_table c_need_line m_len e_InvalidColumn c_is_cell e_InvalidCell; ⟨t, _, jb, p_need_cell (He.ga K "InvalidColumn") (He.ga K "InvalidCell")⟩
    have c_with_line : CalG P wd K mg base "with_line" s_with_line 6 P_with_line sp_with_line := calG_ok t_with_line (fun _ _ _ _ _ _ us hl => match us, hl with | [_, _, _], _ => rfl) sc_with_line (len_with_line) fun f cdv A outer s H E hG hr => let ⟨t, jb⟩ := d_with_line hG hr c_need_table m_len e_InvalidLine c_is_line e_InvalidCell g_MOST_LINES e_InvalidTable c_copy_of; ⟨t, _, jb, p_with_line (He.ga K "InvalidLine") (He.ga K "InvalidCell") (He.ga K "InvalidTable")⟩
    have c_without_line : CalG P wd K mg base "without_line" s_without_line 6 P_without_line sp_without_line := calG_ok t_without_line (fun _ _ _ _ _ _ us hl => match us, hl with | [_, _], _ => rfl) sc_without_line (len_without_line) fun f cdv A outer s H E hG hr => let ⟨t, jb⟩ := d_without_line hG hr c_need_table c_need_line m_len e_InvalidTable c_copy_of; ⟨t, _, jb, p_without_line (He.ga K "InvalidTable")⟩
    have c_width_in : CalG P wd K mg base "width_in" s_width_in 7 P_width_in (sp_width_in (He.ga K "Style")) := calG_ok t_width_in (fun _ _ _ _ _ _ us hl => match us, hl with | [_, _], _ => rfl) sc_width_in (len_width_in) fun f cdv A outer s H E hG hr => let ⟨t, jb⟩ := d_width_in hG hr c_ends_in m_max; ⟨t, _, jb, p_width_in (He.ga K "Style")⟩
    have c_with_cell : CalG P wd K mg base "with_cell" s_with_cell 7 P_with_cell sp_with_cell := calG_ok t_with_cell (fun _ _ _ _ _ _ us hl => match us, hl with | [_, _, _, _], _ => rfl) sc_with_cell (len_with_cell) fun f cdv A outer s H E hG hr => let ⟨t, jb⟩ := d_with_cell hG hr c_need_cell c_changed; ⟨t, _, jb, p_with_cell⟩
    have k_Page_of_1_style_table : FnK P wd K mg base 7 ((fun K => He5.wf K (He.ga K "Page") "classmethod" "of") K) (["style", "table"] : List Str) (pkP 1 [0, 1, 2] [] (sp_Page_of (He.ga K "Page"))) := (let ⟨fd, F⟩ := c.def_ 25 (d := dd_Page_of) rfl; fnK_plain (ms := []) (md := []) (ks := (["style", "table"] : List Str)) (perm := [0, 1, 2]) (n := 1) F sc_Page_of (fun q hq => nomatch hq) (fun _ => .nil) (len_Page_of) (fun D kV doc pm an cdv ct us mv ws _ l1 l2 l3 => match us, mv, ws, l1, l2, l3 with | [_], [], [_, _], _, _, _ => rfl) fun cdv A outer s H E hG hr => let ⟨t, jb⟩ := d_Page_of hG hr c_is_table e_InvalidTable mk_Page___init___s2; ⟨t, _, jb, p_Page_of (He.ga K "InvalidTable") (He.ga K "Page")⟩)
    have cm_Page_Page_of_1_style_table : CMetK P wd K mg base (He.ga K "Page") "of" 7 (["style", "table"] : List Str) (pkP 1 [0, 1, 2] [] (sp_Page_of (He.ga K "Page"))) := ⟨_, _, _, bCRd_ok (c.fact 105 (f := (bCRd "Page")) rfl), bCMet_ok (c.fact 106 (f := (bCMet "Page" "of")) rfl), k_Page_of_1_style_table⟩
    have k_Page_of_3 : FnK P wd K mg base 7 ((fun K => He5.wf K (He.ga K "Page") "classmethod" "of") K) ([] : List Str) (pkP 3 [0, 1, 2] [] (sp_Page_of (He.ga K "Page"))) := (let ⟨fd, F⟩ := c.def_ 25 (d := dd_Page_of) rfl; fnK_plain (ms := []) (md := []) (ks := ([] : List Str)) (perm := [0, 1, 2]) (n := 3) F sc_Page_of (fun q hq => nomatch hq) (fun _ => .nil) (len_Page_of) (fun D kV doc pm an cdv ct us mv ws _ l1 l2 l3 => match us, mv, ws, l1, l2, l3 with | [_, _, _], [], [], _, _, _ => rfl) fun cdv A outer s H E hG hr => let ⟨t, jb⟩ := d_Page_of hG hr c_is_table e_InvalidTable mk_Page___init___s2; ⟨t, _, jb, p_Page_of (He.ga K "InvalidTable") (He.ga K "Page")⟩)
    have cm_Page_Page_of_3 : CMetK P wd K mg base (He.ga K "Page") "of" 7 ([] : List Str) (pkP 3 [0, 1, 2] [] (sp_Page_of (He.ga K "Page"))) := ⟨_, _, _, bCRd_ok (c.fact 105 (f := (bCRd "Page")) rfl), bCMet_ok (c.fact 106 (f := (bCMet "Page" "of")) rfl), k_Page_of_3⟩
    have k_Page_put_3 : FnK P wd K mg base 7 ((fun K => He.ma K (He.ga K "Page") "put") K) ([] : List Str) (pkP 3 [0, 1, 2] [] (sp_Page_put (He.ga K "Page"))) := (let ⟨fd, F⟩ := c.def_ 29 (d := dd_Page_put) rfl; fnK_plain (ms := []) (md := []) (ks := ([] : List Str)) (perm := [0, 1, 2]) (n := 3) F sc_Page_put (fun q hq => nomatch hq) (fun _ => .nil) (len_Page_put) (fun D kV doc pm an cdv ct us mv ws _ l1 l2 l3 => match us, mv, ws, l1, l2, l3 with | [_, _, _], [], [], _, _, _ => rfl) fun cdv A outer s H E hG hr => let ⟨t, jb⟩ := d_Page_put hG hr c_with_line cl_Page na_Page_own_lines mt_Page_go_on_2; ⟨t, _, jb, p_Page_put (He.ga K "Page")⟩)
    have mt_Page_put_3 : MethK P wd K mg base (He.ga K "Page") "put" 7 ([] : List Str) (pkP 3 [0, 1, 2] [] (sp_Page_put (He.ga K "Page"))) := ⟨He.cls_ok (c.fact 67 (f := (fun K => (He.Fa.cls "Page").ok K)) rfl), _, He.meth_ok (c.fact 95 (f := (fun K => (He.Fa.meth "Page" "put").ok K)) rfl), k_Page_put_3⟩
    have k_Page_put_1_cells_line : FnK P wd K mg base 7 ((fun K => He.ma K (He.ga K "Page") "put") K) (["cells", "line"] : List Str) (pkP 1 [0, 2, 1] [] (sp_Page_put (He.ga K "Page"))) := (let ⟨fd, F⟩ := c.def_ 29 (d := dd_Page_put) rfl; fnK_plain (ms := []) (md := []) (ks := (["cells", "line"] : List Str)) (perm := [0, 2, 1]) (n := 1) F sc_Page_put (fun q hq => nomatch hq) (fun _ => .nil) (len_Page_put) (fun D kV doc pm an cdv ct us mv ws _ l1 l2 l3 => match us, mv, ws, l1, l2, l3 with | [_], [], [_, _], _, _, _ => rfl) fun cdv A outer s H E hG hr => let ⟨t, jb⟩ := d_Page_put hG hr c_with_line cl_Page na_Page_own_lines mt_Page_go_on_2; ⟨t, _, jb, p_Page_put (He.ga K "Page")⟩)
    have mt_Page_put_1_cells_line : MethK P wd K mg base (He.ga K "Page") "put" 7 (["cells", "line"] : List Str) (pkP 1 [0, 2, 1] [] (sp_Page_put (He.ga K "Page"))) := ⟨He.cls_ok (c.fact 67 (f := (fun K => (He.Fa.cls "Page").ok K)) rfl), _, He.meth_ok (c.fact 95 (f := (fun K => (He.Fa.meth "Page" "put").ok K)) rfl), k_Page_put_1_cells_line⟩
    have k_Page_drop_2 : FnK P wd K mg base 7 ((fun K => He.ma K (He.ga K "Page") "drop") K) ([] : List Str) (pkP 2 [0, 1] [] (sp_Page_drop (He.ga K "Page"))) := (let ⟨fd, F⟩ := c.def_ 30 (d := dd_Page_drop) rfl; fnK_plain (ms := []) (md := []) (ks := ([] : List Str)) (perm := [0, 1]) (n := 2) F sc_Page_drop (fun q hq => nomatch hq) (fun _ => .nil) (len_Page_drop) (fun D kV doc pm an cdv ct us mv ws _ l1 l2 l3 => match us, mv, ws, l1, l2, l3 with | [_, _], [], [], _, _, _ => rfl) fun cdv A outer s H E hG hr => let ⟨t, jb⟩ := d_Page_drop hG hr c_without_line cl_Page na_Page_own_lines mt_Page_go_on_2; ⟨t, _, jb, p_Page_drop (He.ga K "Page")⟩)
    have mt_Page_drop_2 : MethK P wd K mg base (He.ga K "Page") "drop" 7 ([] : List Str) (pkP 2 [0, 1] [] (sp_Page_drop (He.ga K "Page"))) := ⟨He.cls_ok (c.fact 67 (f := (fun K => (He.Fa.cls "Page").ok K)) rfl), _, He.meth_ok (c.fact 94 (f := (fun K => (He.Fa.meth "Page" "drop").ok K)) rfl), k_Page_drop_2⟩
    have k_Page_drop_1_line : FnK P wd K mg base 7 ((fun K => He.ma K (He.ga K "Page") "drop") K) (["line"] : List Str) (pkP 1 [0, 1] [] (sp_Page_drop (He.ga K "Page"))) := (let ⟨fd, F⟩ := c.def_ 30 (d := dd_Page_drop) rfl; fnK_plain (ms := []) (md := []) (ks := (["line"] : List Str)) (perm := [0, 1]) (n := 1) F sc_Page_drop (fun q hq => nomatch hq) (fun _ => .nil) (len_Page_drop) (fun D kV doc pm an cdv ct us mv ws _ l1 l2 l3 => match us, mv, ws, l1, l2, l3 with | [_], [], [_], _, _, _ => rfl) fun cdv A outer s H E hG hr => let ⟨t, jb⟩ := d_Page_drop hG hr c_without_line cl_Page na_Page_own_lines mt_Page_go_on_2; ⟨t, _, jb, p_Page_drop (He.ga K "Page")⟩)
    have mt_Page_drop_1_line : MethK P wd K mg base (He.ga K "Page") "drop" 7 (["line"] : List Str) (pkP 1 [0, 1] [] (sp_Page_drop (He.ga K "Page"))) := ⟨He.cls_ok (c.fact 67 (f := (fun K => (He.Fa.cls "Page").ok K)) rfl), _, He.meth_ok (c.fact 94 (f := (fun K => (He.Fa.meth "Page" "drop").ok K)) rfl), k_Page_drop_1_line⟩
    have k_Page_stops_1 : FnK P wd K mg base 7 ((fun K => He.ma K (He.ga K "Page") "stops") K) ([] : List Str) (pkP 1 [0] [] (sp_Page_stops (He.ga K "Style") (He.ga K "Page"))) := (let ⟨fd, F⟩ := c.def_ 32 (d := dd_Page_stops) rfl; fnK_plain (ms := []) (md := []) (ks := ([] : List Str)) (perm := [0]) (n := 1) F sc_Page_stops (fun q hq => nomatch hq) (fun _ => .nil) (len_Page_stops) (fun D kV doc pm an cdv ct us mv ws _ l1 l2 l3 => match us, mv, ws, l1, l2, l3 with | [_], [], [], _, _, _ => rfl) fun cdv A outer s H E hG hr => let ⟨t, jb⟩ := d_Page_stops hG hr cl_Page na_Page_own_style na_Page_own_lines c_stops al_stops_layout; ⟨t, _, jb, p_Page_stops (He.ga K "Page") (He.ga K "Style")⟩)
    have mt_Page_stops_1 : MethK P wd K mg base (He.ga K "Page") "stops" 7 ([] : List Str) (pkP 1 [0] [] (sp_Page_stops (He.ga K "Style") (He.ga K "Page"))) := ⟨He.cls_ok (c.fact 67 (f := (fun K => (He.Fa.cls "Page").ok K)) rfl), _, He.meth_ok (c.fact 111 (f := (fun K => (He.Fa.meth "Page" "stops").ok K)) rfl), k_Page_stops_1⟩
    have k_Page_twin_1 : FnK P wd K mg base 7 ((fun K => He.ma K (He.ga K "Page") "twin") K) ([] : List Str) (pkP 1 [0] [] (sp_Page_twin (He.ga K "Page"))) := (let ⟨fd, F⟩ := c.def_ 37 (d := dd_Page_twin) rfl; fnK_plain (ms := []) (md := []) (ks := ([] : List Str)) (perm := [0]) (n := 1) F sc_Page_twin (fun q hq => nomatch hq) (fun _ => .nil) (len_Page_twin) (fun D kV doc pm an cdv ct us mv ws _ l1 l2 l3 => match us, mv, ws, l1, l2, l3 with | [_], [], [], _, _, _ => rfl) fun cdv A outer s H E hG hr => let ⟨t, jb⟩ := d_Page_twin hG hr cl_Page na_Page_own_lines na_Page_own_style mk_Page___init___s2 h_Page na_Page_earlier m_list na_Page_marked; ⟨t, _, jb, p_Page_twin (He.ga K "Page") (He.ga K "InvalidTable")⟩)
    have mt_Page_twin_1 : MethK P wd K mg base (He.ga K "Page") "twin" 7 ([] : List Str) (pkP 1 [0] [] (sp_Page_twin (He.ga K "Page"))) := ⟨He.cls_ok (c.fact 67 (f := (fun K => (He.Fa.cls "Page").ok K)) rfl), _, He.meth_ok (c.fact 108 (f := (fun K => (He.Fa.meth "Page" "twin").ok K)) rfl), k_Page_twin_1⟩
    have c__law_sixty : CalG P wd K mg base "_law_sixty" s__law_sixty 7 P__law_sixty (sp__law_sixty (He.ga K "Page")) := calG_ok t__law_sixty (fun _ _ _ _ _ _ us hl => match us, hl with | [_, _, _, _], _ => rfl) sc__law_sixty (len__law_sixty) fun f cdv A outer s H E hG hr => let ⟨t, jb⟩ := d__law_sixty hG hr mk_Page___init___s2 h_Page; ⟨t, _, jb, p__law_sixty (He.ga K "Page") (He.ga K "InvalidTable")⟩
    have c__law_sixty_one : CalG P wd K mg base "_law_sixty_one" s__law_sixty_one 7 P__law_sixty_one (sp__law_sixty_one (He.ga K "Page") (He.ga K "InvalidTable")) := calG_ok t__law_sixty_one (fun _ _ _ _ _ _ us hl => match us, hl with | [_, _, _, _], _ => rfl) sc__law_sixty_one (len__law_sixty_one) fun f cdv A outer s H E hG hr => let ⟨t, jb⟩ := d__law_sixty_one hG hr mk_Page___init___s2 h_Page xm_InvalidTable h_InvalidTable; ⟨t, _, jb, p__law_sixty_one (He.ga K "Page") (He.ga K "InvalidTable")⟩
    have c__law_twelve : CalG P wd K mg base "_law_twelve" s__law_twelve 7 P__law_twelve (sp__law_twelve (He.ga K "Page")) := calG_ok t__law_twelve (fun _ _ _ _ _ _ us hl => match us, hl with | [_, _, _, _], _ => rfl) sc__law_twelve (len__law_twelve) fun f cdv A outer s H E hG hr => let ⟨t, jb⟩ := d__law_twelve hG hr mk_Page___init___s2 h_Page; ⟨t, _, jb, p__law_twelve (He.ga K "Page") (He.ga K "InvalidTable")⟩
    have c_width_of : CalG P wd K mg base "width_of" s_width_of 8 P_width_of (sp_width_of (He.ga K "Style")) := calG_ok t_width_of (fun _ _ _ _ _ _ us hl => match us, hl with | [_, _], _ => rfl) sc_width_of (len_width_of) fun f cdv A outer s H E hG hr => let ⟨t, jb⟩ := d_width_of hG hr c_need_table c_width_in; ⟨t, _, jb, p_width_of (He.ga K "Style")⟩
    have k_Page_change_4 : FnK P wd K mg base 8 ((fun K => He.ma K (He.ga K "Page") "change") K) ([] : List Str) (pkP 4 [0, 1, 2, 3] [] (sp_Page_change (He.ga K "Page"))) := (let ⟨fd, F⟩ := c.def_ 28 (d := dd_Page_change) rfl; fnK_plain (ms := []) (md := []) (ks := ([] : List Str)) (perm := [0, 1, 2, 3]) (n := 4) F sc_Page_change (fun q hq => nomatch hq) (fun _ => .nil) (len_Page_change) (fun D kV doc pm an cdv ct us mv ws _ l1 l2 l3 => match us, mv, ws, l1, l2, l3 with | [_, _, _, _], [], [], _, _, _ => rfl) fun cdv A outer s H E hG hr => let ⟨t, jb⟩ := d_Page_change hG hr c_with_cell cl_Page na_Page_own_lines mt_Page_go_on_2; ⟨t, _, jb, p_Page_change (He.ga K "Page")⟩)
    have mt_Page_change_4 : MethK P wd K mg base (He.ga K "Page") "change" 8 ([] : List Str) (pkP 4 [0, 1, 2, 3] [] (sp_Page_change (He.ga K "Page"))) := ⟨He.cls_ok (c.fact 67 (f := (fun K => (He.Fa.cls "Page").ok K)) rfl), _, He.meth_ok (c.fact 93 (f := (fun K => (He.Fa.meth "Page" "change").ok K)) rfl), k_Page_change_4⟩
    have k_Page_change_1_cell_column_line : FnK P wd K mg base 8 ((fun K => He.ma K (He.ga K "Page") "change") K) (["cell", "column", "line"] : List Str) (pkP 1 [0, 3, 2, 1] [] (sp_Page_change (He.ga K "Page"))) := (let ⟨fd, F⟩ := c.def_ 28 (d := dd_Page_change) rfl; fnK_plain (ms := []) (md := []) (ks := (["cell", "column", "line"] : List Str)) (perm := [0, 3, 2, 1]) (n := 1) F sc_Page_change (fun q hq => nomatch hq) (fun _ => .nil) (len_Page_change) (fun D kV doc pm an cdv ct us mv ws _ l1 l2 l3 => match us, mv, ws, l1, l2, l3 with | [_], [], [_, _, _], _, _, _ => rfl) fun cdv A outer s H E hG hr => let ⟨t, jb⟩ := d_Page_change hG hr c_with_cell cl_Page na_Page_own_lines mt_Page_go_on_2; ⟨t, _, jb, p_Page_change (He.ga K "Page")⟩)
    have mt_Page_change_1_cell_column_line : MethK P wd K mg base (He.ga K "Page") "change" 8 (["cell", "column", "line"] : List Str) (pkP 1 [0, 3, 2, 1] [] (sp_Page_change (He.ga K "Page"))) := ⟨He.cls_ok (c.fact 67 (f := (fun K => (He.Fa.cls "Page").ok K)) rfl), _, He.meth_ok (c.fact 93 (f := (fun K => (He.Fa.meth "Page" "change").ok K)) rfl), k_Page_change_1_cell_column_line⟩
    have k_Page_width_1 : FnK P wd K mg base 9 ((fun K => He.ma K (He.ga K "Page") "width") K) ([] : List Str) (pkP 1 [0] [] (sp_Page_width (He.ga K "Style") (He.ga K "Page"))) := (let ⟨fd, F⟩ := c.def_ 31 (d := dd_Page_width) rfl; fnK_plain (ms := []) (md := []) (ks := ([] : List Str)) (perm := [0]) (n := 1) F sc_Page_width (fun q hq => nomatch hq) (fun _ => .nil) (len_Page_width) (fun D kV doc pm an cdv ct us mv ws _ l1 l2 l3 => match us, mv, ws, l1, l2, l3 with | [_], [], [], _, _, _ => rfl) fun cdv A outer s H E hG hr => let ⟨t, jb⟩ := d_Page_width hG hr c_width_of cl_Page na_Page_own_style na_Page_own_lines; ⟨t, _, jb, p_Page_width (He.ga K "Page") (He.ga K "Style")⟩)
    have mt_Page_width_1 : MethK P wd K mg base (He.ga K "Page") "width" 9 ([] : List Str) (pkP 1 [0] [] (sp_Page_width (He.ga K "Style") (He.ga K "Page"))) := ⟨He.cls_ok (c.fact 67 (f := (fun K => (He.Fa.cls "Page").ok K)) rfl), _, He.meth_ok (c.fact 110 (f := (fun K => (He.Fa.meth "Page" "width").ok K)) rfl), k_Page_width_1⟩
    have c__law_edit : CalG P wd K mg base "_law_edit" s__law_edit 9 P__law_edit (sp__law_edit (He.ga K "Page")) := calG_ok t__law_edit (fun _ _ _ _ _ _ us hl => match us, hl with | [_, _, _, _], _ => rfl) sc__law_edit (len__law_edit) fun f cdv A outer s H E hG hr => let ⟨t, jb⟩ := d__law_edit hG hr c__law_roll m_len c__law_copied mt_Page_change_4 mt_Page_change_1_cell_column_line mt_Page_drop_2 mt_Page_drop_1_line c__law_row m_list mt_Page_put_3 mt_Page_put_1_cells_line; ⟨t, _, jb, p__law_edit (He.ga K "Page")⟩
    have c__law_marked : CalG P wd K mg base "_law_marked" s__law_marked 10 P__law_marked (sp__law_marked (He.ga K "Page")) := calG_ok t__law_marked (fun _ _ _ _ _ _ us hl => match us, hl with | [_, _, _, _], _ => rfl) sc__law_marked (len__law_marked) fun f cdv A outer s H E hG hr => let ⟨t, jb⟩ := d__law_marked hG hr m_range c__law_roll m_len mt_Page_mark_1 c__law_edit c__law_same; ⟨t, _, jb, p__law_marked (He.ga K "Page")⟩
    have c__law_many_right : CalG P wd K mg base "_law_many_right" s__law_many_right 10 P__law_many_right (sp__law_many_right (He.ga K "Style") (He.ga K "Page")) := calG_ok t__law_many_right (fun _ _ _ _ _ _ us hl => match us, hl with | [_, _, _, _], _ => rfl) sc__law_many_right (len__law_many_right) fun f cdv A outer s H E hG hr => let ⟨t, jb⟩ := d__law_many_right hG hr c__law_twelve c__law_sixty pr_Page_table m_repr mt_Page_width_1 h_Page cm_Page_Page_of_3 c__law_sixty_one mt_Page_change_4; ⟨t, _, jb, p__law_many_right (He.ga K "Page") (He.ga K "Style") (He.ga K "InvalidTable")⟩
    have c__law_lists_right : CalG P wd K mg base "_law_lists_right" s__law_lists_right 10 P__law_lists_right sp__law_lists_right := calG_ok t__law_lists_right (fun _ _ _ _ _ _ us hl => match us, hl with | [_, _], _ => rfl) sc__law_lists_right (len__law_lists_right) fun f cdv A outer s H E hG hr => let ⟨t, jb⟩ := d__law_lists_right hG hr mk_Style___init___s1_gap h_Style h_Page cm_Page_Page_of_3 mt_Page_put_3 mt_Page_width_1 mt_Page_stops_1 pr_Page_table m_repr; ⟨t, _, jb, p__law_lists_right (He.ga K "Style") (He.ga K "Page")⟩
    have c__law_right : CalG P wd K mg base "_law_right" s__law_right 11 P__law_right sp__law_right := calG_ok t__law_right (fun _ _ _ _ _ _ us hl => match us, hl with | [_, _, _], _ => rfl) sc__law_right (len__law_right) fun f cdv A outer s H E hG hr => let ⟨t, jb⟩ := d__law_right hG hr c__law_look c__law_copied h_Style cm_Style_Style_of_4 h_Page cm_Page_Page_of_1_style_table cm_Page_Page_of_3 c__law_marked i_Page m_list mt_Page_twin_1 c__law_same c__law_roll pr_Page_table m_repr c__law_emptied lk_Page m_len; ⟨t, _, jb, p__law_right (He.ga K "Style") (He.ga K "Page")⟩
    have c__law_single_right : CalG P wd K mg base "_law_single_right" s__law_single_right 11 P__law_single_right sp__law_single_right := calG_ok t__law_single_right (fun _ _ _ _ _ _ us hl => match us, hl with | [_], _ => rfl) sc__law_single_right (len__law_single_right) fun f cdv A outer s H E hG hr => let ⟨t, jb⟩ := d__law_single_right hG hr m_range c__law_row c__law_roll mk_Style___init___s1 h_Style mk_Page___init___s2 h_Page pr_Page_table m_repr c__law_many_right mt_Page_change_4; ⟨t, _, jb, p__law_single_right (He.ga K "Style") (He.ga K "Page") (He.ga K "InvalidTable")⟩
    have c_law : CalG P wd K mg base "law" s_law 12 P_law sp_law := calG_ok t_law (fun _ _ _ _ _ _ us hl => match us, hl with | [_], _ => rfl) sc_law (len_law) fun f cdv A outer s H E hG hr => let ⟨t, jb⟩ := d_law hG hr c__law_stock m_len m_min m_range c__law_roll m_int c__law_right c__law_grid c__law_single_right c__law_lists_right; ⟨t, _, jb, p_law⟩
    exact c_law
  obtain ⟨fd, F⟩ := c.def_ 60 (d := dd_law) rfl
  have e := hfa.symm.trans (He.glo_ok X G (c.fact 42 (f := (fun K => (He.Fa.glo "law").ok K)) rfl))
  cases e
  have b := FunD.bindsA (ps := ["_law_script"]) F fun _ _ _ _ _ _ us hl => match us, hl with | [_], _ => rfl
  refine ⟨fd, fun s v => b s [v] rfl, fun base _ _ => ?_⟩
  obtain ⟨f2, fd2, F2, hm, FS, _⟩ := (all base).ex
  have e2 := hfa.symm.trans hm
  cases e2
  have ed : fd2 = fd := fun_one FS F
  rw [← ed]
  exact F2
end DL
open PySem PySem.W PySem.Calls PyProof.Rows
theorem PySem.Challenge.cw_runtabs_k55_twins_and_passed_lists_holds : PySem.Challenge.rw_runtabs_k55_twins_and_passed_lists.Holds := by
  w_on; o_law
  refine HandSHeadRun.head_any (r := OpenLaw.row PySem.Challenge.rw_runtabs_k55_twins_and_passed_lists) (q := view (OpenLaw.row PySem.Challenge.rw_runtabs_k55_twins_and_passed_lists).prog [69]) (H := DL.hkL) (ob := DL.obL) (M := 8000) (loose := DL.othersL) (d := HandSHeadRun.topDef (OpenLaw.row PySem.Challenge.rw_runtabs_k55_twins_and_passed_lists).prog 69) (kwd := []) DL.obL_eq
    (by kernel_rfl) (fun s => by kernel_rfl) DL.runL (by kernel_rfl) (by kernel_rfl) (by kernel_rfl) (by rfl) (by first | assumption | decide +kernel) (by decide +kernel) ⟨rfl, rfl, rfl, rfl, rfl, by decide +kernel⟩ ?hw ?hc
  case hw => w_witness2
  case hc =>
    refine DL.walk_end (l := PySem.Challenge.rw_runtabs_k55_twins_and_passed_lists) (n := 63) (k := 12) (x := "_law_script") rfl (by decide) (by kernel_rfl) ⟨rfl, by decide, by decide⟩ ?F
    intro w mg fa h Y G hmg0
    obtain ⟨K, KX, c⟩ := Y
    have hmg : mg ("law" : PySem.Str) = some (.ref fa) := by
      have e : (HandSHeadRun.topDef (OpenLaw.row PySem.Challenge.rw_runtabs_k55_twins_and_passed_lists).prog 69).name = ("law" : PySem.Str) := by kernel_rfl
      rw [← e]
      exact hmg0
    obtain ⟨fd, hb, hF⟩ := DL.factsL (P := (PySem.Challenge.rw_runtabs_k55_twins_and_passed_lists).prog) (wd := w) KX G hmg c
    exact ⟨K, fd, DL.sp_law, KX, hb, fun ns hl hb => ⟨ns, rfl, fun _ => rfl⟩, hF⟩
