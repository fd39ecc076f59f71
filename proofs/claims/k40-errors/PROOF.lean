import PyProof.Rows.All
import Wide.All
import OpenK.AllK
import Wide.FinOn
import HandS.Base
import HandS.Call
import HandS.List
import HandS.Comp
import HandS.Ends
import HandS.Exc
import HandS.TryOnly
import HandS.ExcOwn
import HandS.WordsExc
import HandS.Words
import HandS.Wide
import HandS.Iter
import HandS.IsInst
import HandS.Text
import HandS.Flow
import HandS.HeadEnd
import HandS.EndBits
import HandS.HeadHook2
import HandS.Head2
import HandS.Defaults
import HandS.ExcIs
import HandS.Style
import HandS.More
import HandS.ClsMeth
import HandS.Property
import HandS.Star
import HandS.CallLocal
import HandS.HeadNt
import KE.KExcIs
import HandS.Strs
import HandS.ExcInit
import HandS.SetFor
import KE.IntTextLaws
import KE.IntTextText
import KE.KIntText
import HandS.DictSub
import HandS.RaiseMore
import PyProof.FactsLen
import HandS.Conv
import HandS.Dict
import HandS.SortRule
import HandS.Zip
import PyProof.EqAt
import PyProof.EqKinds
import HandS.TupLe
import PyProof.MinMaxWalk
import PyProof.WalkInts
import HandS.Deep
import KE.KStateDown
import HandS.Head0
import HandS.Head1
import HandS.HeadHook1
import PySem.Challenge.RW_runtabs_k40_errors_of_parting
set_option Elab.async false
set_option linter.all false
set_option maxRecDepth 100000
set_option maxHeartbeats 0
namespace DL
open PySem PySem.Spec PyProof.Rows L2
/-- data: what a value stands for; own h: the list in the h-th cell -/
inductive D where
  | non | bl (b : Bool) | int (i : Int) | str (x : Str)
  | lst (ds : List D) | tup (ds : List D)
  | sq (ds : List D)
  | ins (C : Addr) (fs : List (Str × D))
  | dic (kvs : List (Key × D))
  | obj (a : Addr)
  | own (h : Nat)
  | ty (n : String)
  | exc (C : Addr) (fs : List (Str × D))
inductive Cell where
  | lst (ds : List D)
  | ins (C : Addr) (fs : List (Str × D))
  | dct (kvs : List (List Key × D))
  | gone
abbrev Gam := List (Option D)
abbrev Sto := List Cell
mutual
inductive Rp (K : PySem.W.Frag) (F : Hp) (al : List Addr) : V → D → Prop
  | non : Rp K F al .non .non
  | bl (b : Bool) : Rp K F al (.bl b) (.bl b)
  | int (i : Int) : Rp K F al (.int i) (.int i)
  | str (x : Str) : Rp K F al (.str x) (.str x)
  | lst {a : Addr} {xs : List V} {ds : List D} : F a = some (.lst xs) → RpA K F al xs ds → Rp K F al (.ref a) (.lst ds)
  | sq {a : Addr} {xs : List V} {ds : List D} : SqL K F a xs → RpA K F al xs ds → Rp K F al (.ref a) (.sq ds)
  | tup {a : Addr} {xs : List V} {ds : List D} : SqT K F a xs → RpA K F al xs ds → Rp K F al (.ref a) (.tup ds)
  | ins {a C dx : Addr} {vs : List (Str × V)} {fs : List (Str × D)} : F a = some (.ins C dx vs) → RpF K F al vs fs → Rp K F al (.ref a) (.ins C fs)
  | dic {a : Addr} {vs : List (Key × V)} {ds : List (Key × D)} : F a = some (.dK vs) → RpK K F al vs ds → Rp K F al (.ref a) (.dic ds)
  | obj (a : Addr) : Rp K F al (.ref a) (.obj a)
  | own {h : Nat} {a : Addr} : al[h]? = some a → Rp K F al (.ref a) (.own h)
  | ty (n : String) : Rp K F al (.ty n) (.ty n)
  | exc0 {a C : Addr} {oe : Obj} {u : HO} : F a = some (.frz oe u) → oe.cls = .ref C → (∃ vs, oe.data = .fields vs) → oe.dict = none → Rp K F al (.ref a) (.exc C [])
  | excD {a C dx : Addr} {oe : Obj} {u : HO} {vs : List (Str × V)} {fs : List (Str × D)} : F a = some (.frz oe u) → oe.cls = .ref C → (∃ ws, oe.data = .fields ws) → oe.dict = some dx → F dx = some (.xd vs) → RpF K F al vs fs → Rp K F al (.ref a) (.exc C fs)
inductive RpA (K : PySem.W.Frag) (F : Hp) (al : List Addr) : List V → List D → Prop
  | nil : RpA K F al [] []
  | cons {v : V} {vs : List V} {d : D} {ds : List D} : Rp K F al v d → RpA K F al vs ds → RpA K F al (v :: vs) (d :: ds)
inductive RpF (K : PySem.W.Frag) (F : Hp) (al : List Addr) : List (Str × V) → List (Str × D) → Prop
  | nil : RpF K F al [] []
  | cons {n : Str} {v : V} {vs : List (Str × V)} {d : D} {ds : List (Str × D)} : Rp K F al v d → RpF K F al vs ds → RpF K F al ((n, v) :: vs) ((n, d) :: ds)
inductive RpK (K : PySem.W.Frag) (F : Hp) (al : List Addr) : List (Key × V) → List (Key × D) → Prop
  | nil : RpK K F al [] []
  | cons {n : Key} {v : V} {vs : List (Key × V)} {d : D} {ds : List (Key × D)} : Rp K F al v d → RpK K F al vs ds → RpK K F al ((n, v) :: vs) ((n, d) :: ds)
end
theorem sameSql {K : PySem.W.Frag} {F F' : Hp} {a : Addr} {xs : List V} (e : ∀ b o, F b = some o → F' b = some o) (h : SqL K F a xs) : SqL K F' a xs := by
  rcases h with (h | ⟨o, h⟩) | h
  · exact .inl (.inl (e _ _ h))
  · exact .inl (.inr ⟨o, e _ _ h⟩)
  · exact .inr h
theorem sameSqt {K : PySem.W.Frag} {F F' : Hp} {a : Addr} {xs : List V} (e : ∀ b o, F b = some o → F' b = some o) (h : SqT K F a xs) : SqT K F' a xs := by
  rcases h with (h | ⟨o, h⟩) | h
  · exact .inl (.inl (e _ _ h))
  · exact .inl (.inr ⟨o, e _ _ h⟩)
  · exact .inr h
section
variable {K : PySem.W.Frag} {F F' : Hp} {al al' : List Addr}
mutual
theorem Rp.mono (e : ∀ b o, F b = some o → F' b = some o) (ea : ∀ (h : Nat) (a : Addr), al[h]? = some a → al'[h]? = some a) : ∀ (d : D) (v : V), Rp K F al v d → Rp K F' al' v d
  | .non, _, h => by cases h; exact .non
  | .bl _, _, h => by cases h; exact .bl _
  | .int _, _, h => by cases h; exact .int _
  | .str _, _, h => by cases h; exact .str _
  | .lst ds, _, h => by
    cases h with
    | lst h1 h2 => exact .lst (e _ _ h1) (RpA.mono e ea ds _ h2)
  | .sq ds, _, h => by
    cases h with
    | sq h1 h2 => exact .sq (sameSql e h1) (RpA.mono e ea ds _ h2)
  | .tup ds, _, h => by
    cases h with
    | tup h1 h2 => exact .tup (sameSqt e h1) (RpA.mono e ea ds _ h2)
  | .ins C fs, _, h => by
    cases h with
    | ins h1 h2 => exact .ins (e _ _ h1) (RpF.mono e ea fs _ h2)
  | .dic fs, _, h => by
    cases h with
    | dic h1 h2 => exact .dic (e _ _ h1) (RpK.mono e ea fs _ h2)
  | .obj _, _, h => by cases h; exact .obj _
  | .own _, _, h => by
    cases h with
    | own h1 => exact .own (ea _ _ h1)
  | .ty _, _, h => by cases h; exact .ty _
  | .exc C fs, _, h => by
    cases h with
    | exc0 h1 h2 h0 h3 => exact .exc0 (e _ _ h1) h2 h0 h3
    | excD h1 h2 h0 h3 h4 h5 => exact .excD (e _ _ h1) h2 h0 h3 (e _ _ h4) (RpF.mono e ea fs _ h5)
theorem RpA.mono (e : ∀ b o, F b = some o → F' b = some o) (ea : ∀ (h : Nat) (a : Addr), al[h]? = some a → al'[h]? = some a) : ∀ (ds : List D) (vs : List V), RpA K F al vs ds → RpA K F' al' vs ds
  | [], _, h => by cases h; exact .nil
  | d :: ds, _, h => by
    cases h with
    | cons h1 h2 => exact .cons (Rp.mono e ea d _ h1) (RpA.mono e ea ds _ h2)
theorem RpF.mono (e : ∀ b o, F b = some o → F' b = some o) (ea : ∀ (h : Nat) (a : Addr), al[h]? = some a → al'[h]? = some a) : ∀ (ds : List (Str × D)) (vs : List (Str × V)), RpF K F al vs ds → RpF K F' al' vs ds
  | [], _, h => by cases h; exact .nil
  | (n, d) :: ds, _, h => by
    cases h with
    | cons h1 h2 => exact .cons (Rp.mono e ea d _ h1) (RpF.mono e ea ds _ h2)
theorem RpK.mono (e : ∀ b o, F b = some o → F' b = some o) (ea : ∀ (h : Nat) (a : Addr), al[h]? = some a → al'[h]? = some a) : ∀ (ds : List (Key × D)) (vs : List (Key × V)), RpK K F al vs ds → RpK K F' al' vs ds
  | [], _, h => by cases h; exact .nil
  | (n, d) :: ds, _, h => by
    cases h with
    | cons h1 h2 => exact .cons (Rp.mono e ea d _ h1) (RpK.mono e ea ds _ h2)
end
theorem RpA.length : ∀ {vs : List V} {ds : List D}, RpA K F al vs ds → vs.length = ds.length
  | _, _, .nil => rfl
  | _, _, .cons _ t => by rw [List.length_cons, List.length_cons, RpA.length t]
theorem RpA.get : ∀ {vs : List V} {ds : List D} {i : Nat} {d : D}, RpA K F al vs ds → ds[i]? = some d → ∃ v, vs[i]? = some v ∧ Rp K F al v d
  | _, _, i, _, .nil, e => by simp at e
  | _, _, 0, _, .cons r _, e => by simp at e; subst e; exact ⟨_, rfl, r⟩
  | _, _, i + 1, d, .cons _ t, e => by
    obtain ⟨v, h1, h2⟩ := RpA.get (i := i) (d := d) t (by simpa using e)
    exact ⟨v, by simpa using h1, h2⟩
theorem RpA.getV : ∀ {vs : List V} {ds : List D} {i : Nat} {v : V}, RpA K F al vs ds → vs[i]? = some v → ∃ d, ds[i]? = some d ∧ Rp K F al v d
  | _, _, i, _, .nil, e => by simp at e
  | _, _, 0, _, .cons r _, e => by simp at e; subst e; exact ⟨_, rfl, r⟩
  | _, _, i + 1, d, .cons _ t, e => by
    obtain ⟨v, h1, h2⟩ := RpA.getV (i := i) (v := d) t (by simpa using e)
    exact ⟨v, by simpa using h1, h2⟩
theorem RpA.append : ∀ {vs ws : List V} {ds es : List D}, RpA K F al vs ds → RpA K F al ws es → RpA K F al (vs ++ ws) (ds ++ es)
  | _, _, _, _, .nil, s => s
  | _, _, _, _, .cons r t, s => .cons r (RpA.append t s)
theorem RpA.set {v : V} {d : D} (r : Rp K F al v d) : ∀ {vs : List V} {ds : List D} (i : Nat), RpA K F al vs ds → RpA K F al (vs.set i v) (ds.set i d)
  | _, _, _, .nil => .nil
  | _, _, 0, .cons _ t => .cons r t
  | _, _, i + 1, .cons q t => .cons q (RpA.set r i t)
theorem RpA.take : ∀ {vs : List V} {ds : List D} (n : Nat), RpA K F al vs ds → RpA K F al (vs.take n) (ds.take n)
  | _, _, 0, _ => .nil
  | _, _, _ + 1, .nil => .nil
  | _, _, n + 1, .cons r t => .cons r (RpA.take n t)
theorem RpA.drop : ∀ {vs : List V} {ds : List D} (n : Nat), RpA K F al vs ds → RpA K F al (vs.drop n) (ds.drop n)
  | _, _, 0, r => r
  | _, _, _ + 1, .nil => .nil
  | _, _, n + 1, .cons _ t => RpA.drop n t
theorem RpA.reverse : ∀ {vs : List V} {ds : List D}, RpA K F al vs ds → RpA K F al vs.reverse ds.reverse
  | _, _, .nil => .nil
  | _, _, .cons r t => by
    rw [List.reverse_cons, List.reverse_cons]
    exact (RpA.reverse t).append (.cons r .nil)
end
/-- where one stands: the frozen part, the cells' addresses, the whole -/
structure Hs where
  F : Hp
  al : List Addr
  H : Hp
abbrev Rv (K : PySem.W.Frag) (w : Hs) (v : V) (d : D) : Prop := Rp K w.F w.al v d
abbrev Ra (K : PySem.W.Frag) (w : Hs) (vs : List V) (ds : List D) : Prop := RpA K w.F w.al vs ds
/-- the entries of a dict whose keys are tuples -/
def RpT (K : PySem.W.Frag) (F : Hp) (al : List Addr) (us : List (List Key × V)) (ks : List (List Key × D)) : Prop :=
  us.length = ks.length ∧ ∀ (i : Nat) (k : List Key) (d : D), ks[i]? = some (k, d) → ∃ v, us[i]? = some (k, v) ∧ Rp K F al v d
theorem RpT.mono {K : PySem.W.Frag} {F F' : Hp} {al al' : List Addr} (e : ∀ b o, F b = some o → F' b = some o) (ea : ∀ (h : Nat) (a : Addr), al[h]? = some a → al'[h]? = some a) {us : List (List Key × V)} {ks : List (List Key × D)} (h : RpT K F al us ks) : RpT K F' al' us ks :=
  ⟨h.1, fun i k d q => let ⟨v, a, b⟩ := h.2 i k d q; ⟨v, a, Rp.mono e ea d v b⟩⟩
def CellOk (K : PySem.W.Frag) (w : Hs) (a : Addr) : Cell → Prop
  | .lst ds => w.F a = none ∧ ∃ xs, w.H a = some (.lst xs) ∧ Ra K w xs ds
  | .ins C fs => w.F a = none ∧ ∃ dx vs, w.H a = some (.ins C dx vs) ∧ RpF K w.F w.al vs fs
  | .dct ks => w.F a = none ∧ ∃ us, w.H a = some (.dT us) ∧ RpT K w.F w.al us ks
  | .gone => True
structure Good (K : PySem.W.Frag) (w : Hs) (S : Sto) : Prop where
  sub : ∀ a o, w.F a = some o → w.H a = some o
  nd : w.al.Nodup
  len : w.al.length = S.length
  cell : ∀ (h : Nat) (a : Addr) (c : Cell), w.al[h]? = some a → S[h]? = some c → CellOk K w a c
  dom : ∀ a ∈ w.al, w.H a ≠ none
structure Ext (w w' : Hs) : Prop where
  f : ∀ a o, w.F a = some o → w'.F a = some o
  al : ∃ β, w'.al = w.al ++ β ∧ ∀ b ∈ β, w.H b = none
  new : ∀ a o, w'.F a = some o → w.F a = some o ∨ w.H a = none ∨ a ∈ w.al
  kp : ∀ a o, w.H a = some o → a ∉ w.al → w'.H a = some o
  dm : ∀ a, w.H a ≠ none → w'.H a ≠ none
theorem Ext.refl (w : Hs) : Ext w w := ⟨fun _ _ h => h, ⟨[], by simp, by simp⟩, fun _ _ h => .inl h, fun _ _ h _ => h, fun _ h => h⟩
theorem Ext.alx {w w' : Hs} (e : Ext w w') : ∀ (h : Nat) (a : Addr), w.al[h]? = some a → w'.al[h]? = some a := fun h a q => by
  obtain ⟨β, eq, _⟩ := e.al
  rw [eq, List.getElem?_append_left (List.getElem?_eq_some_iff.mp q).1]
  exact q
theorem Ext.mem {w w' : Hs} (e : Ext w w') {a : Addr} (h : a ∈ w.al) : a ∈ w'.al := by
  obtain ⟨β, eq, _⟩ := e.al
  rw [eq]
  exact List.mem_append_left _ h
theorem Ext.old {w w' : Hs} (e : Ext w w') {a : Addr} (h : a ∈ w'.al) : a ∈ w.al ∨ w.H a = none := by
  obtain ⟨β, eq, hb⟩ := e.al
  rw [eq] at h
  rcases List.mem_append.mp h with z | z
  · exact .inl z
  · exact .inr (hb a z)
theorem Ext.fresh {w w' : Hs} (e : Ext w w') {a : Addr} (h : w'.H a = none) : w.H a = none := by
  cases q : w.H a with
  | none => rfl
  | some o => exact absurd h (e.dm a (by rw [q]; exact fun z => nomatch z))
theorem Ext.trans {w w1 w2 : Hs} (a : Ext w w1) (b : Ext w1 w2) : Ext w w2 where
  f := fun x o h => b.f x o (a.f x o h)
  al := by
    obtain ⟨β, e1, h1⟩ := a.al
    obtain ⟨γ, e2, h2⟩ := b.al
    refine ⟨β ++ γ, by rw [e2, e1, List.append_assoc], fun x hx => ?_⟩
    rcases List.mem_append.mp hx with z | z
    · exact h1 x z
    · exact a.fresh (h2 x z)
  new := fun x o h => by
    rcases b.new x o h with z | z | z
    · exact a.new x o z
    · exact .inr (.inl (a.fresh z))
    · rcases a.old z with y | y
      · exact .inr (.inr y)
      · exact .inr (.inl y)
  kp := fun x o h n => b.kp x o (a.kp x o h n) fun z => by
    rcases a.old z with y | y
    · exact n y
    · rw [h] at y; cases y
  dm := fun x h => b.dm x (a.dm x h)
theorem Ext.rp {K : PySem.W.Frag} {w w' : Hs} (e : Ext w w') {v : V} {d : D} (h : Rv K w v d) : Rv K w' v d := Rp.mono e.f e.alx d v h
theorem Ext.ra {K : PySem.W.Frag} {w w' : Hs} (e : Ext w w') {v : List V} {d : List D} (h : Ra K w v d) : Ra K w' v d := RpA.mono e.f e.alx d v h
/-- slots -/
def Slots (K : PySem.W.Frag) (w : Hs) (σ : L2.St) (Γ : Gam) : Prop := Γ.length = σ.length ∧ ∀ (i : Nat) (d : D), Γ[i]? = some (some d) → ∃ v, σ[i]? = some (some v) ∧ Rv K w v d
theorem Slots.ext {K : PySem.W.Frag} {w w' : Hs} {σ : L2.St} {Γ : Gam} (e : Ext w w') (h : Slots K w σ Γ) : Slots K w' σ Γ :=
  ⟨h.1, fun i d q => let ⟨v, a, b⟩ := h.2 i d q; ⟨v, a, e.rp b⟩⟩
theorem Slots.set {K : PySem.W.Frag} {w : Hs} {σ : L2.St} {Γ : Gam} {v : V} {d : D} (h : Slots K w σ Γ) (r : Rv K w v d) (i : Nat) : Slots K w (σ.set i (some v)) (Γ.set i (some d)) := by
  refine ⟨by rw [List.length_set, List.length_set]; exact h.1, fun j e q => ?_⟩
  by_cases hj : i = j
  · subst hj
    by_cases hl : i < Γ.length
    · rw [List.getElem?_set_self hl] at q
      cases q
      exact ⟨v, by rw [List.getElem?_set_self (by rw [← h.1]; exact hl)], r⟩
    · rw [List.getElem?_eq_none (by rw [List.length_set]; omega)] at q
      cases q
  · rw [List.getElem?_set_ne hj] at q
    obtain ⟨u, a, b⟩ := h.2 j e q
    exact ⟨u, by rw [List.getElem?_set_ne hj]; exact a, b⟩
/-- a slot forgotten -/
theorem Slots.unset {K : PySem.W.Frag} {w : Hs} {σ : L2.St} {Γ : Gam} (h : Slots K w σ Γ) (i : Nat) : Slots K w (σ.set i none) (Γ.set i none) := by
  refine ⟨by rw [List.length_set, List.length_set]; exact h.1, fun j e q => ?_⟩
  by_cases hj : i = j
  · subst hj
    by_cases hl : i < Γ.length
    · rw [List.getElem?_set_self hl] at q
      cases q
    · rw [List.getElem?_eq_none (by rw [List.length_set]; omega)] at q
      cases q
  · rw [List.getElem?_set_ne hj] at q
    obtain ⟨u, a, b⟩ := h.2 j e q
    exact ⟨u, by rw [List.getElem?_set_ne hj]; exact a, b⟩
def gwipe (Γ : Gam) : List Nat → Gam
  | [] => Γ
  | v :: vs => (gwipe Γ vs).set v none
theorem Slots.wipe {K : PySem.W.Frag} {w : Hs} {σ : L2.St} {Γ : Gam} (h : Slots K w σ Γ) : ∀ vs : List Nat, Slots K w (L2.wipe σ vs) (gwipe Γ vs)
  | [] => h
  | v :: vs => (Slots.wipe h vs).unset v
section
variable {K : PySem.W.Frag} {w : Hs} {S : Sto}
/-- a new frozen object -/
def Hs.frz (w : Hs) (p : Addr) (o : HO) : Hs := ⟨upd w.F p o, w.al, upd w.H p o⟩
theorem Good.notF (g : Good K w S) {p : Addr} (h : w.H p = none) : w.F p = none := by
  cases q : w.F p with
  | none => rfl
  | some o => rw [g.sub p o q] at h; cases h
theorem Good.notA (g : Good K w S) {p : Addr} (h : w.H p = none) : p ∉ w.al := fun z => g.dom p z h
theorem updF {H : Hp} {p : Addr} {o : HO} (h : H p = none) : ∀ a x, H a = some x → upd H p o a = some x := fun a x e => by
  rw [upd_ne (ne_of_none e h)]
  exact e
theorem Ext.frz (g : Good K w S) {p : Addr} (o : HO) (h : w.H p = none) : Ext w (w.frz p o) where
  f := updF (g.notF h)
  al := ⟨[], by simp [Hs.frz], by simp⟩
  new := fun a x e => by
    by_cases q : a = p
    · subst q; exact .inr (.inl h)
    · have e2 : upd w.F p o a = some x := e
      rw [upd_ne q] at e2
      exact .inl e2
  kp := fun a x e _ => updF h a x e
  dm := fun a e => by
    show upd w.H p o a ≠ none
    by_cases q : a = p
    · subst q; rw [upd_same]; exact fun z => nomatch z
    · rw [upd_ne q]; exact e
theorem cell_ext {w w' : Hs} (e : Ext w w') {a : Addr} {c : Cell} (hF : w.F a = none → w'.F a = none) (hH : ∀ o, w.H a = some o → w'.H a = some o) (h : CellOk K w a c) : CellOk K w' a c := by
  cases c with
  | gone => exact True.intro
  | lst ds =>
    obtain ⟨h1, xs, h2, h3⟩ := h
    exact ⟨hF h1, xs, hH _ h2, e.ra h3⟩
  | ins C fs =>
    obtain ⟨h1, dx, vs, h2, h3⟩ := h
    exact ⟨hF h1, dx, vs, hH _ h2, RpF.mono e.f e.alx fs vs h3⟩
  | dct ks =>
    obtain ⟨h1, us, h2, h3⟩ := h
    exact ⟨hF h1, us, hH _ h2, h3.mono e.f e.alx⟩
theorem Good.frz (g : Good K w S) {p : Addr} (o : HO) (h : w.H p = none) : Good K (w.frz p o) S := by
  have e := Ext.frz g o h
  refine ⟨fun a x q => ?_, g.nd, g.len, fun n a c q1 q2 => ?_, fun a q => e.dm a (g.dom a q)⟩
  · have q2 : upd w.F p o a = some x := q
    show upd w.H p o a = some x
    by_cases z : a = p
    · subst z; rw [upd_same] at q2 ⊢; exact q2
    · rw [upd_ne z] at q2 ⊢; exact g.sub a x q2
  · have hne : a ≠ p := fun z => g.dom a (List.mem_of_getElem? q1) (by rw [z]; exact h)
    exact cell_ext e (fun z => by show upd w.F p o a = none; rw [upd_ne hne]; exact z) (fun x z => updF h a x z) (g.cell n a c q1 q2)
/-- a new cell -/
def Hs.cel (w : Hs) (p : Addr) (o : HO) : Hs := ⟨w.F, w.al ++ [p], upd w.H p o⟩
theorem Ext.cel (g : Good K w S) {p : Addr} (o : HO) (h : w.H p = none) : Ext w (w.cel p o) where
  f := fun _ _ e => e
  al := ⟨[p], rfl, fun b hb => by rw [List.mem_singleton.mp hb]; exact h⟩
  new := fun a x e => .inl e
  kp := fun a x e _ => updF h a x e
  dm := fun a e => by
    show upd w.H p o a ≠ none
    by_cases q : a = p
    · subst q; rw [upd_same]; exact fun z => nomatch z
    · rw [upd_ne q]; exact e
/-- a new cell c at p in a world where new things stand beside it -/
theorem Good.cell' {w' : Hs} (g : Good K w S) {p : Addr} {c0 : Cell} (h : w.H p = none) (e : Ext w w') (hF : w'.F = w.F) (hal : w'.al = w.al ++ [p]) (hH : ∀ a x, w.H a = some x → w'.H a = some x) (hp : w'.H p ≠ none) (ok : CellOk K w' p c0) : Good K w' (S ++ [c0]) := by
  refine ⟨fun a x q => hH a x (g.sub a x (by rw [← hF]; exact q)), ?_, ?_, fun n a c q1 q2 => ?_, fun a q => ?_⟩
  · rw [hal, List.nodup_append]
    exact ⟨g.nd, by simp, fun a ha b hb => by rw [List.mem_singleton.mp hb]; exact fun z => g.notA h (z ▸ ha)⟩
  · rw [hal, List.length_append, List.length_append, g.len] <;> rfl
  · rw [hal] at q1
    by_cases hn : n < w.al.length
    · rw [List.getElem?_append_left hn] at q1
      rw [List.getElem?_append_left (by rw [← g.len]; exact hn)] at q2
      exact cell_ext e (fun z => by rw [hF]; exact z) (fun x z => hH a x z) (g.cell n a c q1 q2)
    · have hn2 : n = w.al.length := by
        have := (List.getElem?_eq_some_iff.mp q1).1
        rw [List.length_append] at this
        have h1 : [p].length = 1 := rfl
        omega
      subst hn2
      rw [List.getElem?_append_right (Nat.le_refl _), Nat.sub_self] at q1
      rw [List.getElem?_append_right (by rw [g.len]; exact Nat.le_refl _), g.len, Nat.sub_self] at q2
      have e1 : p = a := Option.some.inj q1
      have e2 : c0 = c := Option.some.inj q2
      subst e1; subst e2
      exact ok
  · rw [hal] at q
    rcases List.mem_append.mp q with z | z
    · exact e.dm a (g.dom a z)
    · rw [List.mem_singleton.mp z]
      exact hp
theorem upd_some {H : Hp} {p : Addr} {o : HO} : upd H p o p ≠ none := by
  rw [upd_same]; exact fun z => nomatch z
theorem Good.cel (g : Good K w S) {p : Addr} {xs : List V} {ds : List D} (h : w.H p = none) (r : Ra K w xs ds) : Good K (w.cel p (.lst xs)) (S ++ [.lst ds]) :=
  g.cell' h (Ext.cel g _ h) rfl rfl (fun a x q => updF h a x q) upd_some ⟨g.notF h, xs, upd_same, (Ext.cel g _ h).ra r⟩
/-- a new instance and its dict -/
def Hs.celI (w : Hs) (p dx C : Addr) : Hs := ⟨w.F, w.al ++ [p], upd (upd w.H dx (.own p)) p (.ins C dx [])⟩
theorem Ext.celI (g : Good K w S) {p dx C : Addr} (h : w.H p = none) (hd : w.H dx = none) : Ext w (w.celI p dx C) where
  f := fun _ _ e => e
  al := ⟨[p], rfl, fun b hb => by rw [List.mem_singleton.mp hb]; exact h⟩
  new := fun a x e => .inl e
  kp := fun a x e _ => by
    show upd (upd w.H dx (.own p)) p _ a = some x
    rw [upd_ne (ne_of_none e h), upd_ne (ne_of_none e hd)]; exact e
  dm := fun a e => by
    show upd (upd w.H dx (.own p)) p _ a ≠ none
    by_cases q : a = p
    · subst q; exact upd_some
    · rw [upd_ne q]
      by_cases q2 : a = dx
      · subst q2; exact upd_some
      · rw [upd_ne q2]; exact e
theorem Good.celI (g : Good K w S) {p dx C : Addr} (h : w.H p = none) (hd : w.H dx = none) : Good K (w.celI p dx C) (S ++ [.ins C []]) :=
  g.cell' h (Ext.celI g h hd) rfl rfl (fun a x e => by
    show upd (upd w.H dx (.own p)) p _ a = some x
    rw [upd_ne (ne_of_none e h), upd_ne (ne_of_none e hd)]; exact e) upd_some ⟨g.notF h, dx, [], upd_same, .nil⟩
/-- a cell is written -/
def Hs.wr (w : Hs) (p : Addr) (o : HO) : Hs := ⟨w.F, w.al, upd w.H p o⟩
theorem Ext.wr {p : Addr} (o : HO) (hp : p ∈ w.al) : Ext w (w.wr p o) where
  f := fun _ _ e => e
  al := ⟨[], by simp [Hs.wr], by simp⟩
  new := fun a x e => .inl e
  kp := fun a x e n => by
    show upd w.H p o a = some x
    rw [upd_ne (fun z => n (by rw [z]; exact hp))]; exact e
  dm := fun a e => by
    show upd w.H p o a ≠ none
    by_cases q : a = p
    · subst q; rw [upd_same]; exact fun z => nomatch z
    · rw [upd_ne q]; exact e
theorem CellOk.notF {a : Addr} {c : Cell} (h : CellOk K w a c) (hc : c ≠ .gone) : w.F a = none := by
  cases c with
  | gone => exact absurd rfl hc
  | lst _ => exact h.1
  | ins _ _ => exact h.1
  | dct _ => exact h.1
theorem Good.write (g : Good K w S) {h : Nat} {p : Addr} {c0 : Cell} {o : HO} (hp : w.al[h]? = some p) (hl : h < S.length) (hF : w.F p = none) (ok : CellOk K (w.wr p o) p c0) : Good K (w.wr p o) (S.set h c0) := by
  have hm : p ∈ w.al := List.mem_of_getElem? hp
  have e := Ext.wr o hm
  refine ⟨fun a x q => ?_, g.nd, by rw [List.length_set]; exact g.len, fun n a c q1 q2 => ?_, fun a q => e.dm a (g.dom a q)⟩
  · show upd w.H p o a = some x
    rw [upd_ne (ne_of_none q hF)]
    exact g.sub a x q
  · have q1 : w.al[n]? = some a := q1
    by_cases hn : h = n
    · subst hn
      rw [hp] at q1; cases q1
      rw [List.getElem?_set_self hl] at q2
      cases q2
      exact ok
    · rw [List.getElem?_set_ne hn] at q2
      have hne : a ≠ p := fun z => by
        subst z
        obtain ⟨l1, e1⟩ := List.getElem?_eq_some_iff.mp hp
        obtain ⟨l2, e2⟩ := List.getElem?_eq_some_iff.mp q1
        exact hn ((List.getElem_inj g.nd).mp (e1.trans e2.symm))
      exact cell_ext e (fun z => z) (fun x z => by show upd w.H p _ a = some x; rw [upd_ne hne]; exact z) (g.cell n a c q1 q2)
theorem Good.wr (g : Good K w S) {h : Nat} {p : Addr} {xs : List V} {es ds : List D} (hp : w.al[h]? = some p) (hc : S[h]? = some (.lst es)) (r : Ra K w xs ds) : Good K (w.wr p (.lst xs)) (S.set h (.lst ds)) :=
  have hF := (g.cell h p _ hp hc).1
  g.write hp (List.getElem?_eq_some_iff.mp hc).1 hF ⟨hF, xs, upd_same, r⟩
theorem Good.wrI (g : Good K w S) {h : Nat} {p C dx : Addr} {vs : List (Str × V)} {es fs : List (Str × D)} (hp : w.al[h]? = some p) (hc : S[h]? = some (.ins C es)) (r : RpF K w.F w.al vs fs) : Good K (w.wr p (.ins C dx vs)) (S.set h (.ins C fs)) :=
  have hF := (g.cell h p _ hp hc).1
  g.write hp (List.getElem?_eq_some_iff.mp hc).1 hF ⟨hF, dx, vs, upd_same, r⟩
/-- a cell is frozen -/
def Hs.fz (w : Hs) (p : Addr) (o : HO) : Hs := ⟨upd w.F p o, w.al, w.H⟩
theorem Ext.fz {p : Addr} {o : HO} (hp : p ∈ w.al) (hF : w.F p = none) : Ext w (w.fz p o) where
  f := updF hF
  al := ⟨[], by simp [Hs.fz], by simp⟩
  new := fun a x e => by
    by_cases q : a = p
    · subst q; exact .inr (.inr hp)
    · have e2 : upd w.F p o a = some x := e
      rw [upd_ne q] at e2
      exact .inl e2
  kp := fun a x e n => e
  dm := fun a e => e
theorem Good.fzC (g : Good K w S) {h : Nat} {p : Addr} {o : HO} {c0 : Cell} (hp : w.al[h]? = some p) (hc : S[h]? = some c0) (hng : c0 ≠ .gone) (ho : w.H p = some o) : Good K (w.fz p o) (S.set h .gone) := by
  have hm : p ∈ w.al := List.mem_of_getElem? hp
  have hF : w.F p = none := (g.cell h p _ hp hc).notF hng
  have e : Ext w (w.fz p o) := Ext.fz hm hF
  refine ⟨fun a x q => ?_, g.nd, by rw [List.length_set]; exact g.len, fun n a c q1 q2 => ?_, g.dom⟩
  · have q2 : upd w.F p o a = some x := q
    show w.H a = some x
    by_cases z : a = p
    · subst z; rw [upd_same] at q2; cases q2; exact ho
    · rw [upd_ne z] at q2; exact g.sub a x q2
  · have q1 : w.al[n]? = some a := q1
    by_cases hn : h = n
    · subst hn
      rw [List.getElem?_set_self (List.getElem?_eq_some_iff.mp hc).1] at q2
      cases q2
      exact True.intro
    · rw [List.getElem?_set_ne hn] at q2
      have hne : a ≠ p := fun z => by
        subst z
        obtain ⟨l1, e1⟩ := List.getElem?_eq_some_iff.mp hp
        obtain ⟨l2, e2⟩ := List.getElem?_eq_some_iff.mp q1
        exact hn ((List.getElem_inj g.nd).mp (e1.trans e2.symm))
      exact cell_ext e (fun z => by show upd w.F p o a = none; rw [upd_ne hne]; exact z) (fun x z => z) (g.cell n a c q1 q2)
theorem Good.fz (g : Good K w S) {h : Nat} {p : Addr} {o : HO} {es : List D} (hp : w.al[h]? = some p) (hc : S[h]? = some (.lst es)) (ho : w.H p = some o) : Good K (w.fz p o) (S.set h .gone) :=
  g.fzC hp hc (fun z => nomatch z) ho
end
end DL
namespace DL
open PySem PySem.Spec PyProof.Rows L2
structure Exn where
  cls : Addr
  fs : List (Str × D)
def RpX (K : PySem.W.Frag) (w : Hs) (cv : Value) (dx : Option Addr) (x : Exn) : Prop :=
  cv = .ref x.cls ∧ match dx with
    | none => x.fs = []
    | some a => ∃ vs, w.F a = some (.xd vs) ∧ RpF K w.F w.al vs x.fs
abbrev KD := Sto → D → Prop
abbrev KX := Sto → Exn → Prop
abbrev TD := Gam → Sto → KD → KX → Prop
abbrev TB := Gam → Sto → (Sto → Bool → Prop) → KX → Prop
abbrev TL := Gam → Sto → (Sto → List D → Prop) → KX → Prop
section
variable (K : PySem.W.Frag) (W : WX)
def OkD (w : Hs) (Φ : KD) (Q : VK) : Prop := ∀ v d w' S', Ext w w' → Good K w' S' → Rv K w' v d → Φ S' d → Q v w'.H
def OkB (w : Hs) (Φ : Sto → Bool → Prop) (Q : Bool → Hp → Prop) : Prop := ∀ b w' S', Ext w w' → Good K w' S' → Φ S' b → Q b w'.H
def OkL (w : Hs) (Φ : Sto → List D → Prop) (Q : List V → Hp → Prop) : Prop := ∀ vs ds w' S', Ext w w' → Good K w' S' → Ra K w' vs ds → Φ S' ds → Q vs w'.H
def OkX (w : Hs) (Ψ : KX) (σ : L2.St) : Prop := ∀ cv dx x w' S', Ext w w' → Good K w' S' → RpX K w' cv dx x → Ψ S' x → W cv dx σ w'.H
def SemE (t : TE) (T : TD) : Prop := ∀ Γ S Φ Ψ σ w, Good K w S → Slots K w σ Γ → T Γ S Φ Ψ → OkX K W w Ψ σ → ∀ Q : VK, OkD K w Φ Q → t σ w.H Q
def SemT (t : TT) (T : TB) : Prop := ∀ Γ S Φ Ψ σ w, Good K w S → Slots K w σ Γ → T Γ S Φ Ψ → OkX K W w Ψ σ → ∀ Q : Bool → Hp → Prop, OkB K w Φ Q → t σ w.H Q
def SemA (t : TA) (T : TL) : Prop := ∀ Γ S Φ Ψ σ w, Good K w S → Slots K w σ Γ → T Γ S Φ Ψ → OkX K W w Ψ σ → ∀ Q : List V → Hp → Prop, OkL K w Φ Q → t σ w.H Q
end
section
variable {K : PySem.W.Frag} {W : WX} {w w' : Hs}
theorem OkD.ext {Φ : KD} {Q : VK} (h : OkD K w Φ Q) (e : Ext w w') : OkD K w' Φ Q := fun v d w2 S' e2 => h v d w2 S' (e.trans e2)
theorem OkB.ext {Φ : Sto → Bool → Prop} {Q : Bool → Hp → Prop} (h : OkB K w Φ Q) (e : Ext w w') : OkB K w' Φ Q := fun v w2 S' e2 => h v w2 S' (e.trans e2)
theorem OkL.ext {Φ : Sto → List D → Prop} {Q : List V → Hp → Prop} (h : OkL K w Φ Q) (e : Ext w w') : OkL K w' Φ Q := fun v d w2 S' e2 => h v d w2 S' (e.trans e2)
theorem OkX.ext {Ψ : KX} {σ : L2.St} (h : OkX K W w Ψ σ) (e : Ext w w') : OkX K W w' Ψ σ := fun a b c w2 S' e2 => h a b c w2 S' (e.trans e2)
end
/-- an expression, a test, arguments: what is read (t) and what is asked of the data (T) -/
structure JE (X : Cx) (W : WX) (e : Expr) (t : TE) (T : TD) : Prop where
  pe : PE X e t
  sem : SemE X.K W t T
structure JT (X : Cx) (W : WX) (e : Expr) (t : TT) (T : TB) : Prop where
  pt : PT X e t
  sem : SemT X.K W t T
structure JW (X : Cx) (W : WX) (e : Expr) (t : TT) (T : TB) : Prop where
  pw : PW X e t
  sem : SemT X.K W t T
structure JA (X : Cx) (W : WX) (es : List Expr) (t : TA) (T : TL) : Prop where
  pa : PA X es t
  sem : SemA X.K W t T
section
variable {X : Cx} {W : WX} {e a b c : Expr} {es : List Expr} {pos : Pos} {ta tb tc te : TE} {Ta Tb Tc Te : TD}
def dVar (i : Nat) : TD := fun Γ S Φ _ => ∃ d, Γ[i]? = some (some d) ∧ Φ S d
def dC (d : D) : TD := fun _ S Φ _ => Φ S d
theorem sem_var {K : PySem.W.Frag} {i : Nat} : SemE K W (tVar i) (dVar i) := fun Γ S Φ Ψ σ w g sl ⟨d, h1, h2⟩ _ Q q => by
  obtain ⟨v, h3, r⟩ := sl.2 i d h1
  exact ⟨v, h3, q v d w S (Ext.refl w) g r h2⟩
theorem sem_c {K : PySem.W.Frag} {v : V} {d : D} (r : ∀ w : Hs, Rv K w v d) : SemE K W (tC v) (dC d) := fun Γ S Φ Ψ σ w g sl h _ Q q => q v d w S (Ext.refl w) g (r w) h
theorem je_var (i : Nat) {x : Str} (hN : X.N[i]? = some x := by rfl) (hv : Vis X.env.scope x := by first | exact Or.inl rfl | exact Or.inr (Or.inl rfl) | exact Or.inr (Or.inr rfl)) (hd : (x == ("__debug__" : Str)) = false := by decide)
    (hcd : (x == ("__classdict__" : Str)) = false := by decide) : JE X W (.Name x pos) (tVar i) (dVar i) := ⟨pe_var hN hv hd hcd, sem_var⟩
theorem je_int {i j} : JE X W (.Constant (.int i) j pos) (tC (.int i)) (dC (.int i)) := ⟨pe_int, sem_c fun _ => .int i⟩
theorem je_bl {b j} : JE X W (.Constant (.bool b) j pos) (tC (.bl b)) (dC (.bl b)) := ⟨pe_bl, sem_c fun _ => .bl b⟩
theorem je_non {j} : JE X W (.Constant .none j pos) (tC .non) (dC .non) := ⟨pe_non, sem_c fun _ => .non⟩
theorem je_str {x j} : JE X W (.Constant (.str x) j pos) (tC (.str x)) (dC (.str x)) := ⟨pe_str, sem_c fun _ => .str x⟩
/-- a constant of the module -/
theorem je_glob {x : Str} {v : V} {u : Value} {d : D} (r : ∀ w : Hs, Rv X.K w v d) (hg : Gl X x) (hm : X.mg x = some u) (q : RelV v u) (hd : (x == ("__debug__" : Str)) = false := by decide) : JE X W (.Name x pos) (tC v) (dC d) := ⟨pe_glob hg hm q hd, sem_c r⟩
theorem je_gint {x : Str} {i : Int} (hg : Gl X x) (hm : ∃ t, X.mg x = some (.int i t)) (hd : (x == ("__debug__" : Str)) = false := by decide) : JE X W (.Name x pos) (tC (.int i)) (dC (.int i)) := by
  obtain ⟨t, hm⟩ := hm
  exact je_glob (fun _ => .int i) hg hm ⟨t, rfl⟩ hd
theorem je_gstr {x z : Str} (hg : Gl X x) (hm : ∃ t, X.mg x = some (.str z t)) (hd : (x == ("__debug__" : Str)) = false := by decide) : JE X W (.Name x pos) (tC (.str z)) (dC (.str z)) := by
  obtain ⟨t, hm⟩ := hm
  exact je_glob (fun _ => .str z) hg hm ⟨t, rfl⟩ hd
theorem je_gref {x : Str} {p : Addr} (hg : Gl X x) (hm : X.mg x = some (.ref p)) (hd : (x == ("__debug__" : Str)) = false := by decide) : JE X W (.Name x pos) (tC (.ref p)) (dC (.obj p)) := je_glob (fun _ => .obj p) hg hm rfl hd
/-- a built-in type as a value -/
theorem je_ty {x : Str} {n : String} (hg : Gl X x) (hm : X.mg x = none) (hv : bootBuiltins x = some (.type n)) (hn : x ≠ "__name__" := by decide) (hd : (x == ("__debug__" : Str)) = false := by decide) : JE X W (.Name x pos) (tC (.ty n)) (dC (.ty n)) :=
  ⟨pe_bltn hg hm hv rfl hn hd, sem_c fun _ => .ty n⟩
def OpD (K : PySem.W.Frag) (r : R2) (f : D → D → Sto → KD → Prop) : Prop :=
  ∀ w S x y u v Φ Q, Good K w S → Rv K w x u → Rv K w y v → f u v S Φ → OkD K w Φ Q → r x y w.H Q
def dOp (f : D → D → Sto → KD → Prop) (Ta Tb : TD) : TD := fun Γ S Φ Ψ => Ta Γ S (fun S1 x => Tb Γ S1 (fun S2 y => f x y S2 Φ) Ψ) Ψ
theorem sem_op {K : PySem.W.Frag} {r : R2} {f : D → D → Sto → KD → Prop} (hd : OpD K r f) (ha : SemE K W ta Ta) (hb : SemE K W tb Tb) : SemE K W (tOp r ta tb) (dOp f Ta Tb) :=
  fun Γ S Φ Ψ σ w g sl h hx Q q => ha Γ S _ Ψ σ w g sl h hx _ fun v d w1 S1 e1 g1 r1 h1 =>
    hb Γ S1 _ Ψ σ w1 g1 (sl.ext e1) h1 (hx.ext e1) _ fun v2 d2 w2 S2 e2 g2 r2 h2 => hd w2 S2 v v2 d d2 Φ Q g2 (e2.rp r1) r2 h2 (q.ext (e1.trans e2))
theorem je_op {op : Operator} {r : R2} {f : D → D → Sto → KD → Prop} (ho : OpR X (binaryOp op) r) (hd : OpD X.K r f) (ha : JE X W a ta Ta) (hb : JE X W b tb Tb) : JE X W (.BinOp a op b pos) (tOp r ta tb) (dOp f Ta Tb) :=
  ⟨pe_op ho ha.pe hb.pe, sem_op hd ha.sem hb.sem⟩
theorem je_cmp {op : CmpOp} {r : R2} {f : D → D → Sto → KD → Prop} (ho : OpR X (compareOp op) r) (hd : OpD X.K r f) (ha : JE X W a ta Ta) (hb : JE X W b tb Tb) (hm : behindInMarks op b = false) : JE X W (.Compare a [op] [b] pos) (tOp r ta tb) (dOp f Ta Tb) :=
  ⟨pe_cmpR ho ha.pe hb.pe hm, sem_op hd ha.sem hb.sem⟩
/-- a value that is a bool, as a test -/
def bOf (T : TD) : TB := fun Γ S Φ Ψ => T Γ S (fun S1 d => ∃ k, d = .bl k ∧ Φ S1 k) Ψ
theorem rv_bl {K : PySem.W.Frag} {w : Hs} {v : V} {k : Bool} (r : Rv K w v (.bl k)) : v = .bl k := by cases r; rfl
theorem rv_int {K : PySem.W.Frag} {w : Hs} {v : V} {k : Int} (r : Rv K w v (.int k)) : v = .int k := by cases r; rfl
theorem rv_str {K : PySem.W.Frag} {w : Hs} {v : V} {k : Str} (r : Rv K w v (.str k)) : v = .str k := by cases r; rfl
theorem rv_non {K : PySem.W.Frag} {w : Hs} {v : V} (r : Rv K w v .non) : v = .non := by cases r; rfl
theorem sem_bl {K : PySem.W.Frag} (h : SemE K W te Te) : SemT K W (fun σ H Q => te σ H fun x H' => ∃ k, x = .bl k ∧ Q k H') (bOf Te) := fun Γ S Φ Ψ σ w g sl h2 hx Q q =>
  h Γ S _ Ψ σ w g sl h2 hx _ fun v d w1 S1 e1 g1 r1 ⟨k, e, h3⟩ => by
    subst e
    exact ⟨k, rv_bl r1, q k w1 S1 e1 g1 h3⟩
theorem jt_cmp {op : CmpOp} {r : R2} {f : D → D → Sto → KD → Prop} (ho : OpR X (compareOp op) r) (hd : OpD X.K r f) (ha : JE X W a ta Ta) (hb : JE X W b tb Tb) (hm : behindInMarks op b = false) : JT X W (.Compare a [op] [b] pos) (tTest (tOp r ta tb)) (bOf (dOp f Ta Tb)) :=
  ⟨pt_cmpR ho ha.pe hb.pe hm, sem_bl (sem_op hd ha.sem hb.sem)⟩
def dChain (f g : D → D → Sto → KD → Prop) (Ta Tb Tc : TD) : TD := fun Γ S Φ Ψ => Ta Γ S (fun S1 x => Tb Γ S1 (fun S2 y => f x y S2 fun S3 z => ∃ k, z = .bl k ∧ (if k = true then Tc Γ S3 (fun S4 u => g y u S4 Φ) Ψ else Φ S3 (.bl false))) Ψ) Ψ
theorem sem_chain {K : PySem.W.Frag} {r r' : R2} {f g : D → D → Sto → KD → Prop} (hd : OpD K r f) (hd' : OpD K r' g) (ha : SemE K W ta Ta) (hb : SemE K W tb Tb) (hc : SemE K W tc Tc) : SemE K W (tChain r r' ta tb tc) (dChain f g Ta Tb Tc) :=
  fun Γ S Φ Ψ σ w g0 sl h hx Q q => ha Γ S _ Ψ σ w g0 sl h hx _ fun v d w1 S1 e1 g1 r1 h1 =>
    hb Γ S1 _ Ψ σ w1 g1 (sl.ext e1) h1 (hx.ext e1) _ fun v2 d2 w2 S2 e2 g2 r2 h2 => hd w2 S2 v v2 d d2 _ _ g2 (e2.rp r1) r2 h2 fun z dz w3 S3 e3 g3 r3 ⟨k, ek, h3⟩ => by
      subst ek
      refine ⟨k, rv_bl r3, ?_⟩
      have e13 := (e1.trans e2).trans e3
      cases k with
      | true => exact hc Γ S3 _ Ψ σ w3 g3 (sl.ext e13) h3 (hx.ext e13) _ fun v4 d4 w4 S4 e4 g4 r4 h4 => hd' w4 S4 v2 v4 d2 d4 Φ Q g4 ((e3.trans e4).rp r2) r4 h4 (q.ext (e13.trans e4))
      | false => exact q (.bl false) (.bl false) w3 S3 e13 g3 (.bl false) h3
theorem je_chain {op op' : CmpOp} {r r' : R2} {f g : D → D → Sto → KD → Prop} (ho : OpR X (compareOp op) r) (ho' : OpR X (compareOp op') r') (hd : OpD X.K r f) (hd' : OpD X.K r' g) (ha : JE X W a ta Ta) (hb : JE X W b tb Tb) (hc : JE X W c tc Tc)
    (hm : lastMarks [op, op'] [b, c] = false := by with_unfolding_all rfl) : JE X W (.Compare a [op, op'] [b, c] pos) (tChain r r' ta tb tc) (dChain f g Ta Tb Tc) := ⟨pe_chain ho ho' ha.pe hb.pe hc.pe hm, sem_chain hd hd' ha.sem hb.sem hc.sem⟩
theorem jt_chain {op op' : CmpOp} {r r' : R2} {f g : D → D → Sto → KD → Prop} (ho : OpR X (compareOp op) r) (ho' : OpR X (compareOp op') r') (hd : OpD X.K r f) (hd' : OpD X.K r' g) (ha : JE X W a ta Ta) (hb : JE X W b tb Tb) (hc : JE X W c tc Tc)
    (hm : lastMarks [op, op'] [b, c] = false := by with_unfolding_all rfl) : JT X W (.Compare a [op, op'] [b, c] pos) (tTest (tChain r r' ta tb tc)) (bOf (dChain f g Ta Tb Tc)) := ⟨pt_chain ho ho' ha.pe hb.pe hc.pe hm, sem_bl (sem_chain hd hd' ha.sem hb.sem hc.sem)⟩
/-- a value as a test -/
theorem jt_val (h : JE X W e te Te) (he : ∀ whole, isTrue e X.env whole = (do let v ← whole; standAt e.pos; holding [v] (truthy v)) := by intro _; rfl) : JT X W e (tB te) (bOf Te) := ⟨pt_val h.pe he, sem_bl h.sem⟩
variable {t u : TT} {T U : TB} {rest : List Expr}
def bAnd (T U : TB) : TB := fun Γ S Φ Ψ => T Γ S (fun S1 k => if k = true then U Γ S1 Φ Ψ else Φ S1 false) Ψ
def bOr (T U : TB) : TB := fun Γ S Φ Ψ => T Γ S (fun S1 k => if k = true then Φ S1 true else U Γ S1 Φ Ψ) Ψ
def bNot (T : TB) : TB := fun Γ S Φ Ψ => T Γ S (fun S1 k => Φ S1 (!k)) Ψ
theorem sem_bAnd {K : PySem.W.Frag} (h1 : SemT K W t T) (h2 : SemT K W u U) : SemT K W (tAnd t u) (bAnd T U) := fun Γ S Φ Ψ σ w g sl h hx Q q =>
  h1 Γ S _ Ψ σ w g sl h hx _ fun k w1 S1 e1 g1 h3 => by
    cases k with
    | true => exact h2 Γ S1 Φ Ψ σ w1 g1 (sl.ext e1) h3 (hx.ext e1) Q (q.ext e1)
    | false => exact q false w1 S1 e1 g1 h3
theorem sem_bOr {K : PySem.W.Frag} (h1 : SemT K W t T) (h2 : SemT K W u U) : SemT K W (tOr t u) (bOr T U) := fun Γ S Φ Ψ σ w g sl h hx Q q =>
  h1 Γ S _ Ψ σ w g sl h hx _ fun k w1 S1 e1 g1 h3 => by
    cases k with
    | true => exact q true w1 S1 e1 g1 h3
    | false => exact h2 Γ S1 Φ Ψ σ w1 g1 (sl.ext e1) h3 (hx.ext e1) Q (q.ext e1)
theorem jw_and1 (h : JT X W a t T) : JW X W (.BoolOp .And [a] pos) t T := ⟨pw_and1 h.pt, h.sem⟩
theorem jw_or1 (h : JT X W a t T) : JW X W (.BoolOp .Or [a] pos) t T := ⟨pw_or1 h.pt, h.sem⟩
theorem jw_and (h : JT X W a t T) (h2 : JW X W (.BoolOp .And (b :: rest) pos) u U) : JW X W (.BoolOp .And (a :: b :: rest) pos) (tAnd t u) (bAnd T U) := ⟨pw_and h.pt h2.pw, sem_bAnd h.sem h2.sem⟩
theorem jw_or (h : JT X W a t T) (h2 : JW X W (.BoolOp .Or (b :: rest) pos) u U) : JW X W (.BoolOp .Or (a :: b :: rest) pos) (tOr t u) (bOr T U) := ⟨pw_or h.pt h2.pw, sem_bOr h.sem h2.sem⟩
theorem JW.jt (h : JW X W e t T) : JT X W e t T := ⟨h.pw.pt, h.sem⟩
theorem jt_not (h : JT X W a t T) : JT X W (.UnaryOp .Not a pos) (tNot t) (bNot T) := ⟨pt_not h.pt, fun Γ S Φ Ψ σ w g sl h2 hx Q q => h.sem Γ S _ Ψ σ w g sl h2 hx _ fun k w1 S1 e1 g1 h3 => q (!k) w1 S1 e1 g1 h3⟩
/-- as values -/
def dAnd (Ta Tb : TD) : TD := fun Γ S Φ Ψ => Ta Γ S (fun S1 x => ∃ k, x = .bl k ∧ if k = true then Tb Γ S1 Φ Ψ else Φ S1 (.bl false)) Ψ
def dOr (Ta Tb : TD) : TD := fun Γ S Φ Ψ => Ta Γ S (fun S1 x => ∃ k, x = .bl k ∧ if k = true then Φ S1 (.bl true) else Tb Γ S1 Φ Ψ) Ψ
def dNot (Ta : TD) : TD := fun Γ S Φ Ψ => Ta Γ S (fun S1 x => ∃ k, x = .bl k ∧ Φ S1 (.bl (!k))) Ψ
theorem je_one {op} (h : JE X W a ta Ta) : JE X W (.BoolOp op [a] pos) ta Ta := ⟨pe_one h.pe, h.sem⟩
theorem je_and (ha : JE X W a ta Ta) (hb : JE X W (.BoolOp .And (b :: rest) pos) tb Tb) : JE X W (.BoolOp .And (a :: b :: rest) pos) (tAndV ta tb) (dAnd Ta Tb) := ⟨pe_and ha.pe hb.pe, fun Γ S Φ Ψ σ w g sl h hx Q q =>
  ha.sem Γ S _ Ψ σ w g sl h hx _ fun v d w1 S1 e1 g1 r1 ⟨k, e, h1⟩ => by
    subst e
    refine ⟨k, rv_bl r1, ?_⟩
    cases k with
    | true => exact hb.sem Γ S1 Φ Ψ σ w1 g1 (sl.ext e1) h1 (hx.ext e1) Q (q.ext e1)
    | false => exact q (.bl false) (.bl false) w1 S1 e1 g1 (.bl false) h1⟩
theorem je_or (ha : JE X W a ta Ta) (hb : JE X W (.BoolOp .Or (b :: rest) pos) tb Tb) : JE X W (.BoolOp .Or (a :: b :: rest) pos) (tOrV ta tb) (dOr Ta Tb) := ⟨pe_or ha.pe hb.pe, fun Γ S Φ Ψ σ w g sl h hx Q q =>
  ha.sem Γ S _ Ψ σ w g sl h hx _ fun v d w1 S1 e1 g1 r1 ⟨k, e, h1⟩ => by
    subst e
    refine ⟨k, rv_bl r1, ?_⟩
    cases k with
    | true => exact q (.bl true) (.bl true) w1 S1 e1 g1 (.bl true) h1
    | false => exact hb.sem Γ S1 Φ Ψ σ w1 g1 (sl.ext e1) h1 (hx.ext e1) Q (q.ext e1)⟩
theorem je_not (ha : JE X W a ta Ta) : JE X W (.UnaryOp .Not a pos) (tNotV ta) (dNot Ta) := ⟨pe_not ha.pe, fun Γ S Φ Ψ σ w g sl h hx Q q =>
  ha.sem Γ S _ Ψ σ w g sl h hx _ fun v d w1 S1 e1 g1 r1 ⟨k, e, h1⟩ => by
    subst e
    exact ⟨k, rv_bl r1, q (.bl (!k)) (.bl (!k)) w1 S1 e1 g1 (.bl (!k)) h1⟩⟩
def dIf (T : TB) (Ta Tb : TD) : TD := fun Γ S Φ Ψ => T Γ S (fun S1 k => if k = true then Ta Γ S1 Φ Ψ else Tb Γ S1 Φ Ψ) Ψ
theorem je_if (hc : JT X W c t T) (ha : JE X W a ta Ta) (hb : JE X W b tb Tb) : JE X W (.IfExp c a b pos) (tIf t ta tb) (dIf T Ta Tb) := ⟨pe_ifExp hc.pt ha.pe hb.pe, fun Γ S Φ Ψ σ w g sl h hx Q q =>
  hc.sem Γ S _ Ψ σ w g sl h hx _ fun k w1 S1 e1 g1 h3 => by
    cases k with
    | true => exact ha.sem Γ S1 Φ Ψ σ w1 g1 (sl.ext e1) h3 (hx.ext e1) Q (q.ext e1)
    | false => exact hb.sem Γ S1 Φ Ψ σ w1 g1 (sl.ext e1) h3 (hx.ext e1) Q (q.ext e1)⟩
variable {tl : TA} {Tl : TL}
def lNil : TL := fun _ S Φ _ => Φ S []
def lCons (T : TD) (U : TL) : TL := fun Γ S Φ Ψ => T Γ S (fun S1 x => U Γ S1 (fun S2 xs => Φ S2 (x :: xs)) Ψ) Ψ
theorem ja_nil : JA X W [] tNil lNil := ⟨pa_nil, fun Γ S Φ Ψ σ w g sl h hx Q q => q [] [] w S (Ext.refl w) g .nil h⟩
theorem ja_cons (ha : JE X W e te Te) (hr : JA X W es tl Tl) (hs : starEach (e :: es) X.env = (false, eval e X.env) :: starEach es X.env := by rfl) : JA X W (e :: es) (tCons te tl) (lCons Te Tl) := ⟨pa_cons ha.pe hr.pa hs, fun Γ S Φ Ψ σ w g sl h hx Q q =>
  ha.sem Γ S _ Ψ σ w g sl h hx _ fun v d w1 S1 e1 g1 r1 h1 => hr.sem Γ S1 _ Ψ σ w1 g1 (sl.ext e1) h1 (hx.ext e1) _ fun vs ds w2 S2 e2 g2 r2 h2 => q _ _ w2 S2 (e1.trans e2) g2 (.cons (e2.rp r1) r2) h2⟩
/-- a new frozen list, a new cell, a new tuple -/
def dLst (T : TL) : TD := fun Γ S Φ Ψ => T Γ S (fun S1 ds => ds.length ≤ sizeLine ∧ Φ S1 (.lst ds)) Ψ
def dLstO (T : TL) : TD := fun Γ S Φ Ψ => T Γ S (fun S1 ds => ds.length ≤ sizeLine ∧ Φ (S1 ++ [.lst ds]) (.own S1.length)) Ψ
def dTup (T : TL) : TD := fun Γ S Φ Ψ => T Γ S (fun S1 ds => ds.length ≤ sizeLine ∧ Φ S1 (.tup ds)) Ψ
theorem new_lst {K : PySem.W.Frag} {w : Hs} {S : Sto} (g : Good K w S) {Φ : KD} {Q : VK} (q : OkD K w Φ Q) {vs : List V} {ds : List D} (r : Ra K w vs ds) (h : Φ S (.lst ds)) (p : Addr) (hp : w.H p = none) : Q (.ref p) (upd w.H p (.lst vs)) :=
  q (.ref p) (.lst ds) (w.frz p (.lst vs)) S (Ext.frz g _ hp) (g.frz _ hp) (.lst upd_same ((Ext.frz g _ hp).ra r)) h
theorem new_tup {K : PySem.W.Frag} {w : Hs} {S : Sto} (g : Good K w S) {Φ : KD} {Q : VK} (q : OkD K w Φ Q) {vs : List V} {ds : List D} (r : Ra K w vs ds) (h : Φ S (.tup ds)) (p : Addr) (hp : w.H p = none) : Q (.ref p) (upd w.H p (.tup vs)) :=
  q (.ref p) (.tup ds) (w.frz p (.tup vs)) S (Ext.frz g _ hp) (g.frz _ hp) (.tup (.inl (.inl upd_same)) ((Ext.frz g _ hp).ra r)) h
theorem new_own {K : PySem.W.Frag} {w : Hs} {S : Sto} (g : Good K w S) {Φ : KD} {Q : VK} (q : OkD K w Φ Q) {vs : List V} {ds : List D} (r : Ra K w vs ds) (h : Φ (S ++ [.lst ds]) (.own S.length)) (p : Addr) (hp : w.H p = none) : Q (.ref p) (upd w.H p (.lst vs)) :=
  q (.ref p) (.own S.length) (w.cel p (.lst vs)) (S ++ [.lst ds]) (Ext.cel g _ hp) (g.cel hp r) (.own (by
    show (w.al ++ [p])[S.length]? = some p
    rw [← g.len, List.getElem?_append_right (Nat.le_refl _), Nat.sub_self] <;> rfl)) h
theorem je_lst (h : JA X W es tl Tl) : JE X W (.List es pos) (tLst tl) (dLst Tl) := ⟨pe_lst h.pa, fun Γ S Φ Ψ σ w g sl hT hx Q q =>
  h.sem Γ S _ Ψ σ w g sl hT hx _ fun vs ds w1 S1 e1 g1 r1 ⟨z, h1⟩ => ⟨by rw [r1.length]; exact z, new_lst g1 (q.ext e1) r1 h1⟩⟩
theorem je_lstO (h : JA X W es tl Tl) : JE X W (.List es pos) (tLst tl) (dLstO Tl) := ⟨pe_lst h.pa, fun Γ S Φ Ψ σ w g sl hT hx Q q =>
  h.sem Γ S _ Ψ σ w g sl hT hx _ fun vs ds w1 S1 e1 g1 r1 ⟨z, h1⟩ => ⟨by rw [r1.length]; exact z, new_own g1 (q.ext e1) r1 h1⟩⟩
theorem je_tup {x1} (h : JA X W es tl Tl) : JE X W (.Tuple es x1 pos) (tTup tl) (dTup Tl) := ⟨pe_tup h.pa, fun Γ S Φ Ψ σ w g sl hT hx Q q =>
  h.sem Γ S _ Ψ σ w g sl hT hx _ fun vs ds w1 S1 e1 g1 r1 ⟨z, h1⟩ => ⟨by rw [r1.length]; exact z, new_tup g1 (q.ext e1) r1 h1⟩⟩
def CallD (K : PySem.W.Frag) (r : List V → Hp → VK → Prop) (f : List D → Sto → KD → Prop) : Prop :=
  ∀ w S vs ds Φ Q, Good K w S → Ra K w vs ds → f ds S Φ → OkD K w Φ Q → r vs w.H Q
def dCB (f : List D → Sto → KD → Prop) (T : TL) : TD := fun Γ S Φ Ψ => T Γ S (fun S1 ds => f ds S1 Φ) Ψ
theorem sem_cb {K : PySem.W.Frag} {r : List V → Hp → VK → Prop} {f : List D → Sto → KD → Prop} (hd : CallD K r f) (h : SemA K W tl Tl) : SemE K W (tCB r tl) (dCB f Tl) := fun Γ S Φ Ψ σ w g sl hT hx Q q =>
  h Γ S _ Ψ σ w g sl hT hx _ fun vs ds w1 S1 e1 g1 r1 h1 => hd w1 S1 vs ds Φ Q g1 r1 h1 (q.ext e1)
theorem je_callB {id : String} {x : Str} {p : Pos} {r : List V → Hp → VK → Prop} {f : List D → Sto → KD → Prop} (hc : CallR X (.builtin id) r) (hd : CallD X.K r f) (hg : Gl X x) (hm : X.mg x = none) (hv : bootBuiltins x = some (.builtin id)) (ha : JA X W (e :: es) tl Tl)
    (hn : x ≠ "__name__" := by decide) (hdb : (x == ("__debug__" : Str)) = false := by decide)
    (he : starEach (e :: es) X.env = (false, eval e X.env) :: starEach es X.env := by rfl) (hpl : (backTo pos (starEach es X.env)).any (·.1) = false := by rfl) : JE X W (.Call (.Name x p) (e :: es) [] pos) (tCB r tl) (dCB f Tl) :=
  ⟨pe_callB hc hg hm hv ha.pa hn hdb he hpl, sem_cb hd ha.sem⟩
theorem je_callTy {n : String} {x : Str} {p : Pos} {r : List V → Hp → VK → Prop} {f : List D → Sto → KD → Prop} (hc : CallR X (.type n) r) (hd : CallD X.K r f) (hg : Gl X x) (hm : X.mg x = none) (hv : bootBuiltins x = some (.type n)) (ha : JA X W (e :: es) tl Tl)
    (hn : x ≠ "__name__" := by decide) (hdb : (x == ("__debug__" : Str)) = false := by decide)
    (he : starEach (e :: es) X.env = (false, eval e X.env) :: starEach es X.env := by rfl) (hpl : (backTo pos (starEach es X.env)).any (·.1) = false := by rfl) : JE X W (.Call (.Name x p) (e :: es) [] pos) (tCB r tl) (dCB f Tl) :=
  ⟨pe_callTy hc hg hm hv ha.pa hn hdb he hpl, sem_cb hd ha.sem⟩
/-- what a def promises of data -/
abbrev DSpec := List D → Sto → KD → KX → Prop
def spOf (K : PySem.W.Frag) (sp : DSpec) : Sp := fun vs H Q E => ∃ w S ds Φ Ψ, w.H = H ∧ Good K w S ∧ Ra K w vs ds ∧ sp ds S Φ Ψ ∧ OkD K w Φ Q ∧
  ∀ cv dx x w' S', Ext w w' → Good K w' S' → RpX K w' cv dx x → Ψ S' x → E cv dx w'.H
def dCall (sp : DSpec) (T : TL) : TD := fun Γ S Φ Ψ => T Γ S (fun S1 ds => sp ds S1 Φ Ψ) Ψ
theorem sem_call {K : PySem.W.Frag} {sp : DSpec} (h : SemA K W tl Tl) : SemE K W (tCallS (spOf K sp) (WE W) tl) (dCall sp Tl) := fun Γ S Φ Ψ σ w g sl hT hx Q q =>
  h Γ S _ Ψ σ w g sl hT hx _ fun vs ds w1 S1 e1 g1 r1 h1 => ⟨w1, S1, ds, Φ, Ψ, rfl, g1, r1, h1, q.ext e1, fun cv dx x w' S' e g r hΨ => hx.ext e1 cv dx x w' S' e g r hΨ⟩
theorem je_ix {r : R2} {f : D → D → Sto → KD → Prop} (hr : IxR X r) (hd : OpD X.K r f) (ha : JE X W a ta Ta) (hb : JE X W b tb Tb) (hs : PlainIx b := by exact fun _ _ => rfl) : JE X W (.Subscript a b pos) (tOp r ta tb) (dOp f Ta Tb) := ⟨pe_ix hr ha.pe hb.pe hs, sem_op hd ha.sem hb.sem⟩
structure JO (X : Cx) (W : WX) (e : Option Expr) (t : TO) (T : Gam → Sto → (Sto → Option Int → Prop) → KX → Prop) : Prop where
  po : PO X e t
  sem : ∀ Γ S Φ Ψ σ w, Good X.K w S → Slots X.K w σ Γ → T Γ S Φ Ψ → OkX X.K W w Ψ σ → ∀ Q : Option Int → Hp → Prop, (∀ o w' S', Ext w w' → Good X.K w' S' → Φ S' o → Q o w'.H) → t σ w.H Q
abbrev TOd := Gam → Sto → (Sto → Option Int → Prop) → KX → Prop
def oNone : TOd := fun _ S Φ _ => Φ S none
def oSome (T : TD) : TOd := fun Γ S Φ Ψ => T Γ S (fun S1 d => ∃ i, d = .int i ∧ Φ S1 (some i)) Ψ
theorem jo_none : JO X W none tNoPart oNone := ⟨po_none, fun Γ S Φ Ψ σ w g sl h hx Q q => q none w S (Ext.refl w) g h⟩
theorem jo_some (h : JE X W e te Te) : JO X W (some e) (tPart te) (oSome Te) := ⟨po_some h.pe, fun Γ S Φ Ψ σ w g sl hT hx Q q =>
  h.sem Γ S _ Ψ σ w g sl hT hx _ fun v d w1 S1 e1 g1 r1 ⟨i, ei, h1⟩ => by
    subst ei
    exact ⟨i, rv_int r1, q _ w1 S1 e1 g1 h1⟩⟩
def SlD (K : PySem.W.Frag) (r : V → Option Int → Option Int → Hp → VK → Prop) (f : D → Option Int → Option Int → Sto → KD → Prop) : Prop :=
  ∀ w S v d lo hi Φ Q, Good K w S → Rv K w v d → f d lo hi S Φ → OkD K w Φ Q → r v lo hi w.H Q
def dSl (f : D → Option Int → Option Int → Sto → KD → Prop) (T : TD) (Tl Th : TOd) : TD := fun Γ S Φ Ψ => T Γ S (fun S1 d => Tl Γ S1 (fun S2 lo => Th Γ S2 (fun S3 hi => f d lo hi S3 Φ) Ψ) Ψ) Ψ
theorem je_slice {r : V → Option Int → Option Int → Hp → VK → Prop} {f : D → Option Int → Option Int → Sto → KD → Prop} {lo hi : Option Expr} {p2 : Pos} {tlo thi : TO} {Tlo Thi : TOd} (hr : SlR X r) (hd : SlD X.K r f) (he : JE X W e te Te) (hl : JO X W lo tlo Tlo) (hh : JO X W hi thi Thi) :
    JE X W (.Subscript e (.Slice lo hi none p2) pos) (tSl r te tlo thi) (dSl f Te Tlo Thi) := ⟨pe_slice hr he.pe hl.po hh.po, fun Γ S Φ Ψ σ w g sl hT hx Q q =>
  he.sem Γ S _ Ψ σ w g sl hT hx _ fun v d w1 S1 e1 g1 r1 h1 => hl.sem Γ S1 _ Ψ σ w1 g1 (sl.ext e1) h1 (hx.ext e1) _ fun lo w2 S2 e2 g2 h2 =>
    hh.sem Γ S2 _ Ψ σ w2 g2 (sl.ext (e1.trans e2)) h2 (hx.ext (e1.trans e2)) _ fun hi w3 S3 e3 g3 h3 => hd w3 S3 v d lo hi Φ Q g3 ((e2.trans e3).rp r1) h3 (q.ext ((e1.trans e2).trans e3))⟩
end
end DL
namespace DL
open PySem PySem.Spec PyProof.Rows L2
structure EdD where
  nx : Gam → Sto → Prop
  rt : Sto → D → Prop
  bk : Gam → Sto → Prop := fun _ _ => False
  ct : Gam → Sto → Prop := fun _ _ => False
  er : Sto → Exn → Prop
abbrev TSd := EdD → Gam → Sto → Prop
section
variable (K : PySem.W.Frag) (W : WX)
def OkN (w : Hs) (P : Gam → Sto → Prop) (Q : L2.St → Hp → Prop) : Prop := ∀ σ' Γ' w' S', Ext w w' → Good K w' S' → Slots K w' σ' Γ' → P Γ' S' → Q σ' w'.H
/-- what the ends by data give the ends -/
structure Rl (w : Hs) (D' : EdD) (D : Ends) : Prop where
  nx : OkN K w D'.nx D.nx
  rt : OkD K w D'.rt D.rt
  bk : OkN K w D'.bk D.bk
  ct : OkN K w D'.ct D.ct
  er : ∀ σ, OkX K W w D'.er σ
def SemS (t : TS) (T : TSd) : Prop := ∀ D' Γ S σ w D, Good K w S → Slots K w σ Γ → T D' Γ S → Rl K W w D' D → t D σ w.H
end
section
variable {K : PySem.W.Frag} {W : WX} {w w' : Hs}
theorem OkN.ext {P : Gam → Sto → Prop} {Q : L2.St → Hp → Prop} (h : OkN K w P Q) (e : Ext w w') : OkN K w' P Q := fun σ Γ w2 S' e2 => h σ Γ w2 S' (e.trans e2)
theorem Rl.ext {D' : EdD} {D : Ends} (h : Rl K W w D' D) (e : Ext w w') : Rl K W w' D' D := ⟨h.nx.ext e, h.rt.ext e, h.bk.ext e, h.ct.ext e, fun σ => (h.er σ).ext e⟩
end
structure JS (X : Cx) (W : WX) (st : Stmt) (t : TS) (T : TSd) : Prop where
  ps : PS X st t
  sem : SemS X.K W t T
structure JB (X : Cx) (W : WX) (st : List Stmt) (t : TS) (T : TSd) : Prop where
  pss : PSs X st t
  sem : SemS X.K W t T
section
variable {X : Cx} {W : WX} {e a b c : Expr} {es : List Expr} {pos : Pos} {ta tb tc te : TE} {Ta Tb Tc Te : TD} {st : Stmt} {rest : List Stmt} {t u : TS} {T U : TSd}
def sNext : TSd := fun D Γ S => D.nx Γ S
def sSeq (T U : TSd) : TSd := fun D Γ S => T { D with nx := U D } Γ S
theorem jb_nil : JB X W [] tNext sNext := ⟨pss_nil, fun D' Γ S σ w D g sl h r => r.nx σ Γ w S (Ext.refl w) g sl h⟩
theorem jb_cons (h1 : JS X W st t T) (h2 : JB X W rest u U) : JB X W (st :: rest) (tSeq t u) (sSeq T U) := ⟨pss_cons h1.ps h2.pss, fun D' Γ S σ w D g sl h r =>
  h1.sem { D' with nx := U D' } Γ S σ w { D with nx := u D } g sl h ⟨fun σ' Γ' w' S' e' g' sl' h' => h2.sem D' Γ' S' σ' w' D g' sl' h' (r.ext e'), r.rt, r.bk, r.ct, r.er⟩⟩
theorem jb_one (h1 : JS X W st t T) : JB X W [st] t T := ⟨pss_one h1.ps, h1.sem⟩
def sBrk : TSd := fun D Γ S => D.bk Γ S
def sCnt : TSd := fun D Γ S => D.ct Γ S
def sDrop (T : TD) : TSd := fun D Γ S => T Γ S (fun S1 _ => D.nx Γ S1) D.er
theorem js_expr (he : JE X W e te Te) (hs : swapsWith e none pos.line X.env = pure false := by rfl) : JS X W (.Expr e pos) (tDrop te) (sDrop Te) := ⟨ps_expr he.pe hs, fun D' Γ S σ w D g sl h r =>
  he.sem Γ S _ _ σ w g sl h (r.er σ) _ fun v d w' S' e' g' _ h' => r.nx σ Γ w' S' e' g' (sl.ext e') h'⟩
def sRet (T : TD) : TSd := fun D Γ S => T Γ S D.rt D.er
theorem js_ret (he : JE X W e te Te) : JS X W (.Return (some e) pos) (tRet te) (sRet Te) := ⟨ps_ret he.pe, fun D' Γ S σ w D g sl h r => he.sem Γ S _ _ σ w g sl h (r.er σ) _ r.rt⟩
def sRetN : TSd := fun D _ S => D.rt S .non
def sIf (C : TB) (T U : TSd) : TSd := fun D Γ S => C Γ S (fun S1 k => if k = true then T D Γ S1 else U D Γ S1) D.er
theorem js_if {A B : List Stmt} {tt : TT} {C : TB} (hc : JT X W c tt C) (ha : JB X W A t T) (hb : JB X W B u U) : JS X W (.If c A B pos) (tIfS tt t u) (sIf C T U) := ⟨ps_if hc.pt ha.pss hb.pss, fun D' Γ S σ w D g sl h r =>
  hc.sem Γ S _ _ σ w g sl h (r.er σ) _ fun k w' S' e' g' h' => by
    cases k with
    | true => exact ha.sem D' Γ S' σ w' D g' (sl.ext e') h' (r.ext e')
    | false => exact hb.sem D' Γ S' σ w' D g' (sl.ext e') h' (r.ext e')⟩
abbrev TGd := D → Gam → Sto → (Gam → Sto → Prop) → Prop
def SemG (K : PySem.W.Frag) (t : TG) (T : TGd) : Prop := ∀ d Γ S v σ w P Q, Good K w S → Slots K w σ Γ → Rv K w v d → T d Γ S P → OkN K w P Q → t v σ w.H Q
structure JG (X : Cx) (tg : Expr) (t : TG) (T : TGd) : Prop where
  pg : PG X tg t
  sem : SemG X.K t T
abbrev TGs' := List D → Gam → Sto → (Gam → Sto → Prop) → Prop
def SemGs (K : PySem.W.Frag) (t : TGs) (T : TGs') : Prop := ∀ ds Γ S vs σ w P Q, Good K w S → Slots K w σ Γ → Ra K w vs ds → T ds Γ S P → OkN K w P Q → t vs σ w.H Q
structure JGs (X : Cx) (ts : List Expr) (t : TGs) (T : TGs') : Prop where
  pg : PGs X ts t
  sem : SemGs X.K t T
def nmG (i : Nat) : TGd := fun d Γ S P => P (Γ.set i (some d)) S
theorem jg_name (i : Nat) {x : Str} (hN : X.N.Nodup) (hi : X.N[i]? = some x := by rfl) (hx : Loc X.env.scope x := by first | exact Or.inl rfl | exact Or.inr rfl) (hf : X.fn x = true ∨ X.env.scope.names.lookup x = some .local := by first | exact .inl rfl | exact .inr rfl | assumption) : JG X (.Name x pos) (gName i) (nmG i) :=
  ⟨pg_name hN hi hx hf, fun d Γ S v σ w P Q g sl r h q => q _ _ w S (Ext.refl w) g (sl.set r i) h⟩
def gsNil : TGs' := fun ds Γ S P => ds = [] ∧ P Γ S
def gsCons (T : TGd) (U : TGs') : TGs' := fun ds Γ S P => ∃ d r, ds = d :: r ∧ T d Γ S fun Γ' S' => U r Γ' S' P
theorem jgs_nil : JGs X [] gNil gsNil := ⟨pgs_nil, fun ds Γ S vs σ w P Q g sl r ⟨e, h⟩ q => by
  subst e
  cases r
  exact ⟨rfl, q σ Γ w S (Ext.refl w) g sl h⟩⟩
theorem jgs_cons {g1 : TG} {g2 : TGs} {G1 : TGd} {G2 : TGs'} (h1 : JG X e g1 G1) (h2 : JGs X es g2 G2) (hs : (assignEach (e :: es) X.env).map (·.2) = assign e X.env :: (assignEach es X.env).map (·.2) := by rfl) : JGs X (e :: es) (gCons g1 g2) (gsCons G1 G2) :=
  ⟨pgs_cons h1.pg h2.pg hs, fun ds Γ S vs σ w P Q g sl r ⟨d, rr, e, h⟩ q => by
    subst e
    cases r with
    | cons ra rb => exact ⟨_, _, rfl, h1.sem d Γ S _ σ w _ _ g sl ra h fun σ' Γ' w' S' e' g' sl' h' => h2.sem rr Γ' S' _ σ' w' P Q g' sl' (e'.ra rb) h' (q.ext e')⟩⟩
def tupG (n : Nat) (T : TGs') : TGd := fun d Γ S P => ∃ ds, d = .tup ds ∧ ds.length = n ∧ T ds Γ S P
theorem jg_tup {n : Nat} {x1} {gs : TGs} {G : TGs'} (hc : X.calm = true) (h : JGs X es gs G) (hn : (assignEach es X.env).length = n := by rfl) (hst : (assignEach es X.env).findIdx? (·.1) = none := by rfl) : JG X (.Tuple es x1 pos) (gTup X.K n gs) (tupG n G) :=
  ⟨pg_tup hc h.pg hn hst, fun d Γ S v σ w P Q g sl r ⟨ds, e, hl, hT⟩ q => by
    subst e
    cases r with
    | tup hq ra => exact ⟨_, _, rfl, sameSqt g.sub hq, by rw [ra.length]; exact hl, h.sem ds Γ S _ σ w P Q g sl ra hT q⟩⟩
/-- o[i] = v -/
def TSetD (K : PySem.W.Frag) (t : TSet) (f : D → D → D → Sto → (Sto → Prop) → Prop) : Prop := ∀ w S o i v do_ di dv P Q, Good K w S → Rv K w o do_ → Rv K w i di → Rv K w v dv → f do_ di dv S P → (∀ w' S', Ext w w' → Good K w' S' → P S' → Q w'.H) → t o i v w.H Q
def subG (f : D → D → D → Sto → (Sto → Prop) → Prop) (To Ti : TD) : TGd := fun d Γ S P => To Γ S (fun S1 o => Ti Γ S1 (fun S2 i => f o i d S2 fun S3 => P Γ S3) fun _ _ => False) fun _ _ => False
theorem jg_sub {o i : Expr} {to ti : TE} {To Ti : TD} {ts : TSet} {f : D → D → D → Sto → (Sto → Prop) → Prop} (ho : JE X (fun _ _ _ _ => False) o to To) (hi : JE X (fun _ _ _ _ => False) i ti Ti) (hs : PSet X ts) (hd : TSetD X.K ts f)
    (hha : ∀ v, assign (.Subscript o i pos) X.env v = (do
      let ov ← holding [v] (eval o X.env)
      let iv ← holding [v, ov] (eval i X.env)
      standAt pos
      holding [v, ov, iv] (setItem ov iv v)
      release [v, ov, iv] []) := by intro _; rfl) : JG X (.Subscript o i pos) (gSub to ti ts) (subG f To Ti) :=
  ⟨pg_sub ho.pe hi.pe hs hha, fun d Γ S v σ w P Q g sl r h q => ho.sem Γ S _ _ σ w g sl h (fun _ _ _ _ _ _ _ _ z => z) _ fun vo do_ w1 S1 e1 g1 r1 h1 =>
    hi.sem Γ S1 _ _ σ w1 g1 (sl.ext e1) h1 (fun _ _ _ _ _ _ _ _ z => z) _ fun vi di w2 S2 e2 g2 r2 h2 =>
      hd w2 S2 vo vi v do_ di d _ _ g2 (e2.rp r1) r2 ((e1.trans e2).rp r) h2 fun w3 S3 e3 g3 h3 => q σ Γ w3 S3 ((e1.trans e2).trans e3) g3 (sl.ext ((e1.trans e2).trans e3)) h3⟩
def sAsg (T : TD) (G : TGd) : TSd := fun D Γ S => T Γ S (fun S1 d => G d Γ S1 D.nx) D.er
theorem sem_asg {K : PySem.W.Frag} {g : TG} {G : TGd} (he : SemE K W te Te) (hg : SemG K g G) : SemS K W (tAsg te g) (sAsg Te G) := fun D' Γ S σ w D g0 sl h r =>
  he Γ S _ _ σ w g0 sl h (r.er σ) _ fun v d w1 S1 e1 g1 r1 h1 => hg d Γ S1 v σ w1 D'.nx D.nx g1 (sl.ext e1) r1 h1 (r.nx.ext e1)
theorem js_asg {tg : Expr} {g : TG} {G : TGd} (he : JE X W e te Te) (hg : JG X tg g G) (hs : swapsWithSole [tg] e pos.line X.env = pure false := by rfl) (hw : swappedStores [tg] e X.env = pure none := by rfl)
    (h1 : (assignEach [tg] X.env).map (·.2) = [assign tg X.env] := by rfl) : JS X W (.Assign [tg] e pos) (tAsg te g) (sAsg Te G) :=
  ⟨ps_asg he.pe hg.pg hs hw h1, sem_asg he.sem hg.sem⟩
theorem sem_nmG {K : PySem.W.Frag} (i : Nat) : SemG K (gName i) (nmG i) := fun d Γ S v σ w P Q g sl r h q => q _ _ w S (Ext.refl w) g (sl.set r i) h
theorem js_set (i : Nat) {x : Str} {pos' : Pos} (hN : X.N.Nodup) (he : JE X W e te Te) (hi : X.N[i]? = some x := by rfl) (hx : Loc X.env.scope x := by first | exact Or.inl rfl | exact Or.inr rfl) (hs : swapsWith e (some (.Name x pos')) pos.line X.env = pure false := by rfl)
    (hf : X.fn x = true ∨ X.env.scope.names.lookup x = some .local := by first | exact .inl rfl | exact .inr rfl | assumption) : JS X W (.Assign [.Name x pos'] e pos) (tAsg te (gName i)) (sAsg Te (nmG i)) := ⟨ps_set hN hi hx he.pe hs hf, sem_asg he.sem (sem_nmG i)⟩
/-- a, b = e1, e2 -/
def sPar (i j : Nat) (T : TL) : TSd := fun D Γ S => T Γ S (fun S1 ds => ∃ x y, ds = [x, y] ∧ D.nx ((Γ.set i (some x)).set j (some y)) S1) D.er
theorem sem_par {K : PySem.W.Frag} {i j : Nat} {tl : TA} {Tl : TL} (h : SemA K W tl Tl) : SemS K W (tPar i j tl) (sPar i j Tl) := fun D' Γ S σ w D g sl hT r =>
  h Γ S _ _ σ w g sl hT (r.er σ) _ fun vs ds w1 S1 e1 g1 r1 ⟨x, y, e, h1⟩ => by
    subst e
    cases r1 with
    | cons ra rb =>
      cases rb with
      | cons rc rd =>
        cases rd
        exact ⟨_, _, rfl, r.nx _ _ w1 S1 e1 g1 (((sl.ext e1).set ra i).set rc j) h1⟩
theorem js_par (i j : Nat) {x y : Str} {px py pt : Pos} {kt k2 pt2} {tl : TA} {Tl : TL} (hc : X.calm = true) (hN : X.N.Nodup) (ha : JA X W [a, b] tl Tl) (hij : i ≠ j := by decide) (hi : X.N[i]? = some x := by rfl) (hj : X.N[j]? = some y := by rfl)
    (hx : X.env.scope.names.lookup x = some .local := by rfl) (hy : X.env.scope.names.lookup y = some .local := by rfl)
    (hw : swappedStores [.Tuple [.Name x px, .Name y py] kt pt] (.Tuple [a, b] k2 pt2) X.env = pure (some [x, y]) := by rfl)
    (hs : swapsWithSole [.Tuple [.Name x px, .Name y py] kt pt] (.Tuple [a, b] k2 pt2) pos.line X.env = pure false := by rfl) :
    JS X W (.Assign [.Tuple [.Name x px, .Name y py] kt pt] (.Tuple [a, b] k2 pt2) pos) (tPar i j tl) (sPar i j Tl) := ⟨ps_par hc hN hi hj hij hx hy ha.pa hw hs, sem_par ha.sem⟩
/-- x += e -/
def sAug (i : Nat) (T : TD) (f : D → D → Sto → KD → Prop) : TSd := fun D Γ S => ∃ d, Γ[i]? = some (some d) ∧ T Γ S (fun S1 y => f d y S1 fun S2 z => D.nx (Γ.set i (some z)) S2) D.er
def IpD (K : PySem.W.Frag) (t : TIp) (f : D → D → Sto → KD → Prop) : Prop := ∀ w S x y u v Φ Q, Good K w S → Rv K w x u → Rv K w y v → f u v S Φ → OkD K w Φ Q → t x y w.H Q
theorem js_aug (i : Nat) {x : Str} {op : Operator} {ti : TIp} {f : D → D → Sto → KD → Prop} {pos' : Pos} (hN : X.N.Nodup) (he : JE X W e te Te) (ho : PIp X op ti) (hd : IpD X.K ti f) (hi : X.N[i]? = some x := by rfl) (hx : Loc X.env.scope x := by first | exact Or.inl rfl | exact Or.inr rfl)
    (hf : X.fn x = true ∨ X.env.scope.names.lookup x = some .local := by first | exact .inl rfl | exact .inr rfl | assumption) : JS X W (.AugAssign (.Name x pos') op e pos) (tAug i te ti) (sAug i Te f) :=
  ⟨ps_aug hN hi hx he.pe ho hf, fun D' Γ S σ w D g sl ⟨d, h1, h2⟩ r => by
    obtain ⟨v, h3, rv⟩ := sl.2 i d h1
    exact ⟨v, h3, he.sem Γ S _ _ σ w g sl h2 (r.er σ) _ fun v2 d2 w1 S1 e1 g1 r1 h4 => hd w1 S1 v v2 d d2 _ _ g1 (e1.rp rv) r1 h4 fun v3 d3 w2 S2 e2 g2 r2 h5 => r.nx _ _ w2 S2 (e1.trans e2) g2 ((sl.ext (e1.trans e2)).set r2 i) h5⟩⟩
/-- the items behind a source, by the cells -/
abbrev Src := Sto → Option (List D)
def SrcOk (K : PySem.W.Frag) (w0 : Hs) (J : It) (src : Src) : Prop := ∀ w S ds i, Ext w0 w → Good K w S → src S = some ds →
  (∀ d, ds[i]? = some d → J.go i w.H ∧ ∀ x H', J.yld i w.H x H' → ∃ w', Ext w w' ∧ Good K w' S ∧ w'.H = H' ∧ Rv K w' x d) ∧ (ds.length ≤ i → J.stop i w.H)
abbrev TId := Gam → Sto → (Sto → Src → Prop) → KX → Prop
def SemI (K : PySem.W.Frag) (W : WX) (t : TI) (T : TId) : Prop := ∀ Γ S Φ Ψ σ w, Good K w S → Slots K w σ Γ → T Γ S Φ Ψ → OkX K W w Ψ σ → ∀ Q : It → Hp → Prop, (∀ J src w' S', Ext w w' → Good K w' S' → SrcOk K w' J src → Φ S' src → Q J w'.H) → t σ w.H Q
structure JI (X : Cx) (W : WX) (tg iter : Expr) (t : TI) (T : TId) : Prop where
  pi : PI X tg iter t
  sem : SemI X.K W t T
/-- for: n turns, P the invariant -/
def sFor (I : TId) (G : TGd) (B : TSd) : TSd := fun D Γ S => I Γ S (fun S1 src => ∃ (P : Nat → Gam → Sto → Prop) (n : Nat), P 0 Γ S1 ∧
  (∀ i Γ' S', i ≤ n → P i Γ' S' → ∃ ds, src S' = some ds ∧ ds.length = n) ∧
  (∀ i Γ' S' ds d, P i Γ' S' → src S' = some ds → ds[i]? = some d → G d Γ' S' fun Γ2 S2 => B { D with nx := P (i + 1), ct := P (i + 1), bk := D.nx } Γ2 S2) ∧
  (∀ Γ' S', P n Γ' S' → D.nx Γ' S')) D.er
theorem sem_for {K : PySem.W.Frag} {wi : TI} {g : TG} {tb : TS} {I : TId} {G : TGd} {B : TSd} (hi : SemI K W wi I) (hg : SemG K g G) (hb : SemS K W tb B) : SemS K W (tFor wi g tb) (sFor I G B) := fun D' Γ S σ w D g0 sl h r =>
  hi Γ S _ _ σ w g0 sl h (r.er σ) _ fun J src w1 S1 e1 g1 ok ⟨P, n, h0, hl, hs, hd⟩ => by
    refine ⟨fun i m σ' H' => m + i = n ∧ ∃ w' Γ' S', H' = w'.H ∧ Ext w1 w' ∧ Good K w' S' ∧ Slots K w' σ' Γ' ∧ P i Γ' S', ⟨n, by omega, w1, Γ, S1, rfl, Ext.refl w1, g1, sl.ext e1, h0⟩, ?_⟩
    rintro i m σ' H' ⟨hm, w', Γ', S', rfl, e', g', sl', p⟩
    obtain ⟨ds, hsrc, hlen⟩ := hl i Γ' S' (by omega) p
    have q := ok w' S' ds i e' g' hsrc
    by_cases hlt : i < n
    · have hx : ds[i]? = some ds[i] := List.getElem?_eq_getElem (by omega)
      obtain ⟨hgo, hy⟩ := q.1 _ hx
      refine .inr ⟨hgo, fun σ2 H2 => ∃ w2 Γ2 S2, H2 = w2.H ∧ Ext w1 w2 ∧ Good K w2 S2 ∧ Slots K w2 σ2 Γ2 ∧ P (i + 1) Γ2 S2, ?_, ?_⟩
      · rintro σ2 H2 ⟨w2, Γ2, S2, rfl, e2, g2, sl2, p2⟩
        exact ⟨m - 1, by omega, by omega, w2, Γ2, S2, rfl, e2, g2, sl2, p2⟩
      · intro x H2 hyl
        obtain ⟨w2, e2, g2, rfl, r2⟩ := hy x H2 hyl
        have e12 := e'.trans e2
        refine hg _ Γ' S' x σ' w2 _ _ g2 (sl'.ext e2) r2 (hs i Γ' S' ds _ p hsrc hx) fun σ3 Γ3 w3 S3 e3 g3 sl3 h3 => ?_
        have e13 := e12.trans e3
        refine hb _ Γ3 S3 σ3 w3 _ g3 sl3 h3 ⟨fun σ4 Γ4 w4 S4 e4 g4 sl4 h4 => ⟨w4, Γ4, S4, rfl, e13.trans e4, g4, sl4, h4⟩, (r.ext (e1.trans e13)).rt, (r.ext (e1.trans e13)).nx, fun σ4 Γ4 w4 S4 e4 g4 sl4 h4 => ⟨w4, Γ4, S4, rfl, e13.trans e4, g4, sl4, h4⟩, (r.ext (e1.trans e13)).er⟩
    · have hin : i = n := by omega
      subst hin
      exact .inl ⟨q.2 (by omega), r.nx σ' Γ' w' S' (e1.trans e') g' sl' (hd Γ' S' p)⟩
theorem js_for {tg iter : Expr} {body : List Stmt} {wi : TI} {g : TG} {tb : TS} {I : TId} {G : TGd} {B : TSd} (hp : PassesOwn (model X.prog X.w) X.A X.env X.xe) (hc : X.calm = true) (hi : JI X W tg iter wi I) (hg : JG X tg g G) (hb : JB X W body tb B) (hs : ∀ x, foldedSetIterable iter X.env x = pure x := by intro _; rfl) :
    JS X W (.For tg iter body [] pos) (tFor wi g tb) (sFor I G B) := ⟨ps_for hp hc hi.pi hg.pg hb.pss hs, sem_for hi.sem hg.sem hb.sem⟩
/-- while -/
def sWhile (C : TB) (B : TSd) : TSd := fun D Γ S => ∃ P : Nat → Gam → Sto → Prop, (∃ m, P m Γ S) ∧ ∀ m Γ' S', P m Γ' S' → C Γ' S' (fun S1 k => if k = true then B { D with nx := fun Γ2 S2 => ∃ m', m' < m ∧ P m' Γ2 S2, ct := fun Γ2 S2 => ∃ m', m' < m ∧ P m' Γ2 S2, bk := D.nx } Γ' S1 else D.nx Γ' S1) D.er
def gstart (N : List Str) (ds : List D) : Gam := ds.map some ++ List.replicate (N.length - ds.length) none
theorem slots_start {K : PySem.W.Frag} {w : Hs} {N : List Str} {vs : List V} {ds : List D} (r : Ra K w vs ds) : Slots K w (L2.start N vs) (gstart N ds) := by
  refine ⟨by simp [L2.start, gstart, r.length], fun i d h => ?_⟩
  unfold gstart at h
  by_cases hi : i < ds.length
  · rw [List.getElem?_append_left (by simpa using hi), List.getElem?_map] at h
    cases q : ds[i]? with
    | none => rw [q] at h; cases h
    | some d' =>
      rw [q] at h; cases h
      obtain ⟨v, h1, h2⟩ := r.get q
      refine ⟨v, ?_, h2⟩
      unfold L2.start
      rw [List.getElem?_append_left (by rw [List.length_map]; exact (List.getElem?_eq_some_iff.mp h1).1), List.getElem?_map, h1] <;> rfl
  · rw [List.getElem?_append_right (by simpa using hi)] at h
    rw [List.getElem?_replicate] at h
    split at h <;> cases h
/-- the wish of a def's body -/
abbrev WD (E : XK) : WX := fun cv dx _ H => E cv dx H
structure JTs (X : Cx) (ifs : List Expr) (t : TT) (T : TB) : Prop where
  pts : PTs X ifs t
  sem : SemT X.K (fun _ _ _ _ => False) t T
def bYes : TB := fun _ S Φ _ => Φ S true
theorem jts_nil : JTs X [] tYes bYes := ⟨pts_nil, fun Γ S Φ Ψ σ w g sl h hx Q q => q true w S (Ext.refl w) g h⟩
theorem jts_one {tt : TT} {C : TB} (h : JT X (fun _ _ _ _ => False) c tt C) : JTs X [c] tt C := ⟨pts_one h.pt, h.sem⟩
/-- [elt for tg in iter if ..]: P by the turn, the cells and what is made so far -/
def dLc (I : TId) (G : TGd) (C : TB) (Te : TD) (vs : List Nat) (Fin : List D → Sto → KD → Prop) : TD := fun Γ S Φ Ψ => I Γ S (fun S1 src => ∃ (P : Nat → List D → Sto → Prop) (n : Nat), n ≤ sizeLine ∧ P 0 [] S1 ∧
  (∀ i acc S', i ≤ n → P i acc S' → ∃ ds, src S' = some ds ∧ ds.length = n) ∧
  (∀ i acc S' ds d, P i acc S' → src S' = some ds → ds[i]? = some d → G d (gwipe Γ vs) S' fun Γ2 S2 => C Γ2 S2 (fun S3 k => if k = true then Te Γ2 S3 (fun S4 y => P (i + 1) (acc ++ [y]) S4) (fun _ _ => False) else P (i + 1) acc S3) (fun _ _ => False)) ∧
  (∀ acc S', P n acc S' → Fin acc S' Φ)) Ψ
def finF : List D → Sto → KD → Prop := fun acc S Φ => Φ S (.lst acc)
def finO : List D → Sto → KD → Prop := fun acc S Φ => Φ (S ++ [.lst acc]) (.own S.length)
def FinOk (Fin : List D → Sto → KD → Prop) : Prop := ∀ (K : PySem.W.Frag) (w : Hs) (S : Sto) (acc : List D) (Φ : KD) (p : Addr) (xs : List V) (Q : V → Hp → Prop), Good K w S → w.H p = some (.lst xs) → w.F p = none → p ∉ w.al → Ra K w xs acc → Fin acc S Φ →
  (∀ v d w' S', (∀ a o, w.F a = some o → w'.F a = some o) → (∀ a o, w'.F a = some o → w.F a = some o ∨ a = p) → (w'.al = w.al ∨ w'.al = w.al ++ [p]) → w'.H = w.H → Good K w' S' → Rv K w' v d → Φ S' d → Q v w'.H) → Q (.ref p) w.H
theorem finF_ok : FinOk finF := by
  intro K w S acc Φ p xs Q g hH hF hA r h q
  let w' : Hs := ⟨upd w.F p (.lst xs), w.al, w.H⟩
  have up : ∀ a o, w.F a = some o → w'.F a = some o := updF hF
  have ra : Ra K w' xs acc := RpA.mono up (fun _ _ z => z) acc xs r
  refine q (.ref p) (.lst acc) w' S up (fun a o e => ?_) (.inl rfl) rfl ⟨fun a o e => ?_, g.nd, g.len, fun n a c q1 q2 => ?_, g.dom⟩ (.lst upd_same ra) h
  · by_cases z : a = p
    · exact .inr z
    · have e2 : upd w.F p (.lst xs) a = some o := e
      rw [upd_ne z] at e2
      exact .inl e2
  · have e2 : upd w.F p (.lst xs) a = some o := e
    by_cases z : a = p
    · subst z; rw [upd_same] at e2; cases e2; exact hH
    · rw [upd_ne z] at e2; exact g.sub a o e2
  · have hne : a ≠ p := fun z => hA (z ▸ List.mem_of_getElem? q1)
    cases c with
    | gone => exact True.intro
    | lst ds =>
      obtain ⟨h1, ys, h2, h3⟩ := g.cell n a _ q1 q2
      exact ⟨by show upd w.F p _ a = none; rw [upd_ne hne]; exact h1, ys, h2, RpA.mono up (fun _ _ z => z) ds ys h3⟩
    | ins C fs =>
      obtain ⟨h1, dx, ys, h2, h3⟩ := g.cell n a _ q1 q2
      exact ⟨by show upd w.F p _ a = none; rw [upd_ne hne]; exact h1, dx, ys, h2, RpF.mono up (fun _ _ z => z) fs ys h3⟩
    | dct ks =>
      obtain ⟨h1, us, h2, h3⟩ := g.cell n a _ q1 q2
      exact ⟨by show upd w.F p _ a = none; rw [upd_ne hne]; exact h1, us, h2, h3.mono up (fun _ _ z => z)⟩
theorem wipe_set {σ : L2.St} : ∀ {vs : List Nat} {i : Nat} {o : Option V}, i ∈ vs → L2.wipe (σ.set i o) vs = L2.wipe σ vs
  | [], _, _, h => nomatch h
  | v :: vs, i, o, h => by
    by_cases hv : i ∈ vs
    · show (L2.wipe (σ.set i o) vs).set v none = (L2.wipe σ vs).set v none
      rw [wipe_set hv]
    · have e : i = v := by
        rcases List.mem_cons.mp h with z | z
        · exact z
        · exact absurd z hv
      subst e
      have out : ∀ (us : List Nat) (G : L2.St), i ∉ us → L2.wipe (G.set i o) us = (L2.wipe G us).set i o := by
        intro us
        induction us with
        | nil => intro G _; rfl
        | cons u us ih =>
          intro G hn
          have h1 : i ≠ u := fun z => hn (by rw [z]; exact List.mem_cons_self)
          have h2 : i ∉ us := fun z => hn (List.mem_cons_of_mem _ z)
          show (L2.wipe (G.set i o) us).set u none = ((L2.wipe G us).set u none).set i o
          rw [ih G h2, List.set_comm _ _ h1]
      show (L2.wipe (σ.set i o) vs).set i none = (L2.wipe σ vs).set i none
      rw [out vs σ hv, List.set_set]
theorem wipe_wipe (σ : L2.St) : ∀ (vs us : List Nat), (∀ v ∈ us, v ∈ vs) → L2.wipe (L2.wipe σ us) vs = L2.wipe σ vs
  | vs, [], _ => rfl
  | vs, u :: us, h => by
    show L2.wipe ((L2.wipe σ us).set u none) vs = L2.wipe σ vs
    rw [wipe_set (h u List.mem_cons_self)]
    exact wipe_wipe σ vs us fun v hv => h v (List.mem_cons_of_mem _ hv)
/-- a target that stores in the slots vs alone -/
structure GK (vs : List Nat) (g : TG) : Prop where
  keep : ∀ x σ H k, g x σ H k → g x σ H fun σ2 H2 => L2.wipe σ2 vs = L2.wipe σ vs ∧ k σ2 H2
structure GKs (vs : List Nat) (g : TGs) : Prop where
  keep : ∀ x σ H k, g x σ H k → g x σ H fun σ2 H2 => L2.wipe σ2 vs = L2.wipe σ vs ∧ k σ2 H2
  mono : ∀ x σ H (k k' : L2.St → Hp → Prop), (∀ σ H, k σ H → k' σ H) → g x σ H k → g x σ H k'
theorem gk_name {vs : List Nat} {i : Nat} (h : i ∈ vs := by decide) : GK vs (gName i) := ⟨fun x σ H k q => ⟨wipe_set h, q⟩⟩
theorem gks_nil {vs : List Nat} : GKs vs gNil := ⟨fun x σ H k ⟨e, q⟩ => ⟨e, rfl, q⟩, fun x σ H k k' h ⟨e, q⟩ => ⟨e, h _ _ q⟩⟩
theorem gks_name {vs : List Nat} {i : Nat} {u : TGs} (h2 : GKs vs u) (h : i ∈ vs := by decide) : GKs vs (gCons (gName i) u) :=
  ⟨fun x σ H k ⟨v, r, e, q⟩ => ⟨v, r, e, h2.mono _ _ _ _ _ (fun σ2 H2 ⟨z, y⟩ => ⟨z.trans (wipe_set h), y⟩) (h2.keep _ _ _ _ q)⟩, fun x σ H k k' hh ⟨v, r, e, q⟩ => ⟨v, r, e, h2.mono _ _ _ _ _ hh q⟩⟩
theorem gk_tup {vs : List Nat} {K : PySem.W.Frag} {n : Nat} {u : TGs} (h : GKs vs u) : GK vs (gTup K n u) := ⟨fun x σ H k ⟨a, xs, e, q, l, z⟩ => ⟨a, xs, e, q, l, h.keep _ _ _ _ z⟩⟩
/-- the world with a list in the making at p -/
def Hs.at (w : Hs) (p : Addr) (o : HO) : Hs := ⟨w.F, w.al, upd w.H p o⟩
theorem Good.at {K : PySem.W.Frag} {w : Hs} {S : Sto} (g : Good K w S) {p : Addr} (o : HO) (hF : w.F p = none) (hA : p ∉ w.al) : Good K (w.at p o) S := by
  refine ⟨fun a x q => ?_, g.nd, g.len, fun n a c q1 q2 => ?_, fun a q => ?_⟩
  · show upd w.H p o a = some x
    rw [upd_ne (ne_of_none q hF)]; exact g.sub a x q
  · have hne : a ≠ p := fun z => hA (z ▸ List.mem_of_getElem? q1)
    cases c with
    | gone => exact True.intro
    | lst ds =>
      obtain ⟨h1, ys, h2, h3⟩ := g.cell n a _ q1 q2
      exact ⟨h1, ys, by show upd w.H p o a = _; rw [upd_ne hne]; exact h2, h3⟩
    | ins C fs =>
      obtain ⟨h1, dx, ys, h2, h3⟩ := g.cell n a _ q1 q2
      exact ⟨h1, dx, ys, by show upd w.H p o a = _; rw [upd_ne hne]; exact h2, h3⟩
    | dct ks =>
      obtain ⟨h1, us, h2, h3⟩ := g.cell n a _ q1 q2
      exact ⟨h1, us, by show upd w.H p o a = _; rw [upd_ne hne]; exact h2, h3⟩
  · show upd w.H p o a ≠ none
    by_cases z : a = p
    · rw [z, upd_same]; exact fun z => nomatch z
    · rw [upd_ne z]; exact g.dom a q
theorem Ext.at {w0 w : Hs} (e : Ext w0 w) {p : Addr} (o : HO) (h0 : w0.H p = none) : Ext w0 (w.at p o) := by
  refine ⟨e.f, e.al, e.new, fun a x q n => ?_, fun a q => ?_⟩
  · show upd w.H p o a = some x
    rw [upd_ne (ne_of_none q h0)]; exact e.kp a x q n
  · show upd w.H p o a ≠ none
    by_cases z : a = p
    · rw [z, upd_same]; exact fun z => nomatch z
    · rw [upd_ne z]; exact e.dm a q
/-- an address that is neither frozen nor a cell stays so -/
theorem Ext.hid {w w' : Hs} (e : Ext w w') {p : Addr} {o : HO} (hH : w.H p = some o) (hF : w.F p = none) (hA : p ∉ w.al) : w'.H p = some o ∧ w'.F p = none ∧ p ∉ w'.al := by
  refine ⟨e.kp p o hH hA, ?_, fun z => ?_⟩
  · cases q : w'.F p with
    | none => rfl
    | some x =>
      rcases e.new p x q with z | z | z
      · rw [hF] at z; cases z
      · rw [hH] at z; cases z
      · exact absurd z hA
  · rcases e.old z with y | y
    · exact hA y
    · rw [hH] at y; cases y
theorem sem_lc {K : PySem.W.Frag} {wi : TI} {g : TG} {tt : TT} {te : TE} {I : TId} {G : TGd} {C : TB} {Te : TD} {vs : List Nat} {Fin : List D → Sto → KD → Prop} (hi : SemI K W wi I) (hg : SemG K g G) (hk : GK vs g) (ht : SemT K (fun _ _ _ _ => False) tt C) (he : SemE K (fun _ _ _ _ => False) te Te) (hf : FinOk Fin) :
    SemE K W (tLc wi g tt te vs) (dLc I G C Te vs Fin) := fun Γ S Φ Ψ σ w g0 sl h hx Q q =>
  hi Γ S _ _ σ w g0 sl h hx _ fun J src w1 S1 e1 g1 ok ⟨P, n, hn, h0, hl, hs, hd⟩ => fun p hp => by
    have hF1 := g1.notF hp
    have hA1 := g1.notA hp
    refine ⟨fun i m H' => m + i = n ∧ ∃ w' S' acc accV, H' = w'.H ∧ Ext w1 w' ∧ Good K w' S' ∧ w'.F p = none ∧ p ∉ w'.al ∧ w'.H p = some (.lst accV) ∧ Ra K w' accV acc ∧ P i acc S' ∧ acc.length ≤ i,
      ⟨n, by omega, w1.at p (.lst []), S1, [], [], rfl, (Ext.refl w1).at _ hp, g1.at _ hF1 hA1, hF1, hA1, upd_same, .nil, h0, Nat.le_refl _⟩, ?_⟩
    rintro i m H' ⟨hm, w', S', acc, accV, rfl, e', g', hF, hA, hH, hr, pp, hlen⟩
    obtain ⟨ds, hsrc, hlenD⟩ := hl i acc S' (by omega) pp
    have qq := ok w' S' ds i e' g' hsrc
    by_cases hlt : i < n
    · have hx' : ds[i]? = some ds[i] := List.getElem?_eq_getElem (by omega)
      obtain ⟨hgo, hy⟩ := qq.1 _ hx'
      refine .inr ⟨hgo, fun H2 => ∃ w2 S2 acc2 accV2, H2 = w2.H ∧ Ext w1 w2 ∧ Good K w2 S2 ∧ w2.F p = none ∧ p ∉ w2.al ∧ w2.H p = some (.lst accV2) ∧ Ra K w2 accV2 acc2 ∧ P (i + 1) acc2 S2 ∧ acc2.length ≤ i + 1, ?_, ?_⟩
      · rintro H2 ⟨w2, S2, acc2, accV2, r⟩
        exact ⟨m - 1, by omega, by omega, w2, S2, acc2, accV2, r⟩
      · intro x H2 hyl
        obtain ⟨w2, e2, g2, rfl, r2⟩ := hy x H2 hyl
        have sl2 : Slots K w2 (L2.wipe σ vs) (gwipe Γ vs) := (sl.ext ((e1.trans e').trans e2)).wipe vs
        have s1 := hk.keep x (L2.wipe σ vs) w2.H _ (hg _ (gwipe Γ vs) S' x (L2.wipe σ vs) w2 _ (fun σ2 H2 => tt σ2 H2 fun b H3 => if b = true then te σ2 H3 fun y H4 => ∃ acc, H4 p = some (.lst acc) ∧ acc.length < sizeLine ∧ (∃ w2 S2 acc2 accV2, upd H4 p (.lst (acc ++ [y])) = w2.H ∧ Ext w1 w2 ∧ Good K w2 S2 ∧ w2.F p = none ∧ p ∉ w2.al ∧ w2.H p = some (.lst accV2) ∧ Ra K w2 accV2 acc2 ∧ P (i + 1) acc2 S2 ∧ acc2.length ≤ i + 1)
          else ∃ w2 S2 acc2 accV2, H3 = w2.H ∧ Ext w1 w2 ∧ Good K w2 S2 ∧ w2.F p = none ∧ p ∉ w2.al ∧ w2.H p = some (.lst accV2) ∧ Ra K w2 accV2 acc2 ∧ P (i + 1) acc2 S2 ∧ acc2.length ≤ i + 1) g2 sl2 r2 (hs i acc S' ds _ pp hsrc hx') fun σ3 Γ3 w3 S3 e3 g3 sl3 h3 => ?_)
        · rw [wipe_wipe σ vs vs fun _ z => z] at s1
          exact s1
        · have e23 := e2.trans e3
          refine ht Γ3 S3 _ _ σ3 w3 g3 sl3 h3 (fun _ _ _ _ _ _ _ _ z => z) _ fun b w4 S4 e4 g4 h4 => ?_
          have e24 := e23.trans e4
          have ee4 := e'.trans e24
          obtain ⟨hH4, hF4, hA4⟩ := e24.hid hH hF hA
          cases b with
          | false => exact ⟨w4, S4, acc, accV, rfl, ee4, g4, hF4, hA4, hH4, e24.ra hr, h4, by omega⟩
          | true =>
            refine he Γ3 S4 _ _ σ3 w4 g4 (sl3.ext e4) h4 (fun _ _ _ _ _ _ _ _ z => z) _ fun y dy w5 S5 e5 g5 r5 h5 => ?_
            have e25 := e24.trans e5
            have ee5 := e'.trans e25
            obtain ⟨hH5, hF5, hA5⟩ := e25.hid hH hF hA
            refine ⟨accV, hH5, by rw [hr.length]; omega, w5.at p (.lst (accV ++ [y])), S5, acc ++ [dy], accV ++ [y], rfl, ee5.at _ hp, g5.at _ hF5 hA5, hF5, hA5, upd_same, RpA.append (e25.ra hr) (.cons r5 .nil), h5, by rw [List.length_append]; show acc.length + 1 ≤ i + 1; omega⟩
    · have hin : i = n := by omega
      subst hin
      refine .inl ⟨qq.2 (by omega), ?_⟩
      refine hf K w' S' acc Φ p accV (fun v H => Q v H) g' hH hF hA hr (hd acc S' pp) fun v d w2 S2 hF2 hN2 hal hHH g2 r2 h2 => q v d w2 S2 (e1.trans ?_) g2 r2 h2
      refine ⟨fun a o z => hF2 a o (e'.f a o z), ?_, fun a o z => ?_, fun a o z nz => by rw [hHH]; exact e'.kp a o z nz, fun a z => by rw [hHH]; exact e'.dm a z⟩
      · obtain ⟨β, eb, hb⟩ := e'.al
        rcases hal with z | z
        · exact ⟨β, by rw [z, eb], hb⟩
        · refine ⟨β ++ [p], by rw [z, eb, List.append_assoc], fun b hbm => ?_⟩
          rcases List.mem_append.mp hbm with y | y
          · exact hb b y
          · rw [List.mem_singleton.mp y]; exact hp
      · rcases hN2 a o z with y | y
        · exact e'.new a o y
        · subst y; exact .inr (.inl hp)
abbrev Bk (α : Type) := Shared → Hp → Addr → List (Str × Addr) → List Addr → α
theorem je_lc {elt tg iter : Expr} {ifs : List Expr} {scope : Scope} {own : List (Str × Nat)} {wi : TI} {g : Bk TG} {tt : Bk TT} {te : Bk TE} {I : TId} {G : TGd} {C : TB} {Te : TD} (Fin : List D → Sto → KD → Prop) (hf : FinOk Fin) (hc : X.calm = true) (hN : X.N.Nodup) (hi : JI X W tg iter wi I) (ok : BlkOk X.N X.env.scope scope own)
    (hg : ∀ (s : Shared) (H : Hp) (C : Addr) (cl : List (Str × Addr)) (fp : List Addr), JG (X.blk s H scope (compEnvC scope cl C X.env) fp) tg (g s H C cl fp) G) (hk : GK (own.map (·.2)) (g {} (fun _ => none) 0 [] [])) (ht : ∀ (s : Shared) (H : Hp) (C' : Addr) (cl : List (Str × Addr)) (fp : List Addr), JTs (X.blk s H scope (compEnvC scope cl C' X.env) fp) ifs (tt s H C' cl fp) C)
    (he : ∀ (s : Shared) (H : Hp) (C : Addr) (cl : List (Str × Addr)) (fp : List Addr), JE (X.blk s H scope (compEnvC scope cl C X.env) fp) (fun _ _ _ _ => False) elt (te s H C cl fp) Te) (hs : ∀ x, foldedSetIterable iter X.env x = pure x := by intro _; rfl)
    (eg : ∀ s H C cl fp, g s H C cl fp = g {} (fun _ => none) 0 [] [] := by intros; rfl) (et : ∀ s H C cl fp, tt s H C cl fp = tt {} (fun _ => none) 0 [] [] := by intros; rfl) (ee : ∀ s H C cl fp, te s H C cl fp = te {} (fun _ => none) 0 [] [] := by intros; rfl) :
    JE X W (.ListComp elt [⟨tg, iter, ifs, 0⟩] scope pos) (tLc wi (g {} (fun _ => none) 0 [] []) (tt {} (fun _ => none) 0 [] []) (te {} (fun _ => none) 0 [] []) (own.map (·.2))) (dLc I G C Te (own.map (·.2)) Fin) :=
  ⟨pe_lc hc hN hi.pi ok (fun s H C cl fp => eg s H C cl fp ▸ (hg s H C cl fp).pg) (fun s H C cl fp => et s H C cl fp ▸ (ht s H C cl fp).pts) (fun s H C cl fp => ee s H C cl fp ▸ (he s H C cl fp).pe) hs,
    sem_lc hi.sem (hg {} (fun _ => none) 0 [] []).sem hk (ht {} (fun _ => none) 0 [] []).sem (he {} (fun _ => none) 0 [] []).sem hf⟩
theorem js_setLc (i : Nat) {y : Str} {py spos : Pos} {elt tg iter : Expr} {ifs : List Expr} {scope : Scope} {own : List (Str × Nat)} {wi : TI} {g : Bk TG} {tt : Bk TT} {te : Bk TE} {I : TId} {G : TGd} {C : TB} {Te : TD} (Fin : List D → Sto → KD → Prop) (hf : FinOk Fin) (hc : X.calm = true) (hN : X.N.Nodup) (hi : JI X W tg iter wi I) (ok : BlkOk X.N X.env.scope scope own)
    (hg : ∀ (s : Shared) (H : Hp) (C : Addr) (cl : List (Str × Addr)) (fp : List Addr), JG (X.blk s H scope (compEnvC scope cl C X.env) fp) tg (g s H C cl fp) G) (hk : GK (own.map (·.2)) (g {} (fun _ => none) 0 [] [])) (ht : ∀ (s : Shared) (H : Hp) (C' : Addr) (cl : List (Str × Addr)) (fp : List Addr), JTs (X.blk s H scope (compEnvC scope cl C' X.env) fp) ifs (tt s H C' cl fp) C)
    (he : ∀ (s : Shared) (H : Hp) (C : Addr) (cl : List (Str × Addr)) (fp : List Addr), JE (X.blk s H scope (compEnvC scope cl C X.env) fp) (fun _ _ _ _ => False) elt (te s H C cl fp) Te)
    (hy : X.N[i]? = some y := by rfl) (hyl : X.env.scope.names.lookup y = some .local := by rfl)
    (hsw : swapsWith (.ListComp elt [⟨tg, iter, ifs, 0⟩] scope pos) (some (.Name y py)) spos.line X.env = pure true := by exact sw_true rfl rfl rfl (by decide +kernel)) (hs : ∀ x, foldedSetIterable iter X.env x = pure x := by intro _; rfl)
    (eg : ∀ s H C cl fp, g s H C cl fp = g {} (fun _ => none) 0 [] [] := by intros; rfl) (et : ∀ s H C cl fp, tt s H C cl fp = tt {} (fun _ => none) 0 [] [] := by intros; rfl) (ee : ∀ s H C cl fp, te s H C cl fp = te {} (fun _ => none) 0 [] [] := by intros; rfl) :
    JS X W (.Assign [.Name y py] (.ListComp elt [⟨tg, iter, ifs, 0⟩] scope pos) spos) (tAsg (tLc wi (g {} (fun _ => none) 0 [] []) (tt {} (fun _ => none) 0 [] []) (te {} (fun _ => none) 0 [] []) (own.map (·.2))) (gName i)) (sAsg (dLc I G C Te (own.map (·.2)) Fin) (nmG i)) :=
  ⟨ps_setLc hc hN hy hyl hsw hi.pi ok (fun s H C cl fp => eg s H C cl fp ▸ (hg s H C cl fp).pg) (fun s H C cl fp => et s H C cl fp ▸ (ht s H C cl fp).pts) (fun s H C cl fp => ee s H C cl fp ▸ (he s H C cl fp).pe) hs,
    sem_asg (sem_lc hi.sem (hg {} (fun _ => none) 0 [] []).sem hk (ht {} (fun _ => none) 0 [] []).sem (he {} (fun _ => none) 0 [] []).sem hf) (sem_nmG i)⟩
end
end DL
namespace DL
open PySem PySem.Spec PyProof.Rows L2
/-- the items of a list; of any list that may be read -/
def asL (S : Sto) : D → Option (List D)
  | .lst ds => some ds
  | .own h => match S[h]? with
    | some (.lst ds) => some ds
    | _ => none
  | _ => none
def asQ (S : Sto) : D → Option (List D)
  | .lst ds => some ds
  | .sq ds => some ds
  | .own h => match S[h]? with
    | some (.lst ds) => some ds
    | _ => none
  | _ => none
section
variable {K : PySem.W.Frag} {w : Hs} {S : Sto}
theorem asL_own {h : Nat} {ds : List D} (e : asL S (.own h) = some ds) : S[h]? = some (.lst ds) := by
  have e2 : (match S[h]? with
    | some (.lst ds) => some ds
    | _ => none) = some ds := e
  cases q : S[h]? with
  | none => rw [q] at e2; cases e2
  | some c =>
    rw [q] at e2
    cases c with
    | lst es => rw [Option.some.inj e2]
    | ins _ _ => cases e2
    | dct _ => cases e2
    | gone => cases e2
theorem own_at (g : Good K w S) {h : Nat} {v : V} {ds : List D} (r : Rv K w v (.own h)) (e : S[h]? = some (.lst ds)) : ∃ a xs, v = .ref a ∧ w.al[h]? = some a ∧ w.H a = some (.lst xs) ∧ Ra K w xs ds := by
  cases r with
  | @own h a q =>
    obtain ⟨_, xs, h2, h3⟩ := g.cell h a _ q e
    exact ⟨a, xs, rfl, q, h2, h3⟩
theorem asL_at (g : Good K w S) {v : V} {d : D} {ds : List D} (r : Rv K w v d) (e : asL S d = some ds) : ∃ a xs, v = .ref a ∧ w.H a = some (.lst xs) ∧ Ra K w xs ds := by
  cases d with
  | lst es =>
    have e2 : es = ds := Option.some.inj e
    subst e2
    cases r with
    | lst h1 h2 => exact ⟨_, _, rfl, g.sub _ _ h1, h2⟩
  | own h =>
    obtain ⟨a, xs, h1, _, h2, h3⟩ := own_at g r (asL_own e)
    exact ⟨a, xs, h1, h2, h3⟩
  | _ => cases e
theorem asQ_at (g : Good K w S) {v : V} {d : D} {ds : List D} (r : Rv K w v d) (e : asQ S d = some ds) : ∃ a xs, v = .ref a ∧ SqL K w.H a xs ∧ Ra K w xs ds := by
  cases d with
  | sq es =>
    have e2 : es = ds := Option.some.inj e
    subst e2
    cases r with
    | sq h1 h2 => exact ⟨_, _, rfl, sameSql g.sub h1, h2⟩
  | lst es =>
    obtain ⟨a, xs, h1, h2, h3⟩ := asL_at g (ds := ds) r e
    exact ⟨a, xs, h1, .inl (.inl h2), h3⟩
  | own h =>
    obtain ⟨a, xs, h1, h2, h3⟩ := asL_at g (ds := ds) r e
    exact ⟨a, xs, h1, .inl (.inl h2), h3⟩
  | _ => cases e
theorem ra_ints : ∀ {xs : List V} {ns : List Int}, Ra K w xs (ns.map D.int) → xs = ns.map V.int
  | _, [], h => by cases h; rfl
  | _, n :: ns, h => by
    cases h with
    | cons h1 h2 => rw [rv_int h1, ra_ints h2]; rfl
theorem ra_bls : ∀ {xs : List V} {ns : List Bool}, Ra K w xs (ns.map D.bl) → xs = ns.map V.bl
  | _, [], h => by cases h; rfl
  | _, n :: ns, h => by
    cases h with
    | cons h1 h2 => rw [rv_bl h1, ra_bls h2]; rfl
end
def iOp (C : Int → Int → Prop) (g : Int → Int → D) (x y : D) (S : Sto) (Φ : KD) : Prop := match x, y with
  | .int i, .int j => C i j ∧ Φ S (g i j)
  | _, _ => False
theorem opd_i {K : PySem.W.Frag} {C : Int → Int → Prop} {g : Int → Int → D} {gv : Int → Int → V} (hg : ∀ i j (w : Hs), Rv K w (gv i j) (g i j)) : OpD K (rI C gv) (iOp C g) := fun w S x y u v Φ Q g0 r1 r2 h q => by
  cases u with
  | int i =>
    cases v with
    | int j => exact ⟨i, j, rv_int r1, rv_int r2, h.1, q _ _ w S (Ext.refl w) g0 (hg i j w) h.2⟩
    | _ => exact h.elim
  | _ => cases v <;> exact h.elim
def iOp0 (g : Int → Int → D) (x y : D) (S : Sto) (Φ : KD) : Prop := match x, y with
  | .int i, .int j => Φ S (g i j)
  | _, _ => False
theorem opd_i0 {K : PySem.W.Frag} {g : Int → Int → D} {gv : Int → Int → V} (hg : ∀ i j (w : Hs), Rv K w (gv i j) (g i j)) : OpD K (rI0 gv) (iOp0 g) := fun w S x y u v Φ Q g0 r1 r2 h q => by
  cases u with
  | int i =>
    cases v with
    | int j => exact ⟨i, j, rv_int r1, rv_int r2, q _ _ w S (Ext.refl w) g0 (hg i j w) h⟩
    | _ => exact h.elim
  | _ => cases v <;> exact h.elim
/-- + of ints, texts, lists -/
def dAdd (x y : D) (S : Sto) (Φ : KD) : Prop := match x, y with
  | .int i, .int j => Φ S (.int (i + j))
  | .str a, .str b => a.length + b.length ≤ sizeLine ∧ Φ S (.str (a ++ b))
  | x, y => ∃ xs ys, asL S x = some xs ∧ asL S y = some ys ∧ xs.length + ys.length ≤ sizeLine ∧ Φ S (.lst (xs ++ ys))
def rAddA : R2 := fun x y H Q => rI0 (fun i j => .int (i + j)) x y H Q ∨ (∃ i j, x = .str i ∧ y = .str j ∧ i.length + j.length ≤ sizeLine ∧ Q (.str (i ++ j)) H) ∨ rCat x y H Q
theorem op_addA {X : Cx} : OpR X (binaryOp .Add) rAddA := op_add.or (op_add_str.or op_cat)
theorem add_seq {K : PySem.W.Frag} {w : Hs} {S : Sto} {x y : V} {u v : D} {Φ : KD} {Q : VK} (g : Good K w S) (r1 : Rv K w x u) (r2 : Rv K w y v) (h : ∃ xs ys, asL S u = some xs ∧ asL S v = some ys ∧ xs.length + ys.length ≤ sizeLine ∧ Φ S (.lst (xs ++ ys))) (q : OkD K w Φ Q) : rAddA x y w.H Q := by
  obtain ⟨xs, ys, e1, e2, hl, hΦ⟩ := h
  obtain ⟨a, us, rfl, h1, h2⟩ := asL_at g r1 e1
  obtain ⟨b, vs, rfl, h3, h4⟩ := asL_at g r2 e2
  exact .inr (.inr ⟨a, b, us, vs, rfl, rfl, h1, h3, by rw [h2.length, h4.length]; exact hl, new_lst g q (h2.append h4) hΦ⟩)
theorem opd_add {K : PySem.W.Frag} : OpD K rAddA dAdd := fun w S x y u v Φ Q g r1 r2 h q => by
  cases u with
  | int i =>
    cases v with
    | int j => exact .inl ⟨i, j, rv_int r1, rv_int r2, q _ _ w S (Ext.refl w) g (.int _) h⟩
    | _ => exact add_seq g r1 r2 h q
  | str i =>
    cases v with
    | str j => exact .inr (.inl ⟨i, j, rv_str r1, rv_str r2, h.1, q _ _ w S (Ext.refl w) g (.str _) h.2⟩)
    | _ => exact add_seq g r1 r2 h q
  | _ => cases v <;> exact add_seq g r1 r2 h q
/-- * of ints, a list by an int -/
def CMulA (i j : Int) : Prop := CMul i j ∨ CMulW i j
def dMul (x y : D) (S : Sto) (Φ : KD) : Prop := match x, y with
  | .int i, .int j => CMulA i j ∧ Φ S (.int (i * j))
  | x, .int k => ∃ xs, asL S x = some xs ∧ -(2 ^ 63) ≤ k ∧ k < 2 ^ 63 ∧ xs.length * k.toNat ≤ sizeLine ∧ Φ S (.lst ((List.replicate k.toNat xs).flatten))
  | _, _ => False
def rMulA : R2 := fun x y H Q => rI CMul (fun i j => .int (i * j)) x y H Q ∨ rI CMulW (fun i j => .int (i * j)) x y H Q ∨ rRep x y H Q
theorem op_mulA {X : Cx} : OpR X (binaryOp .Mult) rMulA := op_mul.or (op_mulW.or op_rep)
theorem ra_rep {K : PySem.W.Frag} {w : Hs} {vs : List V} {ds : List D} (r : Ra K w vs ds) : ∀ k : Nat, Ra K w (List.replicate k vs).flatten (List.replicate k ds).flatten
  | 0 => .nil
  | k + 1 => by
    rw [List.replicate_succ, List.replicate_succ, List.flatten_cons, List.flatten_cons]
    exact r.append (ra_rep r k)
theorem mul_seq {K : PySem.W.Frag} {w : Hs} {S : Sto} {x y : V} {u : D} {k : Int} {Φ : KD} {Q : VK} (g : Good K w S) (r1 : Rv K w x u) (r2 : Rv K w y (.int k)) (h : ∃ xs, asL S u = some xs ∧ -(2 ^ 63) ≤ k ∧ k < 2 ^ 63 ∧ xs.length * k.toNat ≤ sizeLine ∧ Φ S (.lst ((List.replicate k.toNat xs).flatten))) (q : OkD K w Φ Q) : rMulA x y w.H Q := by
  obtain ⟨xs, e1, hl1, hl2, hl3, hΦ⟩ := h
  obtain ⟨a, us, rfl, h1, h2⟩ := asL_at g r1 e1
  exact .inr (.inr ⟨a, k, us, rfl, rv_int r2, h1, hl1, hl2, by rw [h2.length]; exact hl3, new_lst g q (ra_rep h2 _) hΦ⟩)
theorem opd_mul {K : PySem.W.Frag} : OpD K rMulA dMul := fun w S x y u v Φ Q g r1 r2 h q => by
  cases v with
  | int j =>
    cases u with
    | int i =>
      have q2 := q (.int (i * j)) (.int (i * j)) w S (Ext.refl w) g (.int _) h.2
      rcases h.1 with c | c
      · exact .inl ⟨i, j, rv_int r1, rv_int r2, c, q2⟩
      · exact .inr (.inl ⟨i, j, rv_int r1, rv_int r2, c, q2⟩)
    | _ => exact mul_seq g r1 r2 h q
  | _ => cases u <;> exact h.elim
def dSub := iOp0 fun i j => .int (i - j)
theorem opd_sub {K : PySem.W.Frag} : OpD K (rI0 fun i j => .int (i - j)) dSub := opd_i0 fun _ _ _ => .int _
def dMod := iOp (fun _ j => 0 < j) fun i j => .int (i % j)
theorem opd_mod {K : PySem.W.Frag} : OpD K (rI (fun _ j => 0 < j) fun i j => .int (i % j)) dMod := opd_i fun _ _ _ => .int _
def dDiv := iOp CDivW fun i j => .int (i / j)
theorem opd_div {K : PySem.W.Frag} : OpD K (rI CDivW fun i j => .int (i / j)) dDiv := opd_i fun _ _ _ => .int _
/-- ** of an int of a few thousand bits by a small one -/
def CPowW (i j : Int) : Prop := 0 ≤ j ∧ j ≤ 1000 ∧ i.natAbs < 2 ^ 100000
theorem op_powW {X : Cx} : OpR X (binaryOp .Pow) (rI CPowW fun i j => .int (i ^ j.toNat)) := opI fun i j _ _ _ _ _ hc q => by
  obtain ⟨h0, h1, h2⟩ := hc
  refine PyProof.Rows.pow_int h0 ?_ q
  have b : Builtin.Int.intBits i ≤ 100000 := by
    unfold Builtin.Int.intBits
    split
    · omega
    · have := PySem.Flt.log2_lt_of (by decide : 0 < 100000) h2
      omega
  have e : (2 : Int) ^ 27 = 134217728 := by decide
  rw [e]
  have h3 : (Builtin.Int.intBits i : Int) ≤ 100000 := by omega
  have h4 : (Builtin.Int.intBits i : Int) * j ≤ 100000 * 1000 := Int.mul_le_mul h3 h1 h0 (by decide)
  omega
def dPow := iOp CPowW fun i j => .int (i ^ j.toNat)
theorem opd_pow {K : PySem.W.Frag} : OpD K (rI CPowW fun i j => .int (i ^ j.toNat)) dPow := opd_i fun _ _ _ => .int _
def dLt := iOp0 fun i j => .bl (decide (i < j))
def dLe := iOp0 fun i j => .bl (decide (i ≤ j))
def dGt := iOp0 fun i j => .bl (decide (j < i))
def dGe := iOp0 fun i j => .bl (decide (j ≤ i))
theorem opd_lt {K : PySem.W.Frag} : OpD K (rI0 fun i j => .bl (decide (i < j))) dLt := opd_i0 fun _ _ _ => .bl _
theorem opd_le {K : PySem.W.Frag} : OpD K (rI0 fun i j => .bl (decide (i ≤ j))) dLe := opd_i0 fun _ _ _ => .bl _
theorem opd_gt {K : PySem.W.Frag} : OpD K (rI0 fun i j => .bl (decide (j < i))) dGt := opd_i0 fun _ _ _ => .bl _
def uNeg (x : D) (S : Sto) (Φ : KD) : Prop := match x with
  | .int i => Φ S (.int (-i))
  | _ => False
def dUn (f : D → Sto → KD → Prop) (T : TD) : TD := fun Γ S Φ Ψ => T Γ S (fun S1 d => f d S1 Φ) Ψ
theorem je_neg {X : Cx} {W : WX} {a : Expr} {pos : Pos} {ta : TE} {Ta : TD} (ha : JE X W a ta Ta) : JE X W (.UnaryOp .USub a pos) (tUn (rU fun i => .int (-i)) ta) (dUn uNeg Ta) := ⟨pe_un un_neg ha.pe, fun Γ S Φ Ψ σ w g sl h hx Q q =>
  ha.sem Γ S _ Ψ σ w g sl h hx _ fun v d w1 S1 e1 g1 r1 h1 => by
    cases d with
    | int i => exact ⟨i, rv_int r1, q _ _ w1 S1 e1 g1 (.int _) h1⟩
    | _ => exact h1.elim⟩
mutual
inductive PyR (S : Sto) : D → PyData → Prop
  | non : PyR S .non .none
  | bl (b : Bool) : PyR S (.bl b) (.bool b)
  | int (i : Int) : PyR S (.int i) (.int i)
  | str (x : Str) : PyR S (.str x) (.str x)
  | lst {ds : List D} {ps : List PyData} : PyRA S ds ps → PyR S (.lst ds) (.list ps)
  | sq {ds : List D} {ps : List PyData} : PyRA S ds ps → PyR S (.sq ds) (.list ps)
  | tup {ds : List D} {ps : List PyData} : PyRA S ds ps → PyR S (.tup ds) (.tuple ps)
  | own {h : Nat} {ds : List D} {ps : List PyData} : S[h]? = some (.lst ds) → PyRA S ds ps → PyR S (.own h) (.list ps)
inductive PyRA (S : Sto) : List D → List PyData → Prop
  | nil : PyRA S [] []
  | cons {d : D} {ds : List D} {p : PyData} {ps : List PyData} : PyR S d p → PyRA S ds ps → PyRA S (d :: ds) (p :: ps)
end
section
variable {K : PySem.W.Frag} {w : Hs} {S : Sto}
mutual
theorem dp_of (g : Good K w S) : ∀ (p : PyData) (d : D) (v : V), PyR S d p → Rv K w v d → Dp K w.H v p
  | .none, _, _, h, r => by cases h; cases r; exact .non
  | .bool _, _, _, h, r => by cases h; cases r; exact .bl _
  | .int _, _, _, h, r => by cases h; cases r; exact .int _
  | .str _, _, _, h, r => by cases h; cases r; exact .str _
  | .list ps, _, _, h, r => by
    cases h with
    | lst h1 =>
      cases r with
      | lst h2 h3 => exact .lst (.inl (.inl (g.sub _ _ h2))) (dpa_of g ps _ _ h1 h3)
    | sq h1 =>
      cases r with
      | sq h2 h3 => exact .lst (sameSql g.sub h2) (dpa_of g ps _ _ h1 h3)
    | own h1 h2 =>
      obtain ⟨a, xs, rfl, _, h3, h4⟩ := own_at g r h1
      exact .lst (.inl (.inl h3)) (dpa_of g ps _ _ h2 h4)
  | .tuple ps, _, _, h, r => by
    cases h with
    | tup h1 =>
      cases r with
      | tup h2 h3 => exact .tup (sameSqt g.sub h2) (dpa_of g ps _ _ h1 h3)
  | .dict _, _, _, h, _ => by cases h
theorem dpa_of (g : Good K w S) : ∀ (ps : List PyData) (ds : List D) (vs : List V), PyRA S ds ps → Ra K w vs ds → DpAll K w.H vs ps
  | [], _, _, h, r => by cases h; cases r; exact .nil
  | p :: ps, _, _, h, r => by
    cases h with
    | cons h1 h2 =>
      cases r with
      | cons r1 r2 => exact .cons (dp_of g p _ _ h1 r1) (dpa_of g ps _ _ h2 r2)
end
end
def dEq (x y : D) (S : Sto) (Φ : KD) : Prop := ∃ p q, PyR S x p ∧ PyR S y q ∧ SeqAt.shaped p = true ∧ SeqAt.shaped q = true ∧ Φ S (.bl (PyData.eqv p q))
def dNe (x y : D) (S : Sto) (Φ : KD) : Prop := ∃ p q, PyR S x p ∧ PyR S y q ∧ SeqAt.shaped p = true ∧ SeqAt.shaped q = true ∧ Φ S (.bl (!PyData.eqv p q))
theorem opd_eq {K : PySem.W.Frag} : OpD K (rEqD K) dEq := fun w S x y u v Φ Q g r1 r2 ⟨p, p2, h1, h2, h3, h4, h5⟩ q => ⟨p, p2, dp_of g p u x h1 r1, dp_of g p2 v y h2 r2, h3, h4, q _ _ w S (Ext.refl w) g (.bl _) h5⟩
theorem opd_ne {K : PySem.W.Frag} : OpD K (rNeD K) dNe := fun w S x y u v Φ Q g r1 r2 ⟨p, p2, h1, h2, h3, h4, h5⟩ q => ⟨p, p2, dp_of g p u x h1 r1, dp_of g p2 v y h2 r2, h3, h4, q _ _ w S (Ext.refl w) g (.bl _) h5⟩
/-- is None -/
def isNon : D → Bool
  | .non => true
  | _ => false
theorem dec_non {K : PySem.W.Frag} {w : Hs} {v : V} {d : D} (r : Rv K w v d) : decide (v = .non) = isNon d := by
  cases r <;> rfl
def dIsN (x y : D) (S : Sto) (Φ : KD) : Prop := match y with
  | .non => Φ S (.bl (isNon x))
  | _ => False
def dNotN (x y : D) (S : Sto) (Φ : KD) : Prop := match y with
  | .non => Φ S (.bl (!isNon x))
  | _ => False
theorem opd_isN {K : PySem.W.Frag} : OpD K (fun x y H Q => y = .non ∧ Q (.bl (decide (x = .non))) H) dIsN := fun w S x y u v Φ Q g r1 r2 h q => by
  cases v with
  | non => exact ⟨rv_non r2, by rw [dec_non r1]; exact q _ _ w S (Ext.refl w) g (.bl _) h⟩
  | _ => exact h.elim
theorem opd_notN {K : PySem.W.Frag} : OpD K (fun x y H Q => y = .non ∧ Q (.bl (!decide (x = .non))) H) dNotN := fun w S x y u v Φ Q g r1 r2 h q => by
  cases v with
  | non => exact ⟨rv_non r2, by rw [dec_non r1]; exact q _ _ w S (Ext.refl w) g (.bl _) h⟩
  | _ => exact h.elim
/-- in, not in: a list or tuple of flat things -/
def flatD : D → Bool
  | .non => true
  | .bl _ => true
  | .int _ => true
  | .str _ => true
  | _ => false
def eqD : D → D → Bool
  | .non, .non => true
  | .bl a, .bl b => a == b
  | .bl a, .int b => (if a then 1 else 0) == b
  | .int a, .bl b => a == (if b then 1 else 0)
  | .int a, .int b => a == b
  | .str a, .str b => a == b
  | _, _ => false
def inD (x : D) (xs : List D) : Bool := xs.any fun y => eqD y x
def asS (S : Sto) : D → Option (List D)
  | .tup ds => some ds
  | d => asQ S d
theorem flat_of {K : PySem.W.Frag} {w : Hs} {v : V} {d : D} (r : Rv K w v d) (h : flatD d = true) : flatV v = true := by
  cases d <;> first | (cases r; rfl) | cases h
theorem eq_of {K : PySem.W.Frag} {w : Hs} {v u : V} {d e : D} (r : Rv K w v d) (q : Rv K w u e) (h : flatD d = true) (h2 : flatD e = true) : eqV v u = eqD d e := by
  cases d with
  | non => cases e <;> (first | (cases h2; done) | (cases r; cases q; rfl))
  | bl _ => cases e <;> (first | (cases h2; done) | (cases r; cases q; rfl))
  | int _ => cases e <;> (first | (cases h2; done) | (cases r; cases q; rfl))
  | str _ => cases e <;> (first | (cases h2; done) | (cases r; cases q; rfl))
  | _ => cases h
theorem flats_of {K : PySem.W.Frag} {w : Hs} : ∀ {vs : List V} {ds : List D}, Ra K w vs ds → ds.all flatD = true → vs.all flatV = true
  | _, _, .nil, _ => rfl
  | _, _, .cons r t, h => by
    rw [List.all_cons, Bool.and_eq_true] at h ⊢
    exact ⟨flat_of r h.1, flats_of t h.2⟩
theorem in_of {K : PySem.W.Frag} {w : Hs} {x : V} {dx : D} (rx : Rv K w x dx) (hx : flatD dx = true) : ∀ {vs : List V} {ds : List D}, Ra K w vs ds → ds.all flatD = true → inV x vs = inD dx ds
  | _, _, .nil, _ => rfl
  | _, _, .cons r t, h => by
    rw [List.all_cons, Bool.and_eq_true] at h
    have ih := in_of rx hx t h.2
    unfold inV inD at ih ⊢
    rw [List.any_cons, List.any_cons, ih, eq_of r rx h.1 hx]
theorem asS_at {K : PySem.W.Frag} {w : Hs} {S : Sto} (g : Good K w S) {v : V} {d : D} {ds : List D} (r : Rv K w v d) (e : asS S d = some ds) : ∃ a xs, v = .ref a ∧ (SqL K w.H a xs ∨ SqT K w.H a xs) ∧ Ra K w xs ds := by
  cases d with
  | tup es =>
    have e2 : es = ds := Option.some.inj e
    subst e2
    cases r with
    | tup h1 h2 => exact ⟨_, _, rfl, .inr (sameSqt g.sub h1), h2⟩
  | sq es =>
    obtain ⟨a, xs, h1, h2, h3⟩ := asQ_at g (ds := ds) r e
    exact ⟨a, xs, h1, .inl h2, h3⟩
  | lst es =>
    obtain ⟨a, xs, h1, h2, h3⟩ := asQ_at g (ds := ds) r e
    exact ⟨a, xs, h1, .inl h2, h3⟩
  | own h =>
    obtain ⟨a, xs, h1, h2, h3⟩ := asQ_at g (ds := ds) r e
    exact ⟨a, xs, h1, .inl h2, h3⟩
  | _ => cases e
def dIn (neg : Bool) (x y : D) (S : Sto) (Φ : KD) : Prop := ∃ xs, asS S y = some xs ∧ flatD x = true ∧ xs.all flatD = true ∧ Φ S (.bl (if neg then !inD x xs else inD x xs))
theorem opd_in {K : PySem.W.Frag} {neg : Bool} : OpD K (rIn K neg) (dIn neg) := fun w S x y u v Φ Q g r1 r2 ⟨ds, e, h1, h2, h3⟩ q => by
  obtain ⟨a, xs, rfl, hs, ra⟩ := asS_at g r2 e
  exact ⟨a, xs, rfl, hs, flat_of r1 h1, flats_of ra h2, by rw [in_of r1 h1 ra h2]; exact q _ _ w S (Ext.refl w) g (.bl _) h3⟩
def dIx (x y : D) (S : Sto) (Φ : KD) : Prop := match y with
  | .int i => (match x with
    | .str z => z.length ≤ sizeLine ∧ ∃ c, atI z.cps.toList i = some c ∧ Φ S (.str ⟨#[c]⟩)
    | x => ∃ ds d, asS S x = some ds ∧ atI ds i = some d ∧ Φ S d)
  | _ => False
theorem atI_of {K : PySem.W.Frag} {w : Hs} {vs : List V} {ds : List D} {i : Int} {d : D} (r : Ra K w vs ds) (h : atI ds i = some d) : ∃ v, atI vs i = some v ∧ Rv K w v d := by
  unfold atI at h ⊢
  rw [r.length]
  cases q : ixN ds.length i with
  | none => rw [q] at h; cases h
  | some j =>
    rw [q] at h
    exact r.get h
theorem ix_seqD {K : PySem.W.Frag} {w : Hs} {S : Sto} {x y : V} {u : D} {i : Int} {Φ : KD} {Q : VK} (g : Good K w S) (r1 : Rv K w x u) (r2 : Rv K w y (.int i)) (h : ∃ ds d, asS S u = some ds ∧ atI ds i = some d ∧ Φ S d) (q : OkD K w Φ Q) : rIx K x y w.H Q := by
  obtain ⟨ds, d, e, h1, h2⟩ := h
  obtain ⟨a, xs, rfl, hs, ra⟩ := asS_at g r1 e
  obtain ⟨v, h3, r3⟩ := atI_of ra h1
  have qq := q v d w S (Ext.refl w) g r3 h2
  rcases hs with hs | hs
  · exact .inl ⟨a, xs, i, v, rfl, rv_int r2, hs, h3, qq⟩
  · exact .inr (.inl ⟨a, xs, i, v, rfl, rv_int r2, hs, h3, qq⟩)
theorem opd_ix {K : PySem.W.Frag} : OpD K (rIx K) dIx := fun w S x y u v Φ Q g r1 r2 h q => by
  cases v with
  | int i =>
    cases u with
    | str z =>
      obtain ⟨h1, c, h2, h3⟩ := h
      exact .inr (.inr ⟨z, i, c, rv_str r1, rv_int r2, h1, h2, q _ _ w S (Ext.refl w) g (.str _) h3⟩)
    | _ => exact ix_seqD g r1 r2 h q
  | _ => cases u <;> exact h.elim
/-- the items of a slice -/
def cutD {α : Type} (xs : List α) (lo hi : Option Int) : List α := (xs.drop (HT.sIx xs.length 0 lo)).take (HT.sIx xs.length xs.length hi - HT.sIx xs.length 0 lo)
theorem ra_cut {K : PySem.W.Frag} {w : Hs} {vs : List V} {ds : List D} (r : Ra K w vs ds) (lo hi : Option Int) : Ra K w (cutV vs lo hi) (cutD ds lo hi) := by
  unfold cutV cutD
  rw [r.length]
  exact (r.drop _).take _
def dSlL (d : D) (lo hi : Option Int) (S : Sto) (Φ : KD) : Prop := ∃ ds, asQ S d = some ds ∧ Φ S (.lst (cutD ds lo hi))
theorem sld_l {K : PySem.W.Frag} : SlD K (rSlL K) dSlL := fun w S v d lo hi Φ Q g r ⟨ds, e, h⟩ q => by
  obtain ⟨a, xs, rfl, h1, h2⟩ := asQ_at g r e
  exact ⟨a, xs, rfl, h1, new_lst g q (ra_cut h2 lo hi) h⟩
def rLen (K : PySem.W.Frag) : List V → Hp → VK → Prop := fun xs H Q => (∃ p ys, xs = [.ref p] ∧ (SqL K H p ys ∨ SqT K H p ys) ∧ Q (.int ys.length) H) ∨ ∃ z, xs = [.str z] ∧ z.length ≤ sizeLine ∧ Q (.int z.length) H
theorem call_lenA {X : Cx} : CallR X (.builtin "len") (rLen X.K) := call_len_seq.or call_len_str
def cLen (ds : List D) (S : Sto) (Φ : KD) : Prop := match ds with
  | [.str z] => z.length ≤ sizeLine ∧ Φ S (.int z.length)
  | [d] => ∃ xs, asS S d = some xs ∧ Φ S (.int xs.length)
  | _ => False
theorem len_seqD {K : PySem.W.Frag} {w : Hs} {S : Sto} {vs : List V} {d : D} {Φ : KD} {Q : VK} (g : Good K w S) (r : Ra K w vs [d]) (h : ∃ xs, asS S d = some xs ∧ Φ S (.int xs.length)) (q : OkD K w Φ Q) : rLen K vs w.H Q := by
  obtain ⟨xs, e, h⟩ := h
  cases r with
  | cons r1 r2 =>
    cases r2
    obtain ⟨a, ys, rfl, hs, ra⟩ := asS_at g r1 e
    exact .inl ⟨a, ys, rfl, hs, by rw [ra.length]; exact q _ _ w S (Ext.refl w) g (.int _) h⟩
theorem cd_len {K : PySem.W.Frag} : CallD K (rLen K) cLen := fun w S vs ds Φ Q g r h q => by
  cases ds with
  | nil => exact h.elim
  | cons d rest =>
    cases rest with
    | cons e t => cases d <;> exact h.elim
    | nil =>
      cases d with
      | str z =>
        cases r with
        | cons r1 r2 =>
          cases r2
          exact .inr ⟨z, by rw [rv_str r1], h.1, q _ _ w S (Ext.refl w) g (.int _) h.2⟩
      | _ => exact len_seqD g r h q
def cAbs (ds : List D) (S : Sto) (Φ : KD) : Prop := match ds with
  | [.int i] => Φ S (.int (if i < 0 then -i else i))
  | _ => False
def c2I (f : Int → Int → D) (ds : List D) (S : Sto) (Φ : KD) : Prop := match ds with
  | [.int i, .int j] => Φ S (f i j)
  | _ => False
theorem cd_abs {K : PySem.W.Frag} : CallD K (fun xs H Q => ∃ i, xs = [.int i] ∧ Q (.int (if i < 0 then -i else i)) H) cAbs := fun w S vs ds Φ Q g r h q => by
  cases ds with
  | nil => exact h.elim
  | cons d t =>
    cases t with
    | cons _ _ => cases d <;> exact h.elim
    | nil =>
      cases d with
      | int i =>
        cases r with
        | cons r1 r2 => cases r2; exact ⟨i, by rw [rv_int r1], q _ _ w S (Ext.refl w) g (.int _) h⟩
      | _ => exact h.elim
theorem cd_2I {K : PySem.W.Frag} {f : Int → Int → D} {fv : Int → Int → V} (hf : ∀ i j (w : Hs), Rv K w (fv i j) (f i j)) : CallD K (fun xs H Q => ∃ i j, xs = [.int i, .int j] ∧ Q (fv i j) H) (c2I f) := fun w S vs ds Φ Q g r h q => by
  cases ds with
  | nil => exact h.elim
  | cons d t =>
    cases t with
    | nil => cases d <;> exact h.elim
    | cons e t2 =>
      cases t2 with
      | cons _ _ => cases d <;> cases e <;> exact h.elim
      | nil =>
        cases d with
        | int i =>
          cases e with
          | int j =>
            cases r with
            | cons r1 r2 =>
              cases r2 with
              | cons r3 r4 => cases r4; exact ⟨i, j, by rw [rv_int r1, rv_int r3], q _ _ w S (Ext.refl w) g (hf i j w) h⟩
          | _ => exact h.elim
        | _ => cases e <;> exact h.elim
def cMax2 := c2I fun i j => .int (if j > i then j else i)
def cMin2 := c2I fun i j => .int (if j < i then j else i)
theorem cd_max2 {K : PySem.W.Frag} : CallD K (fun xs H Q => ∃ i j, xs = [.int i, .int j] ∧ Q (.int (if j > i then j else i)) H) cMax2 := cd_2I (fv := fun i j => .int (if j > i then j else i)) fun _ _ _ => .int _
theorem cd_min2 {K : PySem.W.Frag} : CallD K (fun xs H Q => ∃ i j, xs = [.int i, .int j] ∧ Q (.int (if j < i then j else i)) H) cMin2 := cd_2I (fv := fun i j => .int (if j < i then j else i)) fun _ _ _ => .int _
def cInt (ds : List D) (S : Sto) (Φ : KD) : Prop := match ds with
  | [.int i] => Φ S (.int i)
  | [.bl k] => Φ S (.int (if k then 1 else 0))
  | _ => False
theorem cd_int {K : PySem.W.Frag} : CallD K (fun xs H Q => (∃ i, xs = [.int i] ∧ Q (.int i) H) ∨ ∃ k, xs = [.bl k] ∧ Q (.int (if k then 1 else 0)) H) cInt := fun w S vs ds Φ Q g r h q => by
  cases ds with
  | nil => exact h.elim
  | cons d t =>
    cases t with
    | cons _ _ => cases d <;> exact h.elim
    | nil =>
      cases r with
      | cons r1 r2 =>
        cases r2
        cases d with
        | int i => exact .inl ⟨i, by rw [rv_int r1], q _ _ w S (Ext.refl w) g (.int _) h⟩
        | bl i => exact .inr ⟨i, by rw [rv_bl r1], q _ _ w S (Ext.refl w) g (.int _) h⟩
        | _ => exact h.elim
/-- list(x): a new list, frozen or a cell -/
def cList (ds : List D) (S : Sto) (Φ : KD) : Prop := match ds with
  | [d] => ∃ xs, asS S d = some xs ∧ Φ S (.lst xs)
  | _ => False
def cListO (ds : List D) (S : Sto) (Φ : KD) : Prop := match ds with
  | [d] => ∃ xs, asS S d = some xs ∧ Φ (S ++ [.lst xs]) (.own S.length)
  | _ => False
theorem cd_list {K : PySem.W.Frag} : CallD K (fun xs H Q => ∃ p ys, xs = [.ref p] ∧ (SqL K H p ys ∨ SqT K H p ys) ∧ ∀ l, H l = none → Q (.ref l) (upd H l (.lst ys))) cList := fun w S vs ds Φ Q g r h q => by
  cases ds with
  | nil => exact h.elim
  | cons d t =>
    cases t with
    | cons _ _ => exact h.elim
    | nil =>
      obtain ⟨xs, e, h⟩ := h
      cases r with
      | cons r1 r2 =>
        cases r2
        obtain ⟨a, ys, rfl, hs, ra⟩ := asS_at g r1 e
        exact ⟨a, ys, rfl, hs, new_lst g q ra h⟩
def cAll (ds : List D) (S : Sto) (Φ : KD) : Prop := match ds with
  | [d] => ∃ bs : List Bool, asQ S d = some (bs.map D.bl) ∧ Φ S (.bl (bs.all id))
  | _ => False
def cMax (ds : List D) (S : Sto) (Φ : KD) : Prop := match ds with
  | [d] => ∃ ns : List Int, asQ S d = some (ns.map D.int) ∧ 0 < ns.length ∧ ∀ m, m ∈ ns → (∀ y, y ∈ ns → y ≤ m) → Φ S (.int m)
  | _ => False
def cMin (ds : List D) (S : Sto) (Φ : KD) : Prop := match ds with
  | [d] => ∃ ns : List Int, asQ S d = some (ns.map D.int) ∧ 0 < ns.length ∧ ∀ m, m ∈ ns → (∀ y, y ∈ ns → m ≤ y) → Φ S (.int m)
  | _ => False
theorem one_of {K : PySem.W.Frag} {w : Hs} {vs : List V} {d : D} (r : Ra K w vs [d]) : ∃ v, vs = [v] ∧ Rv K w v d := by
  cases r with
  | cons r1 r2 => cases r2; exact ⟨_, rfl, r1⟩
theorem cd_all {K : PySem.W.Frag} : CallD K (rAll K) cAll := fun w S vs ds Φ Q g r h q => by
  cases ds with
  | nil => exact h.elim
  | cons d t =>
    cases t with
    | cons _ _ => exact h.elim
    | nil =>
      obtain ⟨bs, e, h⟩ := h
      obtain ⟨v, rfl, r1⟩ := one_of r
      obtain ⟨a, ys, rfl, hs, ra⟩ := asQ_at g r1 e
      rw [ra_bls ra] at hs
      exact ⟨a, bs, rfl, hs, q _ _ w S (Ext.refl w) g (.bl _) h⟩
theorem cd_max {K : PySem.W.Frag} : CallD K (rMax K) cMax := fun w S vs ds Φ Q g r h q => by
  cases ds with
  | nil => exact h.elim
  | cons d t =>
    cases t with
    | cons _ _ => exact h.elim
    | nil =>
      obtain ⟨bs, e, h0, h⟩ := h
      obtain ⟨v, rfl, r1⟩ := one_of r
      obtain ⟨a, ys, rfl, hs, ra⟩ := asQ_at g r1 e
      rw [ra_ints ra] at hs
      exact ⟨a, bs, rfl, hs, h0, fun m h1 h2 => q _ _ w S (Ext.refl w) g (.int _) (h m h1 h2)⟩
theorem cd_min {K : PySem.W.Frag} : CallD K (rMin K) cMin := fun w S vs ds Φ Q g r h q => by
  cases ds with
  | nil => exact h.elim
  | cons d t =>
    cases t with
    | cons _ _ => exact h.elim
    | nil =>
      obtain ⟨bs, e, h0, h⟩ := h
      obtain ⟨v, rfl, r1⟩ := one_of r
      obtain ⟨a, ys, rfl, hs, ra⟩ := asQ_at g r1 e
      rw [ra_ints ra] at hs
      exact ⟨a, bs, rfl, hs, h0, fun m h1 h2 => q _ _ w S (Ext.refl w) g (.int _) (h m h1 h2)⟩
def dSetO (o i v : D) (S : Sto) (P : Sto → Prop) : Prop := match o, i with
  | .own h, .int k => ∃ ds j, S[h]? = some (.lst ds) ∧ ixN ds.length k = some j ∧ P (S.set h (.lst (ds.set j v)))
  | _, _ => False
theorem setd_o {K : PySem.W.Frag} : TSetD K rSetL dSetO := fun w S o i v do_ di dv P Q g r1 r2 r3 h q => by
  cases do_ with
  | own hh =>
    cases di with
    | int k =>
      obtain ⟨ds, j, e, hj, hP⟩ := h
      obtain ⟨a, xs, rfl, ha, hH, ra⟩ := own_at g r1 e
      refine ⟨a, xs, k, j, rfl, rv_int r2, hH, by rw [ra.length]; exact hj, ?_⟩
      exact q (w.wr a (.lst (xs.set j v))) _ (Ext.wr _ (List.mem_of_getElem? ha)) (g.wr ha e (ra.set r3 j)) hP
    | _ => exact h.elim
  | _ => cases di <;> exact h.elim
/-- methods of a list in a cell -/
def MtD (K : PySem.W.Frag) (r : V → List V → Hp → VK → Prop) (f : D → List D → Sto → KD → Prop) : Prop :=
  ∀ w S x vs d ds Φ Q, Good K w S → Rv K w x d → Ra K w vs ds → f d ds S Φ → OkD K w Φ Q → r x vs w.H Q
def isLst (S : Sto) (d : D) : Prop := ∃ ds, asL S d = some ds
def dBM (f : D → List D → Sto → KD → Prop) (T : TD) (Tl : TL) : TD := fun Γ S Φ Ψ => T Γ S (fun S1 d => isLst S1 d ∧ Tl Γ S1 (fun S2 ds => f d ds S2 Φ) Ψ) Ψ
def dBM0 (f : D → List D → Sto → KD → Prop) (T : TD) : TD := fun Γ S Φ Ψ => T Γ S (fun S1 d => isLst S1 d ∧ f d [] S1 Φ) Ψ
section
variable {X : Cx} {W : WX} {o e : Expr} {es : List Expr} {apos cpos : Pos} {to : TE} {To : TD} {tl : TA} {Tl : TL}
theorem je_bm {name : Str} {id : String} {r : V → List V → Hp → VK → Prop} {f : D → List D → Sto → KD → Prop} (slot : Slot "list" name id) (hty : typeOf (.builtin id) = pure (.type "method_descriptor")) (hm : MtM X id r) (hd : MtD X.K r f) (ho : JE X W o to To) (ha : JA X W (e :: es) tl Tl)
    (hbase : attributeBase o name X.env (eval o X.env) = eval o X.env := by rfl)
    (hfew : ((backTo cpos (starEach (e :: es) X.env)).all (fun x => !x.1) && (backToKw cpos (keywordEach [] X.env)).all (fun x => x.1.isSome)
      && decide ((e :: es).length + ([] : List Keyword).length + (if ([] : List Keyword).isEmpty then 0 else 1) < 30)) = true := by rfl)
    (hline : (apos.endLine == cpos.line) = true := by rfl) (hs : starEach (e :: es) X.env = (false, eval e X.env) :: starEach es X.env := by rfl) (hplain : (backTo cpos (starEach es X.env)).any (·.1) = false := by rfl) :
    JE X W (.Call (.Attribute o name apos) (e :: es) [] cpos) (tBM X.K "list" r to tl) (dBM f To Tl) := ⟨pe_bm PySem.F.plainAttrs_list slot hty hm ho.pe ha.pa hbase hfew hline hs hplain, fun Γ S Φ Ψ σ w g sl h hx Q q =>
  ho.sem Γ S _ Ψ σ w g sl h hx _ fun v d w1 S1 e1 g1 r1 ⟨⟨xs, hl⟩, h1⟩ => by
    obtain ⟨a, ys, rfl, hH, _⟩ := asL_at g1 r1 hl
    exact ⟨Or.inl ⟨rfl, _, Or.inl (Or.inl hH)⟩, ha.sem Γ S1 _ Ψ σ w1 g1 (sl.ext e1) h1 (hx.ext e1) _ fun vs ds w2 S2 e2 g2 r2 h2 => hd w2 S2 _ vs d ds Φ Q g2 (e2.rp r1) r2 h2 (q.ext (e1.trans e2))⟩⟩
end
def mAppend (d : D) (ds : List D) (S : Sto) (Φ : KD) : Prop := match d, ds with
  | .own h, [y] => ∃ xs, S[h]? = some (.lst xs) ∧ xs.length < sizeLine ∧ Φ (S.set h (.lst (xs ++ [y]))) .non
  | _, _ => False
theorem mtd_append {K : PySem.W.Frag} : MtD K rAppend mAppend := fun w S x vs d ds Φ Q g r1 r2 h q => by
  cases d with
  | own hh =>
    cases ds with
    | nil => exact h.elim
    | cons y t =>
      cases t with
      | cons _ _ => exact h.elim
      | nil =>
        obtain ⟨xs, e, hl, hΦ⟩ := h
        obtain ⟨a, ys, rfl, ha, hH, ra⟩ := own_at g r1 e
        obtain ⟨v, rfl, rv⟩ := one_of r2
        exact ⟨a, ys, v, rfl, rfl, hH, by rw [ra.length]; exact hl, q .non .non (w.wr a (.lst (ys ++ [v]))) _ (Ext.wr _ (List.mem_of_getElem? ha)) (g.wr ha e (ra.append (.cons rv .nil))) .non hΦ⟩
  | _ => exact h.elim
def mReverse (d : D) (ds : List D) (S : Sto) (Φ : KD) : Prop := match d, ds with
  | .own h, [] => ∃ xs, S[h]? = some (.lst xs) ∧ Φ (S.set h (.lst xs.reverse)) .non
  | _, _ => False
def mClear (d : D) (ds : List D) (S : Sto) (Φ : KD) : Prop := match d, ds with
  | .own h, [] => ∃ xs, S[h]? = some (.lst xs) ∧ Φ (S.set h (.lst [])) .non
  | _, _ => False
section
variable {X : Cx} {W : WX} {tg e a b : Expr} {te : TE} {Te : TD} {tl : TA} {Tl : TL} {p pos : Pos}
def iSeq (T : TD) : TId := fun Γ S Φ Ψ => T Γ S (fun S1 d => (∃ ds, asQ S1 d = some ds) ∧ Φ S1 (fun S' => asQ S' d)) Ψ
theorem src_list {K : PySem.W.Frag} {w0 : Hs} {v : V} {d : D} {a : Addr} (r : Rv K w0 v d) (e : v = .ref a) : SrcOk K w0 (Itl K a) (fun S' => asQ S' d) := fun w S ds i e' g h => by
  subst e
  obtain ⟨b, xs, eb, hs, ra⟩ := asQ_at g (e'.rp r) h
  cases eb
  refine ⟨fun d' hd => ?_, fun hl => ⟨xs, hs, by rw [ra.length]; exact hl⟩⟩
  obtain ⟨x, hx, rx⟩ := ra.get hd
  refine ⟨⟨xs, x, hs, hx⟩, fun y H' ⟨e1, hy⟩ => ?_⟩
  have := hy xs hs
  rw [hx] at this
  cases this
  exact ⟨w, Ext.refl w, g, e1.symm, rx⟩
theorem ji_list (h : JE X W e te Te) : JI X W tg e (iList X.K te) (iSeq Te) := ⟨pi_list h.pe, fun Γ S Φ Ψ σ w g sl hT hx Q q =>
  h.sem Γ S _ Ψ σ w g sl hT hx _ fun v d w1 S1 e1 g1 r1 ⟨⟨ds, hd⟩, h1⟩ => by
    obtain ⟨a, xs, rfl, hs, _⟩ := asQ_at g1 r1 hd
    exact ⟨a, rfl, ⟨xs, hs⟩, q _ _ w1 S1 e1 g1 (src_list r1 rfl) h1⟩⟩
def iTupD (T : TD) : TId := fun Γ S Φ Ψ => T Γ S (fun S1 d => ∃ ds, d = .tup ds ∧ Φ S1 (fun _ => some ds)) Ψ
theorem ji_tup (h : JE X W e te Te) : JI X W tg e (iTup X.K te) (iTupD Te) := ⟨pi_tup h.pe, fun Γ S Φ Ψ σ w g sl hT hx Q q =>
  h.sem Γ S _ Ψ σ w g sl hT hx _ fun v d w1 S1 e1 g1 r1 ⟨ds, ed, h1⟩ => by
    subst ed
    cases r1 with
    | @tup a xs _ hs ra =>
      refine ⟨a, rfl, ⟨xs, sameSqt g1.sub hs⟩, q _ _ w1 S1 e1 g1 (fun w S ds' i e' g hh => ?_) h1⟩
      cases hh
      have hs' := sameSqt g.sub (sameSqt e'.f hs)
      refine ⟨fun d' hd => ?_, fun hl => ⟨xs, hs', by rw [ra.length]; exact hl⟩⟩
      obtain ⟨x, hx, rx⟩ := ra.get hd
      refine ⟨⟨xs, x, hs', hx⟩, fun y H' ⟨e1, hy⟩ => ?_⟩
      have := hy xs hs'
      rw [hx] at this
      cases this
      exact ⟨w, Ext.refl w, g, e1.symm, e'.rp rx⟩⟩
def rngD (lo : Int) (n : Nat) : List D := (List.range n).map fun (i : Nat) => D.int (lo + (i : Int))
theorem rngD_get {lo : Int} {n i : Nat} {d : D} (h : (rngD lo n)[i]? = some d) : i < n ∧ d = .int (lo + (i : Int)) := by
  unfold rngD at h
  rw [List.getElem?_map] at h
  cases q : (List.range n)[i]? with
  | none => rw [q] at h; cases h
  | some j =>
    rw [q] at h
    obtain ⟨h1, h2⟩ := List.getElem?_eq_some_iff.mp q
    rw [List.getElem_range] at h2
    rw [List.length_range] at h1
    subst h2
    cases h
    exact ⟨h1, rfl⟩
theorem rngD_len (lo : Int) (n : Nat) : (rngD lo n).length = n := by
  unfold rngD
  rw [List.length_map, List.length_range]
theorem src_rng {K : PySem.W.Frag} {w0 : Hs} {lo : Int} {n : Nat} : SrcOk K w0 (Itr lo n) (fun _ => some (rngD lo n)) := fun w S ds i e' g h => by
  cases h
  refine ⟨fun d hd => ?_, fun hl => by rw [rngD_len] at hl; exact hl⟩
  obtain ⟨h1, rfl⟩ := rngD_get hd
  exact ⟨h1, fun x H' ⟨e1, e2⟩ => ⟨w, Ext.refl w, g, e1.symm, by rw [e2]; exact .int _⟩⟩
def iRg1 (T : TL) : TId := fun Γ S Φ Ψ => T Γ S (fun S1 ds => ∃ j, ds = [.int j] ∧ -(2 ^ 62) ≤ j ∧ j < 2 ^ 62 ∧ Φ S1 (fun _ => some (rngD 0 j.toNat))) Ψ
def iRg2 (T : TL) : TId := fun Γ S Φ Ψ => T Γ S (fun S1 ds => ∃ i j, ds = [.int i, .int j] ∧ (-(2 ^ 62) ≤ i ∧ i < 2 ^ 62 ∧ -(2 ^ 62) ≤ j ∧ j < 2 ^ 62) ∧ Φ S1 (fun _ => some (rngD i (j - i).toNat))) Ψ
theorem ji_range1 (hg : Gl X "range") (hm : X.mg "range" = none) (ha : JA X W [a] tl Tl) (hs : starEach [a] X.env = [(false, eval a X.env)] := by rfl) : JI X W tg (.Call (.Name "range" p) [a] [] pos) (iRng1 tl) (iRg1 Tl) := ⟨pi_range1 hg hm ha.pa hs, fun Γ S Φ Ψ σ w g sl hT hx Q q =>
  ha.sem Γ S _ Ψ σ w g sl hT hx _ fun vs ds w1 S1 e1 g1 r1 ⟨j, ed, h1, h2, h3⟩ => by
    subst ed
    obtain ⟨v, rfl, rv⟩ := one_of r1
    exact ⟨j, by rw [rv_int rv], h1, h2, q _ _ w1 S1 e1 g1 src_rng h3⟩⟩
theorem ji_range2 (hg : Gl X "range") (hm : X.mg "range" = none) (ha : JA X W [a, b] tl Tl) (hs : starEach [a, b] X.env = [(false, eval a X.env), (false, eval b X.env)] := by rfl) (hs2 : starEach [b] X.env = [(false, eval b X.env)] := by rfl) : JI X W tg (.Call (.Name "range" p) [a, b] [] pos) (iRng2 tl) (iRg2 Tl) := ⟨pi_range2 hg hm ha.pa hs hs2, fun Γ S Φ Ψ σ w g sl hT hx Q q =>
  ha.sem Γ S _ Ψ σ w g sl hT hx _ fun vs ds w1 S1 e1 g1 r1 ⟨i, j, ed, h1, h3⟩ => by
    subst ed
    cases r1 with
    | cons ra rb =>
      obtain ⟨v, rfl, rv⟩ := one_of rb
      exact ⟨i, j, by rw [rv_int ra, rv_int rv], h1, q _ _ w1 S1 e1 g1 src_rng h3⟩⟩
/-- zip of two lists, enumerate of a list: a new tuple each -/
def zipD (xs ys : List D) : List D := (xs.zip ys).map fun p => D.tup [p.1, p.2]
def enumD (xs : List D) : List D := (List.range xs.length).map fun (i : Nat) => D.tup [.int (i : Int), xs.getD i .non]
theorem zipD_get {xs ys : List D} {i : Nat} {d : D} (h : (zipD xs ys)[i]? = some d) : ∃ x y, xs[i]? = some x ∧ ys[i]? = some y ∧ d = .tup [x, y] := by
  unfold zipD at h
  rw [List.getElem?_map] at h
  cases q : (xs.zip ys)[i]? with
  | none => rw [q] at h; cases h
  | some p =>
    rw [q] at h
    cases h
    obtain ⟨h1, h2⟩ := List.getElem?_zip_eq_some.mp q
    exact ⟨p.1, p.2, h1, h2, rfl⟩
theorem zipD_len (xs ys : List D) : (zipD xs ys).length = min xs.length ys.length := by
  unfold zipD
  rw [List.length_map, List.length_zip]
def iZipD (T : TL) : TId := fun Γ S Φ Ψ => T Γ S (fun S1 ds => ∃ d e, ds = [d, e] ∧ (∃ xs, asQ S1 d = some xs) ∧ (∃ ys, asQ S1 e = some ys) ∧ Φ S1 (fun S' => (asQ S' d).bind fun xs => (asQ S' e).map fun ys => zipD xs ys)) Ψ
def iEnumD (T : TL) : TId := fun Γ S Φ Ψ => T Γ S (fun S1 ds => ∃ d, ds = [d] ∧ (∃ xs, asQ S1 d = some xs) ∧ Φ S1 (fun S' => (asQ S' d).map enumD)) Ψ
theorem tup_new {K : PySem.W.Frag} {w : Hs} {S : Sto} (g : Good K w S) {T : Addr} {vs : List V} {ds : List D} (hT : w.H T = none) (r : Ra K w vs ds) : ∃ w', Ext w w' ∧ Good K w' S ∧ w'.H = upd w.H T (.tup vs) ∧ Rv K w' (.ref T) (.tup ds) :=
  ⟨w.frz T (.tup vs), Ext.frz g _ hT, g.frz _ hT, rfl, .tup (.inl (.inl upd_same)) ((Ext.frz g _ hT).ra r)⟩
theorem ji_zip {e2 : Expr} {elts : List Expr} {kk : Nat} {tpos : Pos} (hg : Gl X "zip") (hm : X.mg "zip" = none) (ha : JA X W [e, e2] tl Tl) (hs : starEach [e, e2] X.env = (false, eval e X.env) :: starEach [e2] X.env := by rfl) (hpl : (backTo pos (starEach [e2] X.env)).any (·.1) = false := by rfl) :
    JI X W (.Tuple elts kk tpos) (.Call (.Name "zip" p) [e, e2] [] pos) (iZip X.K tl) (iZipD Tl) := ⟨pi_zip hg hm ha.pa hs hpl, fun Γ S Φ Ψ σ w g sl hT hx Q q =>
  ha.sem Γ S _ Ψ σ w g sl hT hx _ fun vs ds w1 S1 e1 g1 r1 ⟨d, d2, ed, ⟨xs, hxs⟩, ⟨ys, hys⟩, h3⟩ => by
    subst ed
    cases r1 with
    | cons ra rb =>
      obtain ⟨v, rfl, rv⟩ := one_of rb
      obtain ⟨a1, us, rfl, hs1, _⟩ := asQ_at g1 ra hxs
      obtain ⟨a2, us2, rfl, hs2, _⟩ := asQ_at g1 rv hys
      refine ⟨a1, a2, us, us2, rfl, hs1, hs2, q _ _ w1 S1 e1 g1 (fun w S ds i e' g hh => ?_) h3⟩
      cases q1 : asQ S d with
      | none => rw [q1] at hh; cases hh
      | some xs' =>
        cases q2 : asQ S d2 with
        | none => rw [q1, q2] at hh; cases hh
        | some ys' =>
          rw [q1, q2] at hh
          cases hh
          obtain ⟨b1, vs1, eb1, hsa, ra1⟩ := asQ_at g (e'.rp ra) q1
          obtain ⟨b2, vs2, eb2, hsb, ra2⟩ := asQ_at g (e'.rp rv) q2
          cases eb1
          cases eb2
          refine ⟨fun dd hd => ?_, fun hl => ⟨vs1, vs2, hsa, hsb, ?_⟩⟩
          · obtain ⟨x, y, hx1, hy1, rfl⟩ := zipD_get hd
            obtain ⟨vx, hvx, rvx⟩ := ra1.get hx1
            obtain ⟨vy, hvy, rvy⟩ := ra2.get hy1
            refine ⟨⟨vs1, vs2, vx, vy, hsa, hsb, hvx, hvy⟩, fun z H' ⟨T, x', y', ez, hn, eH, fx, fy⟩ => ?_⟩
            have f1 := fx vs1 hsa
            have f2 := fy vs2 hsb
            rw [hvx] at f1
            rw [hvy] at f2
            cases f1
            cases f2
            subst ez
            obtain ⟨w', ee, gg, eh, rr⟩ := tup_new g hn (.cons rvx (.cons rvy .nil))
            exact ⟨w', ee, gg, by rw [eh, eH], rr⟩
          · rw [zipD_len] at hl
            rw [ra1.length, ra2.length]
            omega⟩
end
end DL
namespace DL
open PySem PySem.Spec PyProof.Rows L2
def sRaise (C : Addr) : TSd := fun D _ S => D.er S ⟨C, []⟩
theorem js_raise {X : Cx} {W : WX} {x m : Str} {C : Addr} {j : Nat} {p p2 pos pos' : Pos} (hc : X.calm = true) (tk : Takes X W) (q : PySem.W.excIn X.K C He.veBase "ValueError.__new__" = true) (gC : X.mg x = some (.ref C)) (kC : PySem.W.keepIn X.K (.ref C) = true)
    (b : PySem.W.subIn X.K (.ref C) (.type "BaseException") = some true) (t : PySem.W.typeIn X.K (.ref C) = some (.type "type")) (hg : Gl X x) (hdb : (x == ("__debug__" : Str)) = false := by decide) :
    JS X W (.Raise (some (.Call (.Name x p) [.Constant (.str m) j p2] [] pos')) none pos) (fun _ σ H => (fun (_ : L2.St) (H : Hp) (Q : XK) => Q (.ref C) none H) σ H fun cls d H' => W cls d σ H') (sRaise C) :=
  ⟨ps_raise hc tk (pmk_own PySem.F.excBase_ValueError q gC kC (raises_own b t) hg hdb), fun D' Γ S σ w D g sl h r => r.er σ (.ref C) none ⟨C, []⟩ w S (Ext.refl w) g ⟨rfl, rfl⟩ h⟩
def tyOf (S : Sto) : D → Option String
  | .non => some "NoneType"
  | .bl _ => some "bool"
  | .int _ => some "int"
  | .str _ => some "str"
  | .lst _ => some "list"
  | .sq _ => some "list"
  | .tup _ => some "tuple"
  | .dic _ => some "dict"
  | .own h => match S[h]? with
    | some (.lst _) => some "list"
    | _ => none
  | _ => none
def isTyB (a n : String) : Bool := a == n || (a == "bool" && n == "int")
def tys : List String := ["NoneType", "bool", "int", "str", "list", "tuple", "dict"]
def tyN : List String := ["int", "bool", "str", "list", "tuple", "dict"]
theorem kit_all : (tys.all fun a => tyN.all fun n => decide (kitB a n = some (isTyB a n))) = true := by decide +kernel
theorem kit_at {K : PySem.W.Frag} {a n : String} (ha : a ∈ tys) (hn : n ∈ tyN) : PySem.W.kitOne K (.type a) (.type n) = some (isTyB a n) := by
  have h := List.all_eq_true.mp kit_all a ha
  have h2 := List.all_eq_true.mp h n hn
  exact kit_ty (of_decide_eq_true h2)
theorem tyx_of {K : PySem.W.Frag} {w : Hs} {S : Sto} (g : Good K w S) {v : V} {d : D} {n : String} (r : Rv K w v d) (h : tyOf S d = some n) : TyX K w.H v (.type n) ∧ n ∈ tys := by
  cases d with
  | non => cases r; cases h; exact ⟨.base .non, by decide⟩
  | bl b => cases r; cases h; exact ⟨.base (.bl b), by decide⟩
  | int b => cases r; cases h; exact ⟨.base (.int b), by decide⟩
  | str b => cases r; cases h; exact ⟨.base (.str b), by decide⟩
  | lst ds =>
    cases h
    cases r with
    | lst h1 h2 => exact ⟨.base (.lst (g.sub _ _ h1)), by decide⟩
  | sq ds =>
    cases h
    cases r with
    | sq h1 h2 =>
      refine ⟨?_, by decide⟩
      rcases h1 with (h1 | ⟨o, h1⟩) | ⟨o, its, m, h1, hc, _⟩
      · exact .base (.lst (g.sub _ _ h1))
      · exact .base (.frz (g.sub _ _ h1))
      · exact .kList h1 hc
  | tup ds =>
    cases h
    cases r with
    | tup h1 h2 =>
      refine ⟨?_, by decide⟩
      rcases h1 with (h1 | ⟨o, h1⟩) | ⟨o, its, m, h1, hc, _⟩
      · exact .base (.tup (g.sub _ _ h1))
      · exact .fTuple (g.sub _ _ h1)
      · exact .kTuple h1 hc
  | dic ds =>
    cases h
    cases r with
    | dic h1 h2 => exact ⟨.base (.dK (g.sub _ _ h1)), by decide⟩
  | own hh =>
    have e2 : (match S[hh]? with
      | some (.lst _) => some "list"
      | _ => none) = some n := h
    cases q : S[hh]? with
    | none => rw [q] at e2; cases e2
    | some c =>
      rw [q] at e2
      cases c with
      | gone => cases e2
      | ins _ _ => cases e2
      | dct _ => cases e2
      | lst es =>
        cases e2
        obtain ⟨a, xs, rfl, _, h2, _⟩ := own_at g r q
        exact ⟨.base (.lst h2), by decide⟩
  | _ => cases h
def cIsi (ds : List D) (S : Sto) (Φ : KD) : Prop := match ds with
  | [d, .ty n] => ∃ a, tyOf S d = some a ∧ n ∈ tyN ∧ Φ S (.bl (isTyB a n))
  | _ => False
theorem two_of {K : PySem.W.Frag} {w : Hs} {vs : List V} {d e : D} (r : Ra K w vs [d, e]) : ∃ v u, vs = [v, u] ∧ Rv K w v d ∧ Rv K w u e := by
  cases r with
  | cons r1 r2 =>
    obtain ⟨u, rfl, ru⟩ := one_of r2
    exact ⟨_, _, rfl, r1, ru⟩
theorem rv_ty {K : PySem.W.Frag} {w : Hs} {v : V} {n : String} (r : Rv K w v (.ty n)) : v = .ty n := by cases r; rfl
theorem cd_isi {K : PySem.W.Frag} : CallD K (rIsi K) cIsi := fun w S vs ds Φ Q g r h q => by
  cases ds with
  | nil => exact h.elim
  | cons d t =>
    cases t with
    | nil => exact h.elim
    | cons e t2 =>
      cases t2 with
      | cons _ _ => cases e <;> exact h.elim
      | nil =>
        cases e with
        | ty n =>
          obtain ⟨a, h1, h2, h3⟩ := h
          obtain ⟨v, u, rfl, rv, ru⟩ := two_of r
          rw [rv_ty ru]
          obtain ⟨h4, h5⟩ := tyx_of g rv h1
          exact ⟨v, .ty n, .type a, .type n, isTyB a n, rfl, .ty n, h4, kit_at h5 h2, q _ _ w S (Ext.refl w) g (.bl _) h3⟩
        | _ => exact h.elim
/-- a list or tuple that == and repr take -/
structure Shw (p : PyData) : Prop where
  s : p.showable = true
  d : p.hasDict = false
  dp : p.depth ≤ 60
  l : p.shown.length ≤ sizeLine
/-- as FnOk, where the guards around are known to be none -/
structure FnOkG (P : Program) (wd : World) (K : PySem.W.Frag) (mg : Str → Option Value) (B : Heap) (cx : CXT) (k : Nat) (f : Addr) (fd : FuncData) (ps : List Str) (sp : Sp) : Prop where
  many : ∀ as H Q E, sp as H Q E → as.length = ps.length
  go : ∀ (Ar : Around) (out : List Env) (s0 : Shared) (H : Hp) (ar : Args) (us : List Value) (as : List V) (Q : VK) (E : XK),
    Ar.guards = some [] → Room k Ar → Env0 P wd K mg B Ar out s0 H → BindsTo s0 fd ar (ps.zip us) → Vals as us → sp as H Q E →
      codeAny (model P wd) Ar (.call (.ref f) ar) (CR cx out P wd H s0 Q E) s0
section
variable {P : Program} {wd : World} {K : PySem.W.Frag} {mg : Str → Option Value} {B : Heap} {cx : CXT} {k : Nat} {f : Addr} {fd : FuncData} {ps N : List Str} {sp : Sp}
theorem FnOkG.of (F : FnOk P wd K mg B cx k f fd ps sp) : FnOkG P wd K mg B cx k f fd ps sp where
  many := F.len
  go := fun Ar out s0 H ar us as Q E _ room en bi vs h => F.run Ar out s0 H ar us as Q E room en bi vs h
/-- how a body's end is a call's end -/
theorem end_of {qual : Str} {scope : Scope} {cdv : Value} {Ar : Around} {out : List Env} {s0 s1 : Shared} {H : Hp} {Q : VK} {E : XK} {fl : Flow}
    (h : SP (cxOf cx P wd K mg B N qual scope f cdv Ar out s0 H E) [] { nx := fun _ H1 => Q .non H1, rt := Q } fl s1) :
    match fl with
    | .ret u => CE out P wd H s0 Q u s1
    | .next => CE out P wd H s0 Q .none s1
    | _ => False := by
  cases fl with
  | ret u => exact let ⟨v, _, H1, J, r, q⟩ := h; ⟨v, H1, J.os, J.bare, J.base, J.hok, r, q⟩
  | next => exact let ⟨_, H1, J, q⟩ := h; ⟨.non, H1, J.os, J.bare, J.base, J.hok, rfl, q⟩
  | brk => exact let ⟨_, _, _, q⟩ := h; q.elim
  | cont => exact let ⟨_, _, _, q⟩ := h; q.elim
theorem fn_ofG {nm qual : Str} {pr : Arguments} {bd : List Stmt} {scope : Scope} {dV kV doc pm cdv ct oc : Value} {an od : Option Addr} {osl : Array (Option Value)}
    (there : K.lookup f = some ⟨oc, od, .func (PySem.W.fnOf nm qual pr bd scope dV kV doc pm an cdv ct), osl⟩) (code : PySem.W.codeIn K cdv qual = true) (Sc : FnScope N ps scope) (many : ∀ as H Q E, sp as H Q E → as.length = ps.length)
    (body : ∀ (Ar : Around) (out : List Env) (s0 : Shared) (H : Hp) (as : List V) (Q : VK) (E : XK), Ar.guards = some [] → Room k (Ar.deeper (envOfC qual scope s0.heap.objs.size f cdv)) → sp as H Q E →
      ∃ t, PSs (cxOf cx P wd K mg B N qual scope f cdv Ar out s0 H E) bd t ∧ t { nx := fun _ H1 => Q .non H1, rt := Q } (L2.start N as) H) :
    FnOkG P wd K mg B cx (k + 1) f (PySem.W.fnOf nm qual pr bd scope dV kV doc pm an cdv ct) ps sp where
  many := many
  go := by
    intro Ar out s0 H ar us as Q E gd room en bi vs hs
    obtain ⟨t, run, ask⟩ := body Ar out s0 H as Q E gd (room.deeper _) hs
    have up : ∀ c o, B.get? c = some o → s0.heap.get? c = some o := fun c o e => (en.bs c o e).1
    have kin : K.In s0.heap := en.mod.kin.keeps up
    have noLim := en.mod.nolimit.keeps up
    refine codeAny_call_function room.depth (kin _ _ there) rfl Sc.co Sc.gen rfl (PySem.W.codeRec_of kin code)
      (bi _ _ _ _ (wpAny_newFunctionEnv_cells Sc.kind (fun y hy => (Sc.par y.1 (List.of_mem_zip hy).1).elim .inl fun c => .inr ⟨c, PySem.W.cellsFrom_some _ _ _ (.inl c)⟩) ?_))
    intro env ee s1 inc
    subst ee
    refine ⟨noLim.keeps inc.toInCall.keep, codeAny_func ?_⟩
    refine wpAny_mono (run.run [] s1 (L2.start N as) H _ (inv_start Sc room.hd en (many _ _ _ _ hs) vs inc) ask) (fun fl s2 h => ?_) (fun _ _ h => h)
    have z := end_of (fl := fl) h
    cases fl <;> first | exact z | exact z.elim
end
section
variable {X : Cx} {W : WX} {e : Expr} {es : List Expr} {pos p : Pos} {tl : TA} {Tl : TL} {k : Nat} {f : Addr} {fd : FuncData} {ps : List Str} {sp : DSpec} {x : Str}
/-- the callee's run, its guards known -/
theorem goG {s0 : Sp} {pins : List (Addr × Obj)} {σ : L2.St} {H : Hp} {s : Shared} {Q : VK} {us : List Value} {vs : List V} (F : FnOkG X.prog X.w X.K X.mg X.base (L2.CX X.prog X.w) k f fd ps s0) (gd : X.A.guards = some []) (room : Room k X.A) (hb : Binds X.K fd ps []) (tk : Takes X W)
    (I : Inv X pins σ H s) (r : Vals vs us) (h : s0 vs H Q (WE W σ)) : wpAny (model X.prog X.w) X.A (call (.ref f) us) (EP X pins σ Q) X.xe s := by
  have many : (us ++ []).length = ps.length := by rw [List.append_nil, ← r.length, F.many _ _ _ _ h]
  have bi : BindsTo s fd ⟨us, []⟩ (ps.zip us) := by
    have z := hb s us I.kIn many
    rwa [List.append_nil] at z
  refine wpAny_call (codeAny_mono (F.go _ _ s H _ us vs Q _ gd room I.env0 bi r h) fun rr s2 hq => ?_)
  match rr, hq with
  | .error u, hq => exact passAt tk σ pins H s u s2 I hq
  | .ok (.ret u), hq => exact I.after hq
  | .ok .next, hq => exact False.elim hq
  | .ok .brk, hq => exact False.elim hq
  | .ok .cont, hq => exact False.elim hq
theorem je_callG (F : FnOkG X.prog X.w X.K X.mg X.base (L2.CX X.prog X.w) k f fd ps (spOf X.K sp)) (gd : X.A.guards = some []) (room : Room k X.A) (hg : Gl X x) (hm : X.mg x = some (.ref f)) (hk : PySem.W.keepIn X.K (.ref f) = true) (hb : Binds X.K fd ps [])
    (tk : Takes X W) (ha : JA X W (e :: es) tl Tl) (hdb : (x == ("__debug__" : Str)) = false := by decide) (he : starEach (e :: es) X.env = (false, eval e X.env) :: starEach es X.env := by rfl) (hpl : (backTo pos (starEach es X.env)).any (·.1) = false := by rfl) :
    JE X W (.Call (.Name x p) (e :: es) [] pos) (tCallS (spOf X.K sp) (WE W) tl) (dCall sp Tl) where
  sem := sem_call ha.sem
  pe := ⟨fun pins s σ H Q I h => wpAny_Call_Name_kw (ld_glob I hg hm (PySem.W.callWith_K (h₀ := X.base) I.ok.mod.kin hk
    (thn (ha.pa.run pos pins s σ H _ I h) fun us s1 ⟨vs, H1, I1, r, q⟩ => ⟨I1.kIn, goG F gd room hb tk I1 r q⟩) he hpl) hdb)⟩
end
end DL
namespace DL
open PySem PySem.Spec PyProof.Rows L2
section
variable {P : Program} {wd : World} {K : PySem.W.Frag} {mg mb : Str → Option Value} {k : Nat} {fa a : Addr} {fd : FuncData} {x : Str} {sp : DSpec} {s1 : Shared} {vs : List Value} {ns : List Int}
abbrev scrO (vs : List Value) : Obj := { cls := .type "list", data := .seq vs.toArray }
/-- the row's call, from what is tracked: nothing, or the script -/
theorem law_from {H : Hp} (hH : ∀ b u, H b = some u → b = a ∧ u = .frz (scrO vs) (.lst (ns.map V.int))) (hK : H a ≠ none → K.lookup a = none) (hS : SqL K H a (ns.map V.int))
    (kin : K.In s1.heap) (hns : s1.heap.Ns mainGlobals mg) (hb : s1.heap.Ns builtinsNs mb) (hbb : ∀ y : Str, y ≠ "__name__" → mb y = bootBuiltins y) (lim : s1.heap.NoLimit) (hg : s1.gens = #[]) (ha : s1.heap.get? a = some (scrO vs)) (hi : IntsAre vs ns) (hl : ns.length ≤ sizeLine)
    (room : Room k callerA) (F : ∀ base : Heap, K.In base → base.Ns mainGlobals mg → FnOkG P wd K mg base (L2.CX P wd) k fa fd [x] (spOf K sp)) (bind : ∀ (s : Shared) (u : Value), BindsTo s fd ⟨[u], []⟩ [(x, u)])
    (holds : sp [.sq (ns.map D.int)] [] (fun _ d => d = .bl true) fun _ _ => False) :
    codeAny (model P wd) callerA (.call (.ref fa) ⟨[.ref a], []⟩) (fun r s' => r = .ok (.ret (.bool true)) ∧ OldK s1.heap s'.heap ∧ s'.os = s1.os ∧ AllBare s'.gens) s1 := by
  have rv : Vals (ns.map V.int) vs := vals_ints hi
  have hok : HOk P wd H s1.heap := fun b u e => by
    obtain ⟨rfl, rfl⟩ := hH b u e
    exact ⟨ha, by rw [List.length_map]; exact hl, vs, _, rv, ha⟩
  have noD : ∀ {b : Addr} {o : Obj} {es : Array DictEntry} {n : Nat}, s1.heap.get? b = some o → o.data = .dict es n → H b = none := fun {b o es n} e d => by
    cases q : H b with
    | none => rfl
    | some u =>
      have z := (hH b u q).1
      rw [z, ha] at e
      rw [← Option.some.inj e] at d
      exact nomatch d
  have ns_ : ∀ {b : Addr} {m : Str → Option Value}, s1.heap.Ns b m → (hidT s1.heap H).Ns b m := fun {b m} n => by
    obtain ⟨o, es, ep, e, d, r⟩ := n
    exact ⟨o, es, ep, hidT_get e (noD e d), d, r⟩
  have kinB : K.In (hidT s1.heap H) := fun b o e => hidT_get (kin b o e) (by
    cases q : H b with
    | none => rfl
    | some u =>
      have z := (hH b u q).1
      have y := hK (by rw [← z, q]; exact fun t => nomatch t)
      rw [← z, e] at y
      exact nomatch y)
  have md : Mod K mg (hidT s1.heap H) := by
    obtain ⟨mc, l1, l2⟩ := lim
    exact ⟨kinB, ns_ hns, ⟨mb, ns_ hb, hbb⟩, ⟨mc, ns_ l1, l2⟩⟩
  have en : Env0 P wd K mg (hidT s1.heap H) callerA [] s1 H :=
    ⟨rfl, md, fun _ _ e => of_hidT e, Nat.le_of_eq (hidT_size _ _), trivial, (fun _ h => nomatch h), hok, .of_eq hg⟩
  have sps : spOf K sp [.ref a] H (fun v _ => v = .bl true) fun _ _ _ => False := by
    refine ⟨⟨H, [], H⟩, [], [.sq (ns.map D.int)], (fun _ d => d = .bl true), (fun _ _ => False), rfl, ⟨fun _ _ e => e, List.nodup_nil, rfl, fun h b c e => by simp at e, fun b h => nomatch h⟩, .cons (.sq hS ?_) .nil, holds, fun v d w' S' _ _ r q => ?_, fun _ _ _ _ _ _ _ _ z => z⟩
    · have e : ∀ l : List Int, RpA K H [] (l.map V.int) (l.map D.int) := fun l => by
        induction l with
        | nil => exact .nil
        | cons i l ih => exact .cons (.int i) ih
      exact e ns
    · have q : d = .bl true := q
      subst q
      exact rv_bl r
  refine codeAny_mono ((F _ kinB (ns_ hns)).go callerA [] s1 H ⟨[.ref a], []⟩ [.ref a] [.ref a] _ _ rfl room en (bind s1 _) (.cons rfl .nil) sps) fun r s2 h => ?_
  match r, h with
  | .ok (.ret u), h =>
    obtain ⟨v, H2, os, bare, un, hok2, r2, q⟩ := h
    have q : v = .bl true := q
    subst q
    have eu : u = Value.bool true := r2
    refine ⟨by rw [eu], OldK.of_keep fun b o e => ?_, os, bare⟩
    cases z : H b with
    | none => exact un.keep b o e z (fun t => nomatch t) (fun t => nomatch t)
    | some y =>
      obtain ⟨rfl, rfl⟩ := hH b y z
      have t1 := (hok2 b _ (un.frzs b _ _ z)).1
      rw [ha] at e
      rw [← Option.some.inj e]
      exact t1
  | .ok .next, h => exact False.elim h
  | .ok .brk, h => exact False.elim h
  | .ok .cont, h => exact False.elim h
  | .error e, h =>
    have h : L2.CX P wd [] H s1 (fun _ _ _ => False) e s2 := h
    obtain ⟨_, _, _, _, _, _, _, _, _, _, _, _, z⟩ := h
    exact z.elim
theorem law_end (kin : K.In s1.heap) (hns : s1.heap.Ns mainGlobals mg) (hb : s1.heap.Ns builtinsNs mb) (hbb : ∀ y : Str, y ≠ "__name__" → mb y = bootBuiltins y) (lim : s1.heap.NoLimit) (hg : s1.gens = #[]) (ha : s1.heap.get? a = some (scrO vs)) (hi : IntsAre vs ns) (hl : ns.length ≤ sizeLine)
    (room : Room k callerA) (F : ∀ base : Heap, K.In base → base.Ns mainGlobals mg → FnOkG P wd K mg base (L2.CX P wd) k fa fd [x] (spOf K sp)) (bind : ∀ (s : Shared) (u : Value), BindsTo s fd ⟨[u], []⟩ [(x, u)])
    (holds : sp [.sq (ns.map D.int)] [] (fun _ d => d = .bl true) fun _ _ => False) :
    codeAny (model P wd) callerA (.call (.ref fa) ⟨[.ref a], []⟩) (fun r s' => r = .ok (.ret (.bool true)) ∧ OldK s1.heap s'.heap ∧ s'.os = s1.os ∧ AllBare s'.gens) s1 := by
  cases q : K.lookup a with
  | some o =>
    have e := kin a o q
    rw [ha] at e
    have e2 := Option.some.inj e
    refine law_from (H := fun _ => none) (fun b u z => nomatch z) (fun z => absurd rfl z) (.inr ⟨o, vs.toArray, 0, q, ?_, ?_, ?_, ?_, ?_⟩) kin hns hb hbb lim hg ha hi hl room F bind holds
    · rw [← e2]
    · rw [← e2]
    · rw [← e2]
    · rw [List.size_toArray, hi.length]; exact hl
    · exact vals_ints hi
  | none =>
    refine law_from (H := fun b => if b = a then some (.frz (scrO vs) (.lst (ns.map V.int))) else none) (fun b u z => ?_) (fun _ => q) (.inl (.inr ⟨scrO vs, if_pos rfl⟩)) kin hns hb hbb lim hg ha hi hl room F bind holds
    by_cases e : b = a
    · exact ⟨e, (Option.some.inj ((if_pos e).symm.trans z)).symm⟩
    · exact nomatch (if_neg e).symm.trans z
end
/-- what the row's head leaves, from the law's promise by data -/
theorem walk_end {l : PySem.W.OpenLaw} {n k : Nat} {q : Program} {loose : List Str} {XP : (Str → Option Value) → Heap → Prop} {YP : World → Heap → Prop} {d : DefRec} {x : Str} (hn : l.most = some n) (hn2 : n ≤ sizeLine) (hdf : d.params.defaults = []) (room : Room k callerA)
    (F : ∀ (w : World) (mg : Str → Option Value) (fa : Addr) (h : Heap), YP w h → h.Ns mainGlobals mg → mg d.name = some (.ref fa) →
      ∃ (K : PySem.W.Frag) (fd : FuncData) (sp : DSpec), K.In h ∧ (∀ (s : Shared) (u : Value), BindsTo s fd ⟨[u], []⟩ [(x, u)]) ∧ (∀ ns : List Int, ns.length ≤ n → (∀ z ∈ ns, Builtin.Int.intBits z ≤ 1048576) → sp [.sq (ns.map D.int)] [] (fun _ d => d = .bl true) fun _ _ => False) ∧
        ∀ base : Heap, K.In base → base.Ns mainGlobals mg → FnOkG l.prog w K mg base (L2.CX l.prog w) k fa fd [x] (spOf K sp)) :
    PySem.W.WalkO q loose XP YP l.row.toRowW d [] (fun f vs => PySem.call f vs) := by
  refine Att.attach_callB hn hdf fun w s0 s1 mg mb fa o pm cd doc a vs ns G Y ho hd hcd hmg hobj hints hlen hbits hg => ?_
  obtain ⟨K, fd, sp, kin, hb, hs, hF⟩ := F w mg fa _ Y G.T.g hmg
  exact law_end kin G.T.g G.T.b G.T.builtins G.T.nolimit hg hobj hints (Nat.le_trans hlen hn2) room hF hb (hs ns hlen hbits)
end DL
namespace DL
open PySem PySem.Spec PyProof.Rows L2
def fzD (d : D) (S : Sto) (Φ : KD) : Prop := match d with
  | .own h => ∃ ds, S[h]? = some (.lst ds) ∧ Φ (S.set h .gone) (.lst ds)
  | d => Φ S d
def dFz (T : TD) : TD := fun Γ S Φ Ψ => T Γ S (fun S1 d => fzD d S1 Φ) Ψ
theorem fz_ok {K : PySem.W.Frag} {w : Hs} {S : Sto} (g : Good K w S) {Φ : KD} {Q : VK} {v : V} {d : D} (r : Rv K w v d) (h : fzD d S Φ) (q : OkD K w Φ Q) : Q v w.H := by
  have other : Φ S d → Q v w.H := fun z => q v d w S (Ext.refl w) g r z
  cases d with
  | own hh =>
    obtain ⟨ds, e, hΦ⟩ := h
    obtain ⟨a, xs, rfl, ha, hH, ra⟩ := own_at g r e
    have hm : a ∈ w.al := List.mem_of_getElem? ha
    have hF : w.F a = none := (g.cell hh a _ ha e).1
    have ee : Ext w (w.fz a (.lst xs)) := Ext.fz hm hF
    exact q (.ref a) (.lst ds) (w.fz a (.lst xs)) _ ee (g.fz ha e hH) (.lst upd_same (ee.ra ra)) hΦ
  | _ => exact other h
theorem je_fz {X : Cx} {W : WX} {e : Expr} {t : TE} {T : TD} (h : JE X W e t T) : JE X W e t (dFz T) := ⟨h.pe, fun Γ S Φ Ψ σ w g sl hT hx Q q =>
  h.sem Γ S _ Ψ σ w g sl hT hx Q fun v d w1 S1 e1 g1 r1 h1 => fz_ok g1 r1 h1 (q.ext e1)⟩
mutual
def D.low (n : Nat) : D → Bool
  | .own h => decide (h < n)
  | .lst ds => lowA n ds
  | .sq ds => lowA n ds
  | .tup ds => lowA n ds
  | .ins _ fs => lowF n fs
  | .dic kvs => lowK n kvs
  | .non => true
  | .bl _ => true
  | .int _ => true
  | .str _ => true
  | .obj _ => true
  | .ty _ => true
  | .exc _ fs => lowF n fs
def lowA (n : Nat) : List D → Bool
  | [] => true
  | d :: ds => D.low n d && lowA n ds
def lowF (n : Nat) : List (Str × D) → Bool
  | [] => true
  | (_, d) :: ds => D.low n d && lowF n ds
def lowK (n : Nat) : List (Key × D) → Bool
  | [] => true
  | (_, d) :: ds => D.low n d && lowK n ds
end
section
variable {K : PySem.W.Frag} {F : Hp} {al : List Addr}
mutual
theorem rp_low (n : Nat) : ∀ (d : D) (v : V), Rp K F al v d → d.low n = true → Rp K F (al.take n) v d
  | .non, _, h, _ => by cases h; exact .non
  | .bl _, _, h, _ => by cases h; exact .bl _
  | .int _, _, h, _ => by cases h; exact .int _
  | .str _, _, h, _ => by cases h; exact .str _
  | .lst ds, _, h, l => by
    cases h with
    | lst h1 h2 => exact .lst h1 (ra_low n ds _ h2 (by simpa [D.low] using l))
  | .sq ds, _, h, l => by
    cases h with
    | sq h1 h2 => exact .sq h1 (ra_low n ds _ h2 (by simpa [D.low] using l))
  | .tup ds, _, h, l => by
    cases h with
    | tup h1 h2 => exact .tup h1 (ra_low n ds _ h2 (by simpa [D.low] using l))
  | .ins C fs, _, h, l => by
    cases h with
    | ins h1 h2 => exact .ins h1 (rf_low n fs _ h2 (by simpa [D.low] using l))
  | .dic fs, _, h, l => by
    cases h with
    | dic h1 h2 => exact .dic h1 (rk_low n fs _ h2 (by simpa [D.low] using l))
  | .obj _, _, h, _ => by cases h; exact .obj _
  | .own m, _, h, l => by
    cases h with
    | own h1 =>
      have hm : m < n := by simpa [D.low] using l
      exact .own (by rw [List.getElem?_take_of_lt hm]; exact h1)
  | .ty _, _, h, _ => by cases h; exact .ty _
  | .exc C fs, _, h, l => by
    cases h with
    | exc0 h1 h2 h0 h3 => exact .exc0 h1 h2 h0 h3
    | excD h1 h2 h0 h3 h4 h5 => exact .excD h1 h2 h0 h3 h4 (rf_low n fs _ h5 (by simpa [D.low] using l))
theorem ra_low (n : Nat) : ∀ (ds : List D) (vs : List V), RpA K F al vs ds → lowA n ds = true → RpA K F (al.take n) vs ds
  | [], _, h, _ => by cases h; exact .nil
  | d :: ds, _, h, l => by
    rw [lowA, Bool.and_eq_true] at l
    cases h with
    | cons h1 h2 => exact .cons (rp_low n d _ h1 l.1) (ra_low n ds _ h2 l.2)
theorem rf_low (n : Nat) : ∀ (ds : List (Str × D)) (vs : List (Str × V)), RpF K F al vs ds → lowF n ds = true → RpF K F (al.take n) vs ds
  | [], _, h, _ => by cases h; exact .nil
  | (_, d) :: ds, _, h, l => by
    rw [lowF, Bool.and_eq_true] at l
    cases h with
    | cons h1 h2 => exact .cons (rp_low n d _ h1 l.1) (rf_low n ds _ h2 l.2)
theorem rk_low (n : Nat) : ∀ (ds : List (Key × D)) (vs : List (Key × V)), RpK K F al vs ds → lowK n ds = true → RpK K F (al.take n) vs ds
  | [], _, h, _ => by cases h; exact .nil
  | (_, d) :: ds, _, h, l => by
    rw [lowK, Bool.and_eq_true] at l
    cases h with
    | cons h1 h2 => exact .cons (rp_low n d _ h1 l.1) (rk_low n ds _ h2 l.2)
end
mutual
theorem low_of {n : Nat} (hn : al.length ≤ n) : ∀ (d : D) (v : V), Rp K F al v d → d.low n = true
  | .non, _, h => by simp [D.low]
  | .bl _, _, h => by simp [D.low]
  | .int _, _, h => by simp [D.low]
  | .str _, _, h => by simp [D.low]
  | .lst ds, _, h => by
    cases h with
    | lst h1 h2 => rw [D.low]; exact lowA_of hn ds _ h2
  | .sq ds, _, h => by
    cases h with
    | sq h1 h2 => rw [D.low]; exact lowA_of hn ds _ h2
  | .tup ds, _, h => by
    cases h with
    | tup h1 h2 => rw [D.low]; exact lowA_of hn ds _ h2
  | .ins C fs, _, h => by
    cases h with
    | ins h1 h2 => rw [D.low]; exact lowF_of hn fs _ h2
  | .dic fs, _, h => by
    cases h with
    | dic h1 h2 => rw [D.low]; exact lowK_of hn fs _ h2
  | .obj _, _, h => by simp [D.low]
  | .own m, _, h => by
    cases h with
    | own h1 =>
      have := (List.getElem?_eq_some_iff.mp h1).1
      rw [D.low, decide_eq_true_eq]
      omega
  | .ty _, _, h => by simp [D.low]
  | .exc C fs, _, h => by
    cases h with
    | exc0 h1 h2 h0 h3 => rw [D.low, lowF]
    | excD h1 h2 h0 h3 h4 h5 => rw [D.low]; exact lowF_of hn fs _ h5
theorem lowA_of {n : Nat} (hn : al.length ≤ n) : ∀ (ds : List D) (vs : List V), RpA K F al vs ds → lowA n ds = true
  | [], _, h => by rw [lowA]
  | d :: ds, _, h => by
    cases h with
    | cons h1 h2 => rw [lowA, low_of hn d _ h1, lowA_of hn ds _ h2] <;> rfl
theorem lowF_of {n : Nat} (hn : al.length ≤ n) : ∀ (ds : List (Str × D)) (vs : List (Str × V)), RpF K F al vs ds → lowF n ds = true
  | [], _, h => by rw [lowF]
  | (_, d) :: ds, _, h => by
    cases h with
    | cons h1 h2 => rw [lowF, low_of hn d _ h1, lowF_of hn ds _ h2] <;> rfl
theorem lowK_of {n : Nat} (hn : al.length ≤ n) : ∀ (ds : List (Key × D)) (vs : List (Key × V)), RpK K F al vs ds → lowK n ds = true
  | [], _, h => by rw [lowK]
  | (_, d) :: ds, _, h => by
    cases h with
    | cons h1 h2 => rw [lowK, low_of hn d _ h1, lowK_of hn ds _ h2] <;> rfl
end
end
def Cell.low (n : Nat) : Cell → Bool
  | .lst ds => lowA n ds
  | .ins _ fs => lowF n fs
  | .dct ks => ks.all fun p => p.2.low n
  | .gone => true
/-- behind a def: the cells of its own are left behind -/
def Cut (S0 S1 S' : Sto) : Prop := S0.length ≤ S1.length ∧ S1 <+: S' ∧ ∀ (h : Nat) (c : Cell), S1[h]? = some c → S0[h]? = some c ∨ c.low S1.length = true
def RetOk (S0 : Sto) (Φ : KD) : KD := fun S' d => Φ S' d ∨ ∃ S1, Cut S0 S1 S' ∧ d.low S1.length = true ∧ Φ S1 d
def ErOk (S0 : Sto) (Ψ : KX) : KX := fun S' x => Ψ S' x ∨ ∃ S1, Cut S0 S1 S' ∧ lowF S1.length x.fs = true ∧ Ψ S1 x
theorem Cut.same {S0 cs : Sto} : Cut S0 S0 (S0 ++ cs) := ⟨Nat.le_refl _, List.prefix_append _ _, fun h c e => .inl e⟩
theorem ret_cut {S0 cs : Sto} {Φ : KD} {d : D} (hl : d.low S0.length = true) (h : Φ S0 d) : RetOk S0 Φ (S0 ++ cs) d := .inr ⟨S0, Cut.same, hl, h⟩
theorem ret_now {S0 S : Sto} {Φ : KD} {d : D} (h : Φ S d) : RetOk S0 Φ S d := .inl h
section
variable {K : PySem.W.Frag} {w0 w' : Hs} {S0 S1 S' : Sto}
def Hs.tk (w : Hs) (n : Nat) : Hs := ⟨w.F, w.al.take n, w.H⟩
theorem cut_ok (g0 : Good K w0 S0) (e : Ext w0 w') (g' : Good K w' S') (c : Cut S0 S1 S') : Ext w0 (w'.tk S1.length) ∧ Good K (w'.tk S1.length) S1 := by
  obtain ⟨hl, ⟨cs, hp⟩, hc⟩ := c
  have hle : S1.length ≤ w'.al.length := by rw [g'.len, ← hp, List.length_append]; omega
  have get : ∀ (n : Nat) (a : Addr), (w'.al.take S1.length)[n]? = some a → n < S1.length ∧ w'.al[n]? = some a := fun n a q => by
    have h1 := (List.getElem?_eq_some_iff.mp q).1
    rw [List.length_take] at h1
    have h2 : n < S1.length := by omega
    rw [List.getElem?_take_of_lt h2] at q
    exact ⟨h2, q⟩
  refine ⟨⟨e.f, ?_, e.new, e.kp, e.dm⟩, ⟨g'.sub, g'.nd.sublist (List.take_sublist _ _), ?_, fun n a cc q1 q2 => ?_, fun a q => g'.dom a (List.mem_of_mem_take q)⟩⟩
  · obtain ⟨β, eb, hb⟩ := e.al
    refine ⟨β.take (S1.length - w0.al.length), ?_, fun b q => hb b (List.mem_of_mem_take q)⟩
    show w'.al.take S1.length = _
    rw [eb, List.take_append, List.take_of_length_le (by rw [g0.len]; exact hl)]
  · show (w'.al.take S1.length).length = _
    rw [List.length_take]; omega
  · obtain ⟨h2, q1⟩ := get n a q1
    have q3 : S'[n]? = some cc := by rw [← hp, List.getElem?_append_left h2]; exact q2
    have ok := g'.cell n a cc q1 q3
    cases cc with
    | gone => exact True.intro
    | lst ds =>
      obtain ⟨hF, xs, hH, ra⟩ := ok
      refine ⟨hF, xs, hH, ra_low _ ds xs ra ?_⟩
      rcases hc n _ q2 with z | z
      · have hn0 : n < w0.al.length := by rw [g0.len]; exact (List.getElem?_eq_some_iff.mp z).1
        have q0 : w0.al[n]? = some w0.al[n] := List.getElem?_eq_getElem hn0
        obtain ⟨_, ys, _, r0⟩ := g0.cell n _ _ q0 z
        exact lowA_of (by rw [g0.len]; exact hl) ds ys r0
      · exact z
    | ins C fs =>
      obtain ⟨hF, dx, xs, hH, ra⟩ := ok
      refine ⟨hF, dx, xs, hH, rf_low _ fs xs ra ?_⟩
      rcases hc n _ q2 with z | z
      · have hn0 : n < w0.al.length := by rw [g0.len]; exact (List.getElem?_eq_some_iff.mp z).1
        have q0 : w0.al[n]? = some w0.al[n] := List.getElem?_eq_getElem hn0
        obtain ⟨_, _, ys, _, r0⟩ := g0.cell n _ _ q0 z
        exact lowF_of (by rw [g0.len]; exact hl) fs ys r0
      · exact z
    | dct ks =>
      obtain ⟨hF, us, hH, ra⟩ := ok
      refine ⟨hF, us, hH, ra.1, fun i k d q => ?_⟩
      obtain ⟨v, q5, rv⟩ := ra.2 i k d q
      refine ⟨v, q5, rp_low _ d v rv ?_⟩
      rcases hc n _ q2 with z | z
      · have hn0 : n < w0.al.length := by rw [g0.len]; exact (List.getElem?_eq_some_iff.mp z).1
        have q0 : w0.al[n]? = some w0.al[n] := List.getElem?_eq_getElem hn0
        obtain ⟨_, ys, _, r0⟩ := g0.cell n _ _ q0 z
        obtain ⟨v0, _, rv0⟩ := r0.2 i k d q
        exact low_of (by rw [g0.len]; exact hl) d v0 rv0
      · have z : (ks.all fun p => p.2.low S1.length) = true := z
        rw [List.all_eq_true] at z
        exact z (k, d) (List.mem_of_getElem? q)
end
theorem body_ok2 {K : PySem.W.Frag} {N : List Str} {t : TS} {T : TSd} {sp : DSpec} {E : XK} (hb : SemS K (WD E) t T) (h : ∀ ds S Φ Ψ, sp ds S Φ Ψ → T { nx := fun _ S' => RetOk S Φ S' .non, rt := RetOk S Φ, er := ErOk S Ψ } (gstart N ds) S) {vs : List V} {H : Hp} {Q : VK} (hs : spOf K sp vs H Q E) :
    t { nx := fun _ H' => Q .non H', rt := Q } (L2.start N vs) H := by
  obtain ⟨w, S, ds, Φ, Ψ, rfl, g, r, h1, q, hx⟩ := hs
  have qr : OkD K w (RetOk S Φ) Q := fun v d w' S' e' g' r' hr => by
    rcases hr with hr | ⟨S1, c, hl, hr⟩
    · exact q v d w' S' e' g' r' hr
    · obtain ⟨e2, g2⟩ := cut_ok g e' g' c
      exact q v d (w'.tk S1.length) S1 e2 g2 (rp_low _ d v r' hl) hr
  refine hb _ _ S _ w _ g (slots_start r) (h ds S Φ Ψ h1) ⟨fun σ' Γ' w' S' e' g' _ h' => qr .non .non w' S' e' g' .non h', qr, fun _ _ _ _ _ _ _ z => z.elim, fun _ _ _ _ _ _ _ z => z.elim, fun _ cv dx x w' S' e' g' r' h' => ?_⟩
  rcases h' with h' | ⟨S1, c, hl, h'⟩
  · exact hx cv dx x w' S' e' g' r' h'
  · obtain ⟨e2, g2⟩ := cut_ok g e' g' c
    refine hx cv dx x (w'.tk S1.length) S1 e2 g2 ⟨r'.1, ?_⟩ h'
    cases dx with
    | none => exact r'.2
    | some a =>
      obtain ⟨vs, k1, k2⟩ := r'.2
      exact ⟨vs, k1, rf_low _ _ _ k2 hl⟩
abbrev FunS (K : PySem.W.Frag) (x : Str) (st : Stmt) (f : Addr) (fd : FuncData) : Prop := FunD K x x (defArgs st) (defBody st) (defScope st) [] [] f fd
section
variable (P : Program) (wd : World) (K : PySem.W.Frag) (mg : Str → Option Value) (base : Heap)
/-- a callee by its name -/
structure Cal (x : Str) (st : Stmt) (k : Nat) (ps : List Str) (sp : DSpec) : Prop where
  ex : ∃ (f : Addr) (fd : FuncData), FnOk P wd K mg base (L2.CX P wd) k f fd ps (spOf K sp) ∧ mg x = some (.ref f) ∧ FunS K x st f fd ∧ Binds K fd ps []
structure CalG (x : Str) (st : Stmt) (k : Nat) (ps : List Str) (sp : DSpec) : Prop where
  ex : ∃ (f : Addr) (fd : FuncData), FnOkG P wd K mg base (L2.CX P wd) k f fd ps (spOf K sp) ∧ mg x = some (.ref f) ∧ FunS K x st f fd ∧ Binds K fd ps []
/-- a class of errors -/
structure ExcF (x : Str) (C : Addr) : Prop where
  q : PySem.W.excIn K C He.veBase "ValueError.__new__" = true
  g : mg x = some (.ref C)
  k : PySem.W.keepIn K (.ref C) = true
  b : PySem.W.subIn K (.ref C) (.type "BaseException") = some true
  t : PySem.W.typeIn K (.ref C) = some (.type "type")
/-- a def of the text -/
structure Tx (x : Str) (st : Stmt) : Prop where
  ex : ∃ (f : Addr) (fd : FuncData), FunS K x st f fd ∧ mg x = some (.ref f)
end
section
variable {P : Program} {wd : World} {K : PySem.W.Frag} {mg : Str → Option Value} {base : Heap} {x : Str} {st : Stmt} {k : Nat} {ps : List Str} {sp : DSpec}
theorem Cal.g (c : Cal P wd K mg base x st k ps sp) : CalG P wd K mg base x st k ps sp := let ⟨f, fd, h, r⟩ := c.ex; ⟨f, fd, FnOkG.of h, r⟩
theorem binds_of {f : Addr} {fd : FuncData} (F : FunS K x st f fd)
    (h : ∀ (kV doc pm : Value) (an : Option Addr) (cdv ct : Value) (us : List Value), us.length = ps.length → bindArgs (PySem.W.fnOf x x (defArgs st) (defBody st) (defScope st) .none kV doc pm an cdv ct) ⟨us, []⟩ = pure (ps.zip us)) : Binds K fd ps [] := F.bindsN h
theorem calG_ok {N : List Str} (F : Tx K mg x st)
    (hbind : ∀ (kV doc pm : Value) (an : Option Addr) (cdv ct : Value) (us : List Value), us.length = ps.length → bindArgs (PySem.W.fnOf x x (defArgs st) (defBody st) (defScope st) .none kV doc pm an cdv ct) ⟨us, []⟩ = pure (ps.zip us))
    (Sc : FnScope N ps (defScope st)) (len : ∀ ds S Φ Ψ, sp ds S Φ Ψ → ds.length = ps.length)
    (hbody : ∀ (f : Addr) (cdv : Value) (A : Around) (outer : List Env) (s : Shared) (H : Hp) (E : XK), (A.deeper (envOfC x (defScope st) s.heap.objs.size f cdv)).guards = some [] → Room k (A.deeper (envOfC x (defScope st) s.heap.objs.size f cdv)) →
      ∃ t T, JB (cxOf (L2.CX P wd) P wd K mg base N x (defScope st) f cdv A outer s H E) (WD E) (defBody st) t T ∧ ∀ ds S Φ Ψ, sp ds S Φ Ψ → T { nx := fun _ S' => RetOk S Φ S' .non, rt := RetOk S Φ, er := ErOk S Ψ } (gstart N ds) S) :
    CalG P wd K mg base x st (k + 1) ps sp := by
  obtain ⟨f, fd, F, hm⟩ := F.ex
  refine ⟨f, fd, ?_, hm, F, binds_of F hbind⟩
  obtain ⟨_, _, _, _, _, _, _, cdv, _, _, e, lk, hcd, _, _⟩ := F.ex
  subst e
  refine fn_ofG lk hcd Sc (fun vs H Q E h => ?_) fun A outer s H vs Q E hG hr hs => ?_
  · obtain ⟨w, S, ds, Φ, Ψ, _, _, r, h1, _⟩ := h
    rw [r.length]
    exact len ds S Φ Ψ h1
  · obtain ⟨t, T, jb, hq⟩ := hbody f cdv A outer s H E (by show A.guards = some []; exact hG) hr
    exact ⟨t, jb.pss, body_ok2 jb.sem hq hs⟩
end
section
variable {X : Cx} {W : WX} {e : Expr} {es : List Expr} {pos p : Pos} {tl tk' : TA} {Tl Tk : TL} {k n : Nat} {ps ks : List Str} {sp : DSpec} {x : Str} {st : Stmt} {kws : List Keyword}
theorem je_callCG (c : CalG X.prog X.w X.K X.mg X.base x st k ps sp) (gd : X.A.guards = some []) (hr : Room k X.A) (hg : Gl X x) (tk : Takes X W) (ha : JA X W (e :: es) tl Tl) (hdb : (x == ("__debug__" : Str)) = false := by decide)
    (he : starEach (e :: es) X.env = (false, eval e X.env) :: starEach es X.env := by rfl) (hpl : (backTo pos (starEach es X.env)).any (·.1) = false := by rfl) : JE X W (.Call (.Name x p) (e :: es) [] pos) (tCallS (spOf X.K sp) (WE W) tl) (dCall sp Tl) := by
  obtain ⟨f, fd, F, hm, hk, hb⟩ := c.ex
  exact je_callG F gd hr hg hm hk.kp hb tk ha hdb he hpl
theorem js_raiseC {m : Str} {C : Addr} {j : Nat} {p2 pos' : Pos} (c : ExcF X.K X.mg x C) (hc : X.calm = true) (tk : Takes X W) (hg : Gl X x) (hdb : (x == ("__debug__" : Str)) = false := by decide) :
    JS X W (.Raise (some (.Call (.Name x p) [.Constant (.str m) j p2] [] pos')) none pos) (fun _ σ H => (fun (_ : L2.St) (H : Hp) (Q : XK) => Q (.ref C) none H) σ H fun cls d H' => W cls d σ H') (sRaise C) := js_raise hc tk c.q c.g c.k c.b c.t hg hdb
/-- keywords -/
structure JK (X : Cx) (W : WX) (kws : List Keyword) (t : TA) (T : TL) : Prop where
  pk : PK X kws t
  sem : SemA X.K W t T
theorem jk_nil : JK X W [] tNil lNil := ⟨pk_nil, (ja_nil (X := X)).sem⟩
theorem jk_cons {nm : Option Str} {kpos : Pos} {te : TE} {Te : TD} (ha : JE X W e te Te) (hr : JK X W kws tl Tl) : JK X W (⟨nm, e, kpos⟩ :: kws) (tCons te tl) (lCons Te Tl) := ⟨pk_cons ha.pe hr.pk, fun Γ S Φ Ψ σ w g sl h hx Q q =>
  ha.sem Γ S _ Ψ σ w g sl h hx _ fun v d w1 S1 e1 g1 r1 h1 => hr.sem Γ S1 _ Ψ σ w1 g1 (sl.ext e1) h1 (hx.ext e1) _ fun vs ds w2 S2 e2 g2 r2 h2 => q _ _ w2 S2 (e1.trans e2) g2 (.cons (e2.rp r1) r2) h2⟩
def dCallK (n m : Nat) (sp : DSpec) (g : List D → List D → List D) (T Tk : TL) : TD := fun Γ S Φ Ψ => T Γ S (fun S1 ds => Tk Γ S1 (fun S2 es => ds.length = n ∧ es.length = m ∧ sp (g ds es) S2 Φ Ψ) Ψ) Ψ
end
end DL
namespace DL
open PySem PySem.Spec PyProof.Rows L2
section
variable {X : Cx} {W : WX} {a b c : Expr} {pos : Pos} {tl : TA} {Tl : TL}
def sPar3 (i j l : Nat) (T : TL) : TSd := fun D Γ S => T Γ S (fun S1 ds => ∃ x y z, ds = [x, y, z] ∧ D.nx (((Γ.set i (some x)).set j (some y)).set l (some z)) S1) D.er
theorem js_par3 (i j l : Nat) {x y z : Str} {px py pz pt : Pos} {kt k2 pt2} (hc : X.calm = true) (hN : X.N.Nodup) (ha : JA X W [a, b, c] tl Tl) (hij : i ≠ j := by decide) (hil : i ≠ l := by decide) (hjl : j ≠ l := by decide) (hi : X.N[i]? = some x := by rfl) (hj : X.N[j]? = some y := by rfl) (hl : X.N[l]? = some z := by rfl)
    (hx : X.env.scope.names.lookup x = some .local := by rfl) (hy : X.env.scope.names.lookup y = some .local := by rfl) (hz : X.env.scope.names.lookup z = some .local := by rfl)
    (hw : swappedStores [.Tuple [.Name x px, .Name y py, .Name z pz] kt pt] (.Tuple [a, b, c] k2 pt2) X.env = pure (some [x, y, z]) := by rfl)
    (hsw : swapsWithSole [.Tuple [.Name x px, .Name y py, .Name z pz] kt pt] (.Tuple [a, b, c] k2 pt2) pos.line X.env = pure false := by rfl) :
    JS X W (.Assign [.Tuple [.Name x px, .Name y py, .Name z pz] kt pt] (.Tuple [a, b, c] k2 pt2) pos) (tPar3 i j l tl) (sPar3 i j l Tl) :=
  ⟨ps_par3 hc hN hi hj hl hij hil hjl hx hy hz ha.pa hw hsw, fun D' Γ S σ w D g sl hT r =>
    ha.sem Γ S _ _ σ w g sl hT (r.er σ) _ fun vs ds w1 S1 e1 g1 r1 ⟨x, y, z, e, h1⟩ => by
      subst e
      cases r1 with
      | cons ra rb =>
        obtain ⟨v2, v3, rfl, rc, rd⟩ := two_of rb
        exact ⟨_, _, _, rfl, r.nx _ _ w1 S1 e1 g1 ((((sl.ext e1).set ra i).set rc j).set rd l) h1⟩⟩
end
def pick {α : Type} (perm : List Nat) (as es : List α) : List α := perm.filterMap fun i => (as ++ es)[i]?
theorem pick_vals {vs zs : List V} {us ws : List Value} (h : Vals vs us) (h2 : Vals zs ws) : ∀ perm : List Nat, Vals (pick perm vs zs) (pick perm us ws)
  | [] => .nil
  | i :: r => by
    have ih := pick_vals h h2 r
    have ap := Vals.append h h2
    unfold pick at ih ⊢
    rw [List.filterMap_cons, List.filterMap_cons]
    cases e : (vs ++ zs)[i]? with
    | none => rw [ap.none_of e]; exact ih
    | some v =>
      obtain ⟨u, e2, r2⟩ := ap.get e
      rw [e2]
      exact .cons r2 ih
theorem pick_ra {K : PySem.W.Frag} {w : Hs} {vs zs : List V} {ds es : List D} (h : Ra K w vs ds) (h2 : Ra K w zs es) : ∀ perm : List Nat, Ra K w (pick perm vs zs) (pick perm ds es)
  | [] => .nil
  | i :: r => by
    have ih := pick_ra h h2 r
    have ap := RpA.append h h2
    unfold pick at ih ⊢
    rw [List.filterMap_cons, List.filterMap_cons]
    cases e : (vs ++ zs)[i]? with
    | none =>
      have e2 : (ds ++ es)[i]? = none := by
        have h1 := List.getElem?_eq_none_iff.mp e
        rw [ap.length] at h1
        exact List.getElem?_eq_none h1
      rw [e2]; exact ih
    | some v =>
      obtain ⟨u, e2, r2⟩ := ap.getV e
      rw [e2]
      exact .cons r2 ih
/-- x += e of ints -/
theorem ipd_int {K : PySem.W.Frag} {f : Int → Int → Int} : IpD K (ipI f) (iOp0 fun i j => .int (f i j)) := fun w S x y u v Φ Q g r1 r2 h q => by
  cases u with
  | int i =>
    cases v with
    | int j => exact ⟨i, j, rv_int r1, rv_int r2, q _ _ w S (Ext.refl w) g (.int _) h⟩
    | _ => exact h.elim
  | _ => cases v <;> exact h.elim
/-- an item by an open place: all items will do -/
theorem ix_all {α : Type} {xs : List α} {i : Int} (h0 : 0 ≤ i) (h1 : i < xs.length) : ∃ x, atI xs i = some x ∧ x ∈ xs := by
  refine ⟨xs[i.toNat]'(by omega), ?_, List.getElem_mem _⟩
  have e : ixN xs.length i = some i.toNat := by
    unfold ixN
    rw [if_pos h0, if_pos h1]
  unfold atI
  rw [e]
  exact List.getElem?_eq_getElem (by omega)
theorem lowA_ints (n : Nat) : ∀ xs : List Int, lowA n (xs.map D.int) = true
  | [] => by simp [lowA]
  | x :: xs => by rw [List.map_cons, lowA, lowA_ints n xs, D.low] <;> rfl
theorem lowA_map {α : Type} (n : Nat) (f : α → D) (h : ∀ x, (f x).low n = true) : ∀ xs : List α, lowA n (xs.map f) = true
  | [] => by simp [lowA]
  | x :: xs => by rw [List.map_cons, lowA, lowA_map n f h xs, h] <;> rfl
theorem get_app {S T : Sto} {h : Nat} {c : Cell} (e : S[h]? = some c) : (S ++ T)[h]? = some c := by
  rw [List.getElem?_append_left (List.getElem?_eq_some_iff.mp e).1]
  exact e
theorem get_at {S T : Sto} {c : Cell} : (S ++ c :: T)[S.length]? = some c := by
  rw [List.getElem?_append_right (Nat.le_refl _), Nat.sub_self] <;> rfl
theorem set_app {S T : Sto} {h : Nat} {c : Cell} (e : h < S.length) : (S ++ T).set h c = S.set h c ++ T := List.set_append_left h c e
theorem set_at {S T : Sto} {b c : Cell} : (S ++ b :: T).set S.length c = S ++ c :: T := by
  rw [List.set_append_right _ _ (Nat.le_refl _), Nat.sub_self] <;> rfl
def FdC (n : Nat) (c : Cell) : Prop := ∃ a b k : Int, c = .lst [.int a, .int b, .int k] ∧ 0 ≤ a ∧ 0 ≤ b ∧ b < 2 ^ 200 ∧ 0 ≤ k ∧ k ≤ n
def FdAt (S : Sto) (h : Nat) (n : Nat) : Prop := ∃ c, S[h]? = some c ∧ FdC n c
/-- S' is S but for the feed at h -/
def Fs (h n : Nat) (S S' : Sto) : Prop := ∃ c, FdC n c ∧ S' = S.set h c
theorem FdC.mono {n m : Nat} {c : Cell} (h : FdC n c) (l : n ≤ m) : FdC m c := by
  obtain ⟨a, b, k, e, h1, h2, h3, h4, h5⟩ := h
  exact ⟨a, b, k, e, h1, h2, h3, h4, by omega⟩
theorem FdAt.mono {S : Sto} {h n m : Nat} (f : FdAt S h n) (l : n ≤ m) : FdAt S h m := let ⟨c, e, q⟩ := f; ⟨c, e, q.mono l⟩
theorem FdAt.lt {S : Sto} {h n : Nat} (f : FdAt S h n) : h < S.length := let ⟨_, e, _⟩ := f; (List.getElem?_eq_some_iff.mp e).1
theorem Fs.mono {h n m : Nat} {S S' : Sto} (f : Fs h n S S') (l : n ≤ m) : Fs h m S S' := let ⟨c, q, e⟩ := f; ⟨c, q.mono l, e⟩
theorem Fs.at {h n : Nat} {S S' : Sto} (f : Fs h n S S') (hl : h < S.length) : FdAt S' h n := by
  obtain ⟨c, q, rfl⟩ := f
  exact ⟨c, by rw [List.getElem?_set_self hl], q⟩
theorem Fs.refl {h n : Nat} {S : Sto} (f : FdAt S h n) : Fs h n S S := by
  obtain ⟨c, e, q⟩ := f
  refine ⟨c, q, ?_⟩
  obtain ⟨hl, e2⟩ := List.getElem?_eq_some_iff.mp e
  rw [← e2, List.set_getElem_self]
theorem Fs.trans {h n m : Nat} {S S1 S2 : Sto} (a : Fs h n S S1) (b : Fs h m S1 S2) : Fs h m S S2 := by
  obtain ⟨c, _, rfl⟩ := a
  obtain ⟨c2, q, rfl⟩ := b
  exact ⟨c2, q, by rw [List.set_set]⟩
theorem Fs.len {h n : Nat} {S S' : Sto} (f : Fs h n S S') : S'.length = S.length := by
  obtain ⟨c, _, rfl⟩ := f
  rw [List.length_set]
/-- cells behind it stay -/
theorem Fs.app {h n : Nat} {S T S' : Sto} (f : Fs h n (S ++ T) S') (hl : h < S.length) : ∃ S1, Fs h n S S1 ∧ S' = S1 ++ T := by
  obtain ⟨c, q, rfl⟩ := f
  exact ⟨S.set h c, ⟨c, q, rfl⟩, set_app hl⟩
theorem FdAt.app {S T : Sto} {h n : Nat} (f : FdAt S h n) : FdAt (S ++ T) h n := let ⟨c, e, q⟩ := f; ⟨c, get_app e, q⟩
theorem Fs.get {h n i : Nat} {S S' : Sto} {c : Cell} (f : Fs h n S S') (e : S[i]? = some c) (hi : h ≠ i) : S'[i]? = some c := by
  obtain ⟨c2, _, rfl⟩ := f
  rw [List.getElem?_set_ne hi]
  exact e
/-- a def that draws: behind it the feed is a feed, by at most n draws more -/
theorem cut_feed {h n : Nat} {S S1 cs : Sto} (f : Fs h n S S1) : Cut S S1 (S1 ++ cs) := by
  refine ⟨by rw [f.len]; exact Nat.le_refl _, List.prefix_append _ _, fun i c e => ?_⟩
  obtain ⟨c2, ⟨a, b, k, ec, _⟩, rfl⟩ := f
  by_cases hi : h = i
  · subst hi
    by_cases hl : h < S.length
    · rw [List.getElem?_set_self hl] at e
      cases e
      subst ec
      exact .inr (by simp [Cell.low, lowA, D.low])
    · rw [List.getElem?_eq_none (by rw [List.length_set]; omega)] at e
      cases e
  · rw [List.getElem?_set_ne hi] at e
    exact .inl e
theorem ret_feed {h n : Nat} {S S1 cs : Sto} {Φ : KD} {d : D} (f : Fs h n S S1) (hl : d.low S1.length = true) (q : Φ S1 d) : RetOk S Φ (S1 ++ cs) d := .inr ⟨S1, cut_feed f, hl, q⟩
end DL
namespace DL
open PySem PySem.Spec PyProof.Rows L2
def fzLD : List D → Sto → (Sto → List D → Prop) → Prop
  | [], S, Φ => Φ S []
  | d :: ds, S, Φ => fzD d S fun S1 d' => fzLD ds S1 fun S2 ds' => Φ S2 (d' :: ds')
def fzD2 (d : D) (S : Sto) (Φ : KD) : Prop := match d with
  | .own h => ∃ ds, S[h]? = some (.lst ds) ∧ fzLD ds (S.set h .gone) fun S' ds' => Φ S' (.lst ds')
  | d => Φ S d
def dFz2 (T : TD) : TD := fun Γ S Φ Ψ => T Γ S (fun S1 d => fzD2 d S1 Φ) Ψ
section
variable {S : Sto} {Φ : KD} {i j : Int} {ds es : List D} {k : Bool}
theorem ex1 {α : Type} {a : α} {P : α → Prop} : (∃ x, [a] = [x] ∧ P x) ↔ P a := ⟨fun ⟨x, e, h⟩ => by cases e; exact h, fun h => ⟨a, rfl, h⟩⟩
theorem ex2 {α : Type} {a b : α} {P : α → α → Prop} : (∃ x y, [a, b] = [x, y] ∧ P x y) ↔ P a b := ⟨fun ⟨x, y, e, h⟩ => by cases e; exact h, fun h => ⟨a, b, rfl, h⟩⟩
theorem ex3 {α : Type} {a b c : α} {P : α → α → α → Prop} : (∃ x y z, [a, b, c] = [x, y, z] ∧ P x y z) ↔ P a b c := ⟨fun ⟨x, y, z, e, h⟩ => by cases e; exact h, fun h => ⟨a, b, c, rfl, h⟩⟩
theorem exB {b : Bool} {P : Bool → Prop} : (∃ k, D.bl b = .bl k ∧ P k) ↔ P b := ⟨fun ⟨x, e, h⟩ => by cases e; exact h, fun h => ⟨b, rfl, h⟩⟩
theorem exI {b : Int} {P : Int → Prop} : (∃ k, D.int b = .int k ∧ P k) ↔ P b := ⟨fun ⟨x, e, h⟩ => by cases e; exact h, fun h => ⟨b, rfl, h⟩⟩
theorem exI1 {b : Int} {P : Int → Prop} : (∃ k, [D.int b] = [.int k] ∧ P k) ↔ P b := ⟨fun ⟨x, e, h⟩ => by cases e; exact h, fun h => ⟨b, rfl, h⟩⟩
theorem exI2 {a b : Int} {P : Int → Int → Prop} : (∃ i j, [D.int a, D.int b] = [.int i, .int j] ∧ P i j) ↔ P a b := ⟨fun ⟨x, y, e, h⟩ => by cases e; exact h, fun h => ⟨a, b, rfl, h⟩⟩
theorem exS {α : Type} {a : α} {P : α → Prop} : (∃ d, some a = some d ∧ P d) ↔ P a := ⟨fun ⟨x, e, h⟩ => by cases e; exact h, fun h => ⟨a, rfl, h⟩⟩
theorem exSS {α : Type} {a : α} {P : α → Prop} : (∃ d, some (some a) = some (some d) ∧ P d) ↔ P a := ⟨fun ⟨x, e, h⟩ => by cases e; exact h, fun h => ⟨a, rfl, h⟩⟩
theorem exT {ts : List D} {P : List D → Prop} : (∃ ds, D.tup ts = .tup ds ∧ P ds) ↔ P ts := ⟨fun ⟨x, e, h⟩ => by cases e; exact h, fun h => ⟨ts, rfl, h⟩⟩
theorem exC {α : Type} {a : α} {l : List α} {P : α → List α → Prop} : (∃ d r, a :: l = d :: r ∧ P d r) ↔ P a l := ⟨fun ⟨x, y, e, h⟩ => by cases e; exact h, fun h => ⟨a, l, rfl, h⟩⟩
theorem exL {a : List D} {P : List D → Prop} : (∃ d, some (Cell.lst a) = some (.lst d) ∧ P d) ↔ P a := ⟨fun ⟨x, e, h⟩ => by cases e; exact h, fun h => ⟨a, rfl, h⟩⟩
theorem exAs {a : List D} {P : List D → Prop} : (∃ xs, some a = some xs ∧ P xs) ↔ P a := ⟨fun ⟨x, e, h⟩ => by cases e; exact h, fun h => ⟨a, rfl, h⟩⟩
theorem dAdd_i : dAdd (.int i) (.int j) S Φ = Φ S (.int (i + j)) := rfl
theorem dAdd_l : dAdd (.lst ds) (.lst es) S Φ = (ds.length + es.length ≤ sizeLine ∧ Φ S (.lst (ds ++ es))) := by
  show (∃ xs ys, some ds = some xs ∧ some es = some ys ∧ xs.length + ys.length ≤ sizeLine ∧ Φ S (.lst (xs ++ ys))) = _
  exact propext ⟨fun ⟨_, _, e1, e2, h⟩ => by cases e1; cases e2; exact h, fun h => ⟨_, _, rfl, rfl, h⟩⟩
theorem dSub_i : dSub (.int i) (.int j) S Φ = Φ S (.int (i - j)) := rfl
theorem dMul_i : dMul (.int i) (.int j) S Φ = (CMulA i j ∧ Φ S (.int (i * j))) := rfl
theorem dMul_l : dMul (.lst ds) (.int j) S Φ = (-(2 ^ 63) ≤ j ∧ j < 2 ^ 63 ∧ ds.length * j.toNat ≤ sizeLine ∧ Φ S (.lst ((List.replicate j.toNat ds).flatten))) := by
  show (∃ xs, some ds = some xs ∧ _) = _
  exact propext exAs
theorem dMod_i : dMod (.int i) (.int j) S Φ = (0 < j ∧ Φ S (.int (i % j))) := rfl
theorem dDiv_i : dDiv (.int i) (.int j) S Φ = (CDivW i j ∧ Φ S (.int (i / j))) := rfl
theorem dPow_i : dPow (.int i) (.int j) S Φ = (CPowW i j ∧ Φ S (.int (i ^ j.toNat))) := rfl
theorem dLt_i : dLt (.int i) (.int j) S Φ = Φ S (.bl (decide (i < j))) := rfl
theorem dLe_i : dLe (.int i) (.int j) S Φ = Φ S (.bl (decide (i ≤ j))) := rfl
theorem dGt_i : dGt (.int i) (.int j) S Φ = Φ S (.bl (decide (j < i))) := rfl
theorem dGe_i : dGe (.int i) (.int j) S Φ = Φ S (.bl (decide (j ≤ i))) := rfl
theorem uNeg_i : uNeg (.int i) S Φ = Φ S (.int (-i)) := rfl
theorem cMax2_i : cMax2 [.int i, .int j] S Φ = Φ S (.int (if j > i then j else i)) := rfl
theorem cMin2_i : cMin2 [.int i, .int j] S Φ = Φ S (.int (if j < i then j else i)) := rfl
theorem cAbs_i : cAbs [.int i] S Φ = Φ S (.int (if i < 0 then -i else i)) := rfl
theorem cInt_i : cInt [.int i] S Φ = Φ S (.int i) := rfl
theorem cInt_b : cInt [.bl k] S Φ = Φ S (.int (if k then 1 else 0)) := rfl
theorem cLen_l : cLen [.lst ds] S Φ = Φ S (.int ds.length) := by
  show (∃ xs, some ds = some xs ∧ Φ S (.int xs.length)) = _
  exact propext exAs
theorem cLen_q : cLen [.sq ds] S Φ = Φ S (.int ds.length) := by
  show (∃ xs, some ds = some xs ∧ Φ S (.int xs.length)) = _
  exact propext exAs
theorem cLen_t : cLen [.tup ds] S Φ = Φ S (.int ds.length) := by
  show (∃ xs, some ds = some xs ∧ Φ S (.int xs.length)) = _
  exact propext exAs
theorem cList_l : cList [.lst ds] S Φ = Φ S (.lst ds) := propext exAs
theorem cList_q : cList [.sq ds] S Φ = Φ S (.lst ds) := propext exAs
theorem cList_t : cList [.tup ds] S Φ = Φ S (.lst ds) := propext exAs
theorem cListO_l : cListO [.lst ds] S Φ = Φ (S ++ [.lst ds]) (.own S.length) := propext exAs
theorem cListO_t : cListO [.tup ds] S Φ = Φ (S ++ [.lst ds]) (.own S.length) := propext exAs
theorem dIx_l : dIx (.lst ds) (.int i) S Φ = ∃ d, atI ds i = some d ∧ Φ S d := by
  show (∃ es d, some ds = some es ∧ atI es i = some d ∧ Φ S d) = _
  exact propext ⟨fun ⟨_, d, e, h⟩ => by cases e; exact ⟨d, h⟩, fun ⟨d, h⟩ => ⟨_, d, rfl, h⟩⟩
theorem dIx_q : dIx (.sq ds) (.int i) S Φ = ∃ d, atI ds i = some d ∧ Φ S d := by
  show (∃ es d, some ds = some es ∧ atI es i = some d ∧ Φ S d) = _
  exact propext ⟨fun ⟨_, d, e, h⟩ => by cases e; exact ⟨d, h⟩, fun ⟨d, h⟩ => ⟨_, d, rfl, h⟩⟩
theorem dIx_t : dIx (.tup ds) (.int i) S Φ = ∃ d, atI ds i = some d ∧ Φ S d := by
  show (∃ es d, some ds = some es ∧ atI es i = some d ∧ Φ S d) = _
  exact propext ⟨fun ⟨_, d, e, h⟩ => by cases e; exact ⟨d, h⟩, fun ⟨d, h⟩ => ⟨_, d, rfl, h⟩⟩
theorem dIx_o {h : Nat} : dIx (.own h) (.int i) S Φ = ∃ ds d, S[h]? = some (.lst ds) ∧ atI ds i = some d ∧ Φ S d := by
  show (∃ es d, asS S (.own h) = some es ∧ atI es i = some d ∧ Φ S d) = _
  refine propext ⟨fun ⟨es, d, e, q⟩ => ?_, fun ⟨es, d, e, q⟩ => ⟨es, d, ?_, q⟩⟩
  · have e : (match S[h]? with | some (.lst ds) => some ds | _ => none) = some es := e
    split at e
    · cases e; exact ⟨es, d, by assumption, q⟩
    · cases e
  · show (match S[h]? with | some (.lst ds) => some ds | _ => none) = some es
    rw [e]
theorem dSlL_l {lo hi : Option Int} : dSlL (.lst ds) lo hi S Φ = Φ S (.lst (cutD ds lo hi)) := propext exAs
theorem dSlL_q {lo hi : Option Int} : dSlL (.sq ds) lo hi S Φ = Φ S (.lst (cutD ds lo hi)) := propext exAs
theorem asQ_l : asQ S (.lst ds) = some ds := rfl
theorem asL_l : asL S (.lst ds) = some ds := rfl
theorem asL_at' {h : Nat} (e : S[h]? = some (.lst ds)) : asL S (.own h) = some ds := by
  show (match S[h]? with | some (.lst ds) => some ds | _ => none) = some ds
  rw [e]
theorem asQ_at' {h : Nat} (e : S[h]? = some (.lst ds)) : asQ S (.own h) = some ds := by
  show (match S[h]? with | some (.lst ds) => some ds | _ => none) = some ds
  rw [e]
theorem cIsi_of {d : D} {a n : String} (e : tyOf S d = some a) (h : n ∈ tyN := by decide) : cIsi [d, .ty n] S Φ = Φ S (.bl (isTyB a n)) := by
  show (∃ a, tyOf S d = some a ∧ n ∈ tyN ∧ Φ S (.bl (isTyB a n))) = _
  rw [e]
  exact propext ⟨fun ⟨_, e, _, z⟩ => by cases e; exact z, fun z => ⟨_, rfl, h, z⟩⟩
theorem isi_non_int  : cIsi [.non, .ty "int"] S Φ = Φ S (.bl false) := cIsi_of (a := "NoneType") rfl
theorem isi_non_bool  : cIsi [.non, .ty "bool"] S Φ = Φ S (.bl false) := cIsi_of (a := "NoneType") rfl
theorem isi_non_str  : cIsi [.non, .ty "str"] S Φ = Φ S (.bl false) := cIsi_of (a := "NoneType") rfl
theorem isi_non_list  : cIsi [.non, .ty "list"] S Φ = Φ S (.bl false) := cIsi_of (a := "NoneType") rfl
theorem isi_non_tuple  : cIsi [.non, .ty "tuple"] S Φ = Φ S (.bl false) := cIsi_of (a := "NoneType") rfl
theorem isi_non_dict  : cIsi [.non, .ty "dict"] S Φ = Φ S (.bl false) := cIsi_of (a := "NoneType") rfl
theorem isi_bl_int {b : Bool} : cIsi [.bl b, .ty "int"] S Φ = Φ S (.bl true) := cIsi_of (a := "bool") rfl
theorem isi_bl_bool {b : Bool} : cIsi [.bl b, .ty "bool"] S Φ = Φ S (.bl true) := cIsi_of (a := "bool") rfl
theorem isi_bl_str {b : Bool} : cIsi [.bl b, .ty "str"] S Φ = Φ S (.bl false) := cIsi_of (a := "bool") rfl
theorem isi_bl_list {b : Bool} : cIsi [.bl b, .ty "list"] S Φ = Φ S (.bl false) := cIsi_of (a := "bool") rfl
theorem isi_bl_tuple {b : Bool} : cIsi [.bl b, .ty "tuple"] S Φ = Φ S (.bl false) := cIsi_of (a := "bool") rfl
theorem isi_bl_dict {b : Bool} : cIsi [.bl b, .ty "dict"] S Φ = Φ S (.bl false) := cIsi_of (a := "bool") rfl
theorem isi_int_int  : cIsi [.int i, .ty "int"] S Φ = Φ S (.bl true) := cIsi_of (a := "int") rfl
theorem isi_int_bool  : cIsi [.int i, .ty "bool"] S Φ = Φ S (.bl false) := cIsi_of (a := "int") rfl
theorem isi_int_str  : cIsi [.int i, .ty "str"] S Φ = Φ S (.bl false) := cIsi_of (a := "int") rfl
theorem isi_int_list  : cIsi [.int i, .ty "list"] S Φ = Φ S (.bl false) := cIsi_of (a := "int") rfl
theorem isi_int_tuple  : cIsi [.int i, .ty "tuple"] S Φ = Φ S (.bl false) := cIsi_of (a := "int") rfl
theorem isi_int_dict  : cIsi [.int i, .ty "dict"] S Φ = Φ S (.bl false) := cIsi_of (a := "int") rfl
theorem isi_str_int {z : Str} : cIsi [.str z, .ty "int"] S Φ = Φ S (.bl false) := cIsi_of (a := "str") rfl
theorem isi_str_bool {z : Str} : cIsi [.str z, .ty "bool"] S Φ = Φ S (.bl false) := cIsi_of (a := "str") rfl
theorem isi_str_str {z : Str} : cIsi [.str z, .ty "str"] S Φ = Φ S (.bl true) := cIsi_of (a := "str") rfl
theorem isi_str_list {z : Str} : cIsi [.str z, .ty "list"] S Φ = Φ S (.bl false) := cIsi_of (a := "str") rfl
theorem isi_str_tuple {z : Str} : cIsi [.str z, .ty "tuple"] S Φ = Φ S (.bl false) := cIsi_of (a := "str") rfl
theorem isi_str_dict {z : Str} : cIsi [.str z, .ty "dict"] S Φ = Φ S (.bl false) := cIsi_of (a := "str") rfl
theorem isi_lst_int  : cIsi [.lst ds, .ty "int"] S Φ = Φ S (.bl false) := cIsi_of (a := "list") rfl
theorem isi_lst_bool  : cIsi [.lst ds, .ty "bool"] S Φ = Φ S (.bl false) := cIsi_of (a := "list") rfl
theorem isi_lst_str  : cIsi [.lst ds, .ty "str"] S Φ = Φ S (.bl false) := cIsi_of (a := "list") rfl
theorem isi_lst_list  : cIsi [.lst ds, .ty "list"] S Φ = Φ S (.bl true) := cIsi_of (a := "list") rfl
theorem isi_lst_tuple  : cIsi [.lst ds, .ty "tuple"] S Φ = Φ S (.bl false) := cIsi_of (a := "list") rfl
theorem isi_lst_dict  : cIsi [.lst ds, .ty "dict"] S Φ = Φ S (.bl false) := cIsi_of (a := "list") rfl
theorem isi_sq_int  : cIsi [.sq ds, .ty "int"] S Φ = Φ S (.bl false) := cIsi_of (a := "list") rfl
theorem isi_sq_bool  : cIsi [.sq ds, .ty "bool"] S Φ = Φ S (.bl false) := cIsi_of (a := "list") rfl
theorem isi_sq_str  : cIsi [.sq ds, .ty "str"] S Φ = Φ S (.bl false) := cIsi_of (a := "list") rfl
theorem isi_sq_list  : cIsi [.sq ds, .ty "list"] S Φ = Φ S (.bl true) := cIsi_of (a := "list") rfl
theorem isi_sq_tuple  : cIsi [.sq ds, .ty "tuple"] S Φ = Φ S (.bl false) := cIsi_of (a := "list") rfl
theorem isi_sq_dict  : cIsi [.sq ds, .ty "dict"] S Φ = Φ S (.bl false) := cIsi_of (a := "list") rfl
theorem isi_tup_int  : cIsi [.tup ds, .ty "int"] S Φ = Φ S (.bl false) := cIsi_of (a := "tuple") rfl
theorem isi_tup_bool  : cIsi [.tup ds, .ty "bool"] S Φ = Φ S (.bl false) := cIsi_of (a := "tuple") rfl
theorem isi_tup_str  : cIsi [.tup ds, .ty "str"] S Φ = Φ S (.bl false) := cIsi_of (a := "tuple") rfl
theorem isi_tup_list  : cIsi [.tup ds, .ty "list"] S Φ = Φ S (.bl false) := cIsi_of (a := "tuple") rfl
theorem isi_tup_tuple  : cIsi [.tup ds, .ty "tuple"] S Φ = Φ S (.bl true) := cIsi_of (a := "tuple") rfl
theorem isi_tup_dict  : cIsi [.tup ds, .ty "dict"] S Φ = Φ S (.bl false) := cIsi_of (a := "tuple") rfl
theorem isi_dic_int {kv : List (Key × D)} : cIsi [.dic kv, .ty "int"] S Φ = Φ S (.bl false) := cIsi_of (a := "dict") rfl
theorem isi_dic_bool {kv : List (Key × D)} : cIsi [.dic kv, .ty "bool"] S Φ = Φ S (.bl false) := cIsi_of (a := "dict") rfl
theorem isi_dic_str {kv : List (Key × D)} : cIsi [.dic kv, .ty "str"] S Φ = Φ S (.bl false) := cIsi_of (a := "dict") rfl
theorem isi_dic_list {kv : List (Key × D)} : cIsi [.dic kv, .ty "list"] S Φ = Φ S (.bl false) := cIsi_of (a := "dict") rfl
theorem isi_dic_tuple {kv : List (Key × D)} : cIsi [.dic kv, .ty "tuple"] S Φ = Φ S (.bl false) := cIsi_of (a := "dict") rfl
theorem isi_dic_dict {kv : List (Key × D)} : cIsi [.dic kv, .ty "dict"] S Φ = Φ S (.bl true) := cIsi_of (a := "dict") rfl
theorem at_0 {α : Type} {a : α} {l : List α} : atI (a :: l) 0 = some a := by
  unfold atI ixN
  rw [if_pos (by decide), if_pos (by rw [List.length_cons]; omega)]
  rfl
theorem at_nat {α : Type} {l : List α} {n : Nat} : atI l (n : Int) = l[n]? := by
  unfold atI ixN
  rw [if_pos (by omega)]
  by_cases h : n < l.length
  · rw [if_pos (by omega)]; rfl
  · rw [if_neg (by omega), List.getElem?_eq_none (by omega)] <;> rfl
theorem dIx_p {p : D → Prop} (h0 : 0 ≤ i) (h1 : i < ds.length) (hp : ∀ d ∈ ds, p d) (k : ∀ d, p d → Φ S d) : dIx (.lst ds) (.int i) S Φ := by
  rw [dIx_l]
  obtain ⟨x, e, m⟩ := ix_all h0 h1
  exact ⟨x, e, k x (hp x m)⟩
end
theorem strOk_lit {s : String} : PyData.strOk (Str.ofString s) = true := by
  unfold PyData.strOk
  rw [Str.ofString_eq_toList, List.all_toArray, List.all_eq_true]
  intro x hx
  obtain ⟨c, _, rfl⟩ := List.mem_map.mp hx
  have h : UInt32.isValidChar c.val := c.valid
  simp only [UInt32.isValidChar, Nat.isValidChar] at h
  rw [decide_eq_true_eq]
  show c.val.toNat < _
  omega
theorem strOk_app {a b : Str} (h : PyData.strOk a = true) (h2 : PyData.strOk b = true) : PyData.strOk (a ++ b) = true := by
  unfold PyData.strOk at h h2 ⊢
  show (a.cps ++ b.cps).all _ = true
  rw [Array.all_append, h, h2]
  rfl
theorem strOk_from : ∀ {ts : List Str} {k : Nat} {acc : Str}, PyData.strOk acc = true → (∀ t ∈ ts, PyData.strOk t = true) → PyData.strOk (textFrom k acc ts) = true
  | [], _, _, h, _ => h
  | t :: ts, k, acc, h, h2 => strOk_from (ts := ts) (k := k + 1) (acc := acc ++ (if k > 0 then ", " else "" : String) ++ t) (strOk_app (strOk_app h strOk_lit) (h2 t List.mem_cons_self)) fun u hu => h2 u (List.mem_cons_of_mem _ hu)
theorem strOk_listText {ts : List Str} (h : ∀ t ∈ ts, PyData.strOk t = true) : PyData.strOk (listText ts) = true := strOk_app (strOk_from strOk_lit h) strOk_lit
theorem len_app (a b : Str) : (a ++ b).length = a.length + b.length := strLen_append a b
theorem from_le {m : Nat} : ∀ {ts : List Str} {k : Nat} {acc : Str}, (∀ t ∈ ts, t.length ≤ m) → (textFrom k acc ts).length ≤ acc.length + ts.length * (m + 2)
  | [], _, acc, _ => by show acc.length ≤ _; omega
  | t :: ts, k, acc, h => by
    have ih := from_le (m := m) (ts := ts) (k := k + 1) (acc := acc ++ (if k > 0 then ", " else "" : String) ++ t) fun u hu => h u (List.mem_cons_of_mem _ hu)
    have h1 := h t List.mem_cons_self
    have e : (Str.ofString (if k > 0 then ", " else "")).length ≤ 2 := by
      split
      · rw [PySem.ofString_length]; decide
      · rw [PySem.ofString_length]; decide
    rw [len_app, len_app] at ih
    show (textFrom (k + 1) _ ts).length ≤ _
    rw [List.length_cons, Nat.succ_mul]
    omega
theorem listText_le {m : Nat} {ts : List Str} (h : ∀ t ∈ ts, t.length ≤ m) : (listText ts).length ≤ 2 + ts.length * (m + 2) := by
  unfold listText
  rw [len_app]
  have h1 := from_le (m := m) (k := 0) (acc := "[") h
  have e1 : (Str.ofString "[").length = 1 := by rw [PySem.ofString_length] <;> rfl
  have e2 : (Str.ofString "]").length = 1 := by rw [PySem.ofString_length] <;> rfl
  omega
/-- data of a depth and of a text within bounds -/
structure Fit (n m : Nat) (p : PyData) : Prop where
  can : p.canLay0 = true
  show_ : p.showable = true
  plain : p.hasDict = false
  deep : p.depth ≤ n
  text : PyData.strOk p.shown = true
  len : p.shown.length ≤ m
theorem Fit.mono {n m n' m' : Nat} {p : PyData} (h : Fit n m p) (a : n ≤ n') (b : m ≤ m') : Fit n' m' p := ⟨h.can, h.show_, h.plain, Nat.le_trans h.deep a, h.text, Nat.le_trans h.len b⟩
theorem shownAll_mem {t : Str} : ∀ {ps : List PyData}, t ∈ PyData.shownAll ps → ∃ p ∈ ps, p.shown = t
  | [], h => by rw [PyData.shownAll] at h; cases h
  | p :: ps, h => by
    rw [PyData.shownAll] at h
    rcases List.mem_cons.mp h with e | h
    · exact ⟨p, List.mem_cons_self, e.symm⟩
    · obtain ⟨q, hq, e⟩ := shownAll_mem h
      exact ⟨q, List.mem_cons_of_mem _ hq, e⟩
theorem shownAll_len : ∀ ps : List PyData, (PyData.shownAll ps).length = ps.length
  | [] => by rw [PyData.shownAll] <;> rfl
  | p :: ps => by rw [PyData.shownAll, List.length_cons, List.length_cons, shownAll_len ps]
theorem fits_all {n m : Nat} : ∀ {ps : List PyData}, (∀ p ∈ ps, Fit n m p) → PyData.canLayAll0 ps = true ∧ PyData.showableAll ps = true ∧ PyData.hasDictAll ps = false ∧ PyData.depthAll ps ≤ n
  | [], _ => by simp [PyData.canLayAll0, PyData.showableAll, PyData.hasDictAll, PyData.depthAll]
  | p :: ps, h => by
    obtain ⟨a, b, c, d⟩ := fits_all (n := n) (m := m) (ps := ps) fun q hq => h q (List.mem_cons_of_mem _ hq)
    have f := h p List.mem_cons_self
    rw [PyData.canLayAll0, PyData.showableAll, PyData.hasDictAll, PyData.depthAll, f.can, f.show_, f.plain, a, b, c]
    exact ⟨rfl, rfl, rfl, Nat.max_le.mpr ⟨f.deep, d⟩⟩
theorem fit_list {n m l : Nat} {ps : List PyData} (h : ∀ p ∈ ps, Fit n m p) (hl : ps.length ≤ l) : Fit (n + 1) (2 + l * (m + 2)) (.list ps) := by
  obtain ⟨a, b, c, d⟩ := fits_all h
  refine ⟨by rw [PyData.canLay0]; exact a, by rw [PyData.showable]; exact b, by rw [PyData.hasDict]; exact c, by rw [PyData.depth]; omega, ?_, ?_⟩
  · rw [PyData.shown]
    exact strOk_listText fun t ht => by
      obtain ⟨p, hp, rfl⟩ := shownAll_mem ht
      exact (h p hp).text
  · rw [PyData.shown]
    have := listText_le (m := m) (ts := PyData.shownAll ps) fun t ht => by
      obtain ⟨p, hp, rfl⟩ := shownAll_mem ht
      exact (h p hp).len
    rw [shownAll_len] at this
    have h2 : ps.length * (m + 2) ≤ l * (m + 2) := Nat.mul_le_mul_right _ hl
    omega
theorem fit_int {i : Int} {k : Nat} (h : i.natAbs < 10 ^ k) (h0 : 0 < k := by decide) (hk : k ≤ 500 := by decide) : Fit 0 (k + 1) (.int i) := by
  have h1 : i.natAbs.log2 < 1920 := by
    refine PySem.Flt.log2_lt_of (by decide : 0 < 1920) (Nat.lt_of_lt_of_le h (Nat.le_trans (Nat.pow_le_pow_right (by decide) hk) (by decide +kernel)))
  refine ⟨by rw [PyData.canLay0], by rw [PyData.showable, decide_eq_true h1], by rw [PyData.hasDict], by rw [PyData.depth] <;> omega, by rw [PyData.shown]; exact strOk_lit, ?_⟩
  rw [PyData.shown, PySem.ofString_length]
  exact int_text_length_le10 h0 h
theorem Fit.shw {n m : Nat} {p : PyData} (h : Fit n m p) (hn : n ≤ 60 := by decide) (hm : m ≤ sizeLine := by decide) : Shw p := ⟨h.show_, h.plain, Nat.le_trans h.deep hn, Nat.le_trans h.len hm⟩
theorem Fit.shaped {n m : Nat} {p : PyData} (h : Fit n m p) (hn : n ≤ 64 := by decide) : SeqAt.shaped p = true := by
  unfold SeqAt.shaped
  rw [h.can, Bool.true_and, decide_eq_true_eq]
  exact Nat.le_trans h.deep hn
theorem eq_same {S : Sto} {Φ : KD} {d e : D} {n m : Nat} {p : PyData} (r : PyR S d p) (r2 : PyR S e p) (f : Fit n m p) (h : Φ S (.bl true)) (hn : n ≤ 64 := by decide) : dEq d e S Φ := ⟨p, p, r, r2, f.shaped hn, f.shaped hn, by rw [SeqAt.eqv_refl p f.can]; exact h⟩
abbrev rowD (r : List Int) : D := .lst (r.map D.int)
abbrev rowP (r : List Int) : PyData := .list (r.map PyData.int)
abbrev tabD (t : List (List Int)) : D := .lst (t.map rowD)
theorem pyra_map {α : Type} {S : Sto} {f : α → D} {g : α → PyData} (h : ∀ x, PyR S (f x) (g x)) : ∀ xs : List α, PyRA S (xs.map f) (xs.map g)
  | [] => .nil
  | x :: xs => .cons (h x) (pyra_map h xs)
theorem pyr_row {S : Sto} (r : List Int) : PyR S (rowD r) (rowP r) := .lst (pyra_map PyR.int r)
theorem fit_row {r : List Int} {k l : Nat} (h : ∀ i ∈ r, i.natAbs < 10 ^ k) (hl : r.length ≤ l) (h0 : 0 < k := by decide) (hk : k ≤ 500 := by decide) : Fit 1 (2 + l * (k + 3)) (rowP r) := by
  refine fit_list (n := 0) (m := k + 1) (fun p hp => ?_) (by rw [List.length_map]; exact hl)
  obtain ⟨i, hi, rfl⟩ := List.mem_map.mp hp
  exact fit_int (h i hi) h0 hk
end DL
namespace DL
open PySem PySem.Spec PyProof.Rows L2
def forP (src : Src) (G : TGd) (B : TSd) : TSd := fun D Γ S1 => ∃ (P : Nat → Gam → Sto → Prop) (n : Nat), P 0 Γ S1 ∧
  (∀ i Γ' S', i ≤ n → P i Γ' S' → ∃ ds, src S' = some ds ∧ ds.length = n) ∧
  (∀ i Γ' S' ds d, P i Γ' S' → src S' = some ds → ds[i]? = some d → G d Γ' S' fun Γ2 S2 => B { D with nx := P (i + 1), ct := P (i + 1), bk := D.nx } Γ2 S2) ∧
  (∀ Γ' S', P n Γ' S' → D.nx Γ' S')
/-- marks: where ways meet again -/
def dJ (T : TD) : TD := T
def sJ (T : TSd) : TSd := T
theorem joinD {T : TD} {Γ : Gam} {S : Sto} {Φ : KD} {Ψ : KX} (J : KD) (h : ∀ S' d, J S' d → Φ S' d) (k : ∀ Φ' : KD, (∀ S' d, J S' d → Φ' S' d) → T Γ S Φ' Ψ) : dJ T Γ S Φ Ψ := k Φ h
theorem dJ_e {T : TD} {Γ : Gam} {S : Sto} {Φ : KD} {Ψ : KX} : dJ T Γ S Φ Ψ = T Γ S Φ Ψ := rfl
theorem sJ_e {T : TSd} {Γ : Gam} {S : Sto} {E : EdD} : sJ T E Γ S = T E Γ S := rfl
def lcP (src : Src) (G : TGd) (C : TB) (Te : TD) (vs : List Nat) (Fin : List D → Sto → KD → Prop) (Γ : Gam) (S1 : Sto) (Φ : KD) : Prop := ∃ (P : Nat → List D → Sto → Prop) (n : Nat), n ≤ sizeLine ∧ P 0 [] S1 ∧
  (∀ i acc S', i ≤ n → P i acc S' → ∃ ds, src S' = some ds ∧ ds.length = n) ∧
  (∀ i acc S' ds d, P i acc S' → src S' = some ds → ds[i]? = some d → G d (gwipe Γ vs) S' fun Γ2 S2 => C Γ2 S2 (fun S3 k => if k = true then Te Γ2 S3 (fun S4 y => P (i + 1) (acc ++ [y]) S4) (fun _ _ => False) else P (i + 1) acc S3) (fun _ _ => False)) ∧
  (∀ acc S', P n acc S' → Fin acc S' Φ)
section
variable {Γ : Gam} {S : Sto} {Φ : KD} {Ψ : KX}
theorem sNext_e {E : EdD} : sNext E Γ S = (E.nx Γ S) := rfl
theorem sSeq_e {E : EdD} {T U : TSd} : sSeq T U E Γ S = (T { E with nx := U E } Γ S) := rfl
theorem sBrk_e {E : EdD} : sBrk E Γ S = (E.bk Γ S) := rfl
theorem sCnt_e {E : EdD} : sCnt E Γ S = (E.ct Γ S) := rfl
theorem sDrop_e {E : EdD} {T : TD} : sDrop T E Γ S = (T Γ S (fun S1 _ => E.nx Γ S1) E.er) := rfl
theorem sRet_e {E : EdD} {T : TD} : sRet T E Γ S = (T Γ S E.rt E.er) := rfl
theorem sRetN_e {E : EdD} : sRetN E Γ S = (E.rt S .non) := rfl
theorem sIf_e {E : EdD} {C : TB} {T U : TSd} : sIf C T U E Γ S = (C Γ S (fun S1 k => if k = true then T E Γ S1 else U E Γ S1) E.er) := rfl
theorem sAsg_e {E : EdD} {T : TD} {G : TGd} : sAsg T G E Γ S = (T Γ S (fun S1 d => G d Γ S1 E.nx) E.er) := rfl
theorem sPar_e {E : EdD} {i j : Nat} {T : TL} : sPar i j T E Γ S = (T Γ S (fun S1 ds => ∃ x y, ds = [x, y] ∧ E.nx ((Γ.set i (some x)).set j (some y)) S1) E.er) := rfl
theorem sPar3_e {E : EdD} {i j l : Nat} {T : TL} : sPar3 i j l T E Γ S = (T Γ S (fun S1 ds => ∃ x y z, ds = [x, y, z] ∧ E.nx (((Γ.set i (some x)).set j (some y)).set l (some z)) S1) E.er) := rfl
theorem sAug_e {E : EdD} {i : Nat} {T : TD} {f : D → D → Sto → KD → Prop} : sAug i T f E Γ S = (∃ d, Γ[i]? = some (some d) ∧ T Γ S (fun S1 y => f d y S1 fun S2 z => E.nx (Γ.set i (some z)) S2) E.er) := rfl
theorem sRaise_e {E : EdD} {C : Addr} : sRaise C E Γ S = (E.er S ⟨C, []⟩) := rfl
theorem nmG_e {i : Nat} {d : D} {P : Gam → Sto → Prop} : nmG i d Γ S P = (P (Γ.set i (some d)) S) := rfl
theorem tupG_e {n : Nat} {T : TGs'} {d : D} {P : Gam → Sto → Prop} : tupG n T d Γ S P = (∃ ds, d = .tup ds ∧ ds.length = n ∧ T ds Γ S P) := rfl
theorem gsNil_e {ds : List D} {P : Gam → Sto → Prop} : gsNil ds Γ S P = (ds = [] ∧ P Γ S) := rfl
theorem gsCons_e {ds : List D} {T : TGd} {U : TGs'} {P : Gam → Sto → Prop} : gsCons T U ds Γ S P = (∃ d r, ds = d :: r ∧ T d Γ S fun Γ' S' => U r Γ' S' P) := rfl
theorem subG_e {f : D → D → D → Sto → (Sto → Prop) → Prop} {To Ti : TD} {d : D} {P : Gam → Sto → Prop} : subG f To Ti d Γ S P = (To Γ S (fun S1 o => Ti Γ S1 (fun S2 i => f o i d S2 fun S3 => P Γ S3) fun _ _ => False) fun _ _ => False) := rfl
theorem dVar_e {i : Nat} : dVar i Γ S Φ Ψ = (∃ d, Γ[i]? = some (some d) ∧ Φ S d) := rfl
theorem dC_e {d : D} : dC d Γ S Φ Ψ = (Φ S d) := rfl
theorem dOp_e {f : D → D → Sto → KD → Prop} {A B : TD} : dOp f A B Γ S Φ Ψ = (A Γ S (fun S1 x => B Γ S1 (fun S2 y => f x y S2 Φ) Ψ) Ψ) := rfl
theorem dUn_e {f : D → Sto → KD → Prop} {A : TD} : dUn f A Γ S Φ Ψ = (A Γ S (fun S1 d => f d S1 Φ) Ψ) := rfl
theorem dChain_e {f g : D → D → Sto → KD → Prop} {A B C : TD} : dChain f g A B C Γ S Φ Ψ = (A Γ S (fun S1 x => B Γ S1 (fun S2 y => f x y S2 fun S3 z => ∃ k, z = .bl k ∧ (if k = true then C Γ S3 (fun S4 u => g y u S4 Φ) Ψ else Φ S3 (.bl false))) Ψ) Ψ) := rfl
theorem bOf_e {A : TD} {Φ : Sto → Bool → Prop} : bOf A Γ S Φ Ψ = (A Γ S (fun S1 d => ∃ k, d = .bl k ∧ Φ S1 k) Ψ) := rfl
theorem bAnd_e {A B : TB} {Φ : Sto → Bool → Prop} : bAnd A B Γ S Φ Ψ = (A Γ S (fun S1 k => if k = true then B Γ S1 Φ Ψ else Φ S1 false) Ψ) := rfl
theorem bOr_e {A B : TB} {Φ : Sto → Bool → Prop} : bOr A B Γ S Φ Ψ = (A Γ S (fun S1 k => if k = true then Φ S1 true else B Γ S1 Φ Ψ) Ψ) := rfl
theorem bNot_e {A : TB} {Φ : Sto → Bool → Prop} : bNot A Γ S Φ Ψ = (A Γ S (fun S1 k => Φ S1 (!k)) Ψ) := rfl
theorem bYes_e {Φ : Sto → Bool → Prop} : bYes Γ S Φ Ψ = (Φ S true) := rfl
theorem dAnd_e {A B : TD} : dAnd A B Γ S Φ Ψ = (A Γ S (fun S1 x => ∃ k, x = .bl k ∧ if k = true then B Γ S1 Φ Ψ else Φ S1 (.bl false)) Ψ) := rfl
theorem dOr_e {A B : TD} : dOr A B Γ S Φ Ψ = (A Γ S (fun S1 x => ∃ k, x = .bl k ∧ if k = true then Φ S1 (.bl true) else B Γ S1 Φ Ψ) Ψ) := rfl
theorem dNot_e {A : TD} : dNot A Γ S Φ Ψ = (A Γ S (fun S1 x => ∃ k, x = .bl k ∧ Φ S1 (.bl (!k))) Ψ) := rfl
theorem dIf_e {C : TB} {A B : TD} : dIf C A B Γ S Φ Ψ = (C Γ S (fun S1 k => if k = true then A Γ S1 Φ Ψ else B Γ S1 Φ Ψ) Ψ) := rfl
theorem lNil_e {Φ : Sto → List D → Prop} : lNil Γ S Φ Ψ = (Φ S []) := rfl
theorem lCons_e {T : TD} {U : TL} {Φ : Sto → List D → Prop} : lCons T U Γ S Φ Ψ = (T Γ S (fun S1 x => U Γ S1 (fun S2 xs => Φ S2 (x :: xs)) Ψ) Ψ) := rfl
theorem dLst_e {T : TL} : dLst T Γ S Φ Ψ = (T Γ S (fun S1 ds => ds.length ≤ sizeLine ∧ Φ S1 (.lst ds)) Ψ) := rfl
theorem dLstO_e {T : TL} : dLstO T Γ S Φ Ψ = (T Γ S (fun S1 ds => ds.length ≤ sizeLine ∧ Φ (S1 ++ [.lst ds]) (.own S1.length)) Ψ) := rfl
theorem dTup_e {T : TL} : dTup T Γ S Φ Ψ = (T Γ S (fun S1 ds => ds.length ≤ sizeLine ∧ Φ S1 (.tup ds)) Ψ) := rfl
theorem dCB_e {f : List D → Sto → KD → Prop} {T : TL} : dCB f T Γ S Φ Ψ = (T Γ S (fun S1 ds => f ds S1 Φ) Ψ) := rfl
theorem dCall_e {sp : DSpec} {T : TL} : dCall sp T Γ S Φ Ψ = (T Γ S (fun S1 ds => sp ds S1 Φ Ψ) Ψ) := rfl
theorem dCallK_e {n m : Nat} {sp : DSpec} {g : List D → List D → List D} {T U : TL} : dCallK n m sp g T U Γ S Φ Ψ = (T Γ S (fun S1 ds => U Γ S1 (fun S2 es => ds.length = n ∧ es.length = m ∧ sp (g ds es) S2 Φ Ψ) Ψ) Ψ) := rfl
theorem oNone_e {Φ : Sto → Option Int → Prop} : oNone Γ S Φ Ψ = (Φ S none) := rfl
theorem oSome_e {T : TD} {Φ : Sto → Option Int → Prop} : oSome T Γ S Φ Ψ = (T Γ S (fun S1 d => ∃ i, d = .int i ∧ Φ S1 (some i)) Ψ) := rfl
theorem dSl_e {f : D → Option Int → Option Int → Sto → KD → Prop} {T : TD} {A B : TOd} : dSl f T A B Γ S Φ Ψ = (T Γ S (fun S1 d => A Γ S1 (fun S2 lo => B Γ S2 (fun S3 hi => f d lo hi S3 Φ) Ψ) Ψ) Ψ) := rfl
theorem dBM_e {f : D → List D → Sto → KD → Prop} {T : TD} {U : TL} : dBM f T U Γ S Φ Ψ = (T Γ S (fun S1 d => isLst S1 d ∧ U Γ S1 (fun S2 ds => f d ds S2 Φ) Ψ) Ψ) := rfl
theorem dBM0_e {f : D → List D → Sto → KD → Prop} {T : TD} : dBM0 f T Γ S Φ Ψ = (T Γ S (fun S1 d => isLst S1 d ∧ f d [] S1 Φ) Ψ) := rfl
theorem dFz_e {T : TD} : dFz T Γ S Φ Ψ = (T Γ S (fun S1 d => fzD d S1 Φ) Ψ) := rfl
theorem dFz2_e {T : TD} : dFz2 T Γ S Φ Ψ = (T Γ S (fun S1 d => fzD2 d S1 Φ) Ψ) := rfl
theorem iSeq_e {T : TD} {Φ : Sto → Src → Prop} : iSeq T Γ S Φ Ψ = (T Γ S (fun S1 d => (∃ ds, asQ S1 d = some ds) ∧ Φ S1 (fun S' => asQ S' d)) Ψ) := rfl
theorem iTupD_e {T : TD} {Φ : Sto → Src → Prop} : iTupD T Γ S Φ Ψ = (T Γ S (fun S1 d => ∃ ds, d = .tup ds ∧ Φ S1 (fun _ => some ds)) Ψ) := rfl
theorem iRg1_e {T : TL} {Φ : Sto → Src → Prop} : iRg1 T Γ S Φ Ψ = (T Γ S (fun S1 ds => ∃ j, ds = [.int j] ∧ -(2 ^ 62) ≤ j ∧ j < 2 ^ 62 ∧ Φ S1 (fun _ => some (rngD 0 j.toNat))) Ψ) := rfl
theorem iRg2_e {T : TL} {Φ : Sto → Src → Prop} : iRg2 T Γ S Φ Ψ = (T Γ S (fun S1 ds => ∃ i j, ds = [.int i, .int j] ∧ (-(2 ^ 62) ≤ i ∧ i < 2 ^ 62 ∧ -(2 ^ 62) ≤ j ∧ j < 2 ^ 62) ∧ Φ S1 (fun _ => some (rngD i (j - i).toNat))) Ψ) := rfl
theorem iZipD_e {T : TL} {Φ : Sto → Src → Prop} : iZipD T Γ S Φ Ψ = (T Γ S (fun S1 ds => ∃ d e, ds = [d, e] ∧ (∃ xs, asQ S1 d = some xs) ∧ (∃ ys, asQ S1 e = some ys) ∧ Φ S1 (fun S' => (asQ S' d).bind fun xs => (asQ S' e).map fun ys => zipD xs ys)) Ψ) := rfl
theorem iEnumD_e {T : TL} {Φ : Sto → Src → Prop} : iEnumD T Γ S Φ Ψ = (T Γ S (fun S1 ds => ∃ d, ds = [d] ∧ (∃ xs, asQ S1 d = some xs) ∧ Φ S1 (fun S' => (asQ S' d).map enumD)) Ψ) := rfl
theorem sFor_e {E : EdD} {I : TId} {G : TGd} {B : TSd} : sFor I G B E Γ S = (I Γ S (fun S1 src => forP src G B E Γ S1) E.er) := rfl
theorem dLc_e {I : TId} {G : TGd} {C : TB} {T : TD} {vs : List Nat} {Fin : List D → Sto → KD → Prop} : dLc I G C T vs Fin Γ S Φ Ψ = (I Γ S (fun S1 src => lcP src G C T vs Fin Γ S1 Φ) Ψ) := rfl
theorem finF_e {acc : List D} : finF acc S Φ = (Φ S (.lst acc)) := rfl
theorem finO_e {acc : List D} : finO acc S Φ = (Φ (S ++ [.lst acc]) (.own S.length)) := rfl
theorem fzD_l {ds : List D} : fzD (.lst ds) S Φ = (Φ S (.lst ds)) := rfl
theorem fzD_i {i : Int} : fzD (.int i) S Φ = (Φ S (.int i)) := rfl
theorem fzD_o {h : Nat} : fzD (.own h) S Φ = (∃ ds, S[h]? = some (.lst ds) ∧ Φ (S.set h .gone) (.lst ds)) := rfl
theorem fzD2_o {h : Nat} : fzD2 (.own h) S Φ = (∃ ds, S[h]? = some (.lst ds) ∧ fzLD ds (S.set h .gone) fun S' ds' => Φ S' (.lst ds')) := rfl
theorem dSetO_e {h : Nat} {k : Int} {v : D} {P : Sto → Prop} : dSetO (.own h) (.int k) v S P = (∃ ds, S[h]? = some (.lst ds) ∧ ∃ j, ixN ds.length k = some j ∧ P (S.set h (.lst (ds.set j v)))) := propext ⟨fun ⟨a, b, c, d⟩ => ⟨a, c, b, d⟩, fun ⟨a, c, b, d⟩ => ⟨a, b, c, d⟩⟩
theorem mAppend_e {h : Nat} {y : D} : mAppend (.own h) [y] S Φ = (∃ xs, S[h]? = some (.lst xs) ∧ xs.length < sizeLine ∧ Φ (S.set h (.lst (xs ++ [y]))) .non) := rfl
theorem mClear_e {h : Nat} : mClear (.own h) [] S Φ = (∃ xs, S[h]? = some (.lst xs) ∧ Φ (S.set h (.lst [])) .non) := rfl
theorem mReverse_e {h : Nat} : mReverse (.own h) [] S Φ = (∃ xs, S[h]? = some (.lst xs) ∧ Φ (S.set h (.lst xs.reverse)) .non) := rfl
end
section
variable {Γ : Gam} {S : Sto} {Φ : KD} {G : TGd} {B : TSd} {E : EdD} {C : TB} {Te : TD} {vs : List Nat} {Fin : List D → Sto → KD → Prop}
theorem for_l {ds : List D} (P : Nat → Gam → Sto → Prop) (h0 : P 0 Γ S) (hs : ∀ i Γ' S' (hi : i < ds.length), P i Γ' S' → G ds[i] Γ' S' fun Γ2 S2 => B { E with nx := P (i + 1), ct := P (i + 1), bk := E.nx } Γ2 S2) (hd : ∀ Γ' S', P ds.length Γ' S' → E.nx Γ' S') : forP (fun _ => some ds) G B E Γ S :=
  ⟨P, ds.length, h0, fun _ _ _ _ _ => ⟨ds, rfl, rfl⟩, fun i Γ' S' es d hp e hd => by
    cases e
    obtain ⟨hi, rfl⟩ := List.getElem?_eq_some_iff.mp hd
    exact hs i Γ' S' hi hp, hd⟩
theorem rng_len (lo : Int) (n : Nat) : (rngD lo n).length = n := by simp [rngD]
theorem rng_get {lo : Int} {n i : Nat} {d : D} (h : (rngD lo n)[i]? = some d) : i < n ∧ d = .int (lo + i) := by
  obtain ⟨hi, e⟩ := List.getElem?_eq_some_iff.mp h
  rw [rng_len] at hi
  refine ⟨hi, ?_⟩
  rw [← e]
  simp [rngD]
theorem for_r {lo : Int} {n : Nat} (P : Nat → Gam → Sto → Prop) (h0 : P 0 Γ S) (hs : ∀ (i : Nat) Γ' S', i < n → P i Γ' S' → G (.int (lo + (i : Int))) Γ' S' fun Γ2 S2 => B { E with nx := P (i + 1), ct := P (i + 1), bk := E.nx } Γ2 S2) (hd : ∀ Γ' S', P n Γ' S' → E.nx Γ' S') : forP (fun _ => some (rngD lo n)) G B E Γ S :=
  ⟨P, n, h0, fun _ _ _ _ _ => ⟨_, rfl, rng_len _ _⟩, fun i Γ' S' es d hp e hd => by
    cases e
    obtain ⟨hi, rfl⟩ := rng_get hd
    exact hs i Γ' S' hi hp, hd⟩
theorem for_r0 {n : Nat} (P : Nat → Gam → Sto → Prop) (h0 : P 0 Γ S) (hs : ∀ (i : Nat) Γ' S', i < n → P i Γ' S' → G (.int (i : Int)) Γ' S' fun Γ2 S2 => B { E with nx := P (i + 1), ct := P (i + 1), bk := E.nx } Γ2 S2) (hd : ∀ Γ' S', P n Γ' S' → E.nx Γ' S') : forP (fun _ => some (rngD 0 n)) G B E Γ S :=
  for_r P h0 (fun i Γ' S' hi hp => by rw [Int.zero_add]; exact hs i Γ' S' hi hp) hd
theorem lc_l {ds : List D} (P : Nat → List D → Sto → Prop) (hl : ds.length ≤ sizeLine) (h0 : P 0 [] S) (hs : ∀ i acc S' (hi : i < ds.length), P i acc S' → G ds[i] (gwipe Γ vs) S' fun Γ2 S2 => C Γ2 S2 (fun S3 k => if k = true then Te Γ2 S3 (fun S4 y => P (i + 1) (acc ++ [y]) S4) (fun _ _ => False) else P (i + 1) acc S3) (fun _ _ => False))
    (hd : ∀ acc S', P ds.length acc S' → Fin acc S' Φ) : lcP (fun _ => some ds) G C Te vs Fin Γ S Φ :=
  ⟨P, ds.length, hl, h0, fun _ _ _ _ _ => ⟨ds, rfl, rfl⟩, fun i acc S' es d hp e hd => by
    cases e
    obtain ⟨hi, rfl⟩ := List.getElem?_eq_some_iff.mp hd
    exact hs i acc S' hi hp, hd⟩
theorem lc_r0 {n : Nat} (P : Nat → List D → Sto → Prop) (hl : n ≤ sizeLine) (h0 : P 0 [] S) (hs : ∀ (i : Nat) acc S', i < n → P i acc S' → G (.int (i : Int)) (gwipe Γ vs) S' fun Γ2 S2 => C Γ2 S2 (fun S3 k => if k = true then Te Γ2 S3 (fun S4 y => P (i + 1) (acc ++ [y]) S4) (fun _ _ => False) else P (i + 1) acc S3) (fun _ _ => False))
    (hd : ∀ acc S', P n acc S' → Fin acc S' Φ) : lcP (fun _ => some (rngD 0 n)) G C Te vs Fin Γ S Φ :=
  ⟨P, n, hl, h0, fun _ _ _ _ _ => ⟨_, rfl, rng_len _ _⟩, fun i acc S' es d hp e hd => by
    cases e
    obtain ⟨hi, rfl⟩ := rng_get hd
    rw [Int.zero_add]
    exact hs i acc S' hi hp, hd⟩
theorem dIx_o' {h : Nat} {i : Int} {S : Sto} {Φ : KD} : dIx (.own h) (.int i) S Φ = (∃ ds, S[h]? = some (.lst ds) ∧ ∃ d, atI ds i = some d ∧ Φ S d) := by
  rw [dIx_o]
  exact propext ⟨fun ⟨a, b, c, d⟩ => ⟨a, c, b, d⟩, fun ⟨a, c, b, d⟩ => ⟨a, b, c, d⟩⟩
theorem at_1 {α : Type} {a b : α} {l : List α} : atI (a :: b :: l) 1 = some b := at_nat (n := 1)
theorem at_2 {α : Type} {a b c : α} {l : List α} : atI (a :: b :: c :: l) 2 = some c := at_nat (n := 2)
theorem at_3 {α : Type} {a b c d : α} {l : List α} : atI (a :: b :: c :: d :: l) 3 = some d := at_nat (n := 3)
theorem at_4 {α : Type} {a b c d e : α} {l : List α} : atI (a :: b :: c :: d :: e :: l) 4 = some e := at_nat (n := 4)
theorem Fs.last {S S' : Sto} {h n : Nat} {x : Cell} (f : Fs h n (S ++ [x]) S') (hl : h < S.length) : S'[S.length]? = some x ∧ ∀ y, Fs h n (S ++ [y]) (S'.set S.length y) := by
  obtain ⟨c, q, rfl⟩ := f
  rw [set_app hl]
  have e : S.length = (S.set h c).length := by rw [List.length_set]
  refine ⟨by rw [e]; exact get_at, fun y => ⟨c, q, ?_⟩⟩
  rw [set_app hl]
  conv => lhs; rw [e]
  exact set_at
theorem Fs.cell {S S' : Sto} {h n : Nat} (f : Fs h n S S') (x : Cell) (hl : h < S.length) : Fs h n (S ++ [x]) (S' ++ [x]) := by
  obtain ⟨c, q, rfl⟩ := f
  exact ⟨c, q, (set_app hl).symm⟩
theorem isLst_at {S : Sto} {h : Nat} {ds : List D} (e : S[h]? = some (.lst ds)) : isLst S (.own h) := ⟨ds, asL_at' e⟩
theorem isLst_l {S : Sto} {ds : List D} : isLst S (.lst ds) = True := propext ⟨fun _ => trivial, fun _ => ⟨ds, rfl⟩⟩
theorem ix_nat {n i : Nat} (h : i < n) : ixN n (i : Int) = some i := by
  unfold ixN
  rw [if_pos (by omega), if_pos (by omega)]
  rfl
theorem ix30 : ixN 3 0 = some 0 := ix_nat (i := 0) (by decide)
theorem ix31 : ixN 3 1 = some 1 := ix_nat (i := 1) (by decide)
theorem ix32 : ixN 3 2 = some 2 := ix_nat (i := 2) (by decide)
theorem cpw {i j : Int} (h0 : 0 ≤ j) (h1 : j ≤ 1000) (h : i.natAbs < 2 ^ 250) : CPowW i j := ⟨h0, h1, Nat.lt_of_lt_of_le h (Nat.pow_le_pow_right (by decide) (by decide))⟩
theorem cdw {i j : Int} (h0 : 0 < j) (h : j.natAbs < 2 ^ 250) : CDivW i j :=
  ⟨h0, PySem.Flt.log2_lt_of (by decide) (Nat.lt_of_lt_of_le h (Nat.pow_le_pow_right (by decide) (by decide)))⟩
theorem cmr {i j : Int} (h0 : -(2 ^ 64) < j) (h : j < 2 ^ 64) : CMulA i j := .inl (.inr ⟨h0, h⟩)
theorem cml {i j : Int} (h0 : -(2 ^ 64) < i) (h : i < 2 ^ 64) : CMulA i j := .inl (.inl ⟨h0, h⟩)
theorem small {n : Nat} (h : n ≤ 1000000 := by decide) : n ≤ sizeLine := Nat.le_trans h (by decide)
theorem exAny {α : Type} {a : α} : (∃ x, some a = some x) = True := propext ⟨fun _ => trivial, fun _ => ⟨a, rfl⟩⟩
theorem cut_to {α : Type} {xs : List α} {j : Nat} : cutD xs none (some (j : Int)) = xs.take j := by
  unfold cutD
  rw [HT.sIx_none, HT.sIx_nat, List.drop_zero, Nat.sub_zero]
  by_cases h : j ≤ xs.length
  · rw [Nat.min_eq_left h]
  · rw [Nat.min_eq_right (by omega), List.take_length, List.take_of_length_le (by omega)]
theorem cut_from {α : Type} {xs : List α} {j : Nat} : cutD xs (some (j : Int)) none = xs.drop j := by
  unfold cutD
  rw [HT.sIx_none, HT.sIx_nat, List.take_of_length_le (by rw [List.length_drop]; exact Nat.le_refl _)]
  by_cases h : j ≤ xs.length
  · rw [Nat.min_eq_left h]
  · rw [Nat.min_eq_right (by omega), List.drop_of_length_le (by omega), List.drop_of_length_le (by omega)]
theorem rep_0 : List.replicate 0 (none : Option D) = [] := rfl
theorem rep_s {n : Nat} : List.replicate (n + 1) (none : Option D) = none :: List.replicate n none := rfl
/-- a comprehension that changes no cell: the item x gives g x -/
theorem lc_map {α : Type} (xs : List α) (f g : α → D) (hl : xs.length ≤ sizeLine) (hs : ∀ x ∈ xs, ∀ R : KD, R S (g x) → G (f x) (gwipe Γ vs) S fun Γ2 S2 => Te Γ2 S2 R (fun _ _ => False)) (hd : Fin (xs.map g) S Φ) : lcP (fun _ => some (xs.map f)) G bYes Te vs Fin Γ S Φ := by
  refine lc_l (fun i acc S' => S' = S ∧ acc = (xs.map g).take i) (by rw [List.length_map]; exact hl) ⟨rfl, by simp⟩ (fun i acc S' hi hp => ?_) fun acc S' hp => ?_
  · obtain ⟨rfl, rfl⟩ := hp
    have hi2 : i < xs.length := by rw [List.length_map] at hi; exact hi
    rw [List.getElem_map]
    refine hs _ (List.getElem_mem hi2) _ ⟨rfl, ?_⟩
    have hi3 : i < (xs.map g).length := by rw [List.length_map]; exact hi2
    rw [List.take_add_one, List.getElem?_eq_getElem hi3, List.getElem_map]
    rfl
  · obtain ⟨rfl, rfl⟩ := hp
    rw [List.length_map, List.take_of_length_le (by rw [List.length_map]; exact Nat.le_refl _)]
    exact hd
end
end DL
namespace DL
open PySem PySem.Spec PyProof.Rows L2
section
variable {S T : Sto} {Φ : KD} {i j : Int} {d e : D} {xs ys : List D}
theorem asL_cases (h : asL S d = some xs) : d = .lst xs ∨ ∃ n, d = .own n ∧ S[n]? = some (.lst xs) := by
  cases d with
  | lst ds => cases h; exact .inl rfl
  | own n =>
    have h : (match S[n]? with | some (.lst ds) => some ds | _ => none) = some xs := h
    split at h
    · cases h; exact .inr ⟨n, rfl, by assumption⟩
    · cases h
  | _ => cases h
theorem asL_app (h : asL S d = some xs) : asL (S ++ T) d = some xs := by
  rcases asL_cases h with rfl | ⟨n, rfl, e⟩
  · rfl
  · exact asL_at' (get_app e)
theorem asS_L (h : asL S d = some xs) : asS S d = some xs := by
  rcases asL_cases h with rfl | ⟨n, rfl, e⟩
  · rfl
  · exact asQ_at' e
theorem tyOf_L (h : asL S d = some xs) : tyOf S d = some "list" := by
  rcases asL_cases h with rfl | ⟨n, rfl, e⟩
  · rfl
  · show (match S[n]? with | some (.lst _) => some "list" | _ => none) = some "list"
    rw [e]
theorem cLen_L (h : asL S d = some xs) : cLen [d] S Φ = Φ S (.int xs.length) := by
  rcases asL_cases h with rfl | ⟨n, rfl, e⟩
  · exact cLen_l
  · show (∃ ys, asS S (.own n) = some ys ∧ Φ S (.int ys.length)) = _
    rw [asS_L h]
    exact propext exAs
theorem dIx_L (h : asL S d = some xs) : dIx d (.int i) S Φ = ∃ x, atI xs i = some x ∧ Φ S x := by
  rcases asL_cases h with rfl | ⟨n, rfl, e⟩
  · exact dIx_l
  · rw [dIx_o', e]
    exact propext exL
theorem dEq_i : dEq (.int i) (.int j) S Φ = Φ S (.bl (i == j)) := propext
  ⟨fun ⟨p, q, h1, h2, _, _, h⟩ => by cases h1; cases h2; simpa [PyData.eqv] using h, fun h => ⟨_, _, .int i, .int j, by simp [SeqAt.shaped, PyData.canLay0, PyData.depth], by simp [SeqAt.shaped, PyData.canLay0, PyData.depth], by simpa [PyData.eqv] using h⟩⟩
theorem dNe_i : dNe (.int i) (.int j) S Φ = Φ S (.bl (!(i == j))) := propext
  ⟨fun ⟨p, q, h1, h2, _, _, h⟩ => by cases h1; cases h2; simpa [PyData.eqv] using h, fun h => ⟨_, _, .int i, .int j, by simp [SeqAt.shaped, PyData.canLay0, PyData.depth], by simp [SeqAt.shaped, PyData.canLay0, PyData.depth], by simpa [PyData.eqv] using h⟩⟩
end
section
variable {Γ : Gam} {S : Sto} {Φ : KD} {G : TGd} {C : TB} {Te : TD} {vs : List Nat} {Fin : List D → Sto → KD → Prop} {src : Src}
theorem lc_s {ds : List D} (P : Nat → List D → Sto → Prop) (hl : ds.length ≤ sizeLine) (h0 : P 0 [] S) (hsrc : ∀ i acc S', P i acc S' → src S' = some ds) (hs : ∀ i acc S' (hi : i < ds.length), P i acc S' → G ds[i] (gwipe Γ vs) S' fun Γ2 S2 => C Γ2 S2 (fun S3 k => if k = true then Te Γ2 S3 (fun S4 y => P (i + 1) (acc ++ [y]) S4) (fun _ _ => False) else P (i + 1) acc S3) (fun _ _ => False))
    (hd : ∀ acc S', P ds.length acc S' → Fin acc S' Φ) : lcP src G C Te vs Fin Γ S Φ :=
  ⟨P, ds.length, hl, h0, fun i acc S' _ hp => ⟨ds, hsrc i acc S' hp, rfl⟩, fun i acc S' es d hp e hd => by
    rw [hsrc i acc S' hp] at e
    cases e
    obtain ⟨hi, rfl⟩ := List.getElem?_eq_some_iff.mp hd
    exact hs i acc S' hi hp, hd⟩
theorem lc_mapS {α : Type} (xs : List α) (f g : α → D) (hsrc : src S = some (xs.map f)) (hl : xs.length ≤ sizeLine) (hs : ∀ x ∈ xs, ∀ R : KD, R S (g x) → G (f x) (gwipe Γ vs) S fun Γ2 S2 => Te Γ2 S2 R (fun _ _ => False)) (hd : Fin (xs.map g) S Φ) : lcP src G bYes Te vs Fin Γ S Φ := by
  refine lc_s (ds := xs.map f) (fun i acc S' => S' = S ∧ acc = (xs.map g).take i) (by rw [List.length_map]; exact hl) ⟨rfl, by simp⟩ (fun i acc S' hp => by rw [hp.1]; exact hsrc) (fun i acc S' hi hp => ?_) fun acc S' hp => ?_
  · obtain ⟨rfl, rfl⟩ := hp
    have hi2 : i < xs.length := by rw [List.length_map] at hi; exact hi
    rw [List.getElem_map]
    refine hs _ (List.getElem_mem hi2) _ ⟨rfl, ?_⟩
    have hi3 : i < (xs.map g).length := by rw [List.length_map]; exact hi2
    rw [List.take_add_one, List.getElem?_eq_getElem hi3, List.getElem_map]
    rfl
  · obtain ⟨rfl, rfl⟩ := hp
    rw [List.length_map, List.take_of_length_le (by rw [List.length_map]; exact Nat.le_refl _)]
    exact hd
theorem lc_idS (ds : List D) (g : D → D) (hsrc : src S = some ds) (hl : ds.length ≤ sizeLine) (hs : ∀ x ∈ ds, ∀ R : KD, R S (g x) → G x (gwipe Γ vs) S fun Γ2 S2 => Te Γ2 S2 R (fun _ _ => False)) (hd : Fin (ds.map g) S Φ) : lcP src G bYes Te vs Fin Γ S Φ :=
  lc_mapS ds id g (by rw [List.map_id]; exact hsrc) hl hs hd
end
/-- rows of a table, read by the cells -/
inductive RowsS (S : Sto) : List D → List (List Int) → Prop
  | nil : RowsS S [] []
  | cons {d : D} {ds : List D} {r : List Int} {t : List (List Int)} : asL S d = some (r.map D.int) → RowsS S ds t → RowsS S (d :: ds) (r :: t)
def TabS (S : Sto) (d : D) (t : List (List Int)) : Prop := ∃ ds, asL S d = some ds ∧ RowsS S ds t
namespace RowsS
variable {S T : Sto} {ds es : List D} {t u : List (List Int)}
theorem len (h : RowsS S ds t) : ds.length = t.length := by
  induction h with
  | nil => rfl
  | cons _ _ ih => rw [List.length_cons, List.length_cons, ih]
theorem app (h : RowsS S ds t) : RowsS (S ++ T) ds t := by
  induction h with
  | nil => exact .nil
  | cons a _ ih => exact .cons (asL_app a) ih
theorem take (h : RowsS S ds t) : ∀ n, RowsS S (ds.take n) (t.take n) := by
  induction h with
  | nil => intro n; rw [List.take_nil, List.take_nil]; exact .nil
  | cons a _ ih =>
    intro n
    cases n with
    | zero => exact .nil
    | succ n => exact .cons a (ih n)
theorem drop (h : RowsS S ds t) : ∀ n, RowsS S (ds.drop n) (t.drop n) := by
  induction h with
  | nil => intro n; rw [List.drop_nil, List.drop_nil]; exact .nil
  | cons a b ih =>
    intro n
    cases n with
    | zero => exact .cons a b
    | succ n => exact ih n
theorem get (h : RowsS S ds t) : ∀ {i : Nat} (hi : i < t.length) (hd : i < ds.length), asL S ds[i] = some ((t[i]).map D.int) := by
  induction h with
  | nil => intro i hi; exact absurd hi (by simp)
  | cons a b ih =>
    intro i hi hd
    cases i with
    | zero => exact a
    | succ i => exact ih (by simpa using hi) (by simpa using hd)
theorem mem (h : RowsS S ds t) {d : D} (hd : d ∈ ds) : ∃ r ∈ t, asL S d = some (r.map D.int) := by
  induction h with
  | nil => cases hd
  | cons a _ ih =>
    rcases List.mem_cons.mp hd with rfl | hd
    · exact ⟨_, List.mem_cons_self, a⟩
    · obtain ⟨r, hr, e⟩ := ih hd
      exact ⟨r, List.mem_cons_of_mem _ hr, e⟩
end RowsS
theorem rows_map {S : Sto} : ∀ t : List (List Int), RowsS S (t.map rowD) t
  | [] => .nil
  | _ :: t => .cons rfl (rows_map t)
theorem tabS_l {S : Sto} (t : List (List Int)) : TabS S (tabD t) t := ⟨_, rfl, rows_map t⟩
theorem TabS.app {S T : Sto} {d : D} {t : List (List Int)} (h : TabS S d t) : TabS (S ++ T) d t := let ⟨ds, e, r⟩ := h; ⟨ds, asL_app e, r.app⟩
theorem TabS.ty {S : Sto} {d : D} {t : List (List Int)} (h : TabS S d t) : tyOf S d = some "list" := let ⟨_, e, _⟩ := h; tyOf_L e
end DL
namespace DL
open PySem PySem.Spec PyProof.Rows L2
/-- an instance, frozen or a cell -/
def asI (S : Sto) : D → Option (Addr × List (Str × D))
  | .ins C fs => some (C, fs)
  | .own h => match S[h]? with
    | some (.ins C fs) => some (C, fs)
    | _ => none
  | _ => none
section
variable {K : PySem.W.Frag} {w : Hs} {S : Sto}
theorem asI_own {h : Nat} {C : Addr} {fs : List (Str × D)} (e : S[h]? = some (.ins C fs)) : asI S (.own h) = some (C, fs) := by
  show (match S[h]? with
    | some (.ins C fs) => some (C, fs)
    | _ => none) = some (C, fs)
  rw [e]
theorem own_ins {h : Nat} {C : Addr} {fs : List (Str × D)} (e : asI S (.own h) = some (C, fs)) : S[h]? = some (.ins C fs) := by
  unfold asI at e
  dsimp only at e
  split at e
  · cases e; assumption
  · cases e
theorem ins_at (g : Good K w S) {h : Nat} {v : V} {C : Addr} {fs : List (Str × D)} (r : Rv K w v (.own h)) (e : S[h]? = some (.ins C fs)) : ∃ a dx vs, v = .ref a ∧ w.al[h]? = some a ∧ w.H a = some (.ins C dx vs) ∧ RpF K w.F w.al vs fs := by
  cases r with
  | @own h a q =>
    obtain ⟨_, dx, vs, h2, h3⟩ := g.cell h a _ q e
    exact ⟨a, dx, vs, rfl, q, h2, h3⟩
theorem asI_at (g : Good K w S) {v : V} {d : D} {C : Addr} {fs : List (Str × D)} (r : Rv K w v d) (e : asI S d = some (C, fs)) : ∃ a dx vs, v = .ref a ∧ w.H a = some (.ins C dx vs) ∧ RpF K w.F w.al vs fs := by
  cases d with
  | ins C' fs' =>
    cases e
    cases r with
    | ins h1 h2 => exact ⟨_, _, _, rfl, g.sub _ _ h1, h2⟩
  | own h =>
    obtain ⟨a, dx, vs, e1, _, h2, h3⟩ := ins_at g r (own_ins e)
    exact ⟨a, dx, vs, e1, h2, h3⟩
  | _ => cases e
variable {F : Hp} {al : List Addr}
theorem rf_some {f : Str} {d : D} : ∀ {vs : List (Str × V)} {fs : List (Str × D)}, RpF K F al vs fs → fs.lookup f = some d → ∃ v, vs.lookup f = some v ∧ Rp K F al v d
  | _, _, .nil, e => by cases e
  | (n, v) :: vs, (_, d') :: fs, .cons r t, e => by
    rw [List.lookup_cons] at e ⊢
    cases q : (f == n) with
    | true =>
      rw [q] at e
      cases e
      exact ⟨v, rfl, r⟩
    | false =>
      rw [q] at e
      exact rf_some t e
theorem rf_len : ∀ {vs : List (Str × V)} {fs : List (Str × D)}, RpF K F al vs fs → vs.length = fs.length
  | _, _, .nil => rfl
  | _ :: _, _ :: _, .cons _ t => by rw [List.length_cons, List.length_cons, rf_len t]
/-- an attribute written -/
def putD (f : Str) (d : D) : List (Str × D) → List (Str × D)
  | [] => [(f, d)]
  | (g, x) :: r => if g = f then (g, d) :: r else (g, x) :: putD f d r
theorem rf_put {f : Str} {v : V} {d : D} (rv : Rp K F al v d) : ∀ {vs : List (Str × V)} {fs : List (Str × D)}, RpF K F al vs fs → RpF K F al (putF f v vs) (putD f d fs)
  | _, _, .nil => .cons rv .nil
  | (n, x) :: vs, (_, d') :: fs, .cons r t => by
    unfold putF putD
    by_cases h : n = f
    · rw [if_pos h, if_pos h]; exact .cons rv t
    · rw [if_neg h, if_neg h]; exact .cons r (rf_put rv t)
end
section
variable {X : Cx} {W : WX} {o e : Expr} {es : List Expr} {f m x : Str} {pos apos p : Pos} {to te : TE} {To Te : TD} {tl tk' : TA} {Tl Tk : TL} {C : Addr} {k : Nat} {sp : DSpec}
/-- o.f, o an instance of the class at C -/
def dFld (C : Addr) (f : Str) (T : TD) : TD := fun Γ S Φ Ψ => T Γ S (fun S1 d => ∃ fs, asI S1 d = some (C, fs) ∧ ∃ y, fs.lookup f = some y ∧ Φ S1 y) Ψ
theorem je_fld (cl : Cls X.K C) (na : NoAttr X.K C f) (he : JE X W o to To) (hb : attributeBase o f X.env (eval o X.env) = eval o X.env := by rfl) : JE X W (.Attribute o f pos) (tFld X.K to f) (dFld C f To) :=
  ⟨pe_fld he.pe hb, fun Γ S Φ Ψ σ w g sl h hx Q q => he.sem Γ S _ Ψ σ w g sl h hx _ fun v d w1 S1 e1 g1 r1 ⟨fs, e2, y, l, h1⟩ => by
    obtain ⟨a, dx, vs, rfl, hH, rf⟩ := asI_at g1 r1 e2
    obtain ⟨u, lu, ru⟩ := rf_some rf l
    exact ⟨a, C, dx, vs, u, rfl, hH, cl, na, lu, q u y w1 S1 e1 g1 ru h1⟩⟩
/-- o.f, a constant of o's class: by a table of classes -/
def dConI (tab : List (Addr × D)) (f : Str) (T : TD) : TD := fun Γ S Φ Ψ => T Γ S (fun S1 d => ∃ C fs, asI S1 d = some (C, fs) ∧ fs.lookup f = none ∧ ∃ y, (C, y) ∈ tab ∧ Φ S1 y) Ψ
/-- C.f, a constant read off a class -/
structure CValF (K : PySem.W.Frag) (C : Addr) (f : Str) (d : D) : Prop where
  ex : ∃ mc v u, ClX.CRead K C mc ∧ ClX.CVal K C mc f v u ∧ ∀ w : Hs, Rv K w v d
def dCVal (tab : List (Addr × D)) (f : Str) (T : TD) : TD := fun Γ S Φ Ψ => T Γ S (fun S1 d => ∃ C, d = .obj C ∧ ∃ y, (C, y) ∈ tab ∧ Φ S1 y) Ψ
theorem je_cval {tab : List (Addr × D)} (c : ∀ q ∈ tab, CValF X.K q.1 f q.2) (he : JE X W o to To) (hb : attributeBase o f X.env (eval o X.env) = eval o X.env := by rfl) : JE X W (.Attribute o f pos) (ClX.tCVal X.K to f) (dCVal tab f To) :=
  ⟨ClX.pe_cval he.pe hb, fun Γ S Φ Ψ σ w g sl h hx Q q => he.sem Γ S _ Ψ σ w g sl h hx _ fun v d w1 S1 e1 g1 r1 ⟨C, ed, y, ly, h1⟩ => by
    subst ed
    cases r1
    obtain ⟨mc, vv, u, c1, c2, rv⟩ := c _ ly
    exact ⟨C, mc, vv, u, rfl, c1, c2, q vv y w1 S1 e1 g1 (rv w1) h1⟩⟩
/-- o.f = e, o a cell -/
def sFldS (C : Addr) (f : Str) (To Te : TD) : TSd := fun D Γ S => Te Γ S (fun S1 y => To Γ S1 (fun S2 d => ∃ h fs, d = .own h ∧ S2[h]? = some (.ins C fs) ∧ fs.length < 1000 ∧ D.nx Γ (S2.set h (.ins C (putD f y fs)))) D.er) D.er
theorem js_fld {pos' : Pos} (cl : Cls X.K C) (na : NoAttr X.K C f) (ho : JE X W o to To) (he : JE X W e te Te) (hs : swapsWith e (some (.Attribute o f pos')) pos.line X.env = pure false := by rfl) : JS X W (.Assign [.Attribute o f pos'] e pos) (sFld X.K to te f) (sFldS C f To Te) :=
  ⟨ps_fld ho.pe he.pe hs, fun D' Γ S σ w D g sl h r => he.sem Γ S _ _ σ w g sl h (r.er σ) _ fun y dy w1 S1 e1 g1 r1 h1 => ho.sem Γ S1 _ _ σ w1 g1 (sl.ext e1) h1 ((r.er σ).ext e1) _ fun v d w2 S2 e2 g2 r2 ⟨hh, fs, ed, es, hl, h2⟩ => by
    subst ed
    obtain ⟨a, dx, vs, rfl, ha, hH, rf⟩ := ins_at g2 r2 es
    have e12 := e1.trans e2
    refine ⟨a, C, dx, vs, rfl, hH, cl, na, by rw [rf_len rf]; exact hl, ?_⟩
    have hm : a ∈ w2.al := List.mem_of_getElem? ha
    exact r.nx σ Γ (w2.wr a (.ins C dx (putF f y vs))) _ (e12.trans (Ext.wr _ hm)) (g2.wrI ha es (rf_put (e2.rp r1) rf)) ((sl.ext e12).ext (Ext.wr _ hm)) h2⟩
theorem at_last {al : List Addr} {p : Addr} {n : Nat} (h : al.length = n) : (al ++ [p])[n]? = some p := by
  rw [← h, List.getElem?_append_right (Nat.le_refl _), Nat.sub_self] <;> rfl
end
end DL
namespace DL
open PySem PySem.Spec PyProof.Rows L2
section
variable {M : Model} {A : Around} {E : Value → Shared → Prop} {s : Shared}
abbrev Keeps (M : Model) (f : Value) (h : Heap) : Prop := ∃ k, (k = Keeper.frame ∨ k = Keeper.machine ∨ k = Keeper.boundFrame) ∧ PySem.W.Looks M h (keeperOf f) k
theorem cw_any {f : Value} {first : List Value} {pos : Pos} {R : Value → Shared → Prop} {args : List (Bool × Sem Value)} {kws : List (Option Str × Sem Value)}
    (h : wpAny M A (evalArgs f true args kws) (fun a s1 => Keeps M f s1.heap ∧ wpAny M A (call f (first ++ a.pos) a.kw) R E s1) E s) : wpAny M A (callWith pos f first args kws) R E s := by
  cases st : (args.any (·.1) || kws.any (·.1.isNone)) with
  | false => exact PySem.W.callWith_of (P := Keeps M f) st (fun _ q => q) h
  | true =>
    unfold callWith
    refine wpAny_bind (wpAny_holding (wpAny_mono h (fun a s1 q => wpAny_bind (wpAny_standAt ?_)) fun _ _ z => z))
    obtain ⟨⟨k, hk, L⟩, q⟩ := q
    simp only [st]
    refine wpAny_bind (L.here ?_)
    have tail : ∀ {t : Sem Value}, wpAny M A t R E s1 → wpAny M A (t >>= fun r => holding [r] point >>= fun _ => pure r) R E s1 :=
      fun ht => wpAny_bind (wpAny_mono ht (fun r s2 hr => wpAny_bind (wpAny_holding (wpAny_point (wpAny_pure hr)))) fun _ _ y => y)
    have marked (mk : Value) : wpAny M A (callMarked mk f (first ++ a.pos) a.kw) R E s1 := by unfold callMarked; exact PySem.Calls.wpAny_keep q
    rcases hk with rfl | rfl | rfl <;> dsimp only <;> first | exact tail (marked _) | exact tail (wpAny_operating q)
theorem ea_lone {f : Value} {x : Sem Value} {pos : Pos} {kws : List (Option Str × Sem Value)} {Q : Args → Shared → Prop} (hall : kws.all (·.1.isSome) = true)
    (h : wpAny M A x (fun v s1 => wpAny M A (evalAll (kws.map (·.2))) (fun ks s2 => PySem.W.StarOf M A E v (fun vs s3 => Q ⟨vs, (kws.filterMap (·.1)).zip ks⟩ s3) s2) E s1) E s) :
    wpAny M A (evalArgs f true [(true, (do let v ← x; standAt pos; pure v))] kws) Q E s := by
  unfold evalArgs
  first
    | refine wpAny_bind (wpAny_bind (wpAny_mono h (fun v s1 q => wpAny_bind (wpAny_standAt (wpAny_pure ?_))) fun _ _ z => z))
    | refine wpAny_bind (wpAny_bind (wpAny_bind (wpAny_mono h (fun v s1 q => wpAny_bind (wpAny_standAt (wpAny_pure (wpAny_pure ?_)))) fun _ _ z => z)))
  refine wpAny_holding ?_
  simp only [hall, if_true]
  refine wpAny_bind (wpAny_mono q (fun ks s2 q2 => ?_) fun _ _ z => z)
  unfold PySem.W.StarOf at q2
  refine wpAny_bind (wpAny_bind (wpAny_mono q2 (fun b s3 q3 => ?_) fun _ _ z => z))
  obtain ⟨rfl, q4⟩ := q3
  have fin := wpAny_holding (vs := ((kws.filterMap (·.1)).zip ks).map (·.2)) (wpAny_mono q4 (fun vs s4 q5 => (wpAny_pure q5 : wpAny M A (pure (⟨vs, (kws.filterMap (·.1)).zip ks⟩ : Args)) Q E s4)) fun _ _ z => z)
  have fin2 := wpAny_mono (wpAny_holding (vs := ((kws.filterMap (·.1)).zip ks).map (·.2)) q4) (fun vs s4 q5 => (wpAny_pure q5 : wpAny M A (pure (⟨vs, (kws.filterMap (·.1)).zip ks⟩ : Args)) Q E s4)) fun _ _ z => z
  try simp only [Bool.false_eq_true, if_false]
  first
    | exact fin2
    | exact wpAny_bind (wpAny_pure fin2)
    | exact wpAny_bind fin2
    | exact fin
end
abbrev TA2 := L2.St → Hp → (List V → List V → Hp → Prop) → Prop
abbrev TL2 := Gam → Sto → (Sto → List D → List D → Prop) → KX → Prop
def SemA2 (K : PySem.W.Frag) (W : WX) (t : TA2) (T : TL2) : Prop := ∀ Γ S Φ Ψ σ w, Good K w S → Slots K w σ Γ → T Γ S Φ Ψ → OkX K W w Ψ σ → ∀ Q : List V → List V → Hp → Prop,
  (∀ vs zs ds es w' S', Ext w w' → Good K w' S' → Ra K w' vs ds → Ra K w' zs es → Φ S' ds es → Q vs zs w'.H) → t σ w.H Q
structure JC (X : Cx) (W : WX) (es : List Expr) (kws : List Keyword) (ks : List Str) (t : TA2) (T : TL2) : Prop where
  run : ∀ (pins : List (Addr × Obj)) (s : Shared) (σ : L2.St) (H : Hp) (Q : List V → List V → Hp → Prop) (f : Value) (first : List Value) (pos : Pos) (R : Value → Shared → Prop), Inv X pins σ H s → t σ H Q →
    (∀ s1 H1 us ws vs zs, Inv X pins σ H1 s1 → Vals vs us → Vals zs ws → zs.length = ks.length → Q vs zs H1 → Keeps (model X.prog X.w) f s1.heap ∧ wpAny (model X.prog X.w) X.A (call f (first ++ us) (ks.zip ws)) R X.xe s1) →
    wpAny (model X.prog X.w) X.A (callWith pos f first (backTo pos (starEach es X.env)) (backToKw pos (keywordEach kws X.env))) R X.xe s
  sem : SemA2 X.K W t T
def t2 (t tk : TA) (n : Nat) : TA2 := fun σ H Q => t σ H fun vs H1 => tk σ H1 fun zs H2 => zs.length = n ∧ Q vs zs H2
def d2 (T Tk : TL) (n : Nat) : TL2 := fun Γ S Φ Ψ => T Γ S (fun S1 ds => Tk Γ S1 (fun S2 es => es.length = n ∧ Φ S2 ds es) Ψ) Ψ
def tLone (K : PySem.W.Frag) (te : TE) (tk : TA) (n : Nat) : TA2 := fun σ H Q => te σ H fun x H1 => tk σ H1 fun zs H2 => zs.length = n ∧ ∃ p xs, x = V.ref p ∧ (SqT K H2 p xs ∨ SqL K H2 p xs) ∧ Q xs zs H2
def dLone (T : TD) (Tk : TL) (n : Nat) : TL2 := fun Γ S Φ Ψ => T Γ S (fun S1 d => Tk Γ S1 (fun S2 es => es.length = n ∧ ∃ ds, asS S2 d = some ds ∧ Φ S2 ds es) Ψ) Ψ
def lStar (T : TD) (U : TL) : TL := fun Γ S Φ Ψ => T Γ S (fun S1 d => ∃ ds, asS S1 d = some ds ∧ U Γ S1 (fun S2 xs => Φ S2 (ds ++ xs)) Ψ) Ψ
section
variable {X : Cx} {W : WX} {e : Expr} {es : List Expr} {kws : List Keyword} {ks : List Str} {te : TE} {Te : TD} {tl tk : TA} {Tl Tk : TL} {p : Pos}
theorem sem_t2 {K : PySem.W.Frag} {n : Nat} (h1 : SemA K W tl Tl) (h2 : SemA K W tk Tk) : SemA2 K W (t2 tl tk n) (d2 Tl Tk n) := fun Γ S Φ Ψ σ w g sl h hx Q q =>
  h1 Γ S _ Ψ σ w g sl h hx _ fun vs ds w1 S1 e1 g1 r1 k1 => h2 Γ S1 _ Ψ σ w1 g1 (sl.ext e1) k1 (hx.ext e1) _ fun zs es w2 S2 e2 g2 r2 ⟨hl, k2⟩ => ⟨by rw [r2.length]; exact hl, q vs zs ds es w2 S2 (e1.trans e2) g2 (e2.ra r1) r2 k2⟩
/-- the keywords' values -/
theorem kw_run {pos : Pos} {pins : List (Addr × Obj)} {s : Shared} {σ : L2.St} {H : Hp} {Q : List V → Hp → Prop} {Z : List Value → Shared → Prop} (hk : JK X W kws tk Tk) (I : Inv X pins σ H s) (h : tk σ H Q) (q : ∀ ws s1 zs H1, Inv X pins σ H1 s1 → Vals zs ws → Q zs H1 → Z ws s1) :
    wpAny (model X.prog X.w) X.A (evalAll ((backToKw pos (keywordEach kws X.env)).map (·.2))) Z X.xe s := thn (hk.pk.run pos pins s σ H Q I h) fun ws s1 ⟨zs, H1, I1, r, q1⟩ => q ws s1 zs H1 I1 r q1
/-- the first one is not starred -/
theorem jc_cons (ha : JA X W (e :: es) tl Tl) (hk : JK X W kws tk Tk) (hall : ∀ pos, (backToKw pos (keywordEach kws X.env)).all (·.1.isSome) = true := by intro _; rfl) (hks : ∀ pos, (backToKw pos (keywordEach kws X.env)).filterMap (·.1) = ks := by intro _; rfl)
    (he : starEach (e :: es) X.env = (false, eval e X.env) :: starEach es X.env := by rfl) : JC X W (e :: es) kws ks (t2 tl tk ks.length) (d2 Tl Tk ks.length) :=
  ⟨fun pins s σ H Q f first pos R I h q => cw_any (evalArgs_kw2 (hall pos) (thn (ha.pa.run pos pins s σ H _ I h) fun us s1 ⟨vs, H1, I1, r, h1⟩ => kw_run hk I1 h1 fun ws s2 zs H2 I2 rz h2 => by
    rw [hks pos]
    exact q s2 H2 us ws vs zs I2 r rz h2.1 h2.2) he), sem_t2 ha.sem hk.sem⟩
/-- no positional ones -/
theorem jc_nil (hk : JK X W kws tk Tk) (hall : ∀ pos, (backToKw pos (keywordEach kws X.env)).all (·.1.isSome) = true := by intro _; rfl) (hks : ∀ pos, (backToKw pos (keywordEach kws X.env)).filterMap (·.1) = ks := by intro _; rfl) :
    JC X W [] kws ks (t2 tNil tk ks.length) (d2 lNil Tk ks.length) :=
  ⟨fun pins s σ H Q f first pos R I h q => cw_any (evalArgs_kw2_nil (hall pos) (kw_run (Q := fun zs H2 => zs.length = ks.length ∧ Q [] zs H2) hk I h fun ws s2 zs H2 I2 rz h2 => by
    rw [hks pos]
    exact q s2 H2 [] ws [] zs I2 .nil rz h2.1 h2.2)), sem_t2 (ja_nil (X := X)).sem hk.sem⟩
/-- one starred one alone -/
theorem jc_lone (ha : JE X W e te Te) (hk : JK X W kws tk Tk) (hall : ∀ pos, (backToKw pos (keywordEach kws X.env)).all (·.1.isSome) = true := by intro _; rfl) (hks : ∀ pos, (backToKw pos (keywordEach kws X.env)).filterMap (·.1) = ks := by intro _; rfl)
    (he : starEach [.Starred e p] X.env = [(true, eval e X.env)] := by rfl) : JC X W [.Starred e p] kws ks (tLone X.K te tk ks.length) (dLone Te Tk ks.length) := by
  refine ⟨fun pins s σ H Q f first pos R I h q => ?_, fun Γ S Φ Ψ σ w g sl h hx Q q => ?_⟩
  · rw [he]
    refine cw_any (ea_lone (hall pos) (thn (ha.pe.run pins s σ H _ I h) fun u s1 ⟨x, H1, I1, rx, h1⟩ => kw_run hk I1 h1 fun ws s2 zs H2 I2 rz ⟨hl, a, xs, ex, hx, h2⟩ => ?_))
    subst ex
    obtain rfl : u = Value.ref a := rx
    refine StX.star_any I2 hx fun us s3 I3 rv => ?_
    rw [hks pos]
    exact q s3 H2 us ws xs zs I3 rv rz hl h2
  · refine ha.sem Γ S _ Ψ σ w g sl h hx _ fun v d w1 S1 e1 g1 r1 k1 => hk.sem Γ S1 _ Ψ σ w1 g1 (sl.ext e1) k1 (hx.ext e1) _ fun zs es w2 S2 e2 g2 r2 ⟨hl, ds, ed, k2⟩ => ⟨by rw [r2.length]; exact hl, ?_⟩
    obtain ⟨a, xs, rfl, hq, ra⟩ := asS_at g2 (e2.rp r1) ed
    exact ⟨a, xs, rfl, hq.symm, q xs zs ds es w2 S2 (e1.trans e2) g2 ra r2 k2⟩
end
abbrev DSpK := List D → List D → Sto → KD → KX → Prop
def spK (K : PySem.W.Frag) (sp : DSpK) (vs zs : List V) (H : Hp) (Q : VK) (E : XK) : Prop := ∃ w S ds es Φ Ψ, w.H = H ∧ Good K w S ∧ Ra K w vs ds ∧ Ra K w zs es ∧ sp ds es S Φ Ψ ∧ OkD K w Φ Q ∧
  ∀ cv dx x w' S', Ext w w' → Good K w' S' → RpX K w' cv dx x → Ψ S' x → E cv dx w'.H
structure FnK (P : Program) (wd : World) (K : PySem.W.Frag) (mg : Str → Option Value) (base : Heap) (k : Nat) (f : Addr) (ks : List Str) (sp : DSpK) : Prop where
  kp : PySem.W.keepIn K (.ref f) = true
  go : ∀ (A : Around) (outer : List Env) (s : Shared) (H : Hp) (us ws : List Value) (vs zs : List V) (Q : VK) (E : XK), A.guards = some [] → Room k A → Env0 P wd K mg base A outer s H → Vals vs us → Vals zs ws → zs.length = ks.length → spK K sp vs zs H Q E →
    codeAny (model P wd) A (.call (.ref f) ⟨us, ks.zip ws⟩) (CR (L2.CX P wd) outer P wd H s Q E) s
/-- a def's promise, called with n values: the parameters' places in values, defaults, keywords; with a star parameter behind a values -/
def pkP (n : Nat) (perm : List Nat) (md : List D) (sp : DSpec) : DSpK := fun ds es S Φ Ψ => ds.length = n ∧ sp (pick perm (ds ++ md) es) S Φ Ψ
def pkS (b : Bool) (a : Nat) (perm : List Nat) (md : List D) (sp : DSpec) : DSpK := fun ds es S Φ Ψ => (ds.take a).length = a ∧ (b = false → ds.drop a = []) ∧ (ds.drop a).length ≤ sizeLine ∧ sp (pick perm (ds.take a ++ md) es ++ [.tup (ds.drop a)]) S Φ Ψ
/-- the names looked up, one behind another, then m -/
def KwTo {α : Type} (D : Addr) : List (Str × Value) → Sem α → Sem α → Prop
  | [], t, m => t = m
  | q :: l, t, m => ∃ (β γ : Type) (k1 : Option Value → Sem β) (k2 : β → Sem γ) (k3 : γ → Sem α) (a : β), t = ((nsGet D q.1 >>= k1) >>= k2) >>= k3 ∧ k1 (some q.2) = pure a ∧ KwTo D l (k2 a >>= k3) m
theorem KwTo.wp {α : Type} {K : PySem.W.Frag} {M : Model} {A : Around} {E : Value → Shared → Prop} {Q : α → Shared → Prop} {s : Shared} {D : Addr} (X : K.In s.heap) : ∀ {l : List (Str × Value)} {t m : Sem α}, (∀ q ∈ l, PySem.W.nsIn K D q.1 = some (some q.2)) → KwTo D l t m → wpAny M A m Q E s → wpAny M A t Q E s
  | [], t, m, _, e, h => by
    obtain rfl : t = m := e
    exact h
  | q :: l, t, m, hl, ⟨β, γ, k1, k2, k3, a, e1, e2, e3⟩, h => by
    have l1 : PySem.W.Looks M s.heap (nsGet D q.1 >>= k1) a := (PySem.W.looks_nsIn X (hl q List.mem_cons_self)).andThen (PySem.W.Looks.of_pure e2)
    rw [e1, bind_assoc]
    exact wpAny_bind (l1.here (KwTo.wp X (fun p hp => hl p (List.mem_cons_of_mem _ hp)) e3 h))
/-- the lacking keyword-only ones -/
theorem kwd_of {K : PySem.W.Frag} {kV : Value} {kws ms : List (Str × V)} (h : KwdV K kV kws) (hm : ∀ q ∈ ms, q ∈ kws) : ∃ (D : Addr) (mv : List Value), (ms = [] ∨ kV = .ref D) ∧ mv.length = ms.length ∧ Vals (ms.map (·.2)) mv ∧ ∀ q ∈ (ms.map (·.1)).zip mv, PySem.W.nsIn K D q.1 = some (some q.2) := by
  cases ms with
  | nil => exact ⟨0, [], .inl rfl, rfl, .nil, fun q hq => by cases hq⟩
  | cons m ms =>
    rcases h with e | ⟨D, e, hq⟩
    · subst e
      exact absurd (hm m List.mem_cons_self) (by simp)
    · obtain ⟨mv, hl, rk, hks⟩ := kwd_vals (ms := m :: ms) fun q hq2 => hq q (hm q hq2)
      exact ⟨D, mv, .inr e, hl, rk, hks⟩
theorem vals_pre : ∀ {vs : List V} {us : List Value} {n : Nat}, Vals vs us → ∃ u1 u2, us = u1 ++ u2 ∧ Vals (vs.take n) u1 ∧ Vals (vs.drop n) u2
  | vs, us, 0, r => ⟨[], us, rfl, .nil, r⟩
  | [], _, _ + 1, .nil => ⟨[], [], rfl, .nil, .nil⟩
  | v :: vs, _, n + 1, .cons a r => by
    obtain ⟨u1, u2, e, r1, r2⟩ := vals_pre (n := n) r
    exact ⟨_ :: u1, u2, by rw [e]; rfl, .cons a r1, r2⟩
section
variable {P : Program} {wd : World} {K : PySem.W.Frag} {mg : Str → Option Value} {base : Heap} {x qual : Str} {st : Stmt} {kws ms : List (Str × V)} {md : List D} {f : Addr} {fd : FuncData} {N ps ks : List Str} {k n : Nat} {perm : List Nat} {sp : DSpec}
abbrev BodyOk (P : Program) (wd : World) (K : PySem.W.Frag) (mg : Str → Option Value) (base : Heap) (N : List Str) (qual : Str) (st : Stmt) (f : Addr) (k : Nat) (sp : DSpec) : Prop :=
  ∀ (cdv : Value) (A : Around) (outer : List Env) (s : Shared) (H : Hp) (E : XK), (A.deeper (envOfC qual (defScope st) s.heap.objs.size f cdv)).guards = some [] → Room k (A.deeper (envOfC qual (defScope st) s.heap.objs.size f cdv)) →
    ∃ t T, JB (cxOf (L2.CX P wd) P wd K mg base N qual (defScope st) f cdv A outer s H E) (WD E) (defBody st) t T ∧ ∀ ds S Φ Ψ, sp ds S Φ Ψ → T { nx := fun _ S' => RetOk S Φ S' .non, rt := RetOk S Φ, er := ErOk S Ψ } (gstart N ds) S
/-- THE RULE: a def without a star parameter -/
theorem fnK_plain (F : FunD K x qual (defArgs st) (defBody st) (defScope st) [] kws f fd) (Sc : FnScope N ps (defScope st)) (hms : ∀ q ∈ ms, q ∈ kws) (hmd : ∀ w, Ra K w (ms.map (·.2)) md) (len : ∀ ds S Φ Ψ, sp ds S Φ Ψ → ds.length = ps.length)
    (hb : ∀ (D : Addr) (kV doc pm : Value) (an : Option Addr) (cdv ct : Value) (us mv ws : List Value), (ms = [] ∨ kV = .ref D) → us.length = n → mv.length = ms.length → ws.length = ks.length →
      KwTo D ((ms.map (·.1)).zip mv) (bindArgs (PySem.W.fnOf x qual (defArgs st) (defBody st) (defScope st) .none kV doc pm an cdv ct) ⟨us, ks.zip ws⟩) (pure (ps.zip (pick perm (us ++ mv) ws))))
    (hbody : BodyOk P wd K mg base N qual st f k sp) : FnK P wd K mg base (k + 1) f ks (pkP n perm md sp) := by
  refine ⟨F.kp, fun A outer s H us ws vs zs Q E gd hr e0 rv rz hl ⟨w, S, ds, es, Φ, Ψ, hH, g, r1, r2, ⟨hn, hsp⟩, q, hx⟩ => ?_⟩
  subst hH
  obtain ⟨oc, od, dV, kV, doc, pm, an, cdv, ct, osl, rfl, lk, hcd, hD, hK⟩ := F.ex
  obtain ⟨D, mv, h1, h2, rm, hks⟩ := kwd_of hK hms
  have KX : K.In s.heap := e0.mod.kin.keeps fun b o e => (e0.bs b o e).1
  have eD : dV = .none := hD.elim (fun z => z.2) fun z => absurd rfl z.1
  subst eD
  have bd := hb D kV doc pm an cdv ct us mv ws h1 (by rw [← rv.length, r1.length]; exact hn) (by rw [h2]) (by rw [← rz.length]; exact hl)
  have rr : Ra K w (pick perm (vs ++ ms.map (·.2)) zs) (pick perm (ds ++ md) es) := pick_ra (r1.append (hmd w)) r2 _
  have rp : Vals (pick perm (vs ++ ms.map (·.2)) zs) (pick perm (us ++ mv) ws) := pick_vals (rv.append rm) rz _
  have many := len _ _ _ _ hsp
  refine StX.run_bnd (N := N) (ps := ps) (G := fun xs H2 => xs = pick perm (vs ++ ms.map (·.2)) zs ∧ H2 = w.H) lk hcd Sc hr e0 (fun A' Ex Q' h => ?_) fun s2 H2 xs ⟨ex, eH⟩ hr' => ?_
  · exact KwTo.wp KX hks bd (wpAny_pure (h s w.H _ _ e0 Un.refl rfl (fun _ _ z => z) rp (by rw [rr.length]; exact many) ⟨rfl, rfl⟩))
  · subst ex eH
    obtain ⟨t, T, jb, hq⟩ := hbody cdv A outer s2 w.H E (by show A.guards = some []; exact gd) hr'
    exact ⟨t, jb.pss, body_ok2 jb.sem hq ⟨w, S, _, Φ, Ψ, rfl, g, rr, hsp, q, hx⟩⟩
/-- THE RULE: a def with a star parameter, behind a others -/
theorem fnK_star {pv : Str} {a : Nat} {b : Bool} (F : FunD K x qual (defArgs st) (defBody st) (defScope st) [] kws f fd) (Sc : FnScope N (ps ++ [pv]) (defScope st)) (hms : ∀ q ∈ ms, q ∈ kws) (hmd : ∀ w, Ra K w (ms.map (·.2)) md) (len : ∀ ds S Φ Ψ, sp ds S Φ Ψ → ds.length = ps.length + 1)
    (hb : ∀ (D : Addr) (kV doc pm : Value) (an : Option Addr) (cdv ct : Value) (us rest mv ws : List Value), (ms = [] ∨ kV = .ref D) → (b = false → rest = []) → us.length = a → mv.length = ms.length → ws.length = ks.length →
      KwTo D ((ms.map (·.1)).zip mv) (bindArgs (PySem.W.fnOf x qual (defArgs st) (defBody st) (defScope st) .none kV doc pm an cdv ct) ⟨us ++ rest, ks.zip ws⟩) (newTuple rest >>= fun t => pure (ps.zip (pick perm (us ++ mv) ws) ++ [(pv, t)])))
    (hbody : BodyOk P wd K mg base N qual st f k sp) : FnK P wd K mg base (k + 1) f ks (pkS b a perm md sp) := by
  refine ⟨F.kp, fun A outer s H us ws vs zs Q E gd hr e0 rv rz hl ⟨w, S, ds, es, Φ, Ψ, hH, g, r1, r2, ⟨hn, hb0, hz, hsp⟩, q, hx⟩ => ?_⟩
  subst hH
  obtain ⟨oc, od, dV, kV, doc, pm, an, cdv, ct, osl, rfl, lk, hcd, hD, hK⟩ := F.ex
  obtain ⟨D, mv, h1, h2, rm, hks⟩ := kwd_of hK hms
  have KX : K.In s.heap := e0.mod.kin.keeps fun b o e => (e0.bs b o e).1
  have eD : dV = .none := hD.elim (fun z => z.2) fun z => absurd rfl z.1
  subst eD
  obtain ⟨u1, u2, eu, ra1, ra2⟩ := vals_pre (n := a) rv
  subst eu
  have q1 : Ra K w (vs.take a) (ds.take a) := RpA.take a r1
  have q2 : Ra K w (vs.drop a) (ds.drop a) := RpA.drop a r1
  have bd := hb D kV doc pm an cdv ct u1 u2 mv ws h1 (fun e => List.eq_nil_of_length_eq_zero (by rw [← ra2.length, q2.length, hb0 e]; rfl)) (by rw [← ra1.length, q1.length]; exact hn) (by rw [h2]) (by rw [← rz.length]; exact hl)
  have rr : Ra K w (pick perm (vs.take a ++ ms.map (·.2)) zs) (pick perm (ds.take a ++ md) es) := pick_ra (q1.append (hmd w)) r2 _
  have rp : Vals (pick perm (vs.take a ++ ms.map (·.2)) zs) (pick perm (u1 ++ mv) ws) := pick_vals (ra1.append rm) rz _
  have many := len _ _ _ _ hsp
  rw [List.length_append] at many
  have many2 : (pick perm (ds.take a ++ md) es).length = ps.length := by simpa using many
  have lp : (pick perm (u1 ++ mv) ws).length = ps.length := by rw [← rp.length, rr.length]; exact many2
  have hz2 : u2.length ≤ sizeLine := by rw [← ra2.length, q2.length]; exact hz
  have hnew : w.H s.heap.objs.size = Option.none := e0.hok.fresh (Nat.le_refl _)
  refine StX.run_bnd (N := N) (ps := ps ++ [pv]) (G := fun xs H2 => ∃ p, w.H p = Option.none ∧ xs = pick perm (vs.take a ++ ms.map (·.2)) zs ++ [V.ref p] ∧ H2 = upd w.H p (.tup (vs.drop a))) lk hcd Sc hr e0 (fun A' Ex Q' h => ?_) fun s2 H2 xs ⟨p, hp, ex, eH⟩ hr' => ?_
  · refine KwTo.wp KX hks bd (wpAny_bind (wpAny_newTuple (wpAny_pure ?_) hz2))
    have made : ObjOk P wd (upd w.H s.heap.objs.size (.tup (vs.drop a))) (s.heap.push ({ cls := .type "tuple", data := .seq u2.toArray } : Obj)) s.heap.objs.size (.tup (vs.drop a)) := ⟨by rw [q2.length]; exact hz, u2, ra2, ⟨_, Heap.get?_push_size _ rfl, rfl, _, rfl⟩⟩
    have un := StX.un_laid (fs := frs outer) (s := s) (o := ({ cls := .type "tuple", data := .seq u2.toArray } : Obj)) (u := .tup (vs.drop a)) hnew
    have z := h _ _ (pick perm (vs.take a ++ ms.map (·.2)) zs ++ [V.ref s.heap.objs.size]) (pick perm (u1 ++ mv) ws ++ [Value.ref s.heap.objs.size]) (StX.env0_laid e0 made) un rfl
      (fun e s' => StX.cxUp outer s w.H _ _ E e s' un (fun b o q => Heap.get?_push_of_some _ q) rfl) (rp.append (.cons rfl .nil)) (by rw [List.length_append, List.length_append, rr.length, many2] <;> rfl) ⟨_, hnew, rfl, rfl⟩
    rw [List.zip_append lp.symm] at z
    exact z
  · subst ex eH
    obtain ⟨t, T, jb, hq⟩ := hbody cdv A outer s2 _ E (by show A.guards = some []; exact gd) hr'
    have ee := Ext.frz g (.tup (vs.drop a)) hp
    refine ⟨t, jb.pss, body_ok2 jb.sem hq ⟨w.frz p (.tup (vs.drop a)), S, _, Φ, Ψ, rfl, g.frz _ hp, (ee.ra rr).append (.cons (.tup (.inl (.inl upd_same)) (ee.ra q2)) .nil), hsp, q.ext ee, fun cv dx x w' S' e gg r hΨ => hx cv dx x w' S' (ee.trans e) gg r hΨ⟩⟩
end
end DL
namespace DL
open PySem PySem.Spec PyProof.Rows L2
theorem under_guards {A : Around} {C : Addr} {us : List Value} {kw : List (Str × Value)} : (A.under (.builtin "type.__call__" ⟨.ref C :: us, kw⟩)).guards = A.guards := by
  first | rfl | simp [Around.under, Code.weight, Code.isCreation, Code.isGuard, Code.isCaller, Code.frames, Code.isFrame, guardIds]
def dCallA (sp : DSpK) (T : TL2) : TD := fun Γ S Φ Ψ => T Γ S (fun S1 ds es => sp ds es S1 Φ Ψ) Ψ
def tMakeA (K : PySem.W.Frag) (C : Addr) (sp : DSpK) (W : WX) (t : TA2) : TE := fun σ H Q => t σ H fun vs zs H1 => ∀ x dx, H1 x = none → H1 dx = none → dx ≠ x → spK K sp (.ref x :: vs) zs (upd (upd H1 dx (.own x)) x (.ins C dx [])) (fun v H2 => v = .non ∧ Q (.ref x) H2) (WE W σ)
def dMakeA (C : Addr) (sp : DSpK) (T : TL2) : TD := fun Γ S Φ Ψ => T Γ S (fun S1 ds es => sp (.own S1.length :: ds) es (S1 ++ [.ins C []]) (fun S2 d => d = .non ∧ Φ S2 (.own S1.length)) Ψ) Ψ
def dMethA (C : Addr) (m : Str) (sp : DSpK) (To : TD) (T : TL2) : TD := fun Γ S Φ Ψ => To Γ S (fun S1 d => ∃ fs, asI S1 d = some (C, fs) ∧ fs.lookup m = none ∧ T Γ S1 (fun S2 ds es => sp (d :: ds) es S2 Φ Ψ) Ψ) Ψ
def tCMethA (K : PySem.W.Frag) (C : Addr) (sp : DSpK) (W : WX) (to : TE) (t : TA2) : TE := fun σ H Q => to σ H fun x H1 => x = .ref C ∧ t σ H1 fun vs zs H2 => spK K sp (.ref C :: vs) zs H2 Q (WE W σ)
def dCMethA (C : Addr) (sp : DSpK) (To : TD) (T : TL2) : TD := fun Γ S Φ Ψ => To Γ S (fun S1 d => d = .obj C ∧ T Γ S1 (fun S2 ds es => sp (.obj C :: ds) es S2 Φ Ψ) Ψ) Ψ
def tPropA (K : PySem.W.Frag) (C : Addr) (sp : DSpK) (to : TE) : TE := fun σ H Q => to σ H fun x H1 => ∃ a dx fs, x = .ref a ∧ H1 a = some (.ins C dx fs) ∧ spK K sp [x] [] H1 Q (fun _ _ _ => False)
def dPropA (C : Addr) (sp : DSpK) (To : TD) : TD := fun Γ S Φ Ψ => To Γ S (fun S1 d => ∃ fs, asI S1 d = some (C, fs) ∧ sp [d] [] S1 Φ (fun _ _ => False)) Ψ
/-- the class in a local name: cls(..) -/
def tMakeV (K : PySem.W.Frag) (i : Nat) (C : Addr) (sp : DSpK) (W : WX) (t : TA2) : TE := fun σ H Q => σ[i]? = some (some (.ref C)) ∧ tMakeA K C sp W t σ H Q
def dMakeV (i : Nat) (C : Addr) (sp : DSpK) (T : TL2) : TD := fun Γ S Φ Ψ => Γ[i]? = some (some (.obj C)) ∧ dMakeA C sp T Γ S Φ Ψ
section
variable {K : PySem.W.Frag} {W : WX} {sp : DSpK} {t : TA2} {T : TL2} {to : TE} {To : TD} {C : Addr} {m : Str}
theorem spk_of {w : Hs} {S : Sto} {vs zs : List V} {ds es : List D} {Φ : KD} {Ψ : KX} {Q : VK} {σ : L2.St} {w0 : Hs} (g : Good K w S) (r : Ra K w vs ds) (rz : Ra K w zs es) (h : sp ds es S Φ Ψ) (q : OkD K w Φ Q) (e : Ext w0 w) (hx : OkX K W w0 Ψ σ) : spK K sp vs zs w.H Q (WE W σ) :=
  ⟨w, S, ds, es, Φ, Ψ, rfl, g, r, rz, h, q, fun cv dx x w' S' e2 gg rr hΨ => hx cv dx x w' S' (e.trans e2) gg rr hΨ⟩
theorem sem_makeA (h : SemA2 K W t T) : SemE K W (tMakeA K C sp W t) (dMakeA C sp T) := fun Γ S Φ Ψ σ w g sl hT hx Q q =>
  h Γ S _ Ψ σ w g sl hT hx _ fun vs zs ds es w1 S1 e1 g1 r1 r2 h1 => fun x dx h0 hd _ => by
    have e2 : Ext w1 (w1.celI x dx C) := Ext.celI g1 h0 hd
    have own : Rv K (w1.celI x dx C) (.ref x) (.own S1.length) := .own (at_last g1.len)
    refine spk_of (g1.celI h0 hd) (.cons own (e2.ra r1)) (e2.ra r2) h1 ?_ (e1.trans e2) hx
    rintro v d w3 S3 e3 g3 r3 ⟨ed, h3⟩
    subst ed
    exact ⟨rv_non r3, q (.ref x) (.own S1.length) w3 S3 ((e1.trans e2).trans e3) g3 (e3.rp own) h3⟩
theorem sem_makeV {i : Nat} (h : SemA2 K W t T) : SemE K W (tMakeV K i C sp W t) (dMakeV i C sp T) := fun Γ S Φ Ψ σ w g sl ⟨hi, hT⟩ hx Q q => by
  obtain ⟨v, hv, r⟩ := sl.2 i _ hi
  cases r
  exact ⟨hv, sem_makeA h Γ S Φ Ψ σ w g sl hT hx Q q⟩
theorem sem_cmethA (ho : SemE K W to To) (h : SemA2 K W t T) : SemE K W (tCMethA K C sp W to t) (dCMethA C sp To T) := fun Γ S Φ Ψ σ w g sl hT hx Q q =>
  ho Γ S _ Ψ σ w g sl hT hx _ fun v d w1 S1 e1 g1 r1 ⟨ed, h1⟩ => by
    subst ed
    cases r1
    exact ⟨rfl, h Γ S1 _ Ψ σ w1 g1 (sl.ext e1) h1 (hx.ext e1) _ fun us zs ds es w2 S2 e3 g2 r2 r3 h2 => spk_of g2 (.cons (.obj C) r2) r3 h2 (q.ext (e1.trans e3)) (e1.trans e3) hx⟩
theorem sem_propA (ho : SemE K W to To) : SemE K W (tPropA K C sp to) (dPropA C sp To) := fun Γ S Φ Ψ σ w g sl hT hx Q q =>
  ho Γ S _ Ψ σ w g sl hT hx _ fun v d w1 S1 e1 g1 r1 ⟨fs, e2, h1⟩ => by
    obtain ⟨a, dx, vs, rfl, hH, rf⟩ := asI_at g1 r1 e2
    exact ⟨a, dx, vs, rfl, hH, w1, S1, [d], [], Φ, _, rfl, g1, .cons r1 .nil, .nil, h1, q.ext e1, fun _ _ _ _ _ _ _ _ z => z.elim⟩
end
section
variable {X : Cx} {W : WX} {o : Expr} {es : List Expr} {kws : List Keyword} {ks : List Str} {t : TA2} {T : TL2} {to : TE} {To : TD} {C : Addr} {m x : Str} {pos apos p : Pos} {k : Nat} {sp : DSpK} {f : Addr}
/-- the callee's run -/
theorem runK {pins : List (Addr × Obj)} {σ : L2.St} {H : Hp} {s : Shared} {Q : VK} {us ws : List Value} {vs zs : List V} (F : FnK X.prog X.w X.K X.mg X.base k f ks sp) (gd : X.A.guards = some []) (hr : Room k X.A) (tk : Takes X W) (I : Inv X pins σ H s) (r : Vals vs us) (rz : Vals zs ws) (hl : zs.length = ks.length)
    (h : spK X.K sp vs zs H Q (WE W σ)) : codeAny (model X.prog X.w) X.A (.call (.ref f) ⟨us, ks.zip ws⟩) (fun r s' => match r with | .ok (.ret v) => EP X pins σ Q v s' | .ok _ => False | .error e => X.xe e s') s := by
  refine codeAny_mono (F.go X.A X.stack s H us ws vs zs Q _ gd hr I.env0 r rz hl h) fun rr s2 hq => ?_
  match rr, hq with
  | .error u, hq => exact passAt tk σ pins H s u s2 I hq
  | .ok (.ret u), hq => exact I.after hq
  | .ok .next, hq => exact False.elim hq
  | .ok .brk, hq => exact False.elim hq
  | .ok .cont, hq => exact False.elim hq
/-- a class and its __init__ -/
structure CtorK (P : Program) (wd : World) (K : PySem.W.Frag) (mg : Str → Option Value) (base : Heap) (C : Addr) (k : Nat) (ks : List Str) (sp : DSpK) : Prop where
  ex : ∃ fi, Mk K C fi ∧ FnK P wd K mg base k fi ks sp
theorem goCtor {pins : List (Addr × Obj)} {σ : L2.St} {H : Hp} {s : Shared} {Q : VK} {us ws : List Value} {vs zs : List V} (c : CtorK X.prog X.w X.K X.mg X.base C k ks sp) (gd : X.A.guards = some []) (hr : Room (k + 1) X.A) (tk : Takes X W) (I : Inv X pins σ H s) (r : Vals vs us) (rz : Vals zs ws) (hl : zs.length = ks.length)
    (h : ∀ x dx, H x = none → H dx = none → dx ≠ x → spK X.K sp (.ref x :: vs) zs (upd (upd H dx (.own x)) x (.ins C dx [])) (fun v H2 => v = .non ∧ Q (.ref x) H2) (WE W σ)) : Keeps (model X.prog X.w) (.ref C) s.heap ∧ wpAny (model X.prog X.w) X.A (call (.ref C) us (ks.zip ws)) (EP X pins σ Q) X.xe s := by
  obtain ⟨fi, M, F⟩ := c.ex
  refine ⟨PySem.W.keeps_K M.kp _ I.kIn, ?_⟩
  have hs := h (s.heap.objs.size + 1) s.heap.objs.size (I.hok.fresh (Nat.le_succ _)) (I.hok.fresh (Nat.le_refl _)) (Nat.ne_of_lt (Nat.lt_succ_self _))
  have J := Inv.made (C := C) I
  have rr : Vals (V.ref (s.heap.objs.size + 1) :: vs) (Value.ref (s.heap.objs.size + 1) :: us) := .cons rfl r
  refine wpAny_call (make_map (f := fi) I.kIn M.makes M.init (beq_iff_eq.mp M.fn) (codeAny_mono (F.go _ X.stack _ _ _ ws _ zs _ _ (under_guards.trans gd) (hr.make C us (ks.zip ws)) (J.env0.make C us (ks.zip ws)) rr rz hl hs) fun z s2 hz => ?_))
  match z, hz with
  | .error u, hz => exact passAt tk σ pins _ _ u s2 J hz
  | .ok (.ret u), hz =>
    obtain ⟨v, H2, J2, rv, ev, q2⟩ := J.after hz
    subst ev
    exact ⟨rv, ⟨V.ref (s.heap.objs.size + 1), H2, J2, rfl, q2⟩⟩
  | .ok .next, hz => exact False.elim hz
  | .ok .brk, hz => exact False.elim hz
  | .ok .cont, hz => exact False.elim hz
theorem je_makeA (c : CtorK X.prog X.w X.K X.mg X.base C k ks sp) (hm : X.mg x = some (.ref C)) (gd : X.A.guards = some []) (hr : Room (k + 1) X.A) (hg : Gl X x) (tk : Takes X W) (ha : JC X W es kws ks t T) (hdb : (x == ("__debug__" : Str)) = false := by decide) :
    JE X W (.Call (.Name x p) es kws pos) (tMakeA X.K C sp W t) (dMakeA C sp T) :=
  ⟨⟨fun pins s σ H Q I h => wpAny_Call_Name_kw (ld_glob I hg hm (ha.run pins s σ H _ _ [] pos _ I h fun s1 H1 us ws vs zs I1 r rz hl h1 => goCtor c gd hr tk I1 r rz hl h1) hdb)⟩, sem_makeA ha.sem⟩
theorem je_makeV (i : Nat) (c : CtorK X.prog X.w X.K X.mg X.base C k ks sp) (gd : X.A.guards = some []) (hr : Room (k + 1) X.A) (tk : Takes X W) (ha : JC X W es kws ks t T) (hN : X.N[i]? = some x := by rfl) (hv : Vis X.env.scope x := by first | exact Or.inl rfl | exact Or.inr (Or.inl rfl) | exact Or.inr (Or.inr rfl))
    (hdb : (x == ("__debug__" : Str)) = false := by decide) (hcd : (x == ("__classdict__" : Str)) = false := by decide) : JE X W (.Call (.Name x p) es kws pos) (tMakeV X.K i C sp W t) (dMakeV i C sp T) := by
  refine ⟨⟨fun pins s σ H Q I ⟨hi, h⟩ => wpAny_Call_Name_kw (thn ((pe_var (pos := p) hN hv hdb hcd).run pins s σ H (fun v H1 => v = .ref C ∧ H1 = H) I ⟨.ref C, hi, rfl, rfl⟩) fun u s1 ⟨v, H1, I1, r1, q1⟩ => ?_)⟩, sem_makeV ha.sem⟩
  obtain ⟨rfl, rfl⟩ := q1
  cases r1
  exact ha.run pins s1 σ _ _ _ [] pos _ I1 h fun s2 H2 us ws vs zs I2 r rz hl h1 => goCtor c gd hr tk I2 r rz hl h1
/-- a class method, read off the class -/
structure CMetK (P : Program) (wd : World) (K : PySem.W.Frag) (mg : Str → Option Value) (base : Heap) (C : Addr) (m : Str) (k : Nat) (ks : List Str) (sp : DSpK) : Prop where
  ex : ∃ mc p g, ClX.CRead K C mc ∧ ClX.CMet K C mc m p g ∧ FnK P wd K mg base k g ks sp
theorem je_cmethA {pl : Sem Bool} (c : CMetK X.prog X.w X.K X.mg X.base C m k ks sp) (gd : X.A.guards = some []) (hr : Room k X.A) (tk : Takes X W) (ho : JE X W o to To) (ha : JC X W es kws ks t T)
    (ht : eval (.Call (.Attribute o m apos) es kws pos) X.env = (do
      let ov ← eval o X.env
      standAt apos.atName
      let (f, first) ← holding [ov] (getMethod ov m pl)
      callWith pos f first (backTo pos (starEach es X.env)) (backToKw pos (keywordEach kws X.env))) := by rfl) :
    JE X W (.Call (.Attribute o m apos) es kws pos) (tCMethA X.K C sp W to t) (dCMethA C sp To T) := by
  obtain ⟨mc, pp, g, cr, cm, F⟩ := c.ex
  refine ⟨⟨fun pins s σ H Q I h => PySem.W.methodCall_KW (pl := pl) (thn (ho.pe.run pins s σ H _ I h) fun u s1 ⟨y, H1, I1, rx, ex, q⟩ => ?_) ht⟩, sem_cmethA ho.sem ha.sem⟩
  subst ex
  obtain rfl : u = Value.ref C := rx
  refine ClX.getmethcm_ok I1 cr cm fun s2 I2 => ha.run _ s2 σ H1 _ _ [] pos _ I2 q fun s3 H2 us ws vs zs I3 r rz hl h1 => ⟨PySem.W.keeps_M cm.fi _ ⟨ClX.pin_at I3, I3.kIn⟩, ?_⟩
  exact thn (wpAny_call (PySem.W.method_call (ClX.pin_at I3) (runK (us := .ref C :: us) (vs := .ref C :: vs) F gd hr tk I3 (.cons rfl r) rz hl h1))) fun _ _ y => ClX.unpinE y
/-- a property -/
structure PropK (P : Program) (wd : World) (K : PySem.W.Frag) (mg : Str → Option Value) (base : Heap) (C : Addr) (m : Str) (k : Nat) (sp : DSpK) : Prop where
  cl : Cls K C
  ex : ∃ p g, PropOf K C m p g ∧ FnK P wd K mg base k g [] sp
theorem je_propA (c : PropK X.prog X.w X.K X.mg X.base C m k sp) (gd : X.A.guards = some []) (hr : Room (k + 1) X.A) (ho : JE X W o to To) (hb : attributeBase o m X.env (eval o X.env) = eval o X.env := by rfl) : JE X W (.Attribute o m pos) (tPropA X.K C sp to) (dPropA C sp To) := by
  obtain ⟨pp, g, hp, F⟩ := c.ex
  refine ⟨⟨fun pins s σ H Q I h => attr_of hb (thn (ho.pe.run pins s σ H _ I h) fun u s1 ⟨y, H1, I1, rx, a, dx, fs, ex, ea, q⟩ => ?_)⟩, sem_propA ho.sem⟩
  subst ex
  obtain rfl : u = Value.ref a := rx
  obtain ⟨mA, O, _, _, _, _⟩ := ins_get I1.hok ea
  obtain ⟨od, J, _⟩ := O.look
  obtain ⟨rest, hrec⟩ := hp.rec_
  have I2 := I1.tok (s1.toks + 1)
  have hc : (PySem.W.clsIn X.K C).isSome = true := by
    obtain ⟨cd, hc, _⟩ := PySem.W.any_some c.cl.hd
    rw [hc]
    rfl
  refine PySem.W.get_bind I1.kIn J (PySem.W.plainGet_of (c.cl.get m)).1 (PySem.W.findObj_data hc hp.at_ hp.get hp.tak) (PySem.W.plainGet_of (c.cl.get m)).2 (wpAny_call (PySem.W.prop_get (s := { s1 with toks := s1.toks + 1 }) I1.kIn hrec ?_))
  refine codeAny_mono (F.go X.A.in1 X.stack { s1 with toks := s1.toks + 1 } H1 [.ref a] [] [.ref a] [] Q _ gd hr.in1 I2.env0.in1 (.cons rfl .nil) .nil rfl q) fun rr s2 hq => ?_
  match rr, hq with
  | .error u, ⟨_, _, _, _, _, _, _, _, _, _, _, _, z⟩ => exact z.elim
  | .ok (.ret u), hq =>
    obtain ⟨v, H', I3, rv, q3⟩ := I2.after hq
    show wpAny _ _ (handedOut u) _ _ _
    rw [PySem.W.handedOut_of (handed_of rv)]
    exact wpAny_pure ⟨v, H', I3, rv, q3⟩
  | .ok .next, hq => exact False.elim hq
  | .ok .brk, hq => exact False.elim hq
  | .ok .cont, hq => exact False.elim hq
end
def fzID (d : D) (S : Sto) (Φ : KD) : Prop := match d with
  | .own h => ∃ C fs, S[h]? = some (.ins C fs) ∧ Φ (S.set h .gone) (.ins C fs)
  | d => Φ S d
def dFzI (T : TD) : TD := fun Γ S Φ Ψ => T Γ S (fun S1 d => fzID d S1 Φ) Ψ
theorem fzI_ok {K : PySem.W.Frag} {w : Hs} {S : Sto} (g : Good K w S) {Φ : KD} {Q : VK} {v : V} {d : D} (r : Rv K w v d) (h : fzID d S Φ) (q : OkD K w Φ Q) : Q v w.H := by
  have other : Φ S d → Q v w.H := fun z => q v d w S (Ext.refl w) g r z
  cases d with
  | own hh =>
    obtain ⟨C, fs, e, hΦ⟩ := h
    obtain ⟨a, dx, vs, rfl, ha, hH, rf⟩ := ins_at g r e
    have hm : a ∈ w.al := List.mem_of_getElem? ha
    have hF : w.F a = none := (g.cell hh a _ ha e).1
    have ee : Ext w (w.fz a (.ins C dx vs)) := Ext.fz hm hF
    exact q (.ref a) (.ins C fs) (w.fz a (.ins C dx vs)) _ ee (g.fzC ha e (fun z => nomatch z) hH) (.ins upd_same (RpF.mono ee.f ee.alx fs vs rf)) hΦ
  | _ => exact other h
theorem je_fzI {X : Cx} {W : WX} {e : Expr} {t : TE} {T : TD} (h : JE X W e t T) : JE X W e t (dFzI T) := ⟨h.pe, fun Γ S Φ Ψ σ w g sl hT hx Q q =>
  h.sem Γ S _ Ψ σ w g sl hT hx Q fun v d w1 S1 e1 g1 r1 h1 => fzI_ok g1 r1 h1 (q.ext e1)⟩
end DL
namespace DL
open PySem PySem.Spec PyProof.Rows L2
abbrev FaX : Type := PySem.W.Frag → Bool
def obsX (fa : List FaX) (fn : List He5.DefA) (K : PySem.W.Frag) : He.AlD := ((fa.all fun f => f K) && fn.all fun d => d.ok K, fn.map fun d => He5.fnA K (d.at_ K))
def SaysX (fa : List FaX) (fn : List He5.DefA) (K : PySem.W.Frag) : Prop := obsX fa fn K = He5.valA fn
section
variable {fa : List FaX} {fn : List He5.DefA} {K : PySem.W.Frag}
theorem SaysX.all (c : SaysX fa fn K) : (fa.all fun f => f K) = true ∧ (fn.all fun d => d.ok K) = true := by
  have c1 : ((fa.all fun f => f K) && fn.all fun d => d.ok K) = true := congrArg (fun z : He.AlD => z.1) c
  exact Bool.and_eq_true_iff.mp c1
theorem SaysX.fact (c : SaysX fa fn K) (i : Nat) {f : FaX} (h : fa[i]? = some f := by rfl) : f K = true := List.all_eq_true.mp c.all.1 f (List.mem_of_getElem? h)
theorem SaysX.def_ (c : SaysX fa fn K) (i : Nat) {d : He5.DefA} (h : fn[i]? = some d := by rfl) : ∃ fd, FunD K d.name d.qual d.params d.body d.scope (d.dvs K) (d.kws K) (d.at_ K) fd := by
  have e : fn.map (fun d => He5.fnA K (d.at_ K)) = fn.map He5.DefA.val := congrArg (fun z : He.AlD => z.2) c
  have e2 : (fn.map fun d => He5.fnA K (d.at_ K))[i]? = (fn.map He5.DefA.val)[i]? := by rw [e]
  rw [List.getElem?_map, List.getElem?_map, h] at e2
  exact He5.DefA.funD (Option.some.inj e2) (List.all_eq_true.mp c.all.2 d (List.mem_of_getElem? h))
end
section
variable {K : PySem.W.Frag} {x f m : Str}
open He
def bProp (x f : Str) : FaX := fun K => eqO (PySem.W.findIn K (.ref (ga K x)) f) (some (some (.ref (ma K (ga K x) f)))) && (eqO (PySem.W.specialIn K (.ref (ma K (ga K x) f)) "__get__") (some (some (.builtin "property.__get__"))) && (decide (PySem.W.takesIn K (.ref (ma K (ga K x) f)) = some true) &&
  (match PySem.W.recIn K (ma K (ga K x) f) "property" with
    | some (.ref _ :: _) => true
    | _ => false)))
theorem bProp_ok (h : bProp x f K = true) : PropOf K (ga K x) f (ma K (ga K x) f) (He5.wf K (ga K x) "property" f) := by
  obtain ⟨h1, h⟩ := ba h
  obtain ⟨h2, h⟩ := ba h
  obtain ⟨h3, h4⟩ := ba h
  refine ⟨eqO_ok h1, eqO_ok h2, of_decide_eq_true h3, ?_⟩
  unfold He5.wf
  split at h4
  · rename_i g r e
    exact ⟨r, by rw [e]⟩
  · cases h4
def bCMet (x m : Str) : FaX := fun K => He5.wrapB K (ga K x) "classmethod" "classmethod.__get__" m && PySem.W.fnIn K (He5.wf K (ga K x) "classmethod" m)
theorem bCMet_ok (h : bCMet x m K = true) : ClX.CMet K (ga K x) (.type "type") m (ma K (ga K x) m) (He5.wf K (ga K x) "classmethod" m) := by
  obtain ⟨h1, h2⟩ := ba h
  obtain ⟨k1, k2⟩ := He5.wrapB_ok h1
  exact ⟨k1, k2, h2⟩
def bCRd (x : Str) : FaX := fun K => PySem.W.readsIn K (ga K x) (.type "type") && eqO (PySem.W.specialIn K (.ref (ga K x)) "__getattribute__") (some (some (.builtin "type.__getattribute__")))
theorem bCRd_ok (h : bCRd x K = true) : ClX.CRead K (ga K x) (.type "type") := ⟨(ba h).1, eqO_ok (ba h).2⟩
def bKit (x y : Str) (b : Bool) : FaX := fun K => decide (PySem.W.kitOne K (.ref (ga K x)) (.ref (ga K y)) = some b)
theorem bKit_ok {y : Str} {b : Bool} (h : bKit x y b K = true) : PySem.W.kitOne K (.ref (ga K x)) (.ref (ga K y)) = some b := of_decide_eq_true h
end
end DL
namespace DL
open PySem PySem.Spec PyProof.Rows L2
/-- a, b, .. = a list of that length -/
def lstG (n : Nat) (T : TGs') : TGd := fun d Γ S P => ∃ ds, asQ S d = some ds ∧ ds.length = n ∧ T ds Γ S P
section
variable {Γ : Gam} {S : Sto} {Φ : KD} {Ψ : KX}
theorem lstG_e {n : Nat} {T : TGs'} {d : D} {P : Gam → Sto → Prop} : lstG n T d Γ S P = (∃ ds, asQ S d = some ds ∧ ds.length = n ∧ T ds Γ S P) := rfl
theorem d2_e {T Tk : TL} {n : Nat} {Φ : Sto → List D → List D → Prop} : d2 T Tk n Γ S Φ Ψ = (T Γ S (fun S1 ds => Tk Γ S1 (fun S2 es => es.length = n ∧ Φ S2 ds es) Ψ) Ψ) := rfl
theorem dLone_e {T : TD} {Tk : TL} {n : Nat} {Φ : Sto → List D → List D → Prop} : dLone T Tk n Γ S Φ Ψ = (T Γ S (fun S1 d => Tk Γ S1 (fun S2 es => es.length = n ∧ ∃ ds, asS S2 d = some ds ∧ Φ S2 ds es) Ψ) Ψ) := rfl
theorem lStar_e {T : TD} {U : TL} {Φ : Sto → List D → Prop} : lStar T U Γ S Φ Ψ = (T Γ S (fun S1 d => ∃ ds, asS S1 d = some ds ∧ U Γ S1 (fun S2 xs => Φ S2 (ds ++ xs)) Ψ) Ψ) := rfl
theorem dCallA_e {sp : DSpK} {T : TL2} : dCallA sp T Γ S Φ Ψ = (T Γ S (fun S1 ds es => sp ds es S1 Φ Ψ) Ψ) := rfl
theorem dMakeA_e {C : Addr} {sp : DSpK} {T : TL2} : dMakeA C sp T Γ S Φ Ψ = (T Γ S (fun S1 ds es => sp (.own S1.length :: ds) es (S1 ++ [.ins C []]) (fun S2 d => d = .non ∧ Φ S2 (.own S1.length)) Ψ) Ψ) := rfl
theorem dMakeV_e {i : Nat} {C : Addr} {sp : DSpK} {T : TL2} : dMakeV i C sp T Γ S Φ Ψ = (Γ[i]? = some (some (.obj C)) ∧ dMakeA C sp T Γ S Φ Ψ) := rfl
theorem dMethA_e {C : Addr} {m : Str} {sp : DSpK} {To : TD} {T : TL2} : dMethA C m sp To T Γ S Φ Ψ = (To Γ S (fun S1 d => ∃ fs, asI S1 d = some (C, fs) ∧ fs.lookup m = none ∧ T Γ S1 (fun S2 ds es => sp (d :: ds) es S2 Φ Ψ) Ψ) Ψ) := rfl
theorem dCMethA_e {C : Addr} {sp : DSpK} {To : TD} {T : TL2} : dCMethA C sp To T Γ S Φ Ψ = (To Γ S (fun S1 d => d = .obj C ∧ T Γ S1 (fun S2 ds es => sp (.obj C :: ds) es S2 Φ Ψ) Ψ) Ψ) := rfl
theorem dPropA_e {C : Addr} {sp : DSpK} {To : TD} : dPropA C sp To Γ S Φ Ψ = (To Γ S (fun S1 d => ∃ fs, asI S1 d = some (C, fs) ∧ sp [d] [] S1 Φ (fun _ _ => False)) Ψ) := rfl
theorem dFld_e {C : Addr} {f : Str} {T : TD} : dFld C f T Γ S Φ Ψ = (T Γ S (fun S1 d => ∃ fs, asI S1 d = some (C, fs) ∧ ∃ y, fs.lookup f = some y ∧ Φ S1 y) Ψ) := rfl
theorem sFldS_e {E : EdD} {C : Addr} {f : Str} {To Te : TD} : sFldS C f To Te E Γ S = (Te Γ S (fun S1 y => To Γ S1 (fun S2 d => ∃ h fs, d = .own h ∧ S2[h]? = some (.ins C fs) ∧ fs.length < 1000 ∧ E.nx Γ (S2.set h (.ins C (putD f y fs)))) E.er) E.er) := rfl
theorem dFzI_e {T : TD} : dFzI T Γ S Φ Ψ = (T Γ S (fun S1 d => fzID d S1 Φ) Ψ) := rfl
theorem fzID_o {h : Nat} : fzID (.own h) S Φ = (∃ C fs, S[h]? = some (.ins C fs) ∧ Φ (S.set h .gone) (.ins C fs)) := rfl
theorem pkP_e {n : Nat} {perm : List Nat} {md ds es : List D} {sp : DSpec} : pkP n perm md sp ds es S Φ Ψ = (ds.length = n ∧ sp (pick perm (ds ++ md) es) S Φ Ψ) := rfl
theorem pkS_e {b : Bool} {a : Nat} {perm : List Nat} {md ds es : List D} {sp : DSpec} : pkS b a perm md sp ds es S Φ Ψ = ((ds.take a).length = a ∧ (b = false → ds.drop a = []) ∧ (ds.drop a).length ≤ sizeLine ∧ sp (pick perm (ds.take a ++ md) es ++ [.tup (ds.drop a)]) S Φ Ψ) := rfl
theorem asI_i {C : Addr} {fs : List (Str × D)} : asI S (.ins C fs) = some (C, fs) := rfl
end
end DL
namespace DL
open PySem PySem.Spec PyProof.Rows L2
/-- an object that is known from here on -/
abbrev known (oe : Obj) : HO := .frz oe (.ext fun _ => True)
section
variable {X : Cx} {σ : L2.St} {H : Hp} {s : Shared} {a : Addr} {oe : Obj} {pl : List (Addr × Obj)} {pins : List (Addr × Obj)}
theorem taken_up (I : Inv (X.suite a ((a, oe) :: (X.pn ++ pins))) [] σ H s) (ok : X.Ok) (h0 : X.s_0.heap.get? a = none) (hp : ∀ p ∈ X.pn ++ pins, p.1 ≠ a) : Inv X pins σ (upd H a (known oe)) s := by
  have pin_a := I.pin (a, oe) List.mem_cons_self
  obtain ⟨ga, na, nL, -, nc⟩ := pin_a
  have ga : s.heap.get? a = some oe := ga
  have na : H a = none := na
  have ne : ∀ b u, H b = some u → b ≠ a := fun b u e z => by rw [z, na] at e; cases e
  have up : ∀ b u, H b = some u → upd H a (known oe) b = some u := fun b u e => by rw [upd_ne (ne b u e)]; exact e
  have B := I.base
  refine ⟨ok, I.os, I.bare, ⟨B.keep, B.slot, ?_, B.there, ?_, ?_, ?_⟩, I.loc, I.cell, ?_, ?_, ?_, ?_, I.len⟩
  · intro b o e n x
    have z : b ≠ a := fun z => by rw [z, h0] at e; cases e
    rw [upd_ne z]
    exact B.free b o e n x
  · exact fun b xs e => up _ _ (B.tups b xs e)
  · exact fun b o u e => up _ _ (B.frzs b o u e)
  · intro b ps e
    obtain ⟨m, q⟩ := B.tbls b ps e
    exact ⟨m, up _ _ q⟩
  · have z : X.env.locals ≠ a := Ne.symm nL
    rw [upd_ne z]
    exact I.free
  · intro x c e
    have z : c ≠ a := fun z => by
      obtain ⟨v, q⟩ := I.cell x c e
      rw [z] at q
      obtain ⟨o, e1, e2⟩ := q
      rw [ga] at e1
      cases e1
      exact nc _ e2
    rw [upd_ne z]
    exact I.freeC x c e
  · intro p hm
    obtain ⟨h1, h2, h3, h4, h5⟩ := I.pin p (List.mem_append_left [] (List.mem_cons_of_mem _ hm))
    refine ⟨h1, ?_, h3, h4, h5⟩
    rw [upd_ne (hp p hm)]
    exact h2
  · intro b u e
    by_cases z : b = a
    · subst z
      rw [upd_same] at e
      cases e
      exact ⟨ga, trivial, ⟨oe, ga⟩, fun _ _ _ _ => trivial⟩
    · rw [upd_ne z] at e
      exact (I.hok b u e).stay (fun _ _ _ q => q) (fun c q => up _ _ q) fun c xs q => up _ _ q
end
/-- try: e / except c as n: y = n; all that e raises is of the classes Cs -/
def sKeep (Cs : List Addr) (i j : Nat) (T : TD) : TSd := fun E Γ S => T Γ S (fun S1 _ => E.nx Γ S1) (fun S1 x => x.cls ∈ Cs ∧ i < Γ.length ∧ E.nx (((Γ.set i (some (.exc x.cls x.fs))).set j (some (.exc x.cls x.fs))).set i none) S1)
end DL
namespace DL
open PySem PySem.Spec PyProof.Rows L2
/-- what the class D must say, so that isinstance asks its instances rightly -/
structure ExcT (K : PySem.W.Frag) (D : Addr) : Prop where
  cl : (PySem.W.clsIn K D).isSome = true
  ga : PySem.W.findIn K (.ref D) "__getattribute__" = some (some (.builtin "BaseException.__getattribute__"))
  gt : PySem.W.findIn K (.ref D) "__getattr__" = some none
  sub : PySem.W.subIn K (.ref D) (.type "BaseException") = some true
  ha : PySem.W.findIn K (.ref D) "__class__" = some (some (.builtin "object.__class__"))
  hn : PySem.W.specialIn K (.builtin "object.__class__") "__get__" = some (some (.builtin "getset_descriptor.__get__"))
  tk : PySem.W.takesIn K (.builtin "object.__class__") = some true
  mo : PySem.W.mroIn K D (.type "object") = some true
/-- a kept exception of the class D -/
def ExAt (H : Hp) (a D : Addr) : Prop := ∃ oe u, H a = some (.frz oe u) ∧ oe.cls = .ref D ∧ (∃ vs, oe.data = .fields vs) ∧ (oe.dict = none ∨ ∃ dx vs, oe.dict = some dx ∧ H dx = some (.xd vs))
def rIsX (K : PySem.W.Frag) : List V → Hp → VK → Prop := fun xs H Q => ∃ a D c b, xs = [.ref a, c] ∧ ExAt H a D ∧ ExcT K D ∧ Q (.bl b) H ∧
  ((∃ cv, ClsV c cv ∧ PySem.W.kitOne K (.ref D) cv = some b) ∨ ∃ tp cs cvs, c = .ref tp ∧ SqT K H tp cs ∧ Paired ClsV cs cvs ∧ PySem.W.kitAny K (.ref D) cvs = some b)
theorem call_isX {X : Cx} : CallR X (.builtin "isinstance") (rIsX X.K) := by
  intro pins s σ H xs us Q I r h
  obtain ⟨a, D, c, b, rfl, ⟨oe, u, h1, h2, ⟨vs, h3⟩, h4⟩, C, q, hc⟩ := h
  obtain ⟨u1, u2, rfl, r1, r2⟩ := vals2 r
  cases (show u1 = Value.ref a from r1)
  have ga : s.heap.get? a = some oe := (show ObjOk X.prog X.w H s.heap a (.frz oe u) from I.hok a _ h1).1
  have inst : ∃ od, PySem.W.InstAt s.heap a oe D od := by
    have nc : PySem.W.notCls oe = true := by unfold PySem.W.notCls; rw [h3]
    rcases h4 with h4 | ⟨dx, ws, h4, h5⟩
    · exact ⟨none, ga, h2, nc, by rw [h4]; trivial⟩
    · obtain ⟨mA, ⟨od, es, ep, e1, _⟩, _⟩ := (show ObjOk X.prog X.w H s.heap dx (.xd ws) from I.hok dx _ h5)
      exact ⟨some od, ga, h2, nc, by rw [h4]; exact e1⟩
  obtain ⟨od, J⟩ := inst
  have kx := PySem.W.kitx_exc (K := X.K) (x := a) (C := D) (ox := oe) (od := od) C.cl C.ga C.gt C.sub C.ha C.hn C.tk C.mo
  rcases hc with ⟨cv, k, e⟩ | ⟨tp, cs, cvs, rfl, ht, k, e⟩
  · obtain rfl := k.eq r2
    exact PySem.W.kia_one kx I.kIn J e (fun z => nomatch z) fun tk => ⟨.bl b, H, I.tok tk, rfl, q⟩
  · cases (show u2 = Value.ref tp from r2)
    obtain ⟨its, rv, ⟨o, g1, g2, n, g3⟩, _⟩ := I.tuple ht
    obtain rfl := ClsV.all k rv
    obtain ⟨oc, odi, dt, sl⟩ := o
    simp only at g2 g3
    subst g2 g3
    exact PySem.W.kia_tup kx I.kIn J g1 e (fun z => nomatch z) fun tk => ⟨.bl b, H, I.tok tk, rfl, q⟩
/-- the table's answers for a tuple of classes -/
def tabAll (tab : List (Addr × D × Bool)) (C : Addr) : List D → List Bool → Prop
  | [], [] => True
  | c :: cs, b :: bs => (C, c, b) ∈ tab ∧ tabAll tab C cs bs
  | _, _ => False
/-- isinstance(x, c) and isinstance(x, (c, ..)), x a kept exception: (its class, c, the answer) in the table -/
def cIsX (tab : List (Addr × D × Bool)) (ds : List D) (S : Sto) (Φ : KD) : Prop := ∃ C fs c, ds = [.exc C fs, c] ∧ ((∃ b, (C, c, b) ∈ tab ∧ Φ S (.bl b)) ∨ ∃ cs bs, c = .tup cs ∧ cs ≠ [] ∧ tabAll tab C cs bs ∧ Φ S (.bl (bs.any id)))
def clsVal : D → Option Value
  | .obj C => some (.ref C)
  | .ty n => some (.type n)
  | _ => none
structure IsXF (K : PySem.W.Frag) (q : Addr × D × Bool) : Prop where
  c : ExcT K q.1
  v : ∃ cv, clsVal q.2.1 = some cv ∧ PySem.W.kitOne K (.ref q.1) cv = some q.2.2
theorem clsv_of {K : PySem.W.Frag} {w : Hs} {v : V} {c : D} {cv : Value} (r : Rv K w v c) (e : clsVal c = some cv) : ClsV v cv := by
  cases c with
  | obj C => cases r; cases e; exact .own C
  | ty n => cases r; cases e; exact .ty n
  | _ => cases e
theorem kit_any {K : PySem.W.Frag} {w : Hs} {tab : List (Addr × D × Bool)} (c : ∀ q ∈ tab, IsXF K q) {C : Addr} : ∀ {cs : List D} {bs : List Bool} {vs : List V}, tabAll tab C cs bs → Ra K w vs cs → ∃ cvs, Paired ClsV vs cvs ∧ PySem.W.kitAny K (.ref C) cvs = some (bs.any id)
  | [], [], _, _, r => by cases r; exact ⟨[], .nil, rfl⟩
  | d :: cs, b :: bs, _, ⟨h1, h2⟩, r => by
    cases r with
    | cons r1 r2 =>
      obtain ⟨cvs, p, e⟩ := kit_any c h2 r2
      obtain ⟨_, cv, e1, e2⟩ := c _ h1
      refine ⟨cv :: cvs, .cons (clsv_of r1 e1) p, ?_⟩
      rw [PySem.W.kitAny, e2]
      cases b
      · exact e
      · rfl
  | [], _ :: _, _, h, _ => h.elim
  | _ :: _, [], _, h, _ => h.elim
theorem cd_isX {K : PySem.W.Frag} {tab : List (Addr × D × Bool)} (c : ∀ q ∈ tab, IsXF K q) : CallD K (rIsX K) (cIsX tab) := fun w S vs ds Φ Q g r ⟨C, fs, cd, ed, h⟩ q => by
  subst ed
  obtain ⟨v, u, rfl, r1, r2⟩ := two_of r
  have at_ : ∃ a, v = .ref a ∧ ExAt w.H a C := by
    cases r1 with
    | exc0 k1 k2 k0 k3 => exact ⟨_, rfl, _, _, g.sub _ _ k1, k2, k0, .inl k3⟩
    | excD k1 k2 k0 k3 k4 _ => exact ⟨_, rfl, _, _, g.sub _ _ k1, k2, k0, .inr ⟨_, _, k3, g.sub _ _ k4⟩⟩
  obtain ⟨a, rfl, at_⟩ := at_
  rcases h with ⟨b, hm, h⟩ | ⟨cs, bs, rfl, hne, hm, h⟩
  · obtain ⟨k, cv, e1, e2⟩ := c _ hm
    exact ⟨a, C, u, b, rfl, at_, k, q _ _ w S (Ext.refl w) g (.bl b) h, .inl ⟨cv, clsv_of r2 e1, e2⟩⟩
  · have k : ExcT K C := by
      match cs, bs, hm with
      | _ :: _, _ :: _, hm => exact (c _ hm.1).c
      | [], [], _ => exact absurd rfl hne
    cases r2 with
    | tup k1 k2 =>
      obtain ⟨cvs, p, e⟩ := kit_any c hm k2
      exact ⟨a, C, _, _, rfl, at_, k, q _ _ w S (Ext.refl w) g (.bl _) h, .inr ⟨_, _, cvs, rfl, sameSqt g.sub k1, p, e⟩⟩
end DL
namespace DL
open PySem PySem.Spec PyProof.Rows L2
/-- C() -/
def dMk0 (C : Addr) : TD := fun _ S Φ _ => Φ (S ++ [.ins C []]) (.own S.length)
end DL
namespace DL
open PySem PySem.Spec PyProof.Rows L2
def dSlS (d : D) (lo hi : Option Int) (S : Sto) (Φ : KD) : Prop := ∃ z, d = .str z ∧ z.length ≤ sizeLine ∧ Φ S (.str (cutS z lo hi))
/-- tuple(x), x a list -/
def cTup (ds : List D) (S : Sto) (Φ : KD) : Prop := match ds with
  | [d] => ∃ xs, asQ S d = some xs ∧ Φ S (.tup xs)
  | _ => False
theorem cd_tup {K : PySem.W.Frag} : CallD K (fun xs H Q => ∃ p ys, xs = [.ref p] ∧ ((SqL K H p ys ∧ ∀ l, H l = none → Q (.ref l) (upd H l (.tup ys))) ∨ (SqT K H p ys ∧ Q (.ref p) H))) cTup := fun w S vs ds Φ Q g r h q => by
  match ds, h with
  | [d], ⟨xs, e, h⟩ =>
    cases r with
    | cons r1 r2 =>
      cases r2
      obtain ⟨a, ys, rfl, hs, ra⟩ := asQ_at g r1 e
      exact ⟨a, ys, rfl, .inl ⟨hs, fun l hl => q _ _ _ S (Ext.frz g _ hl) (g.frz _ hl) (.tup (.inl (.inl upd_same)) ((Ext.frz g _ hl).ra ra)) h⟩⟩
end DL
namespace DL
open PySem PySem.Spec PyProof.Rows L2
section
variable {K : PySem.W.Frag} {x y f : Str}
open He
def bExm (x y : Str) : FaX := fun K => decide (PySem.W.exmOne K (.ref (ga K x)) (.ref (ga K y)) = some true)
theorem bExm_ok (h : bExm x y K = true) : PySem.W.exmOne K (.ref (ga K x)) (.ref (ga K y)) = some true := of_decide_eq_true h
def bExT (x : Str) : FaX := fun K => (PySem.W.clsIn K (ga K x)).isSome && (eqO (PySem.W.findIn K (.ref (ga K x)) "__getattribute__") (some (some (.builtin "BaseException.__getattribute__"))) && (eqO (PySem.W.findIn K (.ref (ga K x)) "__getattr__") (some none) && (decide (PySem.W.subIn K (.ref (ga K x)) (.type "BaseException") = some true) &&
  (eqO (PySem.W.findIn K (.ref (ga K x)) "__class__") (some (some (.builtin "object.__class__"))) && (eqO (PySem.W.specialIn K (.builtin "object.__class__") "__get__") (some (some (.builtin "getset_descriptor.__get__"))) && (decide (PySem.W.takesIn K (.builtin "object.__class__") = some true) && decide (PySem.W.mroIn K (ga K x) (.type "object") = some true)))))))
theorem bExT_ok (h : bExT x K = true) : ExcT K (ga K x) := by
  obtain ⟨h1, h⟩ := ba h
  obtain ⟨h2, h⟩ := ba h
  obtain ⟨h3, h⟩ := ba h
  obtain ⟨h4, h⟩ := ba h
  obtain ⟨h5, h⟩ := ba h
  obtain ⟨h6, h⟩ := ba h
  obtain ⟨h7, h8⟩ := ba h
  exact ⟨h1, eqO_ok h2, eqO_ok h3, of_decide_eq_true h4, eqO_ok h5, eqO_ok h6, of_decide_eq_true h7, of_decide_eq_true h8⟩
def bKitT (x : Str) (n : String) (b : Bool) : FaX := fun K => decide (PySem.W.kitOne K (.ref (ga K x)) (.type n) = some b)
theorem isx_own {b : Bool} (h1 : bExT x K = true) (h2 : bKit x y b K = true) : IsXF K (ga K x, .obj (ga K y), b) := ⟨bExT_ok h1, _, rfl, bKit_ok h2⟩
theorem isx_ty {n : String} {b : Bool} (h1 : bExT x K = true) (h2 : bKitT x n b K = true) : IsXF K (ga K x, .ty n, b) := ⟨bExT_ok h1, _, rfl, of_decide_eq_true h2⟩
/-- a text; a tuple of texts -/
def isS (s : Str) : Value → Bool
  | .str z _ => z == s
  | _ => false
def areS : List Str → List Value → Bool
  | [], [] => true
  | s :: r, u :: q => isS s u && areS r q
  | _, _ => false
def isT (K : PySem.W.Frag) (ss : List Str) : Value → Bool
  | .ref a => match K.lookup a with
    | some ⟨.type "tuple", _, .seq its _, _⟩ => decide (its.size ≤ 1000) && areS ss its.toList
    | _ => false
  | _ => false
theorem isS_ok {s : Str} {u : Value} (h : isS s u = true) : RelV (.str s) u := by
  cases u <;> first | (cases h; done) | skip
  rename_i z t
  have : z = s := beq_iff_eq.mp h
  subst this
  exact ⟨t, rfl⟩
theorem areS_ok {K : PySem.W.Frag} : ∀ {ss : List Str} {us : List Value}, areS ss us = true → Vals (ss.map V.str) us
  | [], [], _ => .nil
  | s :: r, u :: q, h => .cons (isS_ok (ba h).1) (areS_ok (K := K) (ba h).2)
  | [], _ :: _, h => by cases h
  | _ :: _, [], h => by cases h
theorem isT_ok {ss : List Str} {u : Value} (h : isT K ss u = true) : ∃ a, u = .ref a ∧ ∀ H : Hp, SqT K H a (ss.map V.str) := by
  unfold isT at h
  split at h
  · split at h
    · rename_i a _ dd its n sl e
      obtain ⟨h1, h2⟩ := ba h
      refine ⟨_, rfl, fun H => .inr ⟨_, its, n, e, rfl, rfl, ?_, areS_ok (K := K) h2⟩⟩
      exact Nat.le_trans (of_decide_eq_true h1) (by decide)
    · cases h
  · cases h
theorem rv_tupS {w : Hs} {a : Addr} {ss : List Str} (h : ∀ H : Hp, SqT K H a (ss.map V.str)) : Rv K w (.ref a) (.tup (ss.map D.str)) := by
  refine .tup (h _) ?_
  clear h
  induction ss with
  | nil => exact .nil
  | cons s r ih => exact .cons (.str s) ih
def cvOf (K : PySem.W.Frag) (x f : Str) (p : Value → Bool) : Bool := match PySem.W.findCls K (.ref (ga K x)) (.type "type") f with
  | some (.val u) => p u
  | _ => false
theorem cvOf_ok {p : Value → Bool} (h : cvOf K x f p = true) : ∃ u, p u = true ∧ ∀ v, RelV v u → ClX.CVal K (ga K x) (.type "type") f v u := by
  unfold cvOf at h
  split at h
  · rename_i u e
    exact ⟨u, h, fun v r => ⟨e, r⟩⟩
  · cases h
def bCVT (x f : Str) (ss : List Str) : FaX := fun K => bCRd x K && cvOf K x f (isT K ss)
theorem bCVT_ok {ss : List Str} (h : bCVT x f ss K = true) : CValF K (ga K x) f (.tup (ss.map D.str)) := by
  obtain ⟨h1, h2⟩ := ba h
  obtain ⟨u, h3, h4⟩ := cvOf_ok h2
  obtain ⟨a, rfl, h5⟩ := isT_ok h3
  exact ⟨_, .ref a, _, bCRd_ok h1, h4 _ rfl, fun w => rv_tupS h5⟩
end
end DL
namespace DL
open PySem PySem.Spec PyProof.Rows L2
section
variable {Γ : Gam} {S : Sto} {Φ : KD} {Ψ : KX}
theorem dMk0_e {C : Addr} : dMk0 C Γ S Φ Ψ = Φ (S ++ [.ins C []]) (.own S.length) := rfl
theorem sKeep_e {E : EdD} {Cs : List Addr} {i j : Nat} {T : TD} : sKeep Cs i j T E Γ S = T Γ S (fun S1 _ => E.nx Γ S1) (fun S1 x => x.cls ∈ Cs ∧ i < Γ.length ∧ E.nx (((Γ.set i (some (.exc x.cls x.fs))).set j (some (.exc x.cls x.fs))).set i none) S1) := rfl
theorem dCVal_e {tab : List (Addr × D)} {f : Str} {T : TD} : dCVal tab f T Γ S Φ Ψ = T Γ S (fun S1 d => ∃ C, d = .obj C ∧ ∃ y, (C, y) ∈ tab ∧ Φ S1 y) Ψ := rfl
theorem dConI_e {tab : List (Addr × D)} {f : Str} {T : TD} : dConI tab f T Γ S Φ Ψ = T Γ S (fun S1 d => ∃ C fs, asI S1 d = some (C, fs) ∧ fs.lookup f = none ∧ ∃ y, (C, y) ∈ tab ∧ Φ S1 y) Ψ := rfl
theorem cLen_s {z : Str} : cLen [.str z] S Φ = (z.length ≤ sizeLine ∧ Φ S (.int z.length)) := rfl
theorem dIx_s {z : Str} {i : Int} : dIx (.str z) (.int i) S Φ = (z.length ≤ sizeLine ∧ ∃ c, atI z.cps.toList i = some c ∧ Φ S (.str ⟨#[c]⟩)) := rfl
theorem dSlS_s {z : Str} {lo hi : Option Int} : dSlS (.str z) lo hi S Φ = (z.length ≤ sizeLine ∧ Φ S (.str (cutS z lo hi))) := propext ⟨fun ⟨_, e, h1, h2⟩ => by cases e; exact ⟨h1, h2⟩, fun h => ⟨z, rfl, h.1, h.2⟩⟩
theorem dAdd_s {a b : Str} : dAdd (.str a) (.str b) S Φ = (a.length + b.length ≤ sizeLine ∧ Φ S (.str (a ++ b))) := rfl
theorem cTup_l {ds : List D} : cTup [.lst ds] S Φ = Φ S (.tup ds) := propext ⟨fun ⟨_, e, h⟩ => by cases e; exact h, fun h => ⟨ds, rfl, h⟩⟩
end
end DL
namespace DL
open PySem PySem.Spec PyProof.Rows L2
section
variable {X : Cx} {W : WX} {o e : Expr} {to te : TE} {To Te : TD}
def dM1 (f : D → List D → Sto → KD → Prop) (To Te : TD) : TD := fun Γ S Φ Ψ => To Γ S (fun S1 d => (∃ a, d = .str a) ∧ Te Γ S1 (fun S2 y => f d [y] S2 Φ) Ψ) Ψ
def mSplit (d : D) (ds : List D) (S : Sto) (Φ : KD) : Prop := ∃ a b, d = .str a ∧ ds = [.str b] ∧ (b.length == 0) = false ∧ a.length + 2 ≤ sizeLine ∧ Φ S (.lst ((Txt.split a b).map D.str))
def cIntS (ds : List D) (S : Sto) (Φ : KD) : Prop := ∃ a n, ds = [.str a] ∧ PySem.intText? a = some n ∧ a.length ≤ 640 ∧ Φ S (.int n)
def cStrI (ds : List D) (S : Sto) (Φ : KD) : Prop := ∃ i : Int, ds = [.int i] ∧ i.natAbs.log2 < 1920 ∧ Φ S (.str (toString i))
def dSign (neg : Bool) (x y : D) (S : Sto) (Φ : KD) : Prop := ∃ (c : Nat) (z : Str), x = .str ⟨#[c]⟩ ∧ y = .str z ∧ Φ S (.bl (if neg then !decide (c ∈ z.cps.toList) else decide (c ∈ z.cps.toList)))
def signsD (z : Str) : List D := z.cps.toList.map fun c => D.str ⟨#[c]⟩
def iStrD (T : TD) : TId := fun Γ S Φ Ψ => T Γ S (fun S1 d => ∃ z, d = .str z ∧ Φ S1 (fun _ => some (signsD z))) Ψ
end
end DL
namespace DL
open PySem PySem.Spec PyProof.Rows L2
section
variable {X : Cx} {W : WX} {c : Expr} {body : List Stmt} {pos : Pos} {tt : TT} {tb : TS} {C : TB} {B : TSd}
theorem sem_while {K : PySem.W.Frag} (hc : SemT K W tt C) (hb : SemS K W tb B) : SemS K W (tWhile tt tb) (sWhile C B) := fun D' Γ S σ w D g sl ⟨P, ⟨m0, h0⟩, hs⟩ r => by
  refine ⟨fun m σ' H' => ∃ w' Γ' S', H' = w'.H ∧ Ext w w' ∧ Good K w' S' ∧ Slots K w' σ' Γ' ∧ P m Γ' S', ⟨m0, w, Γ, S, rfl, Ext.refl w, g, sl, h0⟩, ?_⟩
  rintro m σ' H' ⟨w', Γ', S', rfl, e', g', sl', p⟩
  refine hc Γ' S' _ _ σ' w' g' sl' (hs m Γ' S' p) ((r.ext e').er σ') _ fun k w2 S2 e2 g2 h2 => ?_
  have e02 := e'.trans e2
  cases k with
  | false => exact r.nx σ' Γ' w2 S2 e02 g2 (sl'.ext e2) h2
  | true =>
    refine ⟨fun σ3 H3 => ∃ m', m' < m ∧ ∃ w3 Γ3 S3, H3 = w3.H ∧ Ext w w3 ∧ Good K w3 S3 ∧ Slots K w3 σ3 Γ3 ∧ P m' Γ3 S3, fun _ _ x => x, ?_⟩
    have step : OkN K w2 (fun Γ2 S2 => ∃ m', m' < m ∧ P m' Γ2 S2) (fun σ3 H3 => ∃ m', m' < m ∧ ∃ w3 Γ3 S3, H3 = w3.H ∧ Ext w w3 ∧ Good K w3 S3 ∧ Slots K w3 σ3 Γ3 ∧ P m' Γ3 S3) :=
      fun σ3 Γ3 w3 S3 e3 g3 sl3 ⟨m', l, hp⟩ => ⟨m', l, w3, Γ3, S3, rfl, e02.trans e3, g3, sl3, hp⟩
    have r2 := r.ext e02
    exact hb _ Γ' S2 σ' w2 _ g2 (sl'.ext e2) h2 ⟨step, r2.rt, r2.nx, step, r2.er⟩
theorem js_while (hp : PassesOwn (model X.prog X.w) X.A X.env X.xe) (hc : JT X W c tt C) (hb : JB X W body tb B) : JS X W (.While c body [] pos) (tWhile tt tb) (sWhile C B) := ⟨ps_while hp hc.pt hb.pss, sem_while hc.sem hb.sem⟩
theorem sWhile_e {D : EdD} {Γ : Gam} {S : Sto} : sWhile C B D Γ S = ∃ P : Nat → Gam → Sto → Prop, (∃ m, P m Γ S) ∧ ∀ m Γ' S', P m Γ' S' → C Γ' S' (fun S1 k => if k = true then B { D with nx := fun Γ2 S2 => ∃ m', m' < m ∧ P m' Γ2 S2, ct := fun Γ2 S2 => ∃ m', m' < m ∧ P m' Γ2 S2, bk := D.nx } Γ' S1 else D.nx Γ' S1) D.er := rfl
end
end DL
namespace DL
open PySem PySem.Spec PyProof.Rows L2
/-- B.__init__ is ValueError's -/
structure VeB (K : PySem.W.Frag) (B : Addr) : Prop where
  rd : PySem.W.readsIn K B (.type "type") = true
  ga : PySem.W.specialIn K (.ref B) "__getattribute__" = some (some (.builtin "type.__getattribute__"))
  at_ : PySem.W.findCls K (.ref B) (.type "type") "__init__" = some (.val (.builtin "ValueError.__init__"))
section
variable {X : Cx} {e : Expr} {es : List Expr} {ta : TA} {x : Str} {B : Addr} {p1 p2 pos : Pos}
theorem pe_vbinit {pl : Sem Bool} (c : VeB X.K B) (hg : Gl X x) (hm : X.mg x = some (.ref B)) (ha : PA X (e :: es) ta) (hdb : (x == ("__debug__" : Str)) = false := by decide)
    (hc : eval (.Call (.Attribute (.Name x p1) "__init__" p2) (e :: es) [] pos) X.env = (do
      let bv ← eval (.Name x p1) X.env
      standAt p2.atName
      let (g, fst) ← holding [bv] (getMethod bv "__init__" pl)
      callWith pos g fst (backTo pos (starEach (e :: es) X.env)) (backToKw pos (keywordEach [] X.env))) := by rfl)
    (he : starEach (e :: es) X.env = (false, eval e X.env) :: starEach es X.env := by rfl) (hpl : (backTo pos (starEach es X.env)).any (·.1) = false := by rfl) :
    PE X (.Call (.Attribute (.Name x p1) "__init__" p2) (e :: es) [] pos) (tVeI X.K ta) := by
  constructor
  intro pins s σ H Q I h
  refine PySem.W.methodCall_KW (ld_glob I hg hm ?_ hdb) hc
  refine PySem.W.method_cls I.kIn c.ga (PySem.W.cls_value I.kIn c.rd c.at_ (by decide +kernel) ?_)
  show wpAny _ _ (callWith pos (Value.builtin "ValueError.__init__") [] (backTo pos (starEach (e :: es) X.env)) []) _ _ _
  refine PyProof.Rows.callWith_method1 (thn (ha.run pos pins _ σ H _ (I.tok _) h) fun us s1 ⟨vs, H1, I1, r1, a, C, ws, ev, hl, T, ea, q⟩ => ?_) he hpl
  subst ev
  cases r1 with
  | @cons _ u0 _ ur ra rw' =>
    obtain rfl : u0 = Value.ref a := ra
    have n : ur.length ≤ sizeLine := by
      have := Paired.length rw'
      have := small (n := ws.length) (by omega)
      omega
    exact oinit_ok T I1 ea n fun s' J => ⟨.non, H1, J, rfl, q⟩
end
/-- what an __init__ that keeps one field promises -/
def spI (C : Addr) (f : Str) : Sp := fun vs H Q _ => ∃ a y, vs = [.ref a, y] ∧ H a = some (exo a C none) ∧ ∀ dx, H dx = none → dx ≠ a → Q .non (upd (upd H dx (exd dx [(f, y)])) a (exo a C (some dx)))
/-- the reading of: B.__init__(self, 'm'); self.f = at -/
abbrev tIni (K : PySem.W.Frag) (f m : Str) : TS := tSeq (tDrop (tVeI K (tCons (tVar 0) (tCons (tC (.str m)) tNil)))) (tOst K f (tVar 0) (tVar 1))
section
variable {P : Program} {w : World} {K : PySem.W.Frag} {mg : Str → Option Value} {base : Heap} {k : Nat} {f : Addr} {name qual at_ fld m : Str} {params : Arguments} {body : List Stmt} {scope : Scope} {dV kV doc pm cdv ct oc : Value} {an od : Option Addr} {osl : Array (Option Value)} {C : Addr} {CX : CXT}
theorem init_ok (T : OexC K C) (hf : PySem.W.findIn K (.ref C) fld = some none) (lk : K.lookup f = some ⟨oc, od, .func (PySem.W.fnOf name qual params body scope dV kV doc pm an cdv ct), osl⟩) (hcd : PySem.W.codeIn K cdv qual = true) (S : FnScope ["self", at_] ["self", at_] scope)
    (hbody : ∀ (A : Around) (outer : List Env) (s : Shared) (H : Hp) (E : XK), Room k (A.deeper (envOfC qual scope s.heap.objs.size f cdv)) → PSs (cxOf CX P w K mg base ["self", at_] qual scope f cdv A outer s H E) body (tIni K fld m)) :
    FnOk P w K mg base CX (k + 1) f (PySem.W.fnOf name qual params body scope dV kV doc pm an cdv ct) ["self", at_] (spI C fld) := by
  refine fn_of lk hcd S (fun vs H Q E ⟨a, y, e, _⟩ => by rw [e]; rfl) fun A outer s H vs Q E hr ⟨a, y, e, ha, q⟩ => ⟨_, hbody A outer s H E hr, ?_⟩
  subst e
  refine ⟨.ref a, rfl, a, C, [.str m], rfl, (show 1 ≤ 1000 by decide), T, ha, ?_⟩
  exact ⟨y, rfl, .ref a, rfl, a, C, rfl, T, hf, .inl ⟨ha, fun dx h1 h2 => q dx h1 h2⟩⟩
end
def sRaiseI (C : Addr) (f : Str) (T : TD) : TSd := fun D Γ S => T Γ S (fun S1 d => D.er S1 ⟨C, [(f, d)]⟩) D.er
section
variable {X : Cx} {W : WX} {x fld : Str} {C fI : Addr} {k : Nat} {fd : FuncData} {ps : List Str} {e : Expr} {te : TE} {Te : TD} {p pos pos2 : Pos} {P : Program} {wd : World}
theorem sem_raiseI {K : PySem.W.Frag} (he : SemE K W te Te) : SemS K W (fun _ σ H => tMkO C (spI C fld) [] (tCons te tNil) σ H fun cls d H' => W cls d σ H') (sRaiseI C fld Te) := fun D' Γ S σ w D g sl h r => by
  refine he Γ S _ _ σ w g sl h (r.er σ) _ fun y dy w1 S1 e1 g1 r1 h1 => ?_
  refine ⟨(show 1 ≤ 1000 by decide), fun a ha => ⟨a, y, rfl, upd_same, fun dx hdx ne => ?_⟩⟩
  have hd : w1.H dx = none := by rw [upd_ne ne] at hdx; exact hdx
  refine ⟨rfl, dx, [(fld, y)], upd_same, by rw [upd_ne ne, upd_same], hd, ?_⟩
  have eH : upd (del (upd (upd (upd w1.H a (exo a C none)) dx (exd dx [(fld, y)])) a (exo a C (some dx))) a) dx (.xd [(fld, y)]) = upd w1.H dx (.xd [(fld, y)]) := by
    funext b
    by_cases hb : b = dx
    · rw [hb, upd_same, upd_same]
    · rw [upd_ne hb, upd_ne hb]
      by_cases hba : b = a
      · rw [hba, del_same, ha]
      · rw [del_ne hba, upd_ne hba, upd_ne hb, upd_ne hba]
  rw [eH]
  have e2 : Ext w1 (w1.frz dx (.xd [(fld, y)])) := Ext.frz g1 _ hd
  exact r.er σ (.ref C) (some dx) ⟨C, [(fld, dy)]⟩ (w1.frz dx (.xd [(fld, y)])) S1 (e1.trans e2) (g1.frz _ hd) ⟨rfl, _, upd_same, .cons (e2.rp r1) .nil⟩ h1
theorem js_raiseI (hc : X.calm = true) (tk : Takes X W) (T : OexC X.K C) (iC : PySem.W.findIn X.K (.ref C) "__init__" = some (some (.ref fI))) (tI : PySem.W.typeIn X.K (.ref fI) = some (.type "function"))
    (F1 : FnOk X.prog X.w X.K X.mg X.base (L2.CX X.prog X.w) k fI fd ps (spI C fld)) (hr : Room (k + 1) X.A) (hb : Binds X.K fd ps []) (hg : Gl X x) (hm : X.mg x = some (.ref C)) (he : JE X W e te Te) (hdb : (x == ("__debug__" : Str)) = false := by decide)
    (hs : starEach [e] X.env = (false, eval e X.env) :: starEach [] X.env := by rfl) :
    JS X W (.Raise (some (.Call (.Name x p) [e] [] pos2)) none pos) (fun _ σ H => tMkO C (spI C fld) [] (tCons te tNil) σ H fun cls d H' => W cls d σ H') (sRaiseI C fld Te) :=
  ⟨ps_raise hc tk (pmk_oex (ds := []) T iC tI F1 hr hb .nil (passes_call tk fun _ _ _ _ z => z.elim) hg hm (pa_cons he.pe pa_nil hs) hdb hs), sem_raiseI he.sem⟩
end
end DL
namespace DL
open PySem PySem.Spec PyProof.Rows L2
structure XFldF (K : PySem.W.Frag) (D : Addr) (f : Str) : Prop where
  t : ExcT K D
  hd : PySem.W.hasDictIn K D = true
  no : PySem.W.findIn K (.ref D) f = some none
def tXFld (K : PySem.W.Frag) (ta : TE) (f : Str) : TE := fun σ H Q => ta σ H fun x H1 => ∃ (a D : Addr) (oe : Obj) (u : HO) (dx : Addr) (vs : List (Str × V)) (v : V), x = .ref a ∧ H1 a = some (.frz oe u) ∧ oe.cls = .ref D ∧ (∃ ws, oe.data = .fields ws) ∧ oe.dict = some dx ∧ H1 dx = some (.xd vs) ∧ XFldF K D f ∧ vs.lookup f = some v ∧ Q v H1
section
variable {X : Cx} {W : WX} {e : Expr} {te : TE} {Te : TD} {f : Str} {pos : Pos}
theorem pe_xfld (he : PE X e te) (hb : attributeBase e f X.env (eval e X.env) = eval e X.env) : PE X (.Attribute e f pos) (tXFld X.K te f) := by
  constructor
  intro pins s σ H Q I h
  refine attr_of hb (thn (he.run pins s σ H _ I h) fun u1 s1 ⟨x, H1, I1, rx, a, D, oe, u, dx, vs, v, ex, h1, h2, ⟨ws, h3⟩, h4, h5, F, l, q⟩ => ?_)
  subst ex
  obtain rfl : u1 = Value.ref a := rx
  have ga : s1.heap.get? a = some oe := (show ObjOk X.prog X.w H1 s1.heap a (.frz oe u) from I1.hok a _ h1).1
  obtain ⟨mA, n, r⟩ := (show ObjOk X.prog X.w H1 s1.heap dx (.xd vs) from I1.hok dx _ h5)
  obtain ⟨od, g2, look⟩ := lookIn_ns n
  have nc : PySem.W.notCls oe = true := by unfold PySem.W.notCls; rw [h3]
  have J : PySem.W.InstAt s1.heap a oe D (some od) := ⟨ga, h2, nc, by rw [h4]; exact g2⟩
  have ro := r f
  rw [l] at ro
  obtain ⟨y, e1, ry⟩ := RelO.some_of ro
  have lk := look f
  rw [e1] at lk
  exact PySem.HandSPX.exc_get I1.kIn J F.t.ga F.t.gt F.t.sub (PySem.W.findObj_own F.hd F.no rfl lk) (handed_of ry) ⟨v, H1, I1.tok _, ry, q⟩
/-- x.f, x a kept exception of one of the classes Cs -/
def dXFld (Cs : List Addr) (f : Str) (T : TD) : TD := fun Γ S Φ Ψ => T Γ S (fun S1 d => ∃ D fs y, d = .exc D fs ∧ D ∈ Cs ∧ fs.lookup f = some y ∧ Φ S1 y) Ψ
theorem je_xfld {Cs : List Addr} (c : ∀ D ∈ Cs, XFldF X.K D f) (he : JE X W e te Te) (hb : attributeBase e f X.env (eval e X.env) = eval e X.env := by rfl) : JE X W (.Attribute e f pos) (tXFld X.K te f) (dXFld Cs f Te) :=
  ⟨pe_xfld he.pe hb, fun Γ S Φ Ψ σ w g sl h hx Q q => he.sem Γ S _ Ψ σ w g sl h hx _ fun v d w1 S1 e1 g1 r1 ⟨D, fs, y, ed, hD, l, h1⟩ => by
    subst ed
    cases r1 with
    | exc0 => cases l
    | excD k1 k2 k0 k3 k4 k5 =>
      obtain ⟨z, l2, rz⟩ := rf_some k5 l
      exact ⟨_, D, _, _, _, _, z, rfl, g1.sub _ _ k1, k2, k0, k3, g1.sub _ _ k4, c D hD, l2, q z y w1 S1 e1 g1 rz h1⟩⟩
end
end DL
namespace DL
open PySem PySem.Spec PyProof.Rows L2
section
variable {K : PySem.W.Frag} {C : Addr} {x y f : Str}
open He
def oexIn (K : PySem.W.Frag) (C : Addr) : Bool := match K.lookup C with
  | some ⟨.type "type", _, .cls cd, sl⟩ => (match cd.mro, sl.toList with
    | .ref D :: bm, [_, _, _, _, some (.builtin n), _] => decide (D = C) && (decide (n = "ValueError.__new__") && (!cd.hasDel && (cd.hasDict && PySem.HandSPX.refsVE bm)))
    | _, _ => false)
  | _ => false
theorem oexIn_ok (h : oexIn K C = true) : ∃ nm q N bs bm sn sub ab col dd k0 k1 k2 k3 k5, K.lookup C = some (excClassObj nm q C N bs bm true sn sub ab col dd k0 k1 k2 k3 k5 "ValueError.__new__") ∧ PySem.HandSPX.refsVE bm = true := by
  unfold oexIn at h
  split at h
  · rename_i dd cd sl e
    split at h
    · rename_i D bm k0 k1 k2 k3 n k5 e1 e2
      obtain ⟨h1, h⟩ := ba h
      obtain ⟨h2, h⟩ := ba h
      obtain ⟨h3, h⟩ := ba h
      obtain ⟨h4, h5⟩ := ba h
      have i1 := of_decide_eq_true h1
      have i2 := of_decide_eq_true h2
      have i3 : cd.hasDel = false := by simpa using h3
      clear h1 h2 h3
      obtain ⟨a1, a2, a3, a4, a5, a6, a7, a8, a9, a10, a11⟩ := cd
      dsimp only at e1 i3 h4
      subst e1 i3 h4 i1 i2
      obtain ⟨l⟩ := sl
      dsimp only at e2
      subst e2
      exact ⟨_, _, _, _, bm, _, _, _, _, _, _, _, _, _, _, e, h5⟩
    · cases h
  · cases h
def bOex (x : Str) : FaX := fun K => oexIn K (ga K x) && (eqO (PySem.W.findIn K (.ref (ga K x)) "__setattr__") (some (some (.builtin "object.__setattr__"))) && (decide (PySem.W.subIn K (.ref (ga K x)) (.type "BaseException") = some true) && (decide (PySem.W.typeIn K (.ref (ga K x)) = some (.type "type")) && PySem.W.keepIn K (.ref (ga K x)))))
theorem bOex_ok (h : bOex x K = true) : OexC K (ga K x) := by
  obtain ⟨h1, h⟩ := ba h
  obtain ⟨h2, h⟩ := ba h
  obtain ⟨h3, h⟩ := ba h
  obtain ⟨h4, h5⟩ := ba h
  exact ⟨oexIn_ok h1, eqO_ok h2, of_decide_eq_true h3, of_decide_eq_true h4, h5⟩
def bVeB (x : Str) : FaX := fun K => bCRd x K && (match PySem.W.findCls K (.ref (ga K x)) (.type "type") "__init__" with
  | some (.val (.builtin n)) => decide (n = "ValueError.__init__")
  | _ => false)
theorem bVeB_ok (h : bVeB x K = true) : VeB K (ga K x) := by
  obtain ⟨h1, h2⟩ := ba h
  obtain ⟨r1, r2⟩ := bCRd_ok h1
  split at h2
  · rename_i n e
    rw [of_decide_eq_true h2] at e
    exact ⟨r1, r2, e⟩
  · cases h2
def bXFld (x f : Str) : FaX := fun K => bExT x K && (PySem.W.hasDictIn K (ga K x) && eqO (PySem.W.findIn K (.ref (ga K x)) f) (some none))
theorem bXFld_ok (h : bXFld x f K = true) : XFldF K (ga K x) f := ⟨bExT_ok (ba h).1, (ba (ba h).2).1, eqO_ok (ba (ba h).2).2⟩
end
/-- C(e), C's own __init__ keeping the field fld -/
structure XIni (P : Program) (wd : World) (K : PySem.W.Frag) (mg : Str → Option Value) (base : Heap) (x : Str) (C : Addr) (k : Nat) (fld : Str) : Prop where
  t : OexC K C
  g : mg x = some (.ref C)
  ex : ∃ fI fd ps, PySem.W.findIn K (.ref C) "__init__" = some (some (.ref fI)) ∧ PySem.W.typeIn K (.ref fI) = some (.type "function") ∧ FnOk P wd K mg base (L2.CX P wd) k fI fd ps (spI C fld) ∧ Binds K fd ps []
theorem js_raiseX {X : Cx} {W : WX} {x fld : Str} {C : Addr} {k : Nat} {e : Expr} {te : TE} {Te : TD} {p pos pos2 : Pos} (c : XIni X.prog X.w X.K X.mg X.base x C k fld) (hc : X.calm = true) (tk : Takes X W) (hr : Room (k + 1) X.A) (hg : Gl X x) (he : JE X W e te Te) (hdb : (x == ("__debug__" : Str)) = false := by decide)
    (hs : starEach [e] X.env = (false, eval e X.env) :: starEach [] X.env := by rfl) :
    JS X W (.Raise (some (.Call (.Name x p) [e] [] pos2)) none pos) (fun _ σ H => tMkO C (spI C fld) [] (tCons te tNil) σ H fun cls d H' => W cls d σ H') (sRaiseI C fld Te) := by
  obtain ⟨fI, fd, ps, h1, h2, h3, h4⟩ := c.ex
  exact js_raiseI hc tk c.t h1 h2 h3 hr h4 hg c.g he hdb hs
theorem sRaiseI_e {C : Addr} {f : Str} {T : TD} {D : EdD} {Γ : Gam} {S : Sto} : sRaiseI C f T D Γ S = T Γ S (fun S1 d => D.er S1 ⟨C, [(f, d)]⟩) D.er := rfl
end DL
namespace DL
open PySem PySem.Spec PyProof.Rows L2
def rCntF (K : PySem.W.Frag) : V → List V → Hp → VK → Prop := fun x xs H Q => ∃ (p : Addr) (ys : List V) (y : V), x = .ref p ∧ xs = [y] ∧ SqL K H p ys ∧ flatV y = true ∧ ys.all flatV = true ∧ Q (.int (ys.countP fun z => eqV z y : Nat)) H
theorem count_eqU {x : V} : ∀ {xs : List V} {us : List Value}, Vals xs us → xs.all flatV = true → us.countP (eqU x) = xs.countP fun y => eqV y x
  | _, _, .nil, _ => rfl
  | _, _, .cons r t, f => by
    rw [List.all_cons, Bool.and_eq_true] at f
    rw [List.countP_cons, List.countP_cons, eqU_of r f.1, count_eqU t f.2]
theorem mt_cntF {X : Cx} : MtR X "list.count" (rCntF X.K) := by
  intro pins s σ H x xs v us Q I rx rxs h
  obtain ⟨p, ys, y, rfl, rfl, hs, fy, fys, q⟩ := h
  cases rx
  obtain ⟨uy, rfl, ry⟩ := rxs.one
  obtain ⟨its, rv, ⟨⟨cls, dd, data, sl⟩, n, ho, hc, hdn, hd⟩, hlen⟩ := I.list hs
  simp only at hc hd
  subst hc hd
  refine call_meets PySem.F.slot_list_count ⟨_, ho, rfl⟩ PySem.F.entry_list_count (PySem.F.args_list_count_2 _ _)
    (SeqAt.list_countAt p its.toArray n dd sl uy (eqU y)) ⟨ho, fun u' hu' => mem_eqAt ry fy rv fys u' (by simpa using hu'), ?_⟩
  have ec : its.toArray.toList.countP (eqU y) = ys.countP fun z => eqV z y := count_eqU rv fys
  refine ⟨.int (ys.countP fun z => eqV z y : Nat), H, I.tok _, ⟨s.toks, ?_⟩, q⟩
  show Value.int ((its.toArray.toList.countP (eqU y) : Nat) : Int) s.toks = Value.int ((ys.countP fun z => eqV z y : Nat) : Int) s.toks
  rw [ec]
def mCnt (d : D) (ds : List D) (S : Sto) (Φ : KD) : Prop := ∃ xs y, asQ S d = some xs ∧ ds = [y] ∧ flatD y = true ∧ xs.all flatD = true ∧ Φ S (.int (xs.countP fun z => eqD z y : Nat))
theorem count_of {K : PySem.W.Frag} {w : Hs} {x : V} {dx : D} (rx : Rv K w x dx) (hx : flatD dx = true) : ∀ {vs : List V} {ds : List D}, Ra K w vs ds → ds.all flatD = true → (vs.countP fun z => eqV z x) = ds.countP fun z => eqD z dx
  | _, _, .nil, _ => rfl
  | _, _, .cons r t, h => by
    rw [List.all_cons, Bool.and_eq_true] at h
    rw [List.countP_cons, List.countP_cons, count_of rx hx t h.2, eq_of r rx h.1 hx]
theorem mtd_cnt {K : PySem.W.Frag} : MtD K (rCntF K) mCnt := fun w S x vs d ds Φ Q g r1 r2 ⟨xs, y, e, ed, h1, h2, h⟩ q => by
  subst ed
  obtain ⟨a, ys, rfl, hs, ra⟩ := asQ_at g r1 e
  obtain ⟨v, rfl, rv⟩ := one_of r2
  exact ⟨a, ys, v, rfl, rfl, hs, flat_of rv h1, flats_of ra h2, by rw [count_of rv h1 ra h2]; exact q _ _ w S (Ext.refl w) g (.int _) h⟩
def mIdx (d : D) (ds : List D) (S : Sto) (Φ : KD) : Prop := ∃ xs y j z, asQ S d = some xs ∧ ds = [y] ∧ flatD y = true ∧ xs.all flatD = true ∧ xs[j]? = some z ∧ eqD z y = true ∧ (∀ m z', m < j → xs[m]? = some z' → eqD z' y = false) ∧ Φ S (.int (j : Nat))
theorem mtd_idx {K : PySem.W.Frag} : MtD K (rIndex K) mIdx := fun w S x vs d ds Φ Q g r1 r2 ⟨xs, y, j, z, e, ed, h1, h2, h3, h4, h5, h⟩ q => by
  subst ed
  obtain ⟨a, ys, rfl, hs, ra⟩ := asQ_at g r1 e
  obtain ⟨v, rfl, rv⟩ := one_of r2
  obtain ⟨u, hu, ru⟩ := ra.get h3
  have fl : ∀ {m : Nat} {z' : D}, xs[m]? = some z' → flatD z' = true := fun hm => List.all_eq_true.mp h2 _ (List.mem_of_getElem? hm)
  refine ⟨a, ys, v, j, u, rfl, rfl, hs, flat_of rv h1, flats_of ra h2, hu, by rw [eq_of ru rv (fl h3) h1]; exact h4, fun m z' hm hz => ?_, q _ _ w S (Ext.refl w) g (.int _) h⟩
  obtain ⟨d', hd', rd'⟩ := ra.getV hz
  rw [eq_of rd' rv (fl hd') h1]
  exact h5 m d' hm hd'
theorem RpA.dropLast {K : PySem.W.Frag} {F : Hp} {al : List Addr} {vs : List V} {ds : List D} (r : RpA K F al vs ds) : RpA K F al vs.dropLast ds.dropLast := by
  rw [List.dropLast_eq_take, List.dropLast_eq_take, r.length]
  exact r.take _
def mPop (d : D) (ds : List D) (S : Sto) (Φ : KD) : Prop := ∃ h xs y, d = .own h ∧ ds = [] ∧ S[h]? = some (.lst xs) ∧ xs[xs.length - 1]? = some y ∧ Φ (S.set h (.lst xs.dropLast)) y
section
variable {X : Cx} {W : WX} {o e : Expr} {to te : TE} {To Te : TD}
def dM0 (f : D → List D → Sto → KD → Prop) (To : TD) : TD := fun Γ S Φ Ψ => To Γ S (fun S1 d => (∃ a, d = .str a) ∧ f d [] S1 Φ) Ψ
def mUpper (d : D) (ds : List D) (S : Sto) (Φ : KD) : Prop := ∃ a, d = .str a ∧ ds = [] ∧ a.length ≤ 5592405 ∧ Φ S (.str (Txt.upper a))
def dRev (T : TD) : TD := fun Γ S Φ Ψ => T Γ S (fun S1 d => ∃ ds, asQ S1 d = some ds ∧ Φ S1 (.lst ds.reverse)) Ψ
end
/-- a new list in a cell -/
def dAddO (x y : D) (S : Sto) (Φ : KD) : Prop := ∃ xs ys, asL S x = some xs ∧ asL S y = some ys ∧ xs.length + ys.length ≤ sizeLine ∧ Φ (S ++ [.lst (xs ++ ys)]) (.own S.length)
theorem opd_addO {K : PySem.W.Frag} : OpD K rAddA dAddO := fun w S x y u v Φ Q g r1 r2 ⟨xs, ys, e1, e2, hl, hΦ⟩ q => by
  obtain ⟨a, us, rfl, h1, h2⟩ := asL_at g r1 e1
  obtain ⟨b, vs, rfl, h3, h4⟩ := asL_at g r2 e2
  exact .inr (.inr ⟨a, b, us, vs, rfl, rfl, h1, h3, by rw [h2.length, h4.length]; exact hl, new_own g q (h2.append h4) hΦ⟩)
def plainD : D → D → Bool
  | .str _, .str _ | .int _, .int _ | .non, .non | .int _, .non | .non, .int _ | .str _, .non | .non, .str _ | .int _, .str _ | .str _, .int _ | .bl _, .bl _ => true
  | _, _ => false
def dEqF (x y : D) (S : Sto) (Φ : KD) : Prop := plainD x y = true ∧ Φ S (.bl (eqD x y))
def dNeF (x y : D) (S : Sto) (Φ : KD) : Prop := plainD x y = true ∧ Φ S (.bl (!eqD x y))
theorem opd_eqF {K : PySem.W.Frag} : OpD K rEq dEqF := fun w S x y u v Φ Q g r1 r2 ⟨hp, h⟩ q => by
  cases u <;> cases v <;> first | (exact absurd hp Bool.false_ne_true) | (cases r1; cases r2; exact ⟨by rfl, by
    first | (rw [dec_str]; exact q _ _ w S (Ext.refl w) g (.bl _) h) | (rw [dec_int]; exact q _ _ w S (Ext.refl w) g (.bl _) h) | (rw [dec_bl]; exact q _ _ w S (Ext.refl w) g (.bl _) h) | (simp only [decide_true, decide_false, reduceCtorEq]; exact q _ _ w S (Ext.refl w) g (.bl _) h)⟩)
theorem opd_neF {K : PySem.W.Frag} : OpD K rNe dNeF := fun w S x y u v Φ Q g r1 r2 ⟨hp, h⟩ q => by
  cases u <;> cases v <;> first | (exact absurd hp Bool.false_ne_true) | (cases r1; cases r2; exact ⟨by rfl, by
    first | (rw [dec_str]; exact q _ _ w S (Ext.refl w) g (.bl _) h) | (rw [dec_int]; exact q _ _ w S (Ext.refl w) g (.bl _) h) | (rw [dec_bl]; exact q _ _ w S (Ext.refl w) g (.bl _) h) | (simp only [decide_true, decide_false, reduceCtorEq]; exact q _ _ w S (Ext.refl w) g (.bl _) h)⟩)
section
variable {Γ : Gam} {S : Sto} {Φ : KD} {Ψ : KX}
theorem dM1_e {f : D → List D → Sto → KD → Prop} {To Te : TD} : dM1 f To Te Γ S Φ Ψ = To Γ S (fun S1 d => (∃ a, d = .str a) ∧ Te Γ S1 (fun S2 y => f d [y] S2 Φ) Ψ) Ψ := rfl
theorem dM0_e {f : D → List D → Sto → KD → Prop} {To : TD} : dM0 f To Γ S Φ Ψ = To Γ S (fun S1 d => (∃ a, d = .str a) ∧ f d [] S1 Φ) Ψ := rfl
theorem dRev_e {T : TD} : dRev T Γ S Φ Ψ = T Γ S (fun S1 d => ∃ ds, asQ S1 d = some ds ∧ Φ S1 (.lst ds.reverse)) Ψ := rfl
theorem mSplit_s {a b : Str} : mSplit (.str a) [.str b] S Φ = ((b.length == 0) = false ∧ a.length + 2 ≤ sizeLine ∧ Φ S (.lst ((Txt.split a b).map D.str))) := propext ⟨fun ⟨_, _, e1, e2, h⟩ => by cases e1; cases e2; exact h, fun h => ⟨a, b, rfl, rfl, h⟩⟩
theorem mUpper_s {a : Str} : mUpper (.str a) [] S Φ = (a.length ≤ 5592405 ∧ Φ S (.str (Txt.upper a))) := propext ⟨fun ⟨_, e1, _, h⟩ => by cases e1; exact h, fun h => ⟨a, rfl, rfl, h⟩⟩
theorem exZ {a : Str} {P : Str → Prop} : (∃ z, D.str a = .str z ∧ P z) ↔ P a := ⟨fun ⟨_, e, h⟩ => by cases e; exact h, fun h => ⟨a, rfl, h⟩⟩
theorem exStr {a : Str} : (∃ z, D.str a = .str z) = True := eq_true ⟨a, rfl⟩
theorem cStrI_i {i : Int} : cStrI [.int i] S Φ = (i.natAbs.log2 < 1920 ∧ Φ S (.str (toString i))) := propext ⟨fun ⟨_, e, h⟩ => by cases e; exact h, fun h => ⟨i, rfl, h⟩⟩
theorem cIntS_s {a : Str} : cIntS [.str a] S Φ = (∃ n, PySem.intText? a = some n ∧ a.length ≤ 640 ∧ Φ S (.int n)) := propext ⟨fun ⟨_, n, e, h⟩ => by cases e; exact ⟨n, h⟩, fun ⟨n, h⟩ => ⟨a, n, rfl, h⟩⟩
theorem iStrD_e {T : TD} {Ω : Sto → (Sto → Option (List D)) → Prop} : iStrD T Γ S Ω Ψ = T Γ S (fun S1 d => ∃ z, d = .str z ∧ Ω S1 (fun _ => some (signsD z))) Ψ := rfl
theorem dEqF_s {a b : Str} : dEqF (.str a) (.str b) S Φ = Φ S (.bl (a == b)) := propext ⟨fun h => h.2, fun h => ⟨rfl, h⟩⟩
theorem dNeF_s {a b : Str} : dNeF (.str a) (.str b) S Φ = Φ S (.bl (!(a == b))) := propext ⟨fun h => h.2, fun h => ⟨rfl, h⟩⟩
theorem dEqF_i {a b : Int} : dEqF (.int a) (.int b) S Φ = Φ S (.bl (a == b)) := propext ⟨fun h => h.2, fun h => ⟨rfl, h⟩⟩
theorem dNeF_i {a b : Int} : dNeF (.int a) (.int b) S Φ = Φ S (.bl (!(a == b))) := propext ⟨fun h => h.2, fun h => ⟨rfl, h⟩⟩
theorem dXFld_e {Cs : List Addr} {f : Str} {T : TD} : dXFld Cs f T Γ S Φ Ψ = T Γ S (fun S1 d => ∃ D fs y, d = .exc D fs ∧ D ∈ Cs ∧ fs.lookup f = some y ∧ Φ S1 y) Ψ := rfl
theorem mPop_e {h : Nat} : mPop (.own h) [] S Φ = (∃ xs y, S[h]? = some (.lst xs) ∧ xs[xs.length - 1]? = some y ∧ Φ (S.set h (.lst xs.dropLast)) y) := propext ⟨fun ⟨_, xs, y, e, _, h⟩ => by cases e; exact ⟨xs, y, h⟩, fun ⟨xs, y, h'⟩ => ⟨h, xs, y, rfl, rfl, h'⟩⟩
theorem dAddO_l {ds es : List D} : dAddO (.lst ds) (.lst es) S Φ = (ds.length + es.length ≤ sizeLine ∧ Φ (S ++ [.lst (ds ++ es)]) (.own S.length)) := propext ⟨fun ⟨_, _, e1, e2, h⟩ => by cases e1; cases e2; exact h, fun h => ⟨ds, es, rfl, rfl, h⟩⟩
theorem dAddO_o {h : Nat} {es : List D} : dAddO (.own h) (.lst es) S Φ = (∃ ds, S[h]? = some (.lst ds) ∧ ds.length + es.length ≤ sizeLine ∧ Φ (S ++ [.lst (ds ++ es)]) (.own S.length)) := propext ⟨fun ⟨ds, _, e1, e2, h⟩ => by cases e2; exact ⟨ds, asL_own e1, h⟩, fun ⟨ds, e, h'⟩ => ⟨ds, es, asL_at' e, rfl, h'⟩⟩
theorem dSign_s {neg : Bool} {c : Nat} {z : Str} : dSign neg (.str ⟨#[c]⟩) (.str z) S Φ = Φ S (.bl (if neg then !decide (c ∈ z.cps.toList) else decide (c ∈ z.cps.toList))) := propext ⟨fun ⟨_, _, e1, e2, h⟩ => by cases e1; cases e2; exact h, fun h => ⟨c, z, rfl, rfl, h⟩⟩
end
end DL
namespace DL
open PySem PySem.Spec PyProof.Rows L2
section
variable {Γ : Gam} {S : Sto} {Φ : KD} {Ψ : KX} {P : Gam → Sto → Prop}
theorem dv0 {d : D} : dVar 0 (some d :: Γ) S Φ Ψ = Φ S d := propext ⟨fun ⟨_, e, h⟩ => by cases e; exact h, fun h => ⟨d, rfl, h⟩⟩
theorem nm0 {o : Option D} {d : D} : nmG 0 d (o :: Γ) S P = P (some d :: Γ) S := rfl
theorem dv1 {a0 : Option D} {d : D} : dVar 1 (a0 :: some d :: Γ) S Φ Ψ = Φ S d := propext ⟨fun ⟨_, e, h⟩ => by cases e; exact h, fun h => ⟨d, rfl, h⟩⟩
theorem nm1 {a0 : Option D} {o : Option D} {d : D} : nmG 1 d (a0 :: o :: Γ) S P = P (a0 :: some d :: Γ) S := rfl
theorem dv2 {a0 a1 : Option D} {d : D} : dVar 2 (a0 :: a1 :: some d :: Γ) S Φ Ψ = Φ S d := propext ⟨fun ⟨_, e, h⟩ => by cases e; exact h, fun h => ⟨d, rfl, h⟩⟩
theorem nm2 {a0 a1 : Option D} {o : Option D} {d : D} : nmG 2 d (a0 :: a1 :: o :: Γ) S P = P (a0 :: a1 :: some d :: Γ) S := rfl
theorem dv3 {a0 a1 a2 : Option D} {d : D} : dVar 3 (a0 :: a1 :: a2 :: some d :: Γ) S Φ Ψ = Φ S d := propext ⟨fun ⟨_, e, h⟩ => by cases e; exact h, fun h => ⟨d, rfl, h⟩⟩
theorem nm3 {a0 a1 a2 : Option D} {o : Option D} {d : D} : nmG 3 d (a0 :: a1 :: a2 :: o :: Γ) S P = P (a0 :: a1 :: a2 :: some d :: Γ) S := rfl
theorem dv4 {a0 a1 a2 a3 : Option D} {d : D} : dVar 4 (a0 :: a1 :: a2 :: a3 :: some d :: Γ) S Φ Ψ = Φ S d := propext ⟨fun ⟨_, e, h⟩ => by cases e; exact h, fun h => ⟨d, rfl, h⟩⟩
theorem nm4 {a0 a1 a2 a3 : Option D} {o : Option D} {d : D} : nmG 4 d (a0 :: a1 :: a2 :: a3 :: o :: Γ) S P = P (a0 :: a1 :: a2 :: a3 :: some d :: Γ) S := rfl
theorem dv5 {a0 a1 a2 a3 a4 : Option D} {d : D} : dVar 5 (a0 :: a1 :: a2 :: a3 :: a4 :: some d :: Γ) S Φ Ψ = Φ S d := propext ⟨fun ⟨_, e, h⟩ => by cases e; exact h, fun h => ⟨d, rfl, h⟩⟩
theorem nm5 {a0 a1 a2 a3 a4 : Option D} {o : Option D} {d : D} : nmG 5 d (a0 :: a1 :: a2 :: a3 :: a4 :: o :: Γ) S P = P (a0 :: a1 :: a2 :: a3 :: a4 :: some d :: Γ) S := rfl
theorem dv6 {a0 a1 a2 a3 a4 a5 : Option D} {d : D} : dVar 6 (a0 :: a1 :: a2 :: a3 :: a4 :: a5 :: some d :: Γ) S Φ Ψ = Φ S d := propext ⟨fun ⟨_, e, h⟩ => by cases e; exact h, fun h => ⟨d, rfl, h⟩⟩
theorem nm6 {a0 a1 a2 a3 a4 a5 : Option D} {o : Option D} {d : D} : nmG 6 d (a0 :: a1 :: a2 :: a3 :: a4 :: a5 :: o :: Γ) S P = P (a0 :: a1 :: a2 :: a3 :: a4 :: a5 :: some d :: Γ) S := rfl
theorem dv7 {a0 a1 a2 a3 a4 a5 a6 : Option D} {d : D} : dVar 7 (a0 :: a1 :: a2 :: a3 :: a4 :: a5 :: a6 :: some d :: Γ) S Φ Ψ = Φ S d := propext ⟨fun ⟨_, e, h⟩ => by cases e; exact h, fun h => ⟨d, rfl, h⟩⟩
theorem nm7 {a0 a1 a2 a3 a4 a5 a6 : Option D} {o : Option D} {d : D} : nmG 7 d (a0 :: a1 :: a2 :: a3 :: a4 :: a5 :: a6 :: o :: Γ) S P = P (a0 :: a1 :: a2 :: a3 :: a4 :: a5 :: a6 :: some d :: Γ) S := rfl
theorem dv8 {a0 a1 a2 a3 a4 a5 a6 a7 : Option D} {d : D} : dVar 8 (a0 :: a1 :: a2 :: a3 :: a4 :: a5 :: a6 :: a7 :: some d :: Γ) S Φ Ψ = Φ S d := propext ⟨fun ⟨_, e, h⟩ => by cases e; exact h, fun h => ⟨d, rfl, h⟩⟩
theorem nm8 {a0 a1 a2 a3 a4 a5 a6 a7 : Option D} {o : Option D} {d : D} : nmG 8 d (a0 :: a1 :: a2 :: a3 :: a4 :: a5 :: a6 :: a7 :: o :: Γ) S P = P (a0 :: a1 :: a2 :: a3 :: a4 :: a5 :: a6 :: a7 :: some d :: Γ) S := rfl
theorem dv9 {a0 a1 a2 a3 a4 a5 a6 a7 a8 : Option D} {d : D} : dVar 9 (a0 :: a1 :: a2 :: a3 :: a4 :: a5 :: a6 :: a7 :: a8 :: some d :: Γ) S Φ Ψ = Φ S d := propext ⟨fun ⟨_, e, h⟩ => by cases e; exact h, fun h => ⟨d, rfl, h⟩⟩
theorem nm9 {a0 a1 a2 a3 a4 a5 a6 a7 a8 : Option D} {o : Option D} {d : D} : nmG 9 d (a0 :: a1 :: a2 :: a3 :: a4 :: a5 :: a6 :: a7 :: a8 :: o :: Γ) S P = P (a0 :: a1 :: a2 :: a3 :: a4 :: a5 :: a6 :: a7 :: a8 :: some d :: Γ) S := rfl
theorem dv10 {a0 a1 a2 a3 a4 a5 a6 a7 a8 a9 : Option D} {d : D} : dVar 10 (a0 :: a1 :: a2 :: a3 :: a4 :: a5 :: a6 :: a7 :: a8 :: a9 :: some d :: Γ) S Φ Ψ = Φ S d := propext ⟨fun ⟨_, e, h⟩ => by cases e; exact h, fun h => ⟨d, rfl, h⟩⟩
theorem nm10 {a0 a1 a2 a3 a4 a5 a6 a7 a8 a9 : Option D} {o : Option D} {d : D} : nmG 10 d (a0 :: a1 :: a2 :: a3 :: a4 :: a5 :: a6 :: a7 :: a8 :: a9 :: o :: Γ) S P = P (a0 :: a1 :: a2 :: a3 :: a4 :: a5 :: a6 :: a7 :: a8 :: a9 :: some d :: Γ) S := rfl
theorem dv11 {a0 a1 a2 a3 a4 a5 a6 a7 a8 a9 a10 : Option D} {d : D} : dVar 11 (a0 :: a1 :: a2 :: a3 :: a4 :: a5 :: a6 :: a7 :: a8 :: a9 :: a10 :: some d :: Γ) S Φ Ψ = Φ S d := propext ⟨fun ⟨_, e, h⟩ => by cases e; exact h, fun h => ⟨d, rfl, h⟩⟩
theorem nm11 {a0 a1 a2 a3 a4 a5 a6 a7 a8 a9 a10 : Option D} {o : Option D} {d : D} : nmG 11 d (a0 :: a1 :: a2 :: a3 :: a4 :: a5 :: a6 :: a7 :: a8 :: a9 :: a10 :: o :: Γ) S P = P (a0 :: a1 :: a2 :: a3 :: a4 :: a5 :: a6 :: a7 :: a8 :: a9 :: a10 :: some d :: Γ) S := rfl
theorem dv12 {a0 a1 a2 a3 a4 a5 a6 a7 a8 a9 a10 a11 : Option D} {d : D} : dVar 12 (a0 :: a1 :: a2 :: a3 :: a4 :: a5 :: a6 :: a7 :: a8 :: a9 :: a10 :: a11 :: some d :: Γ) S Φ Ψ = Φ S d := propext ⟨fun ⟨_, e, h⟩ => by cases e; exact h, fun h => ⟨d, rfl, h⟩⟩
theorem nm12 {a0 a1 a2 a3 a4 a5 a6 a7 a8 a9 a10 a11 : Option D} {o : Option D} {d : D} : nmG 12 d (a0 :: a1 :: a2 :: a3 :: a4 :: a5 :: a6 :: a7 :: a8 :: a9 :: a10 :: a11 :: o :: Γ) S P = P (a0 :: a1 :: a2 :: a3 :: a4 :: a5 :: a6 :: a7 :: a8 :: a9 :: a10 :: a11 :: some d :: Γ) S := rfl
theorem dv13 {a0 a1 a2 a3 a4 a5 a6 a7 a8 a9 a10 a11 a12 : Option D} {d : D} : dVar 13 (a0 :: a1 :: a2 :: a3 :: a4 :: a5 :: a6 :: a7 :: a8 :: a9 :: a10 :: a11 :: a12 :: some d :: Γ) S Φ Ψ = Φ S d := propext ⟨fun ⟨_, e, h⟩ => by cases e; exact h, fun h => ⟨d, rfl, h⟩⟩
theorem nm13 {a0 a1 a2 a3 a4 a5 a6 a7 a8 a9 a10 a11 a12 : Option D} {o : Option D} {d : D} : nmG 13 d (a0 :: a1 :: a2 :: a3 :: a4 :: a5 :: a6 :: a7 :: a8 :: a9 :: a10 :: a11 :: a12 :: o :: Γ) S P = P (a0 :: a1 :: a2 :: a3 :: a4 :: a5 :: a6 :: a7 :: a8 :: a9 :: a10 :: a11 :: a12 :: some d :: Γ) S := rfl
theorem dv14 {a0 a1 a2 a3 a4 a5 a6 a7 a8 a9 a10 a11 a12 a13 : Option D} {d : D} : dVar 14 (a0 :: a1 :: a2 :: a3 :: a4 :: a5 :: a6 :: a7 :: a8 :: a9 :: a10 :: a11 :: a12 :: a13 :: some d :: Γ) S Φ Ψ = Φ S d := propext ⟨fun ⟨_, e, h⟩ => by cases e; exact h, fun h => ⟨d, rfl, h⟩⟩
theorem nm14 {a0 a1 a2 a3 a4 a5 a6 a7 a8 a9 a10 a11 a12 a13 : Option D} {o : Option D} {d : D} : nmG 14 d (a0 :: a1 :: a2 :: a3 :: a4 :: a5 :: a6 :: a7 :: a8 :: a9 :: a10 :: a11 :: a12 :: a13 :: o :: Γ) S P = P (a0 :: a1 :: a2 :: a3 :: a4 :: a5 :: a6 :: a7 :: a8 :: a9 :: a10 :: a11 :: a12 :: a13 :: some d :: Γ) S := rfl
theorem dv15 {a0 a1 a2 a3 a4 a5 a6 a7 a8 a9 a10 a11 a12 a13 a14 : Option D} {d : D} : dVar 15 (a0 :: a1 :: a2 :: a3 :: a4 :: a5 :: a6 :: a7 :: a8 :: a9 :: a10 :: a11 :: a12 :: a13 :: a14 :: some d :: Γ) S Φ Ψ = Φ S d := propext ⟨fun ⟨_, e, h⟩ => by cases e; exact h, fun h => ⟨d, rfl, h⟩⟩
theorem nm15 {a0 a1 a2 a3 a4 a5 a6 a7 a8 a9 a10 a11 a12 a13 a14 : Option D} {o : Option D} {d : D} : nmG 15 d (a0 :: a1 :: a2 :: a3 :: a4 :: a5 :: a6 :: a7 :: a8 :: a9 :: a10 :: a11 :: a12 :: a13 :: a14 :: o :: Γ) S P = P (a0 :: a1 :: a2 :: a3 :: a4 :: a5 :: a6 :: a7 :: a8 :: a9 :: a10 :: a11 :: a12 :: a13 :: a14 :: some d :: Γ) S := rfl
theorem dv16 {a0 a1 a2 a3 a4 a5 a6 a7 a8 a9 a10 a11 a12 a13 a14 a15 : Option D} {d : D} : dVar 16 (a0 :: a1 :: a2 :: a3 :: a4 :: a5 :: a6 :: a7 :: a8 :: a9 :: a10 :: a11 :: a12 :: a13 :: a14 :: a15 :: some d :: Γ) S Φ Ψ = Φ S d := propext ⟨fun ⟨_, e, h⟩ => by cases e; exact h, fun h => ⟨d, rfl, h⟩⟩
theorem nm16 {a0 a1 a2 a3 a4 a5 a6 a7 a8 a9 a10 a11 a12 a13 a14 a15 : Option D} {o : Option D} {d : D} : nmG 16 d (a0 :: a1 :: a2 :: a3 :: a4 :: a5 :: a6 :: a7 :: a8 :: a9 :: a10 :: a11 :: a12 :: a13 :: a14 :: a15 :: o :: Γ) S P = P (a0 :: a1 :: a2 :: a3 :: a4 :: a5 :: a6 :: a7 :: a8 :: a9 :: a10 :: a11 :: a12 :: a13 :: a14 :: a15 :: some d :: Γ) S := rfl
theorem dv17 {a0 a1 a2 a3 a4 a5 a6 a7 a8 a9 a10 a11 a12 a13 a14 a15 a16 : Option D} {d : D} : dVar 17 (a0 :: a1 :: a2 :: a3 :: a4 :: a5 :: a6 :: a7 :: a8 :: a9 :: a10 :: a11 :: a12 :: a13 :: a14 :: a15 :: a16 :: some d :: Γ) S Φ Ψ = Φ S d := propext ⟨fun ⟨_, e, h⟩ => by cases e; exact h, fun h => ⟨d, rfl, h⟩⟩
theorem nm17 {a0 a1 a2 a3 a4 a5 a6 a7 a8 a9 a10 a11 a12 a13 a14 a15 a16 : Option D} {o : Option D} {d : D} : nmG 17 d (a0 :: a1 :: a2 :: a3 :: a4 :: a5 :: a6 :: a7 :: a8 :: a9 :: a10 :: a11 :: a12 :: a13 :: a14 :: a15 :: a16 :: o :: Γ) S P = P (a0 :: a1 :: a2 :: a3 :: a4 :: a5 :: a6 :: a7 :: a8 :: a9 :: a10 :: a11 :: a12 :: a13 :: a14 :: a15 :: a16 :: some d :: Γ) S := rfl
theorem dv18 {a0 a1 a2 a3 a4 a5 a6 a7 a8 a9 a10 a11 a12 a13 a14 a15 a16 a17 : Option D} {d : D} : dVar 18 (a0 :: a1 :: a2 :: a3 :: a4 :: a5 :: a6 :: a7 :: a8 :: a9 :: a10 :: a11 :: a12 :: a13 :: a14 :: a15 :: a16 :: a17 :: some d :: Γ) S Φ Ψ = Φ S d := propext ⟨fun ⟨_, e, h⟩ => by cases e; exact h, fun h => ⟨d, rfl, h⟩⟩
theorem nm18 {a0 a1 a2 a3 a4 a5 a6 a7 a8 a9 a10 a11 a12 a13 a14 a15 a16 a17 : Option D} {o : Option D} {d : D} : nmG 18 d (a0 :: a1 :: a2 :: a3 :: a4 :: a5 :: a6 :: a7 :: a8 :: a9 :: a10 :: a11 :: a12 :: a13 :: a14 :: a15 :: a16 :: a17 :: o :: Γ) S P = P (a0 :: a1 :: a2 :: a3 :: a4 :: a5 :: a6 :: a7 :: a8 :: a9 :: a10 :: a11 :: a12 :: a13 :: a14 :: a15 :: a16 :: a17 :: some d :: Γ) S := rfl
theorem dv19 {a0 a1 a2 a3 a4 a5 a6 a7 a8 a9 a10 a11 a12 a13 a14 a15 a16 a17 a18 : Option D} {d : D} : dVar 19 (a0 :: a1 :: a2 :: a3 :: a4 :: a5 :: a6 :: a7 :: a8 :: a9 :: a10 :: a11 :: a12 :: a13 :: a14 :: a15 :: a16 :: a17 :: a18 :: some d :: Γ) S Φ Ψ = Φ S d := propext ⟨fun ⟨_, e, h⟩ => by cases e; exact h, fun h => ⟨d, rfl, h⟩⟩
theorem nm19 {a0 a1 a2 a3 a4 a5 a6 a7 a8 a9 a10 a11 a12 a13 a14 a15 a16 a17 a18 : Option D} {o : Option D} {d : D} : nmG 19 d (a0 :: a1 :: a2 :: a3 :: a4 :: a5 :: a6 :: a7 :: a8 :: a9 :: a10 :: a11 :: a12 :: a13 :: a14 :: a15 :: a16 :: a17 :: a18 :: o :: Γ) S P = P (a0 :: a1 :: a2 :: a3 :: a4 :: a5 :: a6 :: a7 :: a8 :: a9 :: a10 :: a11 :: a12 :: a13 :: a14 :: a15 :: a16 :: a17 :: a18 :: some d :: Γ) S := rfl
theorem dv20 {a0 a1 a2 a3 a4 a5 a6 a7 a8 a9 a10 a11 a12 a13 a14 a15 a16 a17 a18 a19 : Option D} {d : D} : dVar 20 (a0 :: a1 :: a2 :: a3 :: a4 :: a5 :: a6 :: a7 :: a8 :: a9 :: a10 :: a11 :: a12 :: a13 :: a14 :: a15 :: a16 :: a17 :: a18 :: a19 :: some d :: Γ) S Φ Ψ = Φ S d := propext ⟨fun ⟨_, e, h⟩ => by cases e; exact h, fun h => ⟨d, rfl, h⟩⟩
theorem nm20 {a0 a1 a2 a3 a4 a5 a6 a7 a8 a9 a10 a11 a12 a13 a14 a15 a16 a17 a18 a19 : Option D} {o : Option D} {d : D} : nmG 20 d (a0 :: a1 :: a2 :: a3 :: a4 :: a5 :: a6 :: a7 :: a8 :: a9 :: a10 :: a11 :: a12 :: a13 :: a14 :: a15 :: a16 :: a17 :: a18 :: a19 :: o :: Γ) S P = P (a0 :: a1 :: a2 :: a3 :: a4 :: a5 :: a6 :: a7 :: a8 :: a9 :: a10 :: a11 :: a12 :: a13 :: a14 :: a15 :: a16 :: a17 :: a18 :: a19 :: some d :: Γ) S := rfl
theorem dv21 {a0 a1 a2 a3 a4 a5 a6 a7 a8 a9 a10 a11 a12 a13 a14 a15 a16 a17 a18 a19 a20 : Option D} {d : D} : dVar 21 (a0 :: a1 :: a2 :: a3 :: a4 :: a5 :: a6 :: a7 :: a8 :: a9 :: a10 :: a11 :: a12 :: a13 :: a14 :: a15 :: a16 :: a17 :: a18 :: a19 :: a20 :: some d :: Γ) S Φ Ψ = Φ S d := propext ⟨fun ⟨_, e, h⟩ => by cases e; exact h, fun h => ⟨d, rfl, h⟩⟩
theorem nm21 {a0 a1 a2 a3 a4 a5 a6 a7 a8 a9 a10 a11 a12 a13 a14 a15 a16 a17 a18 a19 a20 : Option D} {o : Option D} {d : D} : nmG 21 d (a0 :: a1 :: a2 :: a3 :: a4 :: a5 :: a6 :: a7 :: a8 :: a9 :: a10 :: a11 :: a12 :: a13 :: a14 :: a15 :: a16 :: a17 :: a18 :: a19 :: a20 :: o :: Γ) S P = P (a0 :: a1 :: a2 :: a3 :: a4 :: a5 :: a6 :: a7 :: a8 :: a9 :: a10 :: a11 :: a12 :: a13 :: a14 :: a15 :: a16 :: a17 :: a18 :: a19 :: a20 :: some d :: Γ) S := rfl
theorem dv22 {a0 a1 a2 a3 a4 a5 a6 a7 a8 a9 a10 a11 a12 a13 a14 a15 a16 a17 a18 a19 a20 a21 : Option D} {d : D} : dVar 22 (a0 :: a1 :: a2 :: a3 :: a4 :: a5 :: a6 :: a7 :: a8 :: a9 :: a10 :: a11 :: a12 :: a13 :: a14 :: a15 :: a16 :: a17 :: a18 :: a19 :: a20 :: a21 :: some d :: Γ) S Φ Ψ = Φ S d := propext ⟨fun ⟨_, e, h⟩ => by cases e; exact h, fun h => ⟨d, rfl, h⟩⟩
theorem nm22 {a0 a1 a2 a3 a4 a5 a6 a7 a8 a9 a10 a11 a12 a13 a14 a15 a16 a17 a18 a19 a20 a21 : Option D} {o : Option D} {d : D} : nmG 22 d (a0 :: a1 :: a2 :: a3 :: a4 :: a5 :: a6 :: a7 :: a8 :: a9 :: a10 :: a11 :: a12 :: a13 :: a14 :: a15 :: a16 :: a17 :: a18 :: a19 :: a20 :: a21 :: o :: Γ) S P = P (a0 :: a1 :: a2 :: a3 :: a4 :: a5 :: a6 :: a7 :: a8 :: a9 :: a10 :: a11 :: a12 :: a13 :: a14 :: a15 :: a16 :: a17 :: a18 :: a19 :: a20 :: a21 :: some d :: Γ) S := rfl
theorem dv23 {a0 a1 a2 a3 a4 a5 a6 a7 a8 a9 a10 a11 a12 a13 a14 a15 a16 a17 a18 a19 a20 a21 a22 : Option D} {d : D} : dVar 23 (a0 :: a1 :: a2 :: a3 :: a4 :: a5 :: a6 :: a7 :: a8 :: a9 :: a10 :: a11 :: a12 :: a13 :: a14 :: a15 :: a16 :: a17 :: a18 :: a19 :: a20 :: a21 :: a22 :: some d :: Γ) S Φ Ψ = Φ S d := propext ⟨fun ⟨_, e, h⟩ => by cases e; exact h, fun h => ⟨d, rfl, h⟩⟩
theorem nm23 {a0 a1 a2 a3 a4 a5 a6 a7 a8 a9 a10 a11 a12 a13 a14 a15 a16 a17 a18 a19 a20 a21 a22 : Option D} {o : Option D} {d : D} : nmG 23 d (a0 :: a1 :: a2 :: a3 :: a4 :: a5 :: a6 :: a7 :: a8 :: a9 :: a10 :: a11 :: a12 :: a13 :: a14 :: a15 :: a16 :: a17 :: a18 :: a19 :: a20 :: a21 :: a22 :: o :: Γ) S P = P (a0 :: a1 :: a2 :: a3 :: a4 :: a5 :: a6 :: a7 :: a8 :: a9 :: a10 :: a11 :: a12 :: a13 :: a14 :: a15 :: a16 :: a17 :: a18 :: a19 :: a20 :: a21 :: a22 :: some d :: Γ) S := rfl
theorem dv24 {a0 a1 a2 a3 a4 a5 a6 a7 a8 a9 a10 a11 a12 a13 a14 a15 a16 a17 a18 a19 a20 a21 a22 a23 : Option D} {d : D} : dVar 24 (a0 :: a1 :: a2 :: a3 :: a4 :: a5 :: a6 :: a7 :: a8 :: a9 :: a10 :: a11 :: a12 :: a13 :: a14 :: a15 :: a16 :: a17 :: a18 :: a19 :: a20 :: a21 :: a22 :: a23 :: some d :: Γ) S Φ Ψ = Φ S d := propext ⟨fun ⟨_, e, h⟩ => by cases e; exact h, fun h => ⟨d, rfl, h⟩⟩
theorem nm24 {a0 a1 a2 a3 a4 a5 a6 a7 a8 a9 a10 a11 a12 a13 a14 a15 a16 a17 a18 a19 a20 a21 a22 a23 : Option D} {o : Option D} {d : D} : nmG 24 d (a0 :: a1 :: a2 :: a3 :: a4 :: a5 :: a6 :: a7 :: a8 :: a9 :: a10 :: a11 :: a12 :: a13 :: a14 :: a15 :: a16 :: a17 :: a18 :: a19 :: a20 :: a21 :: a22 :: a23 :: o :: Γ) S P = P (a0 :: a1 :: a2 :: a3 :: a4 :: a5 :: a6 :: a7 :: a8 :: a9 :: a10 :: a11 :: a12 :: a13 :: a14 :: a15 :: a16 :: a17 :: a18 :: a19 :: a20 :: a21 :: a22 :: a23 :: some d :: Γ) S := rfl
theorem dv25 {a0 a1 a2 a3 a4 a5 a6 a7 a8 a9 a10 a11 a12 a13 a14 a15 a16 a17 a18 a19 a20 a21 a22 a23 a24 : Option D} {d : D} : dVar 25 (a0 :: a1 :: a2 :: a3 :: a4 :: a5 :: a6 :: a7 :: a8 :: a9 :: a10 :: a11 :: a12 :: a13 :: a14 :: a15 :: a16 :: a17 :: a18 :: a19 :: a20 :: a21 :: a22 :: a23 :: a24 :: some d :: Γ) S Φ Ψ = Φ S d := propext ⟨fun ⟨_, e, h⟩ => by cases e; exact h, fun h => ⟨d, rfl, h⟩⟩
theorem nm25 {a0 a1 a2 a3 a4 a5 a6 a7 a8 a9 a10 a11 a12 a13 a14 a15 a16 a17 a18 a19 a20 a21 a22 a23 a24 : Option D} {o : Option D} {d : D} : nmG 25 d (a0 :: a1 :: a2 :: a3 :: a4 :: a5 :: a6 :: a7 :: a8 :: a9 :: a10 :: a11 :: a12 :: a13 :: a14 :: a15 :: a16 :: a17 :: a18 :: a19 :: a20 :: a21 :: a22 :: a23 :: a24 :: o :: Γ) S P = P (a0 :: a1 :: a2 :: a3 :: a4 :: a5 :: a6 :: a7 :: a8 :: a9 :: a10 :: a11 :: a12 :: a13 :: a14 :: a15 :: a16 :: a17 :: a18 :: a19 :: a20 :: a21 :: a22 :: a23 :: a24 :: some d :: Γ) S := rfl
theorem dv26 {a0 a1 a2 a3 a4 a5 a6 a7 a8 a9 a10 a11 a12 a13 a14 a15 a16 a17 a18 a19 a20 a21 a22 a23 a24 a25 : Option D} {d : D} : dVar 26 (a0 :: a1 :: a2 :: a3 :: a4 :: a5 :: a6 :: a7 :: a8 :: a9 :: a10 :: a11 :: a12 :: a13 :: a14 :: a15 :: a16 :: a17 :: a18 :: a19 :: a20 :: a21 :: a22 :: a23 :: a24 :: a25 :: some d :: Γ) S Φ Ψ = Φ S d := propext ⟨fun ⟨_, e, h⟩ => by cases e; exact h, fun h => ⟨d, rfl, h⟩⟩
theorem nm26 {a0 a1 a2 a3 a4 a5 a6 a7 a8 a9 a10 a11 a12 a13 a14 a15 a16 a17 a18 a19 a20 a21 a22 a23 a24 a25 : Option D} {o : Option D} {d : D} : nmG 26 d (a0 :: a1 :: a2 :: a3 :: a4 :: a5 :: a6 :: a7 :: a8 :: a9 :: a10 :: a11 :: a12 :: a13 :: a14 :: a15 :: a16 :: a17 :: a18 :: a19 :: a20 :: a21 :: a22 :: a23 :: a24 :: a25 :: o :: Γ) S P = P (a0 :: a1 :: a2 :: a3 :: a4 :: a5 :: a6 :: a7 :: a8 :: a9 :: a10 :: a11 :: a12 :: a13 :: a14 :: a15 :: a16 :: a17 :: a18 :: a19 :: a20 :: a21 :: a22 :: a23 :: a24 :: a25 :: some d :: Γ) S := rfl
theorem dv27 {a0 a1 a2 a3 a4 a5 a6 a7 a8 a9 a10 a11 a12 a13 a14 a15 a16 a17 a18 a19 a20 a21 a22 a23 a24 a25 a26 : Option D} {d : D} : dVar 27 (a0 :: a1 :: a2 :: a3 :: a4 :: a5 :: a6 :: a7 :: a8 :: a9 :: a10 :: a11 :: a12 :: a13 :: a14 :: a15 :: a16 :: a17 :: a18 :: a19 :: a20 :: a21 :: a22 :: a23 :: a24 :: a25 :: a26 :: some d :: Γ) S Φ Ψ = Φ S d := propext ⟨fun ⟨_, e, h⟩ => by cases e; exact h, fun h => ⟨d, rfl, h⟩⟩
theorem nm27 {a0 a1 a2 a3 a4 a5 a6 a7 a8 a9 a10 a11 a12 a13 a14 a15 a16 a17 a18 a19 a20 a21 a22 a23 a24 a25 a26 : Option D} {o : Option D} {d : D} : nmG 27 d (a0 :: a1 :: a2 :: a3 :: a4 :: a5 :: a6 :: a7 :: a8 :: a9 :: a10 :: a11 :: a12 :: a13 :: a14 :: a15 :: a16 :: a17 :: a18 :: a19 :: a20 :: a21 :: a22 :: a23 :: a24 :: a25 :: a26 :: o :: Γ) S P = P (a0 :: a1 :: a2 :: a3 :: a4 :: a5 :: a6 :: a7 :: a8 :: a9 :: a10 :: a11 :: a12 :: a13 :: a14 :: a15 :: a16 :: a17 :: a18 :: a19 :: a20 :: a21 :: a22 :: a23 :: a24 :: a25 :: a26 :: some d :: Γ) S := rfl
theorem dv28 {a0 a1 a2 a3 a4 a5 a6 a7 a8 a9 a10 a11 a12 a13 a14 a15 a16 a17 a18 a19 a20 a21 a22 a23 a24 a25 a26 a27 : Option D} {d : D} : dVar 28 (a0 :: a1 :: a2 :: a3 :: a4 :: a5 :: a6 :: a7 :: a8 :: a9 :: a10 :: a11 :: a12 :: a13 :: a14 :: a15 :: a16 :: a17 :: a18 :: a19 :: a20 :: a21 :: a22 :: a23 :: a24 :: a25 :: a26 :: a27 :: some d :: Γ) S Φ Ψ = Φ S d := propext ⟨fun ⟨_, e, h⟩ => by cases e; exact h, fun h => ⟨d, rfl, h⟩⟩
theorem nm28 {a0 a1 a2 a3 a4 a5 a6 a7 a8 a9 a10 a11 a12 a13 a14 a15 a16 a17 a18 a19 a20 a21 a22 a23 a24 a25 a26 a27 : Option D} {o : Option D} {d : D} : nmG 28 d (a0 :: a1 :: a2 :: a3 :: a4 :: a5 :: a6 :: a7 :: a8 :: a9 :: a10 :: a11 :: a12 :: a13 :: a14 :: a15 :: a16 :: a17 :: a18 :: a19 :: a20 :: a21 :: a22 :: a23 :: a24 :: a25 :: a26 :: a27 :: o :: Γ) S P = P (a0 :: a1 :: a2 :: a3 :: a4 :: a5 :: a6 :: a7 :: a8 :: a9 :: a10 :: a11 :: a12 :: a13 :: a14 :: a15 :: a16 :: a17 :: a18 :: a19 :: a20 :: a21 :: a22 :: a23 :: a24 :: a25 :: a26 :: a27 :: some d :: Γ) S := rfl
theorem dv29 {a0 a1 a2 a3 a4 a5 a6 a7 a8 a9 a10 a11 a12 a13 a14 a15 a16 a17 a18 a19 a20 a21 a22 a23 a24 a25 a26 a27 a28 : Option D} {d : D} : dVar 29 (a0 :: a1 :: a2 :: a3 :: a4 :: a5 :: a6 :: a7 :: a8 :: a9 :: a10 :: a11 :: a12 :: a13 :: a14 :: a15 :: a16 :: a17 :: a18 :: a19 :: a20 :: a21 :: a22 :: a23 :: a24 :: a25 :: a26 :: a27 :: a28 :: some d :: Γ) S Φ Ψ = Φ S d := propext ⟨fun ⟨_, e, h⟩ => by cases e; exact h, fun h => ⟨d, rfl, h⟩⟩
theorem nm29 {a0 a1 a2 a3 a4 a5 a6 a7 a8 a9 a10 a11 a12 a13 a14 a15 a16 a17 a18 a19 a20 a21 a22 a23 a24 a25 a26 a27 a28 : Option D} {o : Option D} {d : D} : nmG 29 d (a0 :: a1 :: a2 :: a3 :: a4 :: a5 :: a6 :: a7 :: a8 :: a9 :: a10 :: a11 :: a12 :: a13 :: a14 :: a15 :: a16 :: a17 :: a18 :: a19 :: a20 :: a21 :: a22 :: a23 :: a24 :: a25 :: a26 :: a27 :: a28 :: o :: Γ) S P = P (a0 :: a1 :: a2 :: a3 :: a4 :: a5 :: a6 :: a7 :: a8 :: a9 :: a10 :: a11 :: a12 :: a13 :: a14 :: a15 :: a16 :: a17 :: a18 :: a19 :: a20 :: a21 :: a22 :: a23 :: a24 :: a25 :: a26 :: a27 :: a28 :: some d :: Γ) S := rfl
theorem dv30 {a0 a1 a2 a3 a4 a5 a6 a7 a8 a9 a10 a11 a12 a13 a14 a15 a16 a17 a18 a19 a20 a21 a22 a23 a24 a25 a26 a27 a28 a29 : Option D} {d : D} : dVar 30 (a0 :: a1 :: a2 :: a3 :: a4 :: a5 :: a6 :: a7 :: a8 :: a9 :: a10 :: a11 :: a12 :: a13 :: a14 :: a15 :: a16 :: a17 :: a18 :: a19 :: a20 :: a21 :: a22 :: a23 :: a24 :: a25 :: a26 :: a27 :: a28 :: a29 :: some d :: Γ) S Φ Ψ = Φ S d := propext ⟨fun ⟨_, e, h⟩ => by cases e; exact h, fun h => ⟨d, rfl, h⟩⟩
theorem nm30 {a0 a1 a2 a3 a4 a5 a6 a7 a8 a9 a10 a11 a12 a13 a14 a15 a16 a17 a18 a19 a20 a21 a22 a23 a24 a25 a26 a27 a28 a29 : Option D} {o : Option D} {d : D} : nmG 30 d (a0 :: a1 :: a2 :: a3 :: a4 :: a5 :: a6 :: a7 :: a8 :: a9 :: a10 :: a11 :: a12 :: a13 :: a14 :: a15 :: a16 :: a17 :: a18 :: a19 :: a20 :: a21 :: a22 :: a23 :: a24 :: a25 :: a26 :: a27 :: a28 :: a29 :: o :: Γ) S P = P (a0 :: a1 :: a2 :: a3 :: a4 :: a5 :: a6 :: a7 :: a8 :: a9 :: a10 :: a11 :: a12 :: a13 :: a14 :: a15 :: a16 :: a17 :: a18 :: a19 :: a20 :: a21 :: a22 :: a23 :: a24 :: a25 :: a26 :: a27 :: a28 :: a29 :: some d :: Γ) S := rfl
theorem dv31 {a0 a1 a2 a3 a4 a5 a6 a7 a8 a9 a10 a11 a12 a13 a14 a15 a16 a17 a18 a19 a20 a21 a22 a23 a24 a25 a26 a27 a28 a29 a30 : Option D} {d : D} : dVar 31 (a0 :: a1 :: a2 :: a3 :: a4 :: a5 :: a6 :: a7 :: a8 :: a9 :: a10 :: a11 :: a12 :: a13 :: a14 :: a15 :: a16 :: a17 :: a18 :: a19 :: a20 :: a21 :: a22 :: a23 :: a24 :: a25 :: a26 :: a27 :: a28 :: a29 :: a30 :: some d :: Γ) S Φ Ψ = Φ S d := propext ⟨fun ⟨_, e, h⟩ => by cases e; exact h, fun h => ⟨d, rfl, h⟩⟩
theorem nm31 {a0 a1 a2 a3 a4 a5 a6 a7 a8 a9 a10 a11 a12 a13 a14 a15 a16 a17 a18 a19 a20 a21 a22 a23 a24 a25 a26 a27 a28 a29 a30 : Option D} {o : Option D} {d : D} : nmG 31 d (a0 :: a1 :: a2 :: a3 :: a4 :: a5 :: a6 :: a7 :: a8 :: a9 :: a10 :: a11 :: a12 :: a13 :: a14 :: a15 :: a16 :: a17 :: a18 :: a19 :: a20 :: a21 :: a22 :: a23 :: a24 :: a25 :: a26 :: a27 :: a28 :: a29 :: a30 :: o :: Γ) S P = P (a0 :: a1 :: a2 :: a3 :: a4 :: a5 :: a6 :: a7 :: a8 :: a9 :: a10 :: a11 :: a12 :: a13 :: a14 :: a15 :: a16 :: a17 :: a18 :: a19 :: a20 :: a21 :: a22 :: a23 :: a24 :: a25 :: a26 :: a27 :: a28 :: a29 :: a30 :: some d :: Γ) S := rfl
theorem dv32 {a0 a1 a2 a3 a4 a5 a6 a7 a8 a9 a10 a11 a12 a13 a14 a15 a16 a17 a18 a19 a20 a21 a22 a23 a24 a25 a26 a27 a28 a29 a30 a31 : Option D} {d : D} : dVar 32 (a0 :: a1 :: a2 :: a3 :: a4 :: a5 :: a6 :: a7 :: a8 :: a9 :: a10 :: a11 :: a12 :: a13 :: a14 :: a15 :: a16 :: a17 :: a18 :: a19 :: a20 :: a21 :: a22 :: a23 :: a24 :: a25 :: a26 :: a27 :: a28 :: a29 :: a30 :: a31 :: some d :: Γ) S Φ Ψ = Φ S d := propext ⟨fun ⟨_, e, h⟩ => by cases e; exact h, fun h => ⟨d, rfl, h⟩⟩
theorem nm32 {a0 a1 a2 a3 a4 a5 a6 a7 a8 a9 a10 a11 a12 a13 a14 a15 a16 a17 a18 a19 a20 a21 a22 a23 a24 a25 a26 a27 a28 a29 a30 a31 : Option D} {o : Option D} {d : D} : nmG 32 d (a0 :: a1 :: a2 :: a3 :: a4 :: a5 :: a6 :: a7 :: a8 :: a9 :: a10 :: a11 :: a12 :: a13 :: a14 :: a15 :: a16 :: a17 :: a18 :: a19 :: a20 :: a21 :: a22 :: a23 :: a24 :: a25 :: a26 :: a27 :: a28 :: a29 :: a30 :: a31 :: o :: Γ) S P = P (a0 :: a1 :: a2 :: a3 :: a4 :: a5 :: a6 :: a7 :: a8 :: a9 :: a10 :: a11 :: a12 :: a13 :: a14 :: a15 :: a16 :: a17 :: a18 :: a19 :: a20 :: a21 :: a22 :: a23 :: a24 :: a25 :: a26 :: a27 :: a28 :: a29 :: a30 :: a31 :: some d :: Γ) S := rfl
theorem dv33 {a0 a1 a2 a3 a4 a5 a6 a7 a8 a9 a10 a11 a12 a13 a14 a15 a16 a17 a18 a19 a20 a21 a22 a23 a24 a25 a26 a27 a28 a29 a30 a31 a32 : Option D} {d : D} : dVar 33 (a0 :: a1 :: a2 :: a3 :: a4 :: a5 :: a6 :: a7 :: a8 :: a9 :: a10 :: a11 :: a12 :: a13 :: a14 :: a15 :: a16 :: a17 :: a18 :: a19 :: a20 :: a21 :: a22 :: a23 :: a24 :: a25 :: a26 :: a27 :: a28 :: a29 :: a30 :: a31 :: a32 :: some d :: Γ) S Φ Ψ = Φ S d := propext ⟨fun ⟨_, e, h⟩ => by cases e; exact h, fun h => ⟨d, rfl, h⟩⟩
theorem nm33 {a0 a1 a2 a3 a4 a5 a6 a7 a8 a9 a10 a11 a12 a13 a14 a15 a16 a17 a18 a19 a20 a21 a22 a23 a24 a25 a26 a27 a28 a29 a30 a31 a32 : Option D} {o : Option D} {d : D} : nmG 33 d (a0 :: a1 :: a2 :: a3 :: a4 :: a5 :: a6 :: a7 :: a8 :: a9 :: a10 :: a11 :: a12 :: a13 :: a14 :: a15 :: a16 :: a17 :: a18 :: a19 :: a20 :: a21 :: a22 :: a23 :: a24 :: a25 :: a26 :: a27 :: a28 :: a29 :: a30 :: a31 :: a32 :: o :: Γ) S P = P (a0 :: a1 :: a2 :: a3 :: a4 :: a5 :: a6 :: a7 :: a8 :: a9 :: a10 :: a11 :: a12 :: a13 :: a14 :: a15 :: a16 :: a17 :: a18 :: a19 :: a20 :: a21 :: a22 :: a23 :: a24 :: a25 :: a26 :: a27 :: a28 :: a29 :: a30 :: a31 :: a32 :: some d :: Γ) S := rfl
theorem dv34 {a0 a1 a2 a3 a4 a5 a6 a7 a8 a9 a10 a11 a12 a13 a14 a15 a16 a17 a18 a19 a20 a21 a22 a23 a24 a25 a26 a27 a28 a29 a30 a31 a32 a33 : Option D} {d : D} : dVar 34 (a0 :: a1 :: a2 :: a3 :: a4 :: a5 :: a6 :: a7 :: a8 :: a9 :: a10 :: a11 :: a12 :: a13 :: a14 :: a15 :: a16 :: a17 :: a18 :: a19 :: a20 :: a21 :: a22 :: a23 :: a24 :: a25 :: a26 :: a27 :: a28 :: a29 :: a30 :: a31 :: a32 :: a33 :: some d :: Γ) S Φ Ψ = Φ S d := propext ⟨fun ⟨_, e, h⟩ => by cases e; exact h, fun h => ⟨d, rfl, h⟩⟩
theorem nm34 {a0 a1 a2 a3 a4 a5 a6 a7 a8 a9 a10 a11 a12 a13 a14 a15 a16 a17 a18 a19 a20 a21 a22 a23 a24 a25 a26 a27 a28 a29 a30 a31 a32 a33 : Option D} {o : Option D} {d : D} : nmG 34 d (a0 :: a1 :: a2 :: a3 :: a4 :: a5 :: a6 :: a7 :: a8 :: a9 :: a10 :: a11 :: a12 :: a13 :: a14 :: a15 :: a16 :: a17 :: a18 :: a19 :: a20 :: a21 :: a22 :: a23 :: a24 :: a25 :: a26 :: a27 :: a28 :: a29 :: a30 :: a31 :: a32 :: a33 :: o :: Γ) S P = P (a0 :: a1 :: a2 :: a3 :: a4 :: a5 :: a6 :: a7 :: a8 :: a9 :: a10 :: a11 :: a12 :: a13 :: a14 :: a15 :: a16 :: a17 :: a18 :: a19 :: a20 :: a21 :: a22 :: a23 :: a24 :: a25 :: a26 :: a27 :: a28 :: a29 :: a30 :: a31 :: a32 :: a33 :: some d :: Γ) S := rfl
theorem dv35 {a0 a1 a2 a3 a4 a5 a6 a7 a8 a9 a10 a11 a12 a13 a14 a15 a16 a17 a18 a19 a20 a21 a22 a23 a24 a25 a26 a27 a28 a29 a30 a31 a32 a33 a34 : Option D} {d : D} : dVar 35 (a0 :: a1 :: a2 :: a3 :: a4 :: a5 :: a6 :: a7 :: a8 :: a9 :: a10 :: a11 :: a12 :: a13 :: a14 :: a15 :: a16 :: a17 :: a18 :: a19 :: a20 :: a21 :: a22 :: a23 :: a24 :: a25 :: a26 :: a27 :: a28 :: a29 :: a30 :: a31 :: a32 :: a33 :: a34 :: some d :: Γ) S Φ Ψ = Φ S d := propext ⟨fun ⟨_, e, h⟩ => by cases e; exact h, fun h => ⟨d, rfl, h⟩⟩
theorem nm35 {a0 a1 a2 a3 a4 a5 a6 a7 a8 a9 a10 a11 a12 a13 a14 a15 a16 a17 a18 a19 a20 a21 a22 a23 a24 a25 a26 a27 a28 a29 a30 a31 a32 a33 a34 : Option D} {o : Option D} {d : D} : nmG 35 d (a0 :: a1 :: a2 :: a3 :: a4 :: a5 :: a6 :: a7 :: a8 :: a9 :: a10 :: a11 :: a12 :: a13 :: a14 :: a15 :: a16 :: a17 :: a18 :: a19 :: a20 :: a21 :: a22 :: a23 :: a24 :: a25 :: a26 :: a27 :: a28 :: a29 :: a30 :: a31 :: a32 :: a33 :: a34 :: o :: Γ) S P = P (a0 :: a1 :: a2 :: a3 :: a4 :: a5 :: a6 :: a7 :: a8 :: a9 :: a10 :: a11 :: a12 :: a13 :: a14 :: a15 :: a16 :: a17 :: a18 :: a19 :: a20 :: a21 :: a22 :: a23 :: a24 :: a25 :: a26 :: a27 :: a28 :: a29 :: a30 :: a31 :: a32 :: a33 :: a34 :: some d :: Γ) S := rfl
theorem dv36 {a0 a1 a2 a3 a4 a5 a6 a7 a8 a9 a10 a11 a12 a13 a14 a15 a16 a17 a18 a19 a20 a21 a22 a23 a24 a25 a26 a27 a28 a29 a30 a31 a32 a33 a34 a35 : Option D} {d : D} : dVar 36 (a0 :: a1 :: a2 :: a3 :: a4 :: a5 :: a6 :: a7 :: a8 :: a9 :: a10 :: a11 :: a12 :: a13 :: a14 :: a15 :: a16 :: a17 :: a18 :: a19 :: a20 :: a21 :: a22 :: a23 :: a24 :: a25 :: a26 :: a27 :: a28 :: a29 :: a30 :: a31 :: a32 :: a33 :: a34 :: a35 :: some d :: Γ) S Φ Ψ = Φ S d := propext ⟨fun ⟨_, e, h⟩ => by cases e; exact h, fun h => ⟨d, rfl, h⟩⟩
theorem nm36 {a0 a1 a2 a3 a4 a5 a6 a7 a8 a9 a10 a11 a12 a13 a14 a15 a16 a17 a18 a19 a20 a21 a22 a23 a24 a25 a26 a27 a28 a29 a30 a31 a32 a33 a34 a35 : Option D} {o : Option D} {d : D} : nmG 36 d (a0 :: a1 :: a2 :: a3 :: a4 :: a5 :: a6 :: a7 :: a8 :: a9 :: a10 :: a11 :: a12 :: a13 :: a14 :: a15 :: a16 :: a17 :: a18 :: a19 :: a20 :: a21 :: a22 :: a23 :: a24 :: a25 :: a26 :: a27 :: a28 :: a29 :: a30 :: a31 :: a32 :: a33 :: a34 :: a35 :: o :: Γ) S P = P (a0 :: a1 :: a2 :: a3 :: a4 :: a5 :: a6 :: a7 :: a8 :: a9 :: a10 :: a11 :: a12 :: a13 :: a14 :: a15 :: a16 :: a17 :: a18 :: a19 :: a20 :: a21 :: a22 :: a23 :: a24 :: a25 :: a26 :: a27 :: a28 :: a29 :: a30 :: a31 :: a32 :: a33 :: a34 :: a35 :: some d :: Γ) S := rfl
theorem dv37 {a0 a1 a2 a3 a4 a5 a6 a7 a8 a9 a10 a11 a12 a13 a14 a15 a16 a17 a18 a19 a20 a21 a22 a23 a24 a25 a26 a27 a28 a29 a30 a31 a32 a33 a34 a35 a36 : Option D} {d : D} : dVar 37 (a0 :: a1 :: a2 :: a3 :: a4 :: a5 :: a6 :: a7 :: a8 :: a9 :: a10 :: a11 :: a12 :: a13 :: a14 :: a15 :: a16 :: a17 :: a18 :: a19 :: a20 :: a21 :: a22 :: a23 :: a24 :: a25 :: a26 :: a27 :: a28 :: a29 :: a30 :: a31 :: a32 :: a33 :: a34 :: a35 :: a36 :: some d :: Γ) S Φ Ψ = Φ S d := propext ⟨fun ⟨_, e, h⟩ => by cases e; exact h, fun h => ⟨d, rfl, h⟩⟩
theorem nm37 {a0 a1 a2 a3 a4 a5 a6 a7 a8 a9 a10 a11 a12 a13 a14 a15 a16 a17 a18 a19 a20 a21 a22 a23 a24 a25 a26 a27 a28 a29 a30 a31 a32 a33 a34 a35 a36 : Option D} {o : Option D} {d : D} : nmG 37 d (a0 :: a1 :: a2 :: a3 :: a4 :: a5 :: a6 :: a7 :: a8 :: a9 :: a10 :: a11 :: a12 :: a13 :: a14 :: a15 :: a16 :: a17 :: a18 :: a19 :: a20 :: a21 :: a22 :: a23 :: a24 :: a25 :: a26 :: a27 :: a28 :: a29 :: a30 :: a31 :: a32 :: a33 :: a34 :: a35 :: a36 :: o :: Γ) S P = P (a0 :: a1 :: a2 :: a3 :: a4 :: a5 :: a6 :: a7 :: a8 :: a9 :: a10 :: a11 :: a12 :: a13 :: a14 :: a15 :: a16 :: a17 :: a18 :: a19 :: a20 :: a21 :: a22 :: a23 :: a24 :: a25 :: a26 :: a27 :: a28 :: a29 :: a30 :: a31 :: a32 :: a33 :: a34 :: a35 :: a36 :: some d :: Γ) S := rfl
theorem dv38 {a0 a1 a2 a3 a4 a5 a6 a7 a8 a9 a10 a11 a12 a13 a14 a15 a16 a17 a18 a19 a20 a21 a22 a23 a24 a25 a26 a27 a28 a29 a30 a31 a32 a33 a34 a35 a36 a37 : Option D} {d : D} : dVar 38 (a0 :: a1 :: a2 :: a3 :: a4 :: a5 :: a6 :: a7 :: a8 :: a9 :: a10 :: a11 :: a12 :: a13 :: a14 :: a15 :: a16 :: a17 :: a18 :: a19 :: a20 :: a21 :: a22 :: a23 :: a24 :: a25 :: a26 :: a27 :: a28 :: a29 :: a30 :: a31 :: a32 :: a33 :: a34 :: a35 :: a36 :: a37 :: some d :: Γ) S Φ Ψ = Φ S d := propext ⟨fun ⟨_, e, h⟩ => by cases e; exact h, fun h => ⟨d, rfl, h⟩⟩
theorem nm38 {a0 a1 a2 a3 a4 a5 a6 a7 a8 a9 a10 a11 a12 a13 a14 a15 a16 a17 a18 a19 a20 a21 a22 a23 a24 a25 a26 a27 a28 a29 a30 a31 a32 a33 a34 a35 a36 a37 : Option D} {o : Option D} {d : D} : nmG 38 d (a0 :: a1 :: a2 :: a3 :: a4 :: a5 :: a6 :: a7 :: a8 :: a9 :: a10 :: a11 :: a12 :: a13 :: a14 :: a15 :: a16 :: a17 :: a18 :: a19 :: a20 :: a21 :: a22 :: a23 :: a24 :: a25 :: a26 :: a27 :: a28 :: a29 :: a30 :: a31 :: a32 :: a33 :: a34 :: a35 :: a36 :: a37 :: o :: Γ) S P = P (a0 :: a1 :: a2 :: a3 :: a4 :: a5 :: a6 :: a7 :: a8 :: a9 :: a10 :: a11 :: a12 :: a13 :: a14 :: a15 :: a16 :: a17 :: a18 :: a19 :: a20 :: a21 :: a22 :: a23 :: a24 :: a25 :: a26 :: a27 :: a28 :: a29 :: a30 :: a31 :: a32 :: a33 :: a34 :: a35 :: a36 :: a37 :: some d :: Γ) S := rfl
theorem dv39 {a0 a1 a2 a3 a4 a5 a6 a7 a8 a9 a10 a11 a12 a13 a14 a15 a16 a17 a18 a19 a20 a21 a22 a23 a24 a25 a26 a27 a28 a29 a30 a31 a32 a33 a34 a35 a36 a37 a38 : Option D} {d : D} : dVar 39 (a0 :: a1 :: a2 :: a3 :: a4 :: a5 :: a6 :: a7 :: a8 :: a9 :: a10 :: a11 :: a12 :: a13 :: a14 :: a15 :: a16 :: a17 :: a18 :: a19 :: a20 :: a21 :: a22 :: a23 :: a24 :: a25 :: a26 :: a27 :: a28 :: a29 :: a30 :: a31 :: a32 :: a33 :: a34 :: a35 :: a36 :: a37 :: a38 :: some d :: Γ) S Φ Ψ = Φ S d := propext ⟨fun ⟨_, e, h⟩ => by cases e; exact h, fun h => ⟨d, rfl, h⟩⟩
theorem nm39 {a0 a1 a2 a3 a4 a5 a6 a7 a8 a9 a10 a11 a12 a13 a14 a15 a16 a17 a18 a19 a20 a21 a22 a23 a24 a25 a26 a27 a28 a29 a30 a31 a32 a33 a34 a35 a36 a37 a38 : Option D} {o : Option D} {d : D} : nmG 39 d (a0 :: a1 :: a2 :: a3 :: a4 :: a5 :: a6 :: a7 :: a8 :: a9 :: a10 :: a11 :: a12 :: a13 :: a14 :: a15 :: a16 :: a17 :: a18 :: a19 :: a20 :: a21 :: a22 :: a23 :: a24 :: a25 :: a26 :: a27 :: a28 :: a29 :: a30 :: a31 :: a32 :: a33 :: a34 :: a35 :: a36 :: a37 :: a38 :: o :: Γ) S P = P (a0 :: a1 :: a2 :: a3 :: a4 :: a5 :: a6 :: a7 :: a8 :: a9 :: a10 :: a11 :: a12 :: a13 :: a14 :: a15 :: a16 :: a17 :: a18 :: a19 :: a20 :: a21 :: a22 :: a23 :: a24 :: a25 :: a26 :: a27 :: a28 :: a29 :: a30 :: a31 :: a32 :: a33 :: a34 :: a35 :: a36 :: a37 :: a38 :: some d :: Γ) S := rfl
theorem sPar_n {E : EdD} {i j : Nat} {T : TL} : sPar i j T E Γ S = (T Γ S (fun S1 ds => ∃ x y, ds = [x, y] ∧ nmG i x Γ S1 fun Γ' S' => nmG j y Γ' S' E.nx) E.er) := rfl
theorem sPar3_n {E : EdD} {i j l : Nat} {T : TL} : sPar3 i j l T E Γ S = (T Γ S (fun S1 ds => ∃ x y z, ds = [x, y, z] ∧ nmG i x Γ S1 fun Γ' S' => nmG j y Γ' S' fun Γ2 S2 => nmG l z Γ2 S2 E.nx) E.er) := rfl
theorem sAug_n {E : EdD} {i : Nat} {T : TD} {f : D → D → Sto → KD → Prop} : sAug i T f E Γ S = dVar i Γ S (fun _ d => T Γ S (fun S1 y => f d y S1 fun S2 z => nmG i z Γ S2 E.nx) E.er) E.er := rfl
end
end DL
namespace DL
open PySem PySem.Spec PyProof.Rows L2
abbrev wNo : WX := fun _ _ _ _ => False
end DL
namespace DL
open PySem PySem.Spec PyProof.Rows L2
section
variable {X : Cx} {W : WX} {e : Expr} {te : TE} {Te : TD}
def dLRg (T : TD) : TD := fun Γ S Φ Ψ => T Γ S (fun S1 d => ∃ n : Nat, d = .int n ∧ n ≤ 1000000 ∧ Φ S1 (.lst (rngD 0 n))) Ψ
def dLRgO (T : TD) : TD := fun Γ S Φ Ψ => T Γ S (fun S1 d => ∃ n : Nat, d = .int n ∧ n ≤ 1000000 ∧ Φ (S1 ++ [.lst (rngD 0 n)]) (.own S1.length)) Ψ
end
def dAddI := iOp0 fun i j => D.int (i + j)
def dSubI := iOp0 fun i j => D.int (i - j)
theorem ipd_addI {K : PySem.W.Frag} : IpD K (ipI fun i j => i + j) dAddI := ipd_int
theorem dAddI_i {i j : Int} {S : Sto} {Φ : KD} : dAddI (.int i) (.int j) S Φ = Φ S (.int (i + j)) := rfl
theorem dSubI_i {i j : Int} {S : Sto} {Φ : KD} : dSubI (.int i) (.int j) S Φ = Φ S (.int (i - j)) := rfl
section
variable {Γ : Gam} {S : Sto} {Φ : KD} {Ψ : KX}
theorem dLRg_e {T : TD} : dLRg T Γ S Φ Ψ = T Γ S (fun S1 d => ∃ n : Nat, d = .int n ∧ n ≤ 1000000 ∧ Φ S1 (.lst (rngD 0 n))) Ψ := rfl
theorem dLRgO_e {T : TD} : dLRgO T Γ S Φ Ψ = T Γ S (fun S1 d => ∃ n : Nat, d = .int n ∧ n ≤ 1000000 ∧ Φ (S1 ++ [.lst (rngD 0 n)]) (.own S1.length)) Ψ := rfl
end
end DL
namespace DL
open PySem PySem.Spec PyProof.Rows L2
def putT (ks : List (List Key × D)) (k : List Key) (d : D) : List (List Key × D) :=
  if (ks.any fun kv => decide (kv.1 = k)) = true then ks.map (fun kv => if kv.1 = k then (kv.1, d) else kv) else ks ++ [(k, d)]
theorem putT_len (ks : List (List Key × D)) (k : List Key) (d : D) : (putT ks k d).length ≤ ks.length + 1 := by
  unfold putT
  split
  · rw [List.length_map]; omega
  · rw [List.length_append, List.length_cons, List.length_nil]; omega
section
variable {K : PySem.W.Frag} {F : Hp} {al : List Addr} {us : List (List Key × V)} {ks : List (List Key × D)}
theorem RpT.keys (h : RpT K F al us ks) : us.map (·.1) = ks.map (·.1) := List.ext_getElem? fun i => by
  rw [List.getElem?_map, List.getElem?_map]
  cases q : ks[i]? with
  | none =>
    rw [List.getElem?_eq_none (by rw [h.1]; exact List.getElem?_eq_none_iff.mp q)]
    rfl
  | some p =>
    obtain ⟨v, e, _⟩ := h.2 i p.1 p.2 q
    rw [e]
    rfl
theorem RpT.put (h : RpT K F al us ks) (k : List Key) {v : V} {d : D} (r : Rp K F al v d) : RpT K F al (putK us k v) (putT ks k d) := by
  have ea : (us.any fun kv => decide (kv.1 = k)) = (ks.any fun kv => decide (kv.1 = k)) := by
    have e := congrArg (fun l : List (List Key) => l.any fun x => decide (x = k)) h.keys
    simp only [List.any_map] at e
    exact e
  unfold putK putT
  rw [ea]
  by_cases c : (ks.any fun kv => decide (kv.1 = k)) = true
  · rw [if_pos c, if_pos c]
    refine ⟨by rw [List.length_map, List.length_map]; exact h.1, fun i k' d' q => ?_⟩
    rw [List.getElem?_map] at q ⊢
    cases e : ks[i]? with
    | none => rw [e] at q; cases q
    | some p =>
      rw [e] at q
      obtain ⟨v', e2, r2⟩ := h.2 i p.1 p.2 e
      rw [e2]
      rw [Option.map_some] at q ⊢
      by_cases z : p.1 = k
      · rw [if_pos z] at q
        cases q
        exact ⟨v, by rw [if_pos z], r⟩
      · rw [if_neg z] at q
        cases q
        exact ⟨v', by rw [if_neg z], r2⟩
  · rw [if_neg c, if_neg c]
    refine ⟨by rw [List.length_append, List.length_append, h.1]; rfl, fun i k' d' q => ?_⟩
    by_cases z : i < ks.length
    · rw [List.getElem?_append_left z] at q
      rw [List.getElem?_append_left (by rw [h.1]; exact z)]
      exact h.2 i k' d' q
    · rw [List.getElem?_append_right (by omega)] at q
      rw [List.getElem?_append_right (by rw [h.1]; omega), h.1]
      cases m : i - ks.length with
      | zero =>
        rw [m] at q
        cases q
        exact ⟨v, rfl, r⟩
      | succ n =>
        rw [m] at q
        cases q
end
theorem dct_at {K : PySem.W.Frag} {w : Hs} {S : Sto} (g : Good K w S) {h : Nat} {v : V} {ks : List (List Key × D)} (r : Rv K w v (.own h)) (e : S[h]? = some (.dct ks)) : ∃ a us, v = .ref a ∧ w.al[h]? = some a ∧ w.F a = none ∧ w.H a = some (.dT us) ∧ RpT K w.F w.al us ks := by
  cases r with
  | @own h a q =>
    obtain ⟨hF, us, h2, h3⟩ := g.cell h a _ q e
    exact ⟨a, us, rfl, q, hF, h2, h3⟩
def dMulO (x y : D) (S : Sto) (Φ : KD) : Prop := ∃ xs, ∃ k : Nat, asL S x = some xs ∧ y = .int k ∧ xs.length * k ≤ 1000000 ∧ k ≤ 1000000 ∧ Φ (S ++ [.lst (List.replicate k xs).flatten]) (.own S.length)
theorem opd_mulO {K : PySem.W.Frag} : OpD K rMulA dMulO := fun w S x y u v Φ Q g r1 r2 ⟨xs, k, e1, ek, hl, hk, hΦ⟩ q => by
  subst ek
  obtain ⟨a, us, rfl, h1, h2⟩ := asL_at g r1 e1
  exact .inr (.inr ⟨a, k, us, rfl, rv_int r2, h1, by omega, by omega, by rw [h2.length]; exact small hl, new_own g q (ra_rep h2 _) hΦ⟩)
def dNew : TD := fun Γ S Φ Ψ => Φ (S ++ [.dct []]) (.own S.length)
section
variable {X : Cx} {W : WX}
theorem je_dnew {pos : Pos} : JE X W (.Dict [] [] pos) tDNewT dNew := ⟨pe_dnewT, fun Γ S Φ Ψ σ w g sl hT hx Q q => fun p hp =>
  q (.ref p) (.own S.length) (w.cel p (.dT [])) (S ++ [Cell.dct []]) (Ext.cel g _ hp) (g.cell' (c0 := .dct []) hp (Ext.cel g _ hp) rfl rfl (fun a x z => updF hp a x z) upd_some ⟨g.notF hp, [], upd_same, rfl, fun i k d z => by simp at z⟩) (.own (by
    show (w.al ++ [p])[S.length]? = some p
    rw [← g.len, List.getElem?_append_right (Nat.le_refl _), Nat.sub_self] <;> rfl)) (show Φ (S ++ [Cell.dct []]) (.own S.length) from hT)⟩
def sDct (Tv To : TD) (Tl : TL) : TSd := fun E Γ S => Tv Γ S (fun S1 v => To Γ S1 (fun S2 o => Tl Γ S2 (fun S3 ds => ∃ h ks, ∃ ns : List Int, o = .own h ∧ ds = ns.map D.int ∧ S3[h]? = some (.dct ks) ∧ ks.length < 1000000 ∧ ns.length ≤ 1000 ∧ E.nx Γ (S3.set h (.dct (putT ks (ns.map Sum.inl) v)))) E.er) E.er) E.er
theorem js_dput {o value : Expr} {es : List Expr} {to tv : TE} {To Tv : TD} {tl : TA} {Tl : TL} {x1} {pos pos' ipos : Pos} (hu : X.A.units + 64 < cLine) (ho : JE X W o to To) (ha : JA X W es tl Tl) (hv : JE X W value tv Tv)
    (hs : swapsWith value (some (.Subscript o (.Tuple es x1 ipos) pos')) pos.line X.env = pure false := by rfl) :
    JS X W (.Assign [.Subscript o (.Tuple es x1 ipos) pos'] value pos) (sDPut to (tTup tl) tv) (sDct Tv To Tl) :=
  ⟨ps_dput (by omega) ho.pe (pe_tup ha.pa) hv.pe hs, fun D' Γ S σ w D g sl hT r =>
    hv.sem Γ S _ _ σ w g sl hT (r.er σ) _ fun v d w1 S1 e1 g1 r1 h1 => ho.sem Γ S1 _ _ σ w1 g1 (sl.ext e1) h1 ((r.er σ).ext e1) _ fun x od w2 S2 e2 g2 r2 h2 =>
      ha.sem Γ S2 _ _ σ w2 g2 (sl.ext (e1.trans e2)) h2 ((r.er σ).ext (e1.trans e2)) _ fun vs ds w3 S3 e3 g3 r3 ⟨h, ks, ns, eo, ed, es, hk, hl, hn⟩ => by
        subst eo ed
        have ev := ra_ints r3
        subst ev
        refine ⟨small (by rw [List.length_map]; omega), fun p hp => ?_⟩
        obtain ⟨a, us, rfl, hal, hF, hH, rt⟩ := dct_at g3 (e3.rp r2) es
        have hne : a ≠ p := ne_of_none hH hp
        have e4 := Ext.frz g3 (.tup (ns.map V.int)) hp
        have g4 := g3.frz (.tup (ns.map V.int)) hp
        have hF4 : (w3.frz p (.tup (ns.map V.int))).F a = none := by
          show upd w3.F p _ a = none
          rw [upd_ne hne]; exact hF
        have hH4 : (w3.frz p (.tup (ns.map V.int))).H a = some (.dT us) := updF hp a _ hH
        have rt4 : RpT X.K (w3.frz p (.tup (ns.map V.int))).F (w3.frz p (.tup (ns.map V.int))).al us ks := rt.mono e4.f e4.alx
        have hl4 : h < S3.length := (List.getElem?_eq_some_iff.mp es).1
        have ok5 : CellOk X.K ((w3.frz p (.tup (ns.map V.int))).wr a (.dT (putK us (ns.map Sum.inl) v))) a (.dct (putT ks (ns.map Sum.inl) d)) :=
          ⟨hF4, _, upd_same, rt4.put _ (e4.rp (e3.rp (e2.rp r1)))⟩
        have g5 := g4.write (c0 := .dct (putT ks (ns.map Sum.inl) d)) hal hl4 hF4 ok5
        have e5 : Ext (w3.frz p (.tup (ns.map V.int))) ((w3.frz p (.tup (ns.map V.int))).wr a (.dT (putK us (ns.map Sum.inl) v))) := Ext.wr _ (List.mem_of_getElem? hal)
        have hk2 : us.length < sizeLine := by
          rw [rt.1]
          exact Nat.lt_of_lt_of_le hk (by decide)
        have ex := (e1.trans e2).trans (e3.trans (e4.trans e5))
        refine ⟨a, _, rfl, DPut.t (k := ns.map Sum.inl) hH4 ?_ hk2, r.nx _ _ _ _ ex g5 (sl.ext ex) hn⟩
        show upd w3.H p _ p = _
        rw [upd_same, List.map_map]
        rfl⟩
end
section
variable {Γ : Gam} {S : Sto} {Φ : KD} {Ψ : KX}
theorem dNew_e : dNew Γ S Φ Ψ = Φ (S ++ [Cell.dct []]) (.own S.length) := rfl
theorem sDct_e {E : EdD} {Tv To : TD} {Tl : TL} : sDct Tv To Tl E Γ S = Tv Γ S (fun S1 v => To Γ S1 (fun S2 o => Tl Γ S2 (fun S3 ds => ∃ h ks, ∃ ns : List Int, o = .own h ∧ ds = ns.map D.int ∧ S3[h]? = some (.dct ks) ∧ ks.length < 1000000 ∧ ns.length ≤ 1000 ∧ E.nx Γ (S3.set h (.dct (putT ks (ns.map Sum.inl) v)))) E.er) E.er) E.er := rfl
theorem dMulO_l {xs : List D} {k : Nat} : dMulO (.lst xs) (.int k) S Φ = (xs.length * k ≤ 1000000 ∧ k ≤ 1000000 ∧ Φ (S ++ [.lst (List.replicate k xs).flatten]) (.own S.length)) := propext ⟨fun ⟨_, _, e1, e2, h⟩ => by cases e1; cases e2; exact h, fun h => ⟨_, _, rfl, rfl, h⟩⟩
end
section
variable {P : Program} {wd : World} {K : PySem.W.Frag} {mg : Str → Option Value} {base : Heap} {x : Str} {st : Stmt} {k : Nat} {ps : List Str}
theorem spOf_no {sp : DSpec} (h0 : ∀ ds S Φ Ψ, ¬ sp ds S Φ Ψ) {vs : List V} {H : Hp} {Q : VK} {E : XK} (h : spOf K sp vs H Q E) : False := by
  obtain ⟨w, S, ds, Φ, Ψ, _, _, _, h1, _⟩ := h
  exact h0 _ _ _ _ h1
/-- a def whose spec admits nothing -/
theorem calG_no {sp : DSpec} (F : Tx K mg x st)
    (hbind : ∀ (kV doc pm : Value) (an : Option Addr) (cdv ct : Value) (us : List Value), us.length = ps.length → bindArgs (PySem.W.fnOf x x (defArgs st) (defBody st) (defScope st) .none kV doc pm an cdv ct) ⟨us, []⟩ = pure (ps.zip us))
    (h0 : ∀ ds S Φ Ψ, ¬ sp ds S Φ Ψ) : CalG P wd K mg base x st k ps sp := by
  obtain ⟨f, fd, F, hm⟩ := F.ex
  exact ⟨f, fd, ⟨fun as H Q E h => (spOf_no h0 h).elim, fun Ar out s0 H ar us as Q E _ _ _ _ _ h => (spOf_no h0 h).elim⟩, hm, F, binds_of F hbind⟩
/-- a def that calls itself, to a depth -/
theorem calG_rec {N : List Str} {sp : Nat → DSpec} (F : Tx K mg x st)
    (hbind : ∀ (kV doc pm : Value) (an : Option Addr) (cdv ct : Value) (us : List Value), us.length = ps.length → bindArgs (PySem.W.fnOf x x (defArgs st) (defBody st) (defScope st) .none kV doc pm an cdv ct) ⟨us, []⟩ = pure (ps.zip us))
    (Sc : FnScope N ps (defScope st)) (len : ∀ m ds S Φ Ψ, sp m ds S Φ Ψ → ds.length = ps.length) (h0 : ∀ ds S Φ Ψ, ¬ sp 0 ds S Φ Ψ)
    (hbody : ∀ m, CalG P wd K mg base x st (k + m) ps (sp m) → ∀ (f : Addr) (cdv : Value) (A : Around) (outer : List Env) (s : Shared) (H : Hp) (E : XK), (A.deeper (envOfC x (defScope st) s.heap.objs.size f cdv)).guards = some [] → Room (k + m) (A.deeper (envOfC x (defScope st) s.heap.objs.size f cdv)) →
      ∃ t T, JB (cxOf (L2.CX P wd) P wd K mg base N x (defScope st) f cdv A outer s H E) (WD E) (defBody st) t T ∧ ∀ ds S Φ Ψ, sp (m + 1) ds S Φ Ψ → T { nx := fun _ S' => RetOk S Φ S' .non, rt := RetOk S Φ, er := ErOk S Ψ } (gstart N ds) S) :
    ∀ m, CalG P wd K mg base x st (k + m) ps (sp m)
  | 0 => calG_no F hbind h0
  | m + 1 => calG_ok F hbind Sc (len (m + 1)) (hbody m (calG_rec F hbind Sc len h0 hbody m))
end
end DL
namespace DL
open PySem PySem.Spec PyProof.Rows L2
section
variable {X : Cx} {W : WX} {e : Expr} {es : List Expr} {te : TE} {Te : TD} {tl : TA} {Tl : TL}
def dIsiT (T : TD) (Tl : TL) : TD := fun Γ S Φ Ψ => T Γ S (fun S1 d => Tl Γ S1 (fun S2 ds => ∃ a, ∃ ns : List String, ds = ns.map D.ty ∧ tyOf S2 d = some a ∧ ns.length ≤ 1000 ∧ (∀ n ∈ ns, n ∈ tyN) ∧ Φ S2 (.bl (ns.any (isTyB a)))) Ψ) Ψ
end
theorem dIsiT_e {Γ : Gam} {S : Sto} {Φ : KD} {Ψ : KX} {T : TD} {Tl : TL} : dIsiT T Tl Γ S Φ Ψ = T Γ S (fun S1 d => Tl Γ S1 (fun S2 ds => ∃ a, ∃ ns : List String, ds = ns.map D.ty ∧ tyOf S2 d = some a ∧ ns.length ≤ 1000 ∧ (∀ n ∈ ns, n ∈ tyN) ∧ Φ S2 (.bl (ns.any (isTyB a)))) Ψ) Ψ := rfl
end DL
namespace DL
open PySem PySem.Spec PyProof.Rows L2
/-- values that are pairs of whole numbers -/
def Prs (K : PySem.W.Frag) (H : Hp) (xs : List V) (ps : List (Int × Int)) : Prop := xs.length = ps.length ∧ ∀ i (h1 : i < xs.length) (h2 : i < ps.length), ∃ t, xs[i] = V.ref t ∧ SqT K H t [.int ps[i].1, .int ps[i].2]
def rSortQ (K : PySem.W.Frag) : List V → Hp → VK → Prop := fun vs H Q => ∃ (a : Addr) (xs : List V) (ps : List (Int × Int)), vs = [V.ref a] ∧ SqL K H a xs ∧ Prs K H xs ps ∧
  ∀ ys qs p, ys.length = qs.length → (ys.zip qs).Perm (xs.zip ps) → qs.Pairwise (fun a b => SrtO.lexB b a = false) → H p = none → Q (.ref p) (upd H p (.lst ys))
section
variable {X : Cx}
theorem cr_sortQ : CallR X (.builtin "sorted") (rSortQ X.K) := by
  intro pins s σ H vs us Q I r h
  obtain ⟨a, xs, ps, rfl, hs, ⟨hlen, hps⟩, q⟩ := h
  obtain ⟨its, rv, hl, hz⟩ := I.list hs
  obtain ⟨u, rfl, ru⟩ := vals1 r
  obtain rfl : u = Value.ref a := ru
  classical
  let k : V → Int × Int := fun v => if e : ∃ p : Int × Int, ∃ t, v = V.ref t ∧ SqT X.K H t [.int p.1, .int p.2] then e.choose else (0, 0)
  have hk : ∀ i (h1 : i < xs.length) (h2 : i < ps.length), k xs[i] = ps[i] := fun i h1 h2 => by
    obtain ⟨t, e, ht⟩ := hps i h1 h2
    have ex : ∃ p : Int × Int, ∃ t, xs[i] = V.ref t ∧ SqT X.K H t [.int p.1, .int p.2] := ⟨ps[i], t, e, ht⟩
    show (if e : _ then _ else _) = _
    rw [dif_pos ex]
    obtain ⟨t', e', ht'⟩ := ex.choose_spec
    rw [e] at e'
    cases e'
    have := I.tuple_inj ht ht'
    simp at this
    exact Prod.ext this.1.symm this.2.symm
  have hx : ∀ x ∈ xs, ∃ t, x = V.ref t ∧ SqT X.K H t [.int (k x).1, .int (k x).2] := fun x m => by
    obtain ⟨i, hi, rfl⟩ := List.getElem_of_mem m
    rw [hk i hi (by omega)]
    exact hps i hi (by omega)
  have emap : xs.map k = ps := by
    apply List.ext_getElem
    · rw [List.length_map]; exact hlen
    · intro i h1 h2
      rw [List.getElem_map]
      exact hk i (by rw [List.length_map] at h1; exact h1) h2
  obtain ⟨e1, e2⟩ := refs_back rv fun x m => by
    obtain ⟨t, e, _⟩ := hx x m
    exact ⟨t, e⟩
  refine SrtO.sorted_pairsO (k := fun u => k (backV u)) hl.isList (by rw [← rv.length]; exact hz) (fun v hv => ?_) fun h' d out h1 h2 kp hd hn => ?_
  · obtain ⟨t, rfl⟩ := e2 v hv
    have hm : V.ref t ∈ xs := by rw [e1]; exact List.mem_map.mpr ⟨_, hv, rfl⟩
    obtain ⟨t', e, ht⟩ := hx _ hm
    cases e
    obtain ⟨its2, r2, ⟨o, ho, hc, n, hd⟩, _⟩ := I.tuple ht
    obtain ⟨u1, u2, rfl, ri, rj⟩ := vals2 r2
    obtain ⟨t1, rfl⟩ := ri
    obtain ⟨t2, rfl⟩ := rj
    exact ⟨t, o, t1, t2, n, rfl, ho, hc, hd⟩
  · have h3 : ∀ u ∈ out, ∃ a, u = Value.ref a := fun u hu => e2 u (h2.perm.mem_iff.mp hu)
    obtain ⟨n, hn⟩ := hn
    have hb : SrtO.Stb (ltP k) (out.map backV) xs := by
      rw [e1]
      exact SrtO.Stb.map (ltP_swo k) backV h2
    refine ⟨.ref d, upd H d (.lst (out.map backV)), I.laid (t' := s.toks) kp hd ⟨?_, out, n, vals_back h3, hn⟩, rfl, q (out.map backV) ((out.map backV).map k) d (List.length_map ..).symm ?_ ?_ (I.hok.fresh hd)⟩
    · rw [hb.len]
      exact hz
    · have zz : ∀ l : List V, (l.zip (l.map k)) = l.map fun v => (v, k v) := fun l => by
        induction l with
        | nil => rfl
        | cons a l ih => rw [List.map_cons, List.zip_cons_cons, ih, List.map_cons]
      rw [← emap, zz, zz]
      exact hb.perm.map _
    · exact List.pairwise_map.mpr (SrtO.srtd_map h1)
end
def prD (p : Int × Int) : D := .tup [.int p.1, .int p.2]
theorem ra_prs {K : PySem.W.Frag} {w : Hs} {S : Sto} (g : Good K w S) : ∀ {vs : List V} {ps : List (Int × Int)}, Ra K w vs (ps.map prD) → Prs K w.H vs ps
  | _, [], r => by
    cases r
    exact ⟨rfl, fun i h1 => absurd h1 (by simp)⟩
  | _, p :: ps, r => by
    cases r with
    | cons r1 r2 =>
      obtain ⟨hl, h⟩ := ra_prs g r2
      refine ⟨by rw [List.length_cons, List.length_cons, hl], fun i h1 h2 => ?_⟩
      cases i with
      | zero =>
        cases r1 with
        | tup hq ha =>
          rw [ra_ints (ns := [p.1, p.2]) ha] at hq
          exact ⟨_, rfl, sameSqt g.sub hq⟩
      | succ i =>
        have := h i (by simpa using h1) (by simpa using h2)
        simpa using this
theorem ra_zip {K : PySem.W.Frag} {w : Hs} : ∀ {vs : List V} {ps : List (Int × Int)}, Ra K w vs (ps.map prD) → ∀ z ∈ vs.zip ps, Rv K w z.1 (prD z.2)
  | _, [], r, z, hz => by rw [List.zip_nil_right] at hz; cases hz
  | _, p :: ps, r, z, hz => by
    cases r with
    | cons r1 r2 =>
      rcases List.mem_cons.mp hz with rfl | hz
      · exact r1
      · exact ra_zip r2 z hz
theorem zip_ra {K : PySem.W.Frag} {w : Hs} : ∀ {vs : List V} {ps : List (Int × Int)}, vs.length = ps.length → (∀ z ∈ vs.zip ps, Rv K w z.1 (prD z.2)) → Ra K w vs (ps.map prD)
  | [], [], _, _ => .nil
  | [], _ :: _, h, _ => absurd h (by simp)
  | _ :: _, [], h, _ => absurd h (by simp)
  | v :: vs, p :: ps, hl, h => .cons (h (v, p) (List.mem_cons_self)) (zip_ra (by simpa using hl) fun z hz => h z (List.mem_cons_of_mem _ hz))
theorem zip_perm {α β : Type} : ∀ {xs ys : List α} {ps qs : List β}, xs.length = ps.length → ys.length = qs.length → (ys.zip qs).Perm (xs.zip ps) → qs.Perm ps := fun h1 h2 h => by
  have := h.map Prod.snd
  rw [List.map_snd_zip (by omega), List.map_snd_zip (by omega)] at this
  exact this
def cSortQ (ds : List D) (S : Sto) (Φ : KD) : Prop := match ds with
  | [d] => ∃ ps : List (Int × Int), asQ S d = some (ps.map prD) ∧ ∀ qs : List (Int × Int), qs.Perm ps → qs.Pairwise (fun a b => SrtO.lexB b a = false) → Φ S (.lst (qs.map prD))
  | _ => False
theorem cd_sortQ {K : PySem.W.Frag} : CallD K (rSortQ K) cSortQ := fun w S vs ds Φ Q g r h q => by
  cases ds with
  | nil => exact h.elim
  | cons d t =>
    cases t with
    | cons _ _ => exact h.elim
    | nil =>
      obtain ⟨ps, e, h⟩ := h
      obtain ⟨v, rfl, r1⟩ := one_of r
      obtain ⟨a, ys, rfl, hs, ra⟩ := asQ_at g r1 e
      have rp := ra_prs g ra
      exact ⟨a, ys, ps, rfl, hs, rp, fun zs qs p hl hp h2 hn => new_lst g q (zip_ra hl fun z hz => ra_zip ra z (hp.mem_iff.mp hz)) (h qs (zip_perm rp.1 hl hp) h2) p hn⟩
section
variable {X : Cx} {W : WX} {e : Expr} {te : TE} {Te : TD}
def dLenSet (T : TD) : TD := fun Γ S Φ Ψ => T Γ S (fun S1 d => ∃ ns : List Int, asQ S1 d = some (ns.map D.int) ∧ ns.Nodup ∧ ns.length ≤ 4000 ∧ Φ S1 (.int ns.length)) Ψ
variable {Γ : Gam} {S : Sto} {Φ : KD} {Ψ : KX}
theorem dLenSet_e {T : TD} : dLenSet T Γ S Φ Ψ = T Γ S (fun S1 d => ∃ ns : List Int, asQ S1 d = some (ns.map D.int) ∧ ns.Nodup ∧ ns.length ≤ 4000 ∧ Φ S1 (.int ns.length)) Ψ := rfl
end
section
variable {X : Cx} {W : WX} {a b c d : Expr} {ta tb tc td : TE} {Ta Tb Tc Td : TD} {pos : Pos}
def bChain3 (f g h : D → D → Sto → KD → Prop) (Ta Tb Tc Td : TD) : TB := fun Γ S Φ Ψ => Ta Γ S (fun S1 x => Tb Γ S1 (fun S2 y => f x y S2 fun S3 z => ∃ k, z = .bl k ∧ (if k = true then Tc Γ S3 (fun S4 u => g y u S4 fun S5 z2 => ∃ k2, z2 = .bl k2 ∧ (if k2 = true then Td Γ S5 (fun S6 v => h u v S6 fun S7 z3 => ∃ k3, z3 = .bl k3 ∧ Φ S7 k3) Ψ else Φ S5 false)) Ψ else Φ S3 false)) Ψ) Ψ
variable {Γ : Gam} {S : Sto} {Φ : Sto → Bool → Prop} {Ψ : KX}
theorem bChain3_e {f g h : D → D → Sto → KD → Prop} : bChain3 f g h Ta Tb Tc Td Γ S Φ Ψ = Ta Γ S (fun S1 x => Tb Γ S1 (fun S2 y => f x y S2 fun S3 z => ∃ k, z = .bl k ∧ (if k = true then Tc Γ S3 (fun S4 u => g y u S4 fun S5 z2 => ∃ k2, z2 = .bl k2 ∧ (if k2 = true then Td Γ S5 (fun S6 v => h u v S6 fun S7 z3 => ∃ k3, z3 = .bl k3 ∧ Φ S7 k3) Ψ else Φ S5 false)) Ψ else Φ S3 false)) Ψ) Ψ := rfl
end
section
variable {X : Cx} {W : WX} {e e2 : Expr} {te te2 : TE} {Te Te2 : TD}
def dLRg2 (T U : TD) : TD := fun Γ S Φ Ψ => T Γ S (fun S1 x => U Γ S1 (fun S2 y => ∃ i n : Nat, x = .int i ∧ y = .int ((i + n : Nat) : Int) ∧ i + n ≤ 1000000 ∧ Φ S2 (.lst (rngD i n))) Ψ) Ψ
variable {Γ : Gam} {S : Sto} {Φ : KD} {Ψ : KX}
theorem dLRg2_e {T U : TD} : dLRg2 T U Γ S Φ Ψ = T Γ S (fun S1 x => U Γ S1 (fun S2 y => ∃ i n : Nat, x = .int i ∧ y = .int ((i + n : Nat) : Int) ∧ i + n ≤ 1000000 ∧ Φ S2 (.lst (rngD i n))) Ψ) Ψ := rfl
end
section
def dwD (i : Int) (n : Nat) : List D := (List.range n).map fun (k : Nat) => D.int (i - (k : Int))
def iRg3 (T : TL) : TId := fun Γ S Φ Ψ => T Γ S (fun S1 ds => ∃ i j, ds = [.int i, .int j, .int (-1)] ∧ (-(2 ^ 62) ≤ i ∧ i < 2 ^ 62 ∧ -(2 ^ 62) ≤ j ∧ j < 2 ^ 62) ∧ Φ S1 (fun _ => some (dwD i (i - j).toNat))) Ψ
variable {X : Cx} {W : WX} {a b c tg : Expr} {tl : TA} {Tl : TL} {p pos : Pos}
variable {Γ : Gam} {S : Sto} {Ψ : KX}
theorem iRg3_e {T : TL} {Φ : Sto → Src → Prop} : iRg3 T Γ S Φ Ψ = T Γ S (fun S1 ds => ∃ i j, ds = [.int i, .int j, .int (-1)] ∧ (-(2 ^ 62) ≤ i ∧ i < 2 ^ 62 ∧ -(2 ^ 62) ≤ j ∧ j < 2 ^ 62) ∧ Φ S1 (fun _ => some (dwD i (i - j).toNat))) Ψ := rfl
end
end DL
namespace DL
open PySem PySem.Spec PyProof.Rows L2
section
variable {X : Cx} {W : WX}
/-- [elt for tg in iter if .. for tg1 in iter1 if ..] -/
def dLc2 (I : TId) (G : TGd) (C : TB) (T1 : TD) (G1 : TGd) (C1 : TB) (Te : TD) (vs vs1 : List Nat) (Fin : List D → Sto → KD → Prop) : TD := fun Γ S Φ Ψ => I Γ S (fun S1 src => ∃ (P : Nat → List D → Sto → Prop) (n : Nat), P 0 [] S1 ∧
  (∀ i acc S', i ≤ n → P i acc S' → ∃ ds, src S' = some ds ∧ ds.length = n) ∧
  (∀ i acc S' ds d, P i acc S' → src S' = some ds → ds[i]? = some d → G d (gwipe Γ vs) S' fun Γ2 S2 => C Γ2 S2 (fun S3 k => if k = true then
      T1 Γ2 S3 (fun S4 d4 => (∃ ds, asQ S4 d4 = some ds) ∧ ∃ (P1 : Nat → List D → Sto → Prop) (n1 : Nat), P1 0 acc S4 ∧
        (∀ j acc1 S5, j ≤ n1 → P1 j acc1 S5 → ∃ ds1, asQ S5 d4 = some ds1 ∧ ds1.length = n1) ∧
        (∀ j acc1 S5 ds1 d1, P1 j acc1 S5 → asQ S5 d4 = some ds1 → ds1[j]? = some d1 → G1 d1 (gwipe Γ2 vs1) S5 fun Γ3 S6 => C1 Γ3 S6 (fun S7 k1 => if k1 = true then Te Γ3 S7 (fun S8 y => acc1.length < sizeLine ∧ P1 (j + 1) (acc1 ++ [y]) S8) (fun _ _ => False) else P1 (j + 1) acc1 S7) (fun _ _ => False)) ∧
        (∀ acc1 S5, P1 n1 acc1 S5 → P (i + 1) acc1 S5)) (fun _ _ => False) else P (i + 1) acc S3) (fun _ _ => False)) ∧
  (∀ acc S', P n acc S' → Fin acc S' Φ)) Ψ
end
/-- a part of a tuple, not the whole -/
def dSlT (d : D) (lo hi : Option Int) (S : Sto) (Φ : KD) : Prop := ∃ ds, d = .tup ds ∧ ¬ (HT.sIx ds.length 0 lo = 0 ∧ HT.sIx ds.length ds.length hi = ds.length) ∧ Φ S (.tup (cutD ds lo hi))
section
variable {Γ : Gam} {S : Sto} {Φ : KD} {Ψ : KX}
theorem dSlT_t {ds : List D} {lo hi : Option Int} : dSlT (.tup ds) lo hi S Φ = (¬ (HT.sIx ds.length 0 lo = 0 ∧ HT.sIx ds.length ds.length hi = ds.length) ∧ Φ S (.tup (cutD ds lo hi))) := propext ⟨fun ⟨_, e, h⟩ => by cases e; exact h, fun h => ⟨_, rfl, h⟩⟩
theorem dLc2_e {I : TId} {G G1 : TGd} {C C1 : TB} {T1 Te : TD} {vs vs1 : List Nat} {Fin : List D → Sto → KD → Prop} : dLc2 I G C T1 G1 C1 Te vs vs1 Fin Γ S Φ Ψ = I Γ S (fun S1 src => ∃ (P : Nat → List D → Sto → Prop) (n : Nat), P 0 [] S1 ∧
  (∀ i acc S', i ≤ n → P i acc S' → ∃ ds, src S' = some ds ∧ ds.length = n) ∧
  (∀ i acc S' ds d, P i acc S' → src S' = some ds → ds[i]? = some d → G d (gwipe Γ vs) S' fun Γ2 S2 => C Γ2 S2 (fun S3 k => if k = true then
      T1 Γ2 S3 (fun S4 d4 => (∃ ds, asQ S4 d4 = some ds) ∧ ∃ (P1 : Nat → List D → Sto → Prop) (n1 : Nat), P1 0 acc S4 ∧
        (∀ j acc1 S5, j ≤ n1 → P1 j acc1 S5 → ∃ ds1, asQ S5 d4 = some ds1 ∧ ds1.length = n1) ∧
        (∀ j acc1 S5 ds1 d1, P1 j acc1 S5 → asQ S5 d4 = some ds1 → ds1[j]? = some d1 → G1 d1 (gwipe Γ2 vs1) S5 fun Γ3 S6 => C1 Γ3 S6 (fun S7 k1 => if k1 = true then Te Γ3 S7 (fun S8 y => acc1.length < sizeLine ∧ P1 (j + 1) (acc1 ++ [y]) S8) (fun _ _ => False) else P1 (j + 1) acc1 S7) (fun _ _ => False)) ∧
        (∀ acc1 S5, P1 n1 acc1 S5 → P (i + 1) acc1 S5)) (fun _ _ => False) else P (i + 1) acc S3) (fun _ _ => False)) ∧
  (∀ acc S', P n acc S' → Fin acc S' Φ)) Ψ := rfl
end
end DL
namespace DL
open PySem PySem.Spec PyProof.Rows L2
/-- the dict of the modules is known as such -/
def ModK (K : PySem.W.Frag) : Prop := ∃ o, K.lookup sysModules = some o ∧ o.cls = .type "dict"
def bModK : FaX := fun K => match K.lookup sysModules with
  | some o => decide (o.cls = .type "dict")
  | none => false
theorem bModK_ok {K : PySem.W.Frag} (h : bModK K = true) : ModK K := by
  unfold bModK at h
  split at h
  · rename_i o e
    exact ⟨o, e, of_decide_eq_true h⟩
  · cases h
def keyP : Key → PyData
  | .inl i => .int i
  | .inr x => .str x
mutual
inductive DpX (K : PySem.W.Frag) (H : Hp) : V → PyData → Prop
  | non : DpX K H .non .none
  | bl (b : Bool) : DpX K H (.bl b) (.bool b)
  | int (i : Int) : DpX K H (.int i) (.int i)
  | str (x : Str) : DpX K H (.str x) (.str x)
  | lst {a : Addr} {xs : List V} {ds : List PyData} : SqL K H a xs → DpXA K H xs ds → DpX K H (.ref a) (.list ds)
  | tup {a : Addr} {xs : List V} {ds : List PyData} : SqT K H a xs → DpXA K H xs ds → DpX K H (.ref a) (.tuple ds)
  | dic {a : Addr} {vs : List (Key × V)} {ps : List (PyData × PyData)} : H a = some (.dK vs) → DpXK K H vs ps → DpX K H (.ref a) (.dict ps)
inductive DpXA (K : PySem.W.Frag) (H : Hp) : List V → List PyData → Prop
  | nil : DpXA K H [] []
  | cons {v : V} {vs : List V} {d : PyData} {ds : List PyData} : DpX K H v d → DpXA K H vs ds → DpXA K H (v :: vs) (d :: ds)
inductive DpXK (K : PySem.W.Frag) (H : Hp) : List (Key × V) → List (PyData × PyData) → Prop
  | nil : DpXK K H [] []
  | cons {k : Key} {v : V} {vs : List (Key × V)} {d : PyData} {ds : List (PyData × PyData)} : DpX K H v d → DpXK K H vs ds → DpXK K H ((k, v) :: vs) ((keyP k, d) :: ds)
end
section
variable {X : Cx} {pins : List (Addr × Obj)} {σ : L2.St} {H : Hp} {s : Shared}
theorem mod_free (I : L2.Inv X pins σ H s) (hM : ModK X.K) : H sysModules = none := by
  obtain ⟨o, e, _⟩ := hM
  have b := I.ok.mod.kin _ _ e
  obtain ⟨h1, h2⟩ := I.ok.bs _ _ b
  exact I.base.free _ _ h1 h2 (I.ok.noex _ _ b)
theorem not_mod (I : L2.Inv X pins σ H s) (hM : ModK X.K) {a : Addr} {xs : List V} (h : SqL X.K H a xs) : a ≠ sysModules := by
  rintro rfl
  rcases h with (h | ⟨o, h⟩) | ⟨o, _, _, h, hc, _⟩
  · rw [mod_free I hM] at h; cases h
  · rw [mod_free I hM] at h; cases h
  · obtain ⟨o2, e, c⟩ := hM
    rw [e] at h
    cases h
    rw [hc] at c
    injection c with c
    exact absurd c (by decide)
theorem key_reads {h : Heap} {k : Key} {u : Value} (e : keyIs k u = true) : Reads h u (keyP k) [] := by
  cases k with
  | inl i =>
    cases u <;> first | (exact absurd e Bool.false_ne_true) | (have e : (_ == _) = true := e; rw [beq_iff_eq] at e; subst e; exact .int _ _)
  | inr x =>
    cases u <;> first | (exact absurd e Bool.false_ne_true) | (have e : (_ == _) = true := e; rw [beq_iff_eq] at e; subst e; exact .str _ _)
mutual
theorem DpX.reads (I : L2.Inv X pins σ H s) (hM : ModK X.K) : ∀ (d : PyData) (v : V) (u : Value), DpX X.K H v d → RelV v u → ∃ as, Reads s.heap u d as ∧ sysModules ∉ as
  | .none, _, u, h, r => by
    cases h
    have r : u = .none := r
    subst r
    exact ⟨[], .none, fun z => nomatch z⟩
  | .bool b, _, u, h, r => by
    cases h
    have r : u = .bool b := r
    subst r
    exact ⟨[], .bool b, fun z => nomatch z⟩
  | .int i, _, u, h, r => by
    cases h
    obtain ⟨t, r⟩ : ∃ t, u = .int i t := r
    subst r
    exact ⟨[], .int i t, fun z => nomatch z⟩
  | .str x, _, u, h, r => by
    cases h
    obtain ⟨t, r⟩ : ∃ t, u = .str x t := r
    subst r
    exact ⟨[], .str x t, fun z => nomatch z⟩
  | .list ds, _, u, h, r => by
    cases h with
    | @lst a xs _ hs ha =>
      have r : u = .ref a := r
      subst r
      obtain ⟨its, rv, pl, _⟩ := I.list hs
      obtain ⟨as, h1, h2⟩ := DpXA.reads I hM ds xs its ha rv
      obtain ⟨o, n, ho, hc, _, hd⟩ := pl
      exact ⟨a :: as, .list ho hc hd (by rw [List.toList_toArray]; exact h1), fun z => (List.mem_cons.mp z).elim (fun e => not_mod I hM hs e.symm) h2⟩
  | .tuple ds, _, u, h, r => by
    cases h with
    | @tup a xs _ hs ha =>
      have r : u = .ref a := r
      subst r
      obtain ⟨its, rv, pl, _⟩ := I.tuple hs
      obtain ⟨as, h1, h2⟩ := DpXA.reads I hM ds xs its ha rv
      obtain ⟨o, ho, hc, n, hd⟩ := pl
      exact ⟨as, .tuple ho hc hd (by rw [List.toList_toArray]; exact h1), h2⟩
  | .dict ps, _, u, h, r => by
    cases h with
    | @dic a vs _ hs ha =>
      have r : u = .ref a := r
      subst r
      obtain ⟨_, ne, ws, kv, o, es, ep, ho, ⟨c1, _, _⟩, hd, _, pr, _⟩ := I.hok a _ hs
      obtain ⟨as, h1, h2, h3⟩ := DpXK.reads I hM ps vs ws es.toList ha kv pr
      exact ⟨a :: [] ++ as, .dict ho c1 hd h1 h2, fun z => (List.mem_cons.mp z).elim (fun e => by rw [e] at ne; simp at ne) h3⟩
theorem DpXA.reads (I : L2.Inv X pins σ H s) (hM : ModK X.K) : ∀ (ds : List PyData) (vs : List V) (us : List Value), DpXA X.K H vs ds → Vals vs us → ∃ as, ReadsAll s.heap us ds as ∧ sysModules ∉ as
  | [], _, us, h, r => by
    cases h
    cases r
    exact ⟨[], .nil, fun z => nomatch z⟩
  | d :: ds, _, us, h, r => by
    cases h with
    | cons h1 h2 =>
      cases r with
      | cons r1 r2 =>
        obtain ⟨as, a1, a2⟩ := DpX.reads I hM d _ _ h1 r1
        obtain ⟨bs, b1, b2⟩ := DpXA.reads I hM ds _ _ h2 r2
        exact ⟨as ++ bs, .cons a1 b1, fun z => (List.mem_append.mp z).elim a2 b2⟩
theorem DpXK.reads (I : L2.Inv X pins σ H s) (hM : ModK X.K) : ∀ (ps : List (PyData × PyData)) (vs : List (Key × V)) (ws : List (Key × Value)) (es : List DictEntry), DpXK X.K H vs ps → KV vs ws → Pairs (mixKind X.prog X.w) es ws →
    ∃ as, ReadsAll s.heap (es.map (·.key)) (ps.map (·.1)) [] ∧ ReadsAll s.heap (es.map (·.val)) (ps.map (·.2)) as ∧ sysModules ∉ as
  | [], _, ws, es, h, r, q => by
    cases h
    cases r
    cases q
    exact ⟨[], .nil, .nil, fun z => nomatch z⟩
  | p :: ps, _, ws, es, h, r, q => by
    cases h with
    | cons h1 h2 =>
      cases r with
      | cons r1 r2 =>
        cases q with
        | cons q1 q2 q3 =>
          obtain ⟨e1, e2⟩ := r1
          obtain ⟨as, a1, a2⟩ := DpX.reads I hM _ _ _ h1 e2
          obtain ⟨bs, b1, b2, b3⟩ := DpXK.reads I hM ps _ _ _ h2 r2 q3
          refine ⟨as ++ bs, ?_, ?_, fun z => (List.mem_append.mp z).elim a2 b3⟩
          · have k1 := key_reads (h := s.heap) (show keyIs _ _ = true from q1)
            rw [← e1] at k1
            exact .cons (as := []) k1 b1
          · rw [List.map_cons, List.map_cons, q2]
            exact .cons a1 b2
end
end
/-- what repr takes -/
structure ShwX (p : PyData) : Prop where
  s : p.showable = true
  dp : p.depth ≤ 60
  l : p.shown.length ≤ sizeLine
def rReprX (K : PySem.W.Frag) : List V → Hp → VK → Prop := fun xs H Q => ∃ v p, xs = [v] ∧ DpX K H v p ∧ ShwX p ∧ (∀ i, v = .int i → i.natAbs.log2 < 1920) ∧ Q (.str p.shown) H
theorem call_reprX {X : Cx} (hM : ModK X.K) (hG : X.A.guards = some []) (hu : X.A.units + 64 < cLine) : CallR X (.builtin "repr") (rReprX X.K) := by
  intro pins s σ H xs us Q I r h
  obtain ⟨v, p, rfl, hd, hs, hi, q⟩ := h
  obtain ⟨u, rfl, ru⟩ := vals1 r
  have kp : ∀ t, L2.Inv X pins σ H { s with toks := t } := fun t => I.kept (fun _ _ e => e)
  cases hd with
  | non =>
    have ru : u = .none := ru
    subst ru
    exact PySem.P.repr_of_none ⟨.str _, H, kp _, ⟨_, rfl⟩, by rw [PyData.shown_none] at q; exact q⟩
  | bl b =>
    have ru : u = .bool b := ru
    subst ru
    exact PySem.P.repr_of_bool ⟨.str _, H, kp _, ⟨_, rfl⟩, by rw [PyData.shown_bool] at q; exact q⟩
  | int i =>
    obtain ⟨t, ru⟩ : ∃ t, u = .int i t := ru
    subst ru
    exact PySem.P.repr_of_int (hi i rfl) ⟨.str _, H, kp _, ⟨_, rfl⟩, by rw [PyData.shown_int] at q; exact q⟩
  | str x =>
    obtain ⟨t, ru⟩ : ∃ t, u = .str x t := ru
    subst ru
    have hl := hs.l
    rw [PyData.shown_str] at q hl
    exact PySem.P.repr_of_str ⟨.str _, H, kp _, ⟨_, rfl⟩, q⟩ hl
  | @lst a xs ds h1 h2 =>
    have ru : u = .ref a := ru
    subst ru
    obtain ⟨as, hr, hn⟩ := DpX.reads I hM (.list ds) (.ref a) (.ref a) (.lst h1 h2) rfl
    exact repr_of_reads' hr hs.s (fun _ => hn) hG (by have := hs.dp; omega) (fun _ _ e => e) (fun h' u tk hk => ⟨.str _, H, I.kept hk, ⟨_, rfl⟩, q⟩) hs.l
  | @tup a xs ds h1 h2 =>
    have ru : u = .ref a := ru
    subst ru
    obtain ⟨as, hr, hn⟩ := DpX.reads I hM (.tuple ds) (.ref a) (.ref a) (.tup h1 h2) rfl
    exact repr_of_reads' hr hs.s (fun _ => hn) hG (by have := hs.dp; omega) (fun _ _ e => e) (fun h' u tk hk => ⟨.str _, H, I.kept hk, ⟨_, rfl⟩, q⟩) hs.l
  | @dic a xs ds h1 h2 =>
    have ru : u = .ref a := ru
    subst ru
    obtain ⟨as, hr, hn⟩ := DpX.reads I hM (.dict ds) (.ref a) (.ref a) (.dic h1 h2) rfl
    exact repr_of_reads' hr hs.s (fun _ => hn) hG (by have := hs.dp; omega) (fun _ _ e => e) (fun h' u tk hk => ⟨.str _, H, I.kept hk, ⟨_, rfl⟩, q⟩) hs.l
mutual
inductive PyX (S : Sto) : D → PyData → Prop
  | non : PyX S .non .none
  | bl (b : Bool) : PyX S (.bl b) (.bool b)
  | int (i : Int) : PyX S (.int i) (.int i)
  | str (x : Str) : PyX S (.str x) (.str x)
  | lst {ds : List D} {ps : List PyData} : PyXA S ds ps → PyX S (.lst ds) (.list ps)
  | sq {ds : List D} {ps : List PyData} : PyXA S ds ps → PyX S (.sq ds) (.list ps)
  | tup {ds : List D} {ps : List PyData} : PyXA S ds ps → PyX S (.tup ds) (.tuple ps)
  | own {h : Nat} {ds : List D} {ps : List PyData} : S[h]? = some (.lst ds) → PyXA S ds ps → PyX S (.own h) (.list ps)
  | dic {ks : List (Key × D)} {ps : List (PyData × PyData)} : PyXK S ks ps → PyX S (.dic ks) (.dict ps)
inductive PyXA (S : Sto) : List D → List PyData → Prop
  | nil : PyXA S [] []
  | cons {d : D} {ds : List D} {p : PyData} {ps : List PyData} : PyX S d p → PyXA S ds ps → PyXA S (d :: ds) (p :: ps)
inductive PyXK (S : Sto) : List (Key × D) → List (PyData × PyData) → Prop
  | nil : PyXK S [] []
  | cons {k : Key} {d : D} {ds : List (Key × D)} {p : PyData} {ps : List (PyData × PyData)} : PyX S d p → PyXK S ds ps → PyXK S ((k, d) :: ds) ((keyP k, p) :: ps)
end
section
variable {K : PySem.W.Frag} {w : Hs} {S : Sto}
mutual
theorem dpx_of (g : Good K w S) : ∀ (p : PyData) (d : D) (v : V), PyX S d p → Rv K w v d → DpX K w.H v p
  | .none, _, _, h, r => by cases h; cases r; exact .non
  | .bool _, _, _, h, r => by cases h; cases r; exact .bl _
  | .int _, _, _, h, r => by cases h; cases r; exact .int _
  | .str _, _, _, h, r => by cases h; cases r; exact .str _
  | .list ps, _, _, h, r => by
    cases h with
    | lst h1 =>
      cases r with
      | lst h2 h3 => exact .lst (.inl (.inl (g.sub _ _ h2))) (dpxa_of g ps _ _ h1 h3)
    | sq h1 =>
      cases r with
      | sq h2 h3 => exact .lst (sameSql g.sub h2) (dpxa_of g ps _ _ h1 h3)
    | own h1 h2 =>
      obtain ⟨a, xs, rfl, _, h3, h4⟩ := own_at g r h1
      exact .lst (.inl (.inl h3)) (dpxa_of g ps _ _ h2 h4)
  | .tuple ps, _, _, h, r => by
    cases h with
    | tup h1 =>
      cases r with
      | tup h2 h3 => exact .tup (sameSqt g.sub h2) (dpxa_of g ps _ _ h1 h3)
  | .dict ps, _, _, h, r => by
    cases h with
    | dic h1 =>
      cases r with
      | dic h2 h3 => exact .dic (g.sub _ _ h2) (dpxk_of g ps _ _ h1 h3)
theorem dpxa_of (g : Good K w S) : ∀ (ps : List PyData) (ds : List D) (vs : List V), PyXA S ds ps → Ra K w vs ds → DpXA K w.H vs ps
  | [], _, _, h, r => by cases h; cases r; exact .nil
  | p :: ps, _, _, h, r => by
    cases h with
    | cons h1 h2 =>
      cases r with
      | cons r1 r2 => exact .cons (dpx_of g p _ _ h1 r1) (dpxa_of g ps _ _ h2 r2)
theorem dpxk_of (g : Good K w S) : ∀ (ps : List (PyData × PyData)) (ds : List (Key × D)) (vs : List (Key × V)), PyXK S ds ps → RpK K w.F w.al vs ds → DpXK K w.H vs ps
  | [], _, _, h, r => by cases h; cases r; exact .nil
  | p :: ps, _, _, h, r => by
    cases h with
    | cons h1 h2 =>
      cases r with
      | cons r1 r2 => exact .cons (dpx_of g _ _ _ h1 r1) (dpxk_of g ps _ _ h2 r2)
end
end
def cReprX (ds : List D) (S : Sto) (Φ : KD) : Prop := match ds with
  | [d] => ∃ p, PyX S d p ∧ ShwX p ∧ (∀ i, d = .int i → i.natAbs.log2 < 1920) ∧ Φ S (.str p.shown)
  | _ => False
theorem cd_reprX {K : PySem.W.Frag} : CallD K (rReprX K) cReprX := fun w S vs ds Φ Q g r h q => by
  cases ds with
  | nil => exact h.elim
  | cons d t =>
    cases t with
    | cons _ _ => exact h.elim
    | nil =>
      obtain ⟨p, h3, h4, hi, h5⟩ := h
      obtain ⟨v, rfl, rv⟩ := one_of r
      refine ⟨v, p, rfl, dpx_of g p d v h3 rv, h4, fun i e => hi i ?_, q _ _ w S (Ext.refl w) g (.str _) h5⟩
      subst e
      cases rv
      rfl
def dDic1 (T : TD) (k : Str) : TD := fun Γ S Φ Ψ => T Γ S (fun S1 d => Φ S1 (.dic [(.inr k, d)])) Ψ
def dDic0 : TD := fun Γ S Φ Ψ => Φ S (.dic [])
section
variable {X : Cx} {W : WX} {e : Expr} {te : TE} {Te : TD} {pos p : Pos} {j : Nat} {k : Str}
theorem je_dic0 : JE X W (.Dict [] [] pos) tDNewK dDic0 := ⟨pe_dnewK, fun Γ S Φ Ψ σ w g sl hT hx Q q => fun p hp =>
  q (.ref p) (.dic []) (w.frz p (.dK [])) S (Ext.frz g _ hp) (g.frz _ hp) (.dic upd_same .nil) hT⟩
/-- an object in the making, tracked from here on -/
theorem Good.made {K : PySem.W.Frag} {w : Hs} {S : Sto} (g : Good K w S) {p : Addr} (o : HO) (hF : w.F p = none) (hA : p ∉ w.al) : Good K ⟨upd w.F p o, w.al, upd w.H p o⟩ S := by
  refine ⟨fun a x q => ?_, g.nd, g.len, fun n a c q1 q2 => ?_, fun a q => ?_⟩
  · have q2 : upd w.F p o a = some x := q
    show upd w.H p o a = some x
    by_cases z : a = p
    · subst z; rw [upd_same] at q2 ⊢; exact q2
    · rw [upd_ne z] at q2 ⊢; exact g.sub a x q2
  · have hne : a ≠ p := fun z => hA (z ▸ List.mem_of_getElem? q1)
    have eF : ∀ b x, w.F b = some x → upd w.F p o b = some x := updF hF
    cases c with
    | gone => exact True.intro
    | lst ds =>
      obtain ⟨h1, ys, h2, h3⟩ := g.cell n a _ q1 q2
      exact ⟨by show upd w.F p o a = none; rw [upd_ne hne]; exact h1, ys, by show upd w.H p o a = _; rw [upd_ne hne]; exact h2, RpA.mono eF (fun _ _ z => z) ds ys h3⟩
    | ins C fs =>
      obtain ⟨h1, dx, ys, h2, h3⟩ := g.cell n a _ q1 q2
      exact ⟨by show upd w.F p o a = none; rw [upd_ne hne]; exact h1, dx, ys, by show upd w.H p o a = _; rw [upd_ne hne]; exact h2, RpF.mono eF (fun _ _ z => z) fs ys h3⟩
    | dct ks =>
      obtain ⟨h1, us, h2, h3⟩ := g.cell n a _ q1 q2
      exact ⟨by show upd w.F p o a = none; rw [upd_ne hne]; exact h1, us, by show upd w.H p o a = _; rw [upd_ne hne]; exact h2, h3.mono eF (fun _ _ z => z)⟩
  · show upd w.H p o a ≠ none
    by_cases z : a = p
    · rw [z, upd_same]; exact fun z => nomatch z
    · rw [upd_ne z]; exact g.dom a q
theorem Ext.made {w0 w : Hs} (e : Ext w0 w) {p : Addr} (o : HO) (h0 : w0.H p = none) (hF : w.F p = none) : Ext w0 ⟨upd w.F p o, w.al, upd w.H p o⟩ := by
  refine ⟨fun a x z => updF hF a x (e.f a x z), e.al, fun a x z => ?_, fun a x q n => ?_, fun a q => ?_⟩
  · by_cases y : a = p
    · subst y; exact .inr (.inl h0)
    · have z : upd w.F p o a = some x := z
      rw [upd_ne y] at z
      exact e.new a x z
  · show upd w.H p o a = some x
    rw [upd_ne (ne_of_none q h0)]; exact e.kp a x q n
  · show upd w.H p o a ≠ none
    by_cases z : a = p
    · rw [z, upd_same]; exact fun z => nomatch z
    · rw [upd_ne z]; exact e.dm a q
theorem je_dic1 (he : JE X W e te Te) : JE X W (.Dict [some (.Constant (.str k) j p)] [e] pos) (tDisp [(tC (.str k), te)]) (dDic1 Te k) :=
  ⟨pe_disp (pps_cons pe_str he.pe pps_nil) rfl rfl (fun z => nomatch z) (show 1 ≤ 15 by decide), fun Γ S Φ Ψ σ w g sl hT hx Q q => fun a ha => by
    have hF := g.notF ha
    have hA := g.notA ha
    have e0 := (Ext.refl w).at (.dK []) ha
    refine he.sem Γ S _ Ψ σ (w.at a (.dK [])) (g.at _ hF hA) (sl.ext e0) hT (hx.ext e0) _ fun v d w1 S1 e1 g1 r1 h1 => ?_
    obtain ⟨hH1, hF1, hA1⟩ := e1.hid (o := .dK []) upd_same hF hA
    refine ⟨hH1, [(.inr k, v)], rfl, show 1 ≤ 15 by decide, ?_⟩
    have e2 := (e0.trans e1).made (.dK [(.inr k, v)]) ha hF1
    exact q (.ref a) (.dic [(.inr k, d)]) _ S1 e2 (g1.made _ hF1 hA1) (.dic upd_same (.cons (Rp.mono (updF hF1) (fun _ _ z => z) _ _ r1) .nil)) h1⟩
end
section
variable {Γ : Gam} {S : Sto} {Φ : KD} {Ψ : KX}
theorem dDic0_e : dDic0 Γ S Φ Ψ = Φ S (.dic []) := rfl
theorem dDic1_e {T : TD} {k : Str} : dDic1 T k Γ S Φ Ψ = T Γ S (fun S1 d => Φ S1 (.dic [(.inr k, d)])) Ψ := rfl
end
end DL
namespace DL
open PySem PySem.Spec PyProof.Rows L2
/-- as Room, whatever is handled -/
structure RoomH (k : Nat) (A : Around) : Prop where
  dp : A.depth + 3 * k + 5 < recursionLimit
  un : A.units + 16 * k + 200 < cLine
theorem Room.h {k : Nat} {A : Around} (r : Room k A) : RoomH k A := ⟨r.dp, r.un⟩
theorem RoomH.mono {k n : Nat} {A : Around} (r : RoomH k A) (h : n ≤ k) : RoomH n A := ⟨by have := r.dp; omega, by have := r.un; omega⟩
theorem RoomH.deeper {k : Nat} {A : Around} (r : RoomH (k + 1) A) (env : Env) : RoomH k (A.deeper env) :=
  ⟨by have := r.dp; show A.depth + 1 + 3 * k + 5 < _; omega, by have := r.un; show A.units + 3 + 16 * k + 200 < _; omega⟩
theorem RoomH.depth {k : Nat} {A : Around} (r : RoomH k A) : A.depth < recursionLimit := by have := r.dp; omega
theorem RoomH.units {k : Nat} {A : Around} (r : RoomH k A) : A.units + 64 < cLine := by have := r.un; omega
theorem RoomH.mark {k : Nat} {A : Around} (r : RoomH k A) (v : Option Value) : RoomH k (A.mark v) := ⟨r.dp, r.un⟩
/-- a def's context, whatever is handled -/
abbrev cxH (CX : CXT) (P : Program) (w : World) (K : PySem.W.Frag) (mg : Str → Option Value) (base : Heap) (N : List Str) (qual : Str) (scope : Scope) (f : Addr) (cd : Value) (A : Around) (outer : List Env) (s : Shared) (H : Hp) (E : XK) : Cx :=
  { cxOf CX P w K mg base N qual scope f cd A outer s H E with calm := false }
section
variable {CX : CXT} {P : Program} {w : World} {K : PySem.W.Frag} {mg : Str → Option Value} {base : Heap} {N ps : List Str} {qual : Str} {scope : Scope} {f : Addr} {cd : Value} {A : Around} {outer : List Env} {s s1 : Shared} {H : Hp} {E : XK} {us : List Value} {vs : List V}
theorem inv_startH (Sc : FnScope N ps scope) (en : Env0 P w K mg base A outer s H) (hl : vs.length = ps.length) (r : Vals vs us)
    (inc : InCallC s s.heap.objs.size (bindL (envOfC qual scope s.heap.objs.size f cd).kindOf (ps.zip us) fun _ => none) (cellsFrom (s.heap.objs.size + 1) scope.names []) (bindC (envOfC qual scope s.heap.objs.size f cd).kindOf (ps.zip us) fun _ => none) s1) :
    L2.Inv (cxH CX P w K mg base N qual scope f cd A outer s H E) [] (L2.start N vs) H s1 := by
  have I := inv_start (CX := CX) (E := E) (A := { A with handled := none }) Sc rfl ⟨en.frames, en.mod, en.bs, en.bsz, en.funs, en.frf, en.hok, en.bare⟩ hl r inc
  have o := I.ok
  exact ⟨⟨o.mod, o.kind, o.glob, o.blt, o.above, o.inj, o.has, o.cab, (fun z => nomatch z), o.frames, o.stk, o.exf, o.bs, o.bsz, o.noex, o.exfs, o.funs, o.frf⟩, I.os, I.bare, I.base, I.loc, I.cell, I.free, I.freeC, I.pin, I.hok, I.len⟩
end
structure FnOkH (P : Program) (wd : World) (K : PySem.W.Frag) (mg : Str → Option Value) (B : Heap) (cx : CXT) (k : Nat) (f : Addr) (fd : FuncData) (ps : List Str) (sp : Sp) : Prop where
  many : ∀ as H Q E, sp as H Q E → as.length = ps.length
  go : ∀ (Ar : Around) (out : List Env) (s0 : Shared) (H : Hp) (ar : Args) (us : List Value) (as : List V) (Q : VK) (E : XK),
    Ar.guards = some [] → RoomH k Ar → Env0 P wd K mg B Ar out s0 H → BindsTo s0 fd ar (ps.zip us) → Vals as us → sp as H Q E →
      codeAny (model P wd) Ar (.call (.ref f) ar) (CR cx out P wd H s0 Q E) s0
section
variable {P : Program} {wd : World} {K : PySem.W.Frag} {mg : Str → Option Value} {B : Heap} {cx : CXT} {k : Nat} {f : Addr} {fd : FuncData} {ps N : List Str} {sp : Sp}
theorem end_ofH {qual : Str} {scope : Scope} {cdv : Value} {Ar : Around} {out : List Env} {s0 s1 : Shared} {H : Hp} {Q : VK} {E : XK} {fl : Flow}
    (h : SP (cxH cx P wd K mg B N qual scope f cdv Ar out s0 H E) [] { nx := fun _ H1 => Q .non H1, rt := Q } fl s1) :
    match fl with
    | .ret u => CE out P wd H s0 Q u s1
    | .next => CE out P wd H s0 Q .none s1
    | _ => False := by
  cases fl with
  | ret u => exact let ⟨v, _, H1, J, r, q⟩ := h; ⟨v, H1, J.os, J.bare, J.base, J.hok, r, q⟩
  | next => exact let ⟨_, H1, J, q⟩ := h; ⟨.non, H1, J.os, J.bare, J.base, J.hok, rfl, q⟩
  | brk => exact let ⟨_, _, _, q⟩ := h; q.elim
  | cont => exact let ⟨_, _, _, q⟩ := h; q.elim
theorem fn_ofH {nm qual : Str} {pr : Arguments} {bd : List Stmt} {scope : Scope} {dV kV doc pm cdv ct oc : Value} {an od : Option Addr} {osl : Array (Option Value)}
    (there : K.lookup f = some ⟨oc, od, .func (PySem.W.fnOf nm qual pr bd scope dV kV doc pm an cdv ct), osl⟩) (code : PySem.W.codeIn K cdv qual = true) (Sc : FnScope N ps scope) (many : ∀ as H Q E, sp as H Q E → as.length = ps.length)
    (body : ∀ (Ar : Around) (out : List Env) (s0 : Shared) (H : Hp) (as : List V) (Q : VK) (E : XK), Ar.guards = some [] → RoomH k (Ar.deeper (envOfC qual scope s0.heap.objs.size f cdv)) → sp as H Q E →
      ∃ t, PSs (cxH cx P wd K mg B N qual scope f cdv Ar out s0 H E) bd t ∧ t { nx := fun _ H1 => Q .non H1, rt := Q } (L2.start N as) H) :
    FnOkH P wd K mg B cx (k + 1) f (PySem.W.fnOf nm qual pr bd scope dV kV doc pm an cdv ct) ps sp where
  many := many
  go := by
    intro Ar out s0 H ar us as Q E gd room en bi vs hs
    obtain ⟨t, run, ask⟩ := body Ar out s0 H as Q E gd (room.deeper _) hs
    have up : ∀ c o, B.get? c = some o → s0.heap.get? c = some o := fun c o e => (en.bs c o e).1
    have kin : K.In s0.heap := en.mod.kin.keeps up
    have noLim := en.mod.nolimit.keeps up
    refine codeAny_call_function room.depth (kin _ _ there) rfl Sc.co Sc.gen rfl (PySem.W.codeRec_of kin code)
      (bi _ _ _ _ (wpAny_newFunctionEnv_cells Sc.kind (fun y hy => (Sc.par y.1 (List.of_mem_zip hy).1).elim .inl fun c => .inr ⟨c, PySem.W.cellsFrom_some _ _ _ (.inl c)⟩) ?_))
    intro env ee s1 inc
    subst ee
    refine ⟨noLim.keeps inc.toInCall.keep, codeAny_func ?_⟩
    refine wpAny_mono (run.run [] s1 (L2.start N as) H _ (inv_startH Sc en (many _ _ _ _ hs) vs inc) ask) (fun fl s2 h => ?_) (fun _ _ h => h)
    have z := end_ofH (fl := fl) h
    cases fl <;> first | exact z | exact z.elim
end
/-- a callee that may be called within an except suite -/
structure CalH (P : Program) (wd : World) (K : PySem.W.Frag) (mg : Str → Option Value) (base : Heap) (x : Str) (st : Stmt) (k : Nat) (ps : List Str) (sp : DSpec) : Prop where
  ex : ∃ (f : Addr) (fd : FuncData), FnOkH P wd K mg base (L2.CX P wd) k f fd ps (spOf K sp) ∧ mg x = some (.ref f) ∧ FunS K x st f fd ∧ Binds K fd ps []
section
variable {P : Program} {wd : World} {K : PySem.W.Frag} {mg : Str → Option Value} {base : Heap} {x : Str} {st : Stmt} {k : Nat} {ps : List Str} {sp : DSpec}
theorem calH_ok {N : List Str} (F : Tx K mg x st)
    (hbind : ∀ (kV doc pm : Value) (an : Option Addr) (cdv ct : Value) (us : List Value), us.length = ps.length → bindArgs (PySem.W.fnOf x x (defArgs st) (defBody st) (defScope st) .none kV doc pm an cdv ct) ⟨us, []⟩ = pure (ps.zip us))
    (Sc : FnScope N ps (defScope st)) (len : ∀ ds S Φ Ψ, sp ds S Φ Ψ → ds.length = ps.length)
    (hbody : ∀ (f : Addr) (cdv : Value) (A : Around) (outer : List Env) (s : Shared) (H : Hp) (E : XK), (A.deeper (envOfC x (defScope st) s.heap.objs.size f cdv)).guards = some [] → RoomH k (A.deeper (envOfC x (defScope st) s.heap.objs.size f cdv)) →
      ∃ t T, JB (cxH (L2.CX P wd) P wd K mg base N x (defScope st) f cdv A outer s H E) (WD E) (defBody st) t T ∧ ∀ ds S Φ Ψ, sp ds S Φ Ψ → T { nx := fun _ S' => RetOk S Φ S' .non, rt := RetOk S Φ, er := ErOk S Ψ } (gstart N ds) S) :
    CalH P wd K mg base x st (k + 1) ps sp := by
  obtain ⟨f, fd, F, hm⟩ := F.ex
  refine ⟨f, fd, ?_, hm, F, binds_of F hbind⟩
  obtain ⟨_, _, _, _, _, _, _, cdv, _, _, e, lk, hcd, _, _⟩ := F.ex
  subst e
  refine fn_ofH lk hcd Sc (fun vs H Q E h => ?_) fun A outer s H vs Q E hG hr hs => ?_
  · obtain ⟨w, S, ds, Φ, Ψ, _, _, r, h1, _⟩ := h
    rw [r.length]
    exact len ds S Φ Ψ h1
  · obtain ⟨t, T, jb, hq⟩ := hbody f cdv A outer s H E (by show A.guards = some []; exact hG) hr
    exact ⟨t, jb.pss, body_ok2 jb.sem hq hs⟩
end
section
variable {X : Cx} {W : WX} {e : Expr} {es : List Expr} {pos p : Pos} {tl : TA} {Tl : TL} {k : Nat} {f : Addr} {fd : FuncData} {ps : List Str} {sp : DSpec} {x : Str} {st : Stmt}
theorem goH {s0 : Sp} {pins : List (Addr × Obj)} {σ : L2.St} {H : Hp} {s : Shared} {Q : VK} {us : List Value} {vs : List V} (F : FnOkH X.prog X.w X.K X.mg X.base (L2.CX X.prog X.w) k f fd ps s0) (gd : X.A.guards = some []) (room : RoomH k X.A) (hb : Binds X.K fd ps []) (tk : Takes X W)
    (I : Inv X pins σ H s) (r : Vals vs us) (h : s0 vs H Q (WE W σ)) : wpAny (model X.prog X.w) X.A (call (.ref f) us) (EP X pins σ Q) X.xe s := by
  have many : (us ++ []).length = ps.length := by rw [List.append_nil, ← r.length, F.many _ _ _ _ h]
  have bi : BindsTo s fd ⟨us, []⟩ (ps.zip us) := by
    have z := hb s us I.kIn many
    rwa [List.append_nil] at z
  refine wpAny_call (codeAny_mono (F.go _ _ s H _ us vs Q _ gd room I.env0 bi r h) fun rr s2 hq => ?_)
  match rr, hq with
  | .error u, hq => exact passAt tk σ pins H s u s2 I hq
  | .ok (.ret u), hq => exact I.after hq
  | .ok .next, hq => exact False.elim hq
  | .ok .brk, hq => exact False.elim hq
  | .ok .cont, hq => exact False.elim hq
theorem je_callH (c : CalH X.prog X.w X.K X.mg X.base x st k ps sp) (gd : X.A.guards = some []) (room : RoomH k X.A) (hg : Gl X x) (tk : Takes X W) (ha : JA X W (e :: es) tl Tl) (hdb : (x == ("__debug__" : Str)) = false := by decide) (he : starEach (e :: es) X.env = (false, eval e X.env) :: starEach es X.env := by rfl) (hpl : (backTo pos (starEach es X.env)).any (·.1) = false := by rfl) :
    JE X W (.Call (.Name x p) (e :: es) [] pos) (tCallS (spOf X.K sp) (WE W) tl) (dCall sp Tl) := by
  obtain ⟨f, fd, F, hm, hk, hb⟩ := c.ex
  exact ⟨⟨fun pins s σ H Q I h => wpAny_Call_Name_kw (ld_glob I hg hm (PySem.W.callWith_K (h₀ := X.base) I.ok.mod.kin hk.kp
    (thn (ha.pa.run pos pins s σ H _ I h) fun us s1 ⟨vs, H1, I1, r, q⟩ => ⟨I1.kIn, goH F gd room hb tk I1 r q⟩) he hpl) hdb)⟩, sem_call ha.sem⟩
end
end DL
namespace DL
open PySem PySem.Spec PyProof.Rows L2
section
variable (K : PySem.W.Frag) (W : WX)
structure RlF (σ : L2.St) (Γ : Gam) (w : Hs) (D' : EdD) (D : Ends) : Prop where
  nx : ∀ w' S', Ext w w' → Good K w' S' → D'.nx Γ S' → D.nx σ w'.H
  rt : OkD K w D'.rt D.rt
  er : OkX K W w D'.er σ
def SemF (t : TS) (T : TSd) : Prop := ∀ D' Γ S σ w D, Good K w S → Slots K w σ Γ → T D' Γ S → RlF K W σ Γ w D' D → t D σ w.H
end
section
variable {K : PySem.W.Frag} {W : WX} {w w' : Hs}
theorem RlF.ext {σ : L2.St} {Γ : Gam} {D' : EdD} {D : Ends} (h : RlF K W σ Γ w D' D) (e : Ext w w') : RlF K W σ Γ w' D' D := ⟨fun w2 S2 e2 => h.nx w2 S2 (e.trans e2), h.rt.ext e, h.er.ext e⟩
end
structure JF (X : Cx) (W : WX) (st : Stmt) (t : TS) (T : TSd) : Prop where
  ps : PS X st t
  sem : SemF X.K W t T
structure JFB (X : Cx) (W : WX) (st : List Stmt) (t : TS) (T : TSd) : Prop where
  pss : PSs X st t
  sem : SemF X.K W t T
section
variable {X : Cx} {W : WX} {e c : Expr} {pos : Pos} {te : TE} {Te : TD} {st : Stmt} {rest : List Stmt} {t u : TS} {T U : TSd}
theorem jfb_one (h1 : JF X W st t T) : JFB X W [st] t T := ⟨pss_one h1.ps, h1.sem⟩
theorem jf_expr (he : JE X W e te Te) (hs : swapsWith e none pos.line X.env = pure false := by rfl) : JF X W (.Expr e pos) (tDrop te) (sDrop Te) := ⟨ps_expr he.pe hs, fun D' Γ S σ w D g sl h r =>
  he.sem Γ S _ _ σ w g sl h r.er _ fun v d w' S' e' g' _ h' => r.nx w' S' e' g' h'⟩
theorem jf_if {A B : List Stmt} {tt : TT} {C : TB} (hc : JT X W c tt C) (ha : JFB X W A t T) (hb : JFB X W B u U) : JF X W (.If c A B pos) (tIfS tt t u) (sIf C T U) := ⟨ps_if hc.pt ha.pss hb.pss, fun D' Γ S σ w D g sl h r =>
  hc.sem Γ S _ _ σ w g sl h r.er _ fun k w' S' e' g' h' => by
    cases k with
    | true => exact ha.sem D' Γ S' σ w' D g' (sl.ext e') h' (r.ext e')
    | false => exact hb.sem D' Γ S' σ w' D g' (sl.ext e') h' (r.ext e')⟩
end
section
variable {X : Cx} {σ : L2.St} {H : Hp} {s : Shared} {a : Addr} {oe : Obj} {pins : List (Addr × Obj)}
theorem taken_upH (I : Inv (X.suite a ((a, oe) :: (X.pn ++ pins))) [] σ H s) (ok : X.Ok) (h0 : X.s_0.heap.get? a = none) (hp : ∀ p ∈ X.pn ++ pins, p.1 ≠ a) : Inv (X.suite a (X.pn ++ pins)) [] σ (upd H a (known oe)) s := by
  have J := taken_up I ok h0 hp
  exact ⟨ok.suite _ _, J.os, J.bare, J.base, J.loc, J.cell, J.free, J.freeC, (fun p hm => J.pin p (by rwa [List.append_nil] at hm)), J.hok, J.len⟩
theorem left_suite (I : Inv (X.suite a (X.pn ++ pins)) [] σ H s) (ok : X.Ok) : Inv X pins σ H s :=
  ⟨ok, I.os, I.bare, I.base, I.loc, I.cell, I.free, I.freeC, fun p hm => I.pin p (List.mem_append_left [] hm), I.hok, I.len⟩
end
/-- the ends of a suite whose name stands at i -/
abbrev hotD (i : Nat) (D : Ends) : Ends := { nx := fun σ' H' => D.nx (σ'.set i none) H', rt := D.rt, bk := fun σ' H' => D.bk (σ'.set i none) H', ct := fun σ' H' => D.ct (σ'.set i none) H' }
def wHot (K : PySem.W.Frag) (c : Value) (i : Nat) (ts : TS) (D : Ends) : WX := fun cls d σ H =>
  PySem.W.exmOne K cls c = some true ∧ ∀ (a : Addr) (oe : Obj), H a = none → oe.cls = cls → oe.dict = d → (∃ vs, oe.data = .fields vs) →
    ts (hotD i D) (σ.set i (some (.ref a))) (upd H a (known oe))
section
variable {X : Cx} {x n : Str} {c : Value} {i : Nat} {body suite : List Stmt} {b0 : Stmt} {np pos pos' : Pos} {tb : WX → TS} {ts : TS}
theorem ps_tryH (hx : X.ex = []) (hN : X.N.Nodup) (hi : X.N[i]? = some n) (hs : X.stack = X.env :: X.outer) (hf : X.env.frame = some X.env.locals) (hn : X.env.kindOf n = some .local) (hc : Names X x c)
    (hb : ∀ (W : WX) (pn : List (Addr × Obj)) (xe : Value → Shared → Prop), Takes (X.tr pn xe) W → PassesOwn (model X.prog X.w) X.A X.env xe → PSs (X.tr pn xe) body (tb W))
    (hsu : ∀ (a : Addr) (pn : List (Addr × Obj)), PSs (X.suite a pn) (b0 :: suite) ts) :
    PS X (.Try body [.ExceptHandler (some (.Name x np)) (some n) (b0 :: suite) pos'] [] [] pos) (fun D σ H => tb (wHot X.K c i ts D) D σ H) := by
  constructor
  intro pins s σ H D I h
  have ok := I.ok
  have fr : X.A.frames = some (X.env :: X.outer) := hs ▸ ok.frames
  let hs1 : List ExceptHandler := [.ExceptHandler (some (.Name x np)) (some n) (b0 :: suite) pos']
  let xe1 : Value → Shared → Prop := fun e s1 => wpAny (model X.prog X.w) X.A (noteFrame e X.env) (fun _ s2 => wpAny (model X.prog X.w) X.A (setFlight e none) (fun _ s3 => wpAny (model X.prog X.w) X.A (handleBy e X.env hs1) (SP X pins D) X.xe s3) X.xe s2) X.xe s1
  have caught : Takes (X.tr (X.pn ++ pins) xe1) (wHot X.K c i ts D) := by
    rintro _ s1 ⟨a, B, sI, pins', σ1, H1, cls, d, rfl, J0, nb, up, sky, na, os, ag, isC, next⟩
    have J := J0.ofTry ok (pins := pins)
    rw [show (X.tr (X.pn ++ pins) xe1).stack = X.env :: X.outer from hs] at sky
    refine Sky.land Zc.steady fr hf sky fun h2 f2 up2 => ?_
    have J2 := J.landed (s' := { s1 with heap := h2 }) nb f2.1 (up.trans up2) os ag
    obtain ⟨o2, v2, g2, z2, d2⟩ := f2.there
    have out : a ∉ frs (X.env :: X.outer) := fun hm => by
      obtain ⟨_, o3, g3, nf⟩ := f2.2.2.1.mem hm
      rw [g2] at g3
      cases g3
      exact nf _ d2
    have nL : a ≠ X.env.locals := fun z => out (List.mem_filterMap.mpr ⟨X.env, List.mem_cons_self, by rw [hf, z]⟩)
    have nF : a ∉ X.fs := fun hm => by
      obtain ⟨e, he, q⟩ := List.mem_filterMap.mp hm
      exact out (List.mem_filterMap.mpr ⟨e, List.mem_cons_of_mem _ he, q⟩)
    have gone : sI.heap.get? a = none := by
      cases q : sI.heap.get? a with
      | none => rfl
      | some o =>
        have := nb a o q (by rw [show (X.tr (X.pn ++ pins) xe1).stack = X.env :: X.outer from hs]; exact out)
        rw [f2.2.1] at this
        cases this
    have h0 : X.s_0.heap.get? a = none := by
      cases q : X.s_0.heap.get? a with
      | none => rfl
      | some o =>
        obtain ⟨o', q'⟩ := J.base.there a o q (by rw [hx]; exact fun z => nomatch z)
        rw [gone] at q'
        cases q'
    have hp : ∀ p ∈ X.pn ++ pins, p.1 ≠ a := fun p hm z => by
      have := (J.pin p hm).1
      rw [z, gone] at this
      cases this
    have S2 := J2.suite g2 d2 na nL nF
    refine wpAny_handleBy_cons (codeAny_handlers_test ?_) (fun q => by cases q)
    have L1 : PySem.W.Looks (model X.prog X.w) h2 (typeOf (.ref a)) cls := fun _ _ _ _ k q => wpAny_typeOf_ref (k _ _ g2) (z2.1 ▸ q)
    have L2 := PySem.W.exm_one (M := model X.prog X.w) J2.kIn L1 isC
    have test : ∀ {Q E : Value → Shared → Prop}, Q c { s1 with heap := h2 } → wpAny (model X.prog X.w) (X.A.mark (some (.ref a))) (eval (.Name x np) X.env) Q E { s1 with heap := h2 } := fun {Q E} q => by
      obtain ⟨k1, k2, k3 | ⟨k3, k4, k5⟩⟩ := hc
      · exact ld_glob (X := X.suite a ((a, o2) :: (X.pn ++ pins))) S2 k1 k3 q k2
      · exact ld_blt (X := X.suite a ((a, o2) :: (X.pn ++ pins))) S2 k1 k3 k4 q k5 k2
    refine test (L2.here ?_)
    refine codeAny_handlers_suite_as ?_
    refine HandSPX.lands_againZ f2 fun h3 f3 up3 => ?_
    have J3 := J.landed (s' := { s1 with heap := h3 }) nb f3.1 ((up.trans up2).trans up3) os ag
    obtain ⟨o3, v3, g3, z3, d3⟩ := f3.there
    have S3 := J3.suite g3 d3 na nL nF
    refine store_ok (X := X.suite a ((a, o3) :: (X.pn ++ pins))) (v := .ref a) S3 hN hi (.inl hn) rfl (fun s4 S4 => ?_) (.inr hn)
    refine wpAny_mono ((hsu a (X.pn ++ pins)).run [] s4 _ _ _ (taken_upH S4 ok h0 hp) (next a o3 na z3.1 z3.2 ⟨_, d3⟩)) (fun f s5 r => ?_) fun _ _ z => False.elim z
    cases f with
    | next =>
      obtain ⟨σ5, H5, S5, q5⟩ := r
      exact gone_ok (X := X.suite a (X.pn ++ pins)) (Q := fun _ s6 => SP X pins D .next s6) S5 hN hi hn fun s6 S6 => ⟨_, _, left_suite S6 ok, q5⟩
    | brk =>
      obtain ⟨σ5, H5, S5, q5⟩ := r
      exact gone_ok (X := X.suite a (X.pn ++ pins)) (Q := fun _ s6 => SP X pins D .brk s6) S5 hN hi hn fun s6 S6 => ⟨_, _, left_suite S6 ok, q5⟩
    | cont =>
      obtain ⟨σ5, H5, S5, q5⟩ := r
      exact gone_ok (X := X.suite a (X.pn ++ pins)) (Q := fun _ s6 => SP X pins D .cont s6) S5 hN hi hn fun s6 S6 => ⟨_, _, left_suite S6 ok, q5⟩
    | ret u =>
      obtain ⟨v, σ5, H5, S5, r5, q5⟩ := r
      exact gone_ok (X := X.suite a (X.pn ++ pins)) (Q := fun _ s6 => SP X pins D (.ret u) s6) S5 hN hi hn fun s6 S6 => ⟨v, _, _, left_suite S6 ok, r5, q5⟩
  refine wpAny_Try_except (wpAny_mono ((hb _ (X.pn ++ pins) xe1 caught PassesOwn.looking).run [] s σ H D (I.toTry _) h) (fun f s1 r => ?_) fun _ _ z => z)
  cases f with
  | next =>
    obtain ⟨σ1, H1, J, q⟩ := r
    exact wpAny_execs_nil ⟨σ1, H1, J.ofTry ok, q⟩
  | brk => obtain ⟨σ1, H1, J, q⟩ := r; exact ⟨σ1, H1, J.ofTry ok, q⟩
  | cont => obtain ⟨σ1, H1, J, q⟩ := r; exact ⟨σ1, H1, J.ofTry ok, q⟩
  | ret u => obtain ⟨v, σ1, H1, J, r1, q⟩ := r; exact ⟨v, σ1, H1, J.ofTry ok, r1, q⟩
end
/-- try: T / except of Cs as the name at i: U -/
def sTryH (Cs : List Addr) (i : Nat) (T U : TSd) : TSd := fun E Γ S => T { nx := E.nx, rt := E.rt, er := fun S1 x => x.cls ∈ Cs ∧ i < Γ.length ∧ U { nx := fun Γ' S' => E.nx (Γ'.set i none) S', rt := E.rt, er := fun _ _ => False } (Γ.set i (some (.exc x.cls x.fs))) S1 } Γ S
theorem js_tryH {X : Cx} {W : WX} {x n : Str} {c : Value} {Cs : List Addr} {body suite : List Stmt} {b0 : Stmt} {tb : WX → List (Addr × Obj) → (Value → Shared → Prop) → TS} {ts : TS} {Tb Ts : TSd} {np pos pos' : Pos} (i : Nat) (hx : X.ex = []) (hs : X.stack = X.env :: X.outer) (hf : X.env.frame = some X.env.locals) (hN : X.N.Nodup) (hc : Names X x c)
    (hm : ∀ C ∈ Cs, PySem.W.exmOne X.K (.ref C) c = some true) (hb : ∀ (W' : WX) (pn : List (Addr × Obj)) (xe : Value → Shared → Prop), Takes (X.tr pn xe) W' → JFB (X.tr pn xe) W' body (tb W' pn xe) Tb)
    (hsu : ∀ (a : Addr) (pn : List (Addr × Obj)), JB (X.suite a pn) wNo (b0 :: suite) ts Ts)
    (hi : X.N[i]? = some n := by rfl) (hn : X.env.kindOf n = some .local := by rfl)
    (ee : ∀ W' pn xe, tb W' pn xe = tb W' [] (fun _ _ => True) := by intros; rfl) :
    JS X W (.Try body [.ExceptHandler (some (.Name x np)) (some n) (b0 :: suite) pos'] [] [] pos) (fun D σ H => tb (wHot X.K c i ts D) [] (fun _ _ => True) D σ H) (sTryH Cs i Tb Ts) := by
  refine ⟨ps_tryH (tb := fun W' => tb W' [] (fun _ _ => True)) hx hN hi hs hf hn hc (fun W' pn xe tk _ => ee W' pn xe ▸ (hb W' pn xe tk).pss) (fun a pn => (hsu a pn).pss), ?_⟩
  intro E Γ S σ w D g sl h r
  refine (hb (wHot X.K c i ts D) [] (fun _ _ => True) fun _ _ _ => trivial).sem _ Γ S σ w D g sl h ⟨fun w1 S1 e1 g1 h1 => r.nx σ Γ w1 S1 e1 g1 (sl.ext e1) h1, r.rt, ?_⟩
  rintro cv dx ex w1 S1 e1 g1 rx ⟨hC, hil', hnx⟩
  obtain ⟨rfl, rd⟩ := rx
  refine ⟨hm _ hC, fun a oe na o1 o2 o3 => ?_⟩
  have hil : i < σ.length := by rw [← sl.1]; exact hil'
  have e2 : Ext w1 (w1.frz a (known oe)) := Ext.frz g1 _ na
  have rv : Rv X.K (w1.frz a (known oe)) (.ref a) (.exc ex.cls ex.fs) := by
    cases dx with
    | none =>
      have z : ex.fs = [] := rd
      rw [z]
      exact .exc0 upd_same o1 o3 o2
    | some d =>
      obtain ⟨vs, q1, q2⟩ := rd
      exact .excD upd_same o1 o3 o2 (e2.f _ _ q1) (RpF.mono e2.f e2.alx _ _ q2)
  exact (hsu a []).sem _ _ S1 _ (w1.frz a (known oe)) (hotD i D) (g1.frz _ na) (((sl.ext e1).ext e2).set rv i) hnx
    ⟨fun σ' Γ' w' S' e' g' sl' h' => r.nx _ _ w' S' ((e1.trans e2).trans e') g' (sl'.unset i) h', (r.rt.ext e1).ext e2, (fun _ _ _ _ _ _ _ (z : False) => z.elim), (fun _ _ _ _ _ _ _ (z : False) => z.elim), fun _ _ _ _ _ _ _ _ _ (z : False) => z.elim⟩
end DL
namespace DL
open PySem PySem.Spec PyProof.Rows L2
/-- the different ones among ns -/
def uniqI (ns : List Int) : List Int := PyProof.Rows.firstMet (fun i => ns.getD i 0) ns.length
section
variable {X : Cx} {W : WX} {e : Expr} {te : TE} {Te : TD}
def dLenSetG (T : TD) : TD := fun Γ S Φ Ψ => T Γ S (fun S1 d => ∃ ns : List Int, asQ S1 d = some (ns.map D.int) ∧ ns.length ≤ 4000 ∧ Φ S1 (.int (uniqI ns).length)) Ψ
variable {Γ : Gam} {S : Sto} {Φ : KD} {Ψ : KX}
theorem dLenSetG_e {T : TD} : dLenSetG T Γ S Φ Ψ = T Γ S (fun S1 d => ∃ ns : List Int, asQ S1 d = some (ns.map D.int) ∧ ns.length ≤ 4000 ∧ Φ S1 (.int (uniqI ns).length)) Ψ := rfl
end
end DL
namespace DL
open PySem PySem.Spec PyProof.Rows L2
def dIsB (x y : D) (S : Sto) (Φ : KD) : Prop := match x, y with
  | .bl a, .bl b => Φ S (.bl (decide (a = b)))
  | _, _ => False
theorem dIsB_b {a b : Bool} {S : Sto} {Φ : KD} : dIsB (.bl a) (.bl b) S Φ = Φ S (.bl (decide (a = b))) := rfl
def obsXG1 (n : Nat) (fa : List FaX) (fn : List He5.DefA) (g : Addr → Option Obj) : He.AlD := obsX fa fn (He.frG g (sysModules :: He5.asA g n))
def hookX1 (n : Nat) (fa : List FaX) (fn : List He5.DefA) : PySem.W.Hook where
  α := He.AlD
  obs := fun s => obsXG1 n fa fn s.heap.get?
  val := fun _ => He5.valA fn
  says := fun _ h => ∃ K : PySem.W.Frag, K.In h ∧ SaysX fa fn K
  of := fun _ _ e => ⟨_, He.frG_in, e⟩
  keeps := fun _ _ _ ⟨K, hK, c⟩ k => ⟨K, PySem.W.Frag.In.keeps hK k, c⟩
theorem obsXG1_eq {n : Nat} {fa : List FaX} {fn : List He5.DefA} {g : Addr → Option Obj} {s : Shared} (h : ∀ a, g a = s.heap.get? a) : obsXG1 n fa fn g = (hookX1 n fa fn).obs s := by
  have e : g = s.heap.get? := funext h
  rw [e] <;> rfl
/-- showable, of depth n at most, its text m long at most -/
structure FitX (n m : Nat) (p : PyData) : Prop where
  show_ : p.showable = true
  deep : p.depth ≤ n
  len : p.shown.length ≤ m
theorem FitX.mono {n m n' m' : Nat} {p : PyData} (h : FitX n m p) (a : n ≤ n') (b : m ≤ m') : FitX n' m' p := ⟨h.show_, Nat.le_trans h.deep a, Nat.le_trans h.len b⟩
theorem Fit.x {n m : Nat} {p : PyData} (h : Fit n m p) : FitX n m p := ⟨h.show_, h.deep, h.len⟩
theorem FitX.shw {n m : Nat} {p : PyData} (h : FitX n m p) (hn : n ≤ 60 := by decide) (hm : m ≤ sizeLine := by decide) : ShwX p := ⟨h.show_, Nat.le_trans h.deep hn, Nat.le_trans h.len hm⟩
theorem fitx_all {n m : Nat} : ∀ {ps : List PyData}, (∀ p ∈ ps, FitX n m p) → PyData.showableAll ps = true ∧ PyData.depthAll ps ≤ n
  | [], _ => ⟨by rw [PyData.showableAll], by rw [PyData.depthAll]; exact Nat.zero_le _⟩
  | p :: ps, h => by
    obtain ⟨a, b⟩ := fitx_all (ps := ps) fun q hq => h q (List.mem_cons_of_mem _ hq)
    have c := h p List.mem_cons_self
    refine ⟨by rw [PyData.showableAll, c.show_, a]; rfl, ?_⟩
    rw [PyData.depthAll]
    have := c.deep
    omega
theorem fitx_list {n m l : Nat} {ps : List PyData} (h : ∀ p ∈ ps, FitX n m p) (hl : ps.length ≤ l) : FitX (n + 1) (2 + l * (m + 2)) (.list ps) := by
  obtain ⟨b, d⟩ := fitx_all h
  refine ⟨by rw [PyData.showable]; exact b, by rw [PyData.depth]; omega, ?_⟩
  rw [PyData.shown]
  have := listText_le (m := m) (ts := PyData.shownAll ps) fun t ht => by
    obtain ⟨p, hp, rfl⟩ := shownAll_mem ht
    exact (h p hp).len
  rw [shownAll_len] at this
  have h2 : ps.length * (m + 2) ≤ l * (m + 2) := Nat.mul_le_mul_right _ hl
  omega
theorem piledx_le {m : Nat} : ∀ {ts : List Str}, (∀ t ∈ ts, t.length ≤ m) → piled ts ≤ ts.length * (m + 2)
  | [], _ => Nat.zero_le _
  | x :: r, h => by
    have ih := piledx_le (m := m) (ts := r) fun t ht => h t (List.mem_cons_of_mem _ ht)
    have h1 := h x List.mem_cons_self
    rw [List.length_cons, Nat.add_mul]
    rw [piled_cons]
    omega
theorem fitx_tup {n m l : Nat} {ps : List PyData} (h : ∀ p ∈ ps, FitX n m p) (hl : ps.length ≤ l) : FitX (n + 1) (4 + l * (m + 2)) (.tuple ps) := by
  obtain ⟨b, d⟩ := fitx_all h
  have e : (PyData.tuple ps).shown = tupleText (PyData.shownAll ps) := by
    rw [PyData.shown]
  refine ⟨by rw [PyData.showable]; exact b, by rw [PyData.depth]; omega, ?_⟩
  rw [e]
  have := piledx_le (m := m) (ts := PyData.shownAll ps) fun t ht => by
    obtain ⟨p, hp, rfl⟩ := shownAll_mem ht
    exact (h p hp).len
  rw [shownAll_len] at this
  have h2 : ps.length * (m + 2) ≤ l * (m + 2) := Nat.mul_le_mul_right _ hl
  unfold tupleText
  rw [len_app, len_app, PySem.ofString_length, PySem.ofString_length]
  have h3 : (if (PyData.shownAll ps).length == 1 then ",)" else ")" : String).length ≤ 2 := by split <;> decide
  have h4 : (Str.join ", " (PyData.shownAll ps)).length ≤ piled (PyData.shownAll ps) := by
    by_cases c : PyData.shownAll ps = []
    · rw [c]; decide
    · have := join_length_add _ c
      omega
  have h5 : "(".length = 1 := rfl
  omega
theorem fitx_non : FitX 0 4 .none := ⟨by rw [PyData.showable], by rw [PyData.depth] <;> omega, by rw [PyData.shown_none]; decide⟩
theorem fitx_bl (b : Bool) : FitX 0 5 (.bool b) := ⟨by rw [PyData.showable], by rw [PyData.depth] <;> omega, by rw [PyData.shown_bool]; cases b <;> decide⟩
theorem fitx_str {x : Str} {m : Nat} (h : (reprText x).length ≤ m) : FitX 0 m (.str x) := ⟨by rw [PyData.showable], by rw [PyData.depth] <;> omega, by rw [PyData.shown_str]; exact h⟩
theorem fitx_int {i : Int} {k : Nat} (h : i.natAbs < 10 ^ k) (h0 : 0 < k := by decide) (hk : k ≤ 500 := by decide) : FitX 0 (k + 1) (.int i) := (fit_int h h0 hk).x
theorem fitx_dic0 : FitX 1 2 (.dict []) := ⟨by rw [PyData.showable, PyData.showableKv], by rw [PyData.depth, PyData.depthKv] <;> omega, by rw [PyData.shown_dict, PyData.shownKv_nil]; decide⟩
theorem fitx_dic1 {k p : PyData} {n m m2 : Nat} (h1 : FitX 0 m k) (h2 : FitX n m2 p) : FitX (n + 1) (m + m2 + 4) (.dict [(k, p)]) := by
  refine ⟨by rw [PyData.showable, PyData.showableKv, PyData.showableKv, h1.show_, h2.show_]; rfl, ?_, ?_⟩
  · rw [PyData.depth, PyData.depthKv, PyData.depthKv]
    have := h1.deep
    have := h2.deep
    omega
  · rw [PyData.shown_dict, PyData.shownKv_cons, PyData.shownKv_nil, len_app, len_app]
    have := h1.len
    have := h2.len
    have e : ∀ z : Str, Str.join ", " [z] = z := fun _ => rfl
    rw [e, len_app, len_app]
    have a1 : ("{" : Str).length = 1 := rfl
    have a2 : ("}" : Str).length = 1 := rfl
    have a3 : (": " : Str).length = 2 := rfl
    omega
end DL
namespace DL
open PySem PySem.Spec PyProof.Rows L2
theorem takes_no {X : Cx} : Takes X wNo := fun _ _ ⟨_, _, _, _, _, _, _, _, _, _, _, _, _, _, _, _, z⟩ => z.elim
/-- a def called with the exception, in a suite of X -/
theorem je_callS {X : Cx} {a : Addr} {pn : List (Addr × Obj)} {x y : Str} {st : Stmt} {k : Nat} {ps : List Str} {sp : DSpec} {p q pos : Pos} (i : Nat) (c : CalH X.prog X.w X.K X.mg X.base x st k ps sp) (gd : X.A.guards = some []) (room : RoomH k X.A) (hg : Gl X x) (hdb : (x == ("__debug__" : Str)) = false := by decide) (hN : X.N[i]? = some y := by rfl) (hv : Vis X.env.scope y := by first | exact Or.inl rfl | exact Or.inr (Or.inl rfl) | exact Or.inr (Or.inr rfl)) (hd : (y == ("__debug__" : Str)) = false := by decide)
    (hcd : (y == ("__classdict__" : Str)) = false := by decide) (he : starEach [.Name y q] X.env = (false, eval (.Name y q) X.env) :: starEach [] X.env := by rfl) (hpl : (backTo pos (starEach [] X.env)).any (·.1) = false := by rfl) :
    JE (X.suite a pn) wNo (.Call (.Name x p) [.Name y q] [] pos) (tCallS (spOf X.K sp) (WE wNo) (tCons (tVar i) tNil)) (dCall sp (lCons (dVar i) lNil)) :=
  je_callH (X := X.suite a pn) c gd (room.mark _) hg takes_no (ja_cons (je_var (X := X.suite a pn) i hN hv hd hcd) ja_nil he) hdb he hpl
theorem sTryH_e {E : EdD} {Cs : List Addr} {i : Nat} {T U : TSd} {Γ : Gam} {S : Sto} : sTryH Cs i T U E Γ S = T { nx := E.nx, rt := E.rt, er := fun S1 x => x.cls ∈ Cs ∧ i < Γ.length ∧ U { nx := fun Γ' S' => E.nx (Γ'.set i none) S', rt := E.rt, er := fun _ _ => False } (Γ.set i (some (.exc x.cls x.fs))) S1 } Γ S := rfl
end DL
namespace DL
open PySem PySem.Spec PyProof.Rows L2
/-- a def that stands at an address, with its promise -/
def CalRow (P : Program) (wd : World) (K : PySem.W.Frag) (mg : Str → Option Value) (base : Heap) (k : Nat) (q : Addr × DSpec) : Prop :=
  ∃ j fd ps, j ≤ k ∧ FnOkG P wd K mg base (L2.CX P wd) j q.1 fd ps (spOf K q.2) ∧ PySem.W.keepIn K (.ref q.1) = true ∧ Binds K fd ps []
theorem calRow_of {P : Program} {wd : World} {K : PySem.W.Frag} {mg : Str → Option Value} {base : Heap} {x : Str} {st : Stmt} {j k : Nat} {ps : List Str} {sp : DSpec} {C : Addr} (c : CalG P wd K mg base x st j ps sp) (g : mg x = some (.ref C)) (h : j ≤ k) : CalRow P wd K mg base k (C, sp) := by
  obtain ⟨f, fd, F, hm, hk, hb⟩ := c.ex
  have e : f = C := by
    rw [hm] at g
    injection g with g
    injection g
  subst e
  exact ⟨j, fd, ps, h, F, hk.kp, hb⟩
def tCallF (K : PySem.W.Frag) (tab : List (Addr × DSpec)) (E : L2.St → XK) (tf : TE) (tl : TA) : TE := fun σ H Q => tf σ H fun v H1 => ∃ g sp, v = V.ref g ∧ (g, sp) ∈ tab ∧ tl σ H1 fun vs H2 => spOf K sp vs H2 Q (E σ)
def dCallF (tab : List (Addr × DSpec)) (Tf : TD) (Tl : TL) : TD := fun Γ S Φ Ψ => Tf Γ S (fun S1 d => ∃ g sp, d = .obj g ∧ (g, sp) ∈ tab ∧ Tl Γ S1 (fun S2 ds => sp ds S2 Φ Ψ) Ψ) Ψ
theorem sem_callF {K : PySem.W.Frag} {W : WX} {tab : List (Addr × DSpec)} {tf : TE} {Tf : TD} {tl : TA} {Tl : TL} (hf : SemE K W tf Tf) (ha : SemA K W tl Tl) : SemE K W (tCallF K tab (WE W) tf tl) (dCallF tab Tf Tl) := fun Γ S Φ Ψ σ w g sl hT hx Q q => by
  refine hf Γ S _ Ψ σ w g sl hT hx _ fun v d w1 S1 e1 g1 r1 ⟨a, sp, ed, hm, h1⟩ => ?_
  subst ed
  cases r1 with
  | obj _ =>
    refine ⟨a, sp, rfl, hm, ?_⟩
    exact ha Γ S1 _ Ψ σ w1 g1 (sl.ext e1) h1 (hx.ext e1) _ fun vs ds w2 S2 e2 g2 r2 h2 => ⟨w2, S2, ds, Φ, Ψ, rfl, g2, r2, h2, (q.ext e1).ext e2, fun cv dx x w' S' e g r hΨ => (hx.ext e1).ext e2 cv dx x w' S' e g r hΨ⟩
theorem je_callF {X : Cx} {W : WX} {fe e : Expr} {es : List Expr} {pos : Pos} {tf : TE} {Tf : TD} {tl : TA} {Tl : TL} {k : Nat} (tab : List (Addr × DSpec)) (c : ∀ q ∈ tab, CalRow X.prog X.w X.K X.mg X.base k q) (gd : X.A.guards = some []) (room : Room k X.A) (tk : Takes X W) (hf : JE X W fe tf Tf) (ha : JA X W (e :: es) tl Tl)
    (hev : eval (.Call fe (e :: es) [] pos) X.env = (do callWith pos (← eval fe X.env) [] (backTo pos (starEach (e :: es) X.env)) []) := by rfl)
    (he : starEach (e :: es) X.env = (false, eval e X.env) :: starEach es X.env := by rfl) (hpl : (backTo pos (starEach es X.env)).any (·.1) = false := by rfl) :
    JE X W (.Call fe (e :: es) [] pos) (tCallF X.K tab (WE W) tf tl) (dCallF tab Tf Tl) where
  sem := sem_callF hf.sem ha.sem
  pe := ⟨fun pins s σ H Q I h => by
    rw [hev]
    refine wpAny_bind (thn (hf.pe.run pins s σ H _ I h) fun u s1 ⟨v, H1, I1, r1, a, sp, ev, hm, h1⟩ => ?_)
    subst ev
    obtain rfl : u = Value.ref a := r1
    obtain ⟨j, fd, ps, hj, F, hk, hb⟩ := c _ hm
    exact PySem.W.callWith_K (h₀ := X.base) I1.ok.mod.kin hk (thn (ha.pa.run pos pins s1 σ H1 _ I1 h1) fun us s2 ⟨vs, H2, I2, r, q⟩ => ⟨I2.kIn, goG F gd (room.mono hj) hb tk I2 r q⟩) he hpl⟩
theorem dCallF_e {tab : List (Addr × DSpec)} {Tf : TD} {Tl : TL} {Γ : Gam} {S : Sto} {Φ : KD} {Ψ : KX} : dCallF tab Tf Tl Γ S Φ Ψ = Tf Γ S (fun S1 d => ∃ g sp, d = .obj g ∧ (g, sp) ∈ tab ∧ Tl Γ S1 (fun S2 ds => sp ds S2 Φ Ψ) Ψ) Ψ := rfl
end DL
namespace DL
open PySem PySem.Spec PyProof.Rows L2
def top (i : Nat) : Stmt := PySem.Challenge.pw_runtabs_k40_errors_of_parting.main.body.getD i (.Pass ⟨0, 0, 0, 0⟩)
abbrev s_is_integer : Stmt := (top 20)
abbrev s_is_cell : Stmt := (top 21)
abbrev s_is_line : Stmt := (top 26)
abbrev s_is_table : Stmt := (top 27)
abbrev s_need_table : Stmt := (top 28)
abbrev s_edge_of : Stmt := (top 30)
abbrev s_require_room : Stmt := (top 31)
abbrev s_wide_stretches : Stmt := (top 32)
abbrev s_stretches : Stmt := (top 33)
abbrev s_partings : Stmt := (top 34)
abbrev s_fewest_lines : Stmt := (top 35)
abbrev s_is_stretch : Stmt := (top 36)
abbrev s_shows_lines : Stmt := (top 37)
abbrev s_are_kinds : Stmt := (top 40)
abbrev s_Style___init__ : Stmt := (inClass (top 41) 0)
abbrev s_Style_of : Stmt := (inClass (top 41) 1)
abbrev s_Style_gap : Stmt := (inClass (top 41) 3)
abbrev s_Style_least : Stmt := (inClass (top 41) 4)
abbrev s__law_feed : Stmt := (top 43)
abbrev s__law_pick : Stmt := (top 44)
abbrev s__law_lengths : Stmt := (top 45)
abbrev s__law_rows : Stmt := (top 46)
abbrev s__law_look : Stmt := (top 47)
abbrev s__law_groups : Stmt := (top 48)
abbrev s__law_stops : Stmt := (top 49)
abbrev s__law_width : Stmt := (top 50)
abbrev s__law_class : Stmt := (top 51)
abbrev s__law_raised : Stmt := (top 52)
abbrev s__law_no_tables : Stmt := (top 53)
abbrev s__law_right : Stmt := (top 54)
abbrev s_law : Stmt := (top 55)
def dd_is_integer : He5.DefA := ⟨(fun K => He.ga K "is_integer"), "is_integer", "is_integer", defArgs s_is_integer, defBody s_is_integer, defScope s_is_integer, [], []⟩
def dd_is_cell : He5.DefA := ⟨(fun K => He.ga K "is_cell"), "is_cell", "is_cell", defArgs s_is_cell, defBody s_is_cell, defScope s_is_cell, [], []⟩
def dd_is_line : He5.DefA := ⟨(fun K => He.ga K "is_line"), "is_line", "is_line", defArgs s_is_line, defBody s_is_line, defScope s_is_line, [], []⟩
def dd_is_table : He5.DefA := ⟨(fun K => He.ga K "is_table"), "is_table", "is_table", defArgs s_is_table, defBody s_is_table, defScope s_is_table, [], []⟩
def dd_need_table : He5.DefA := ⟨(fun K => He.ga K "need_table"), "need_table", "need_table", defArgs s_need_table, defBody s_need_table, defScope s_need_table, [], []⟩
def dd_edge_of : He5.DefA := ⟨(fun K => He.ga K "edge_of"), "edge_of", "edge_of", defArgs s_edge_of, defBody s_edge_of, defScope s_edge_of, [], []⟩
def dd_require_room : He5.DefA := ⟨(fun K => He.ga K "require_room"), "require_room", "require_room", defArgs s_require_room, defBody s_require_room, defScope s_require_room, [], []⟩
def dd_wide_stretches : He5.DefA := ⟨(fun K => He.ga K "wide_stretches"), "wide_stretches", "wide_stretches", defArgs s_wide_stretches, defBody s_wide_stretches, defScope s_wide_stretches, [], []⟩
def dd_stretches : He5.DefA := ⟨(fun K => He.ga K "stretches"), "stretches", "stretches", defArgs s_stretches, defBody s_stretches, defScope s_stretches, [], []⟩
def dd_partings : He5.DefA := ⟨(fun K => He.ga K "partings"), "partings", "partings", defArgs s_partings, defBody s_partings, defScope s_partings, [], []⟩
def dd_fewest_lines : He5.DefA := ⟨(fun K => He.ga K "fewest_lines"), "fewest_lines", "fewest_lines", defArgs s_fewest_lines, defBody s_fewest_lines, defScope s_fewest_lines, [], []⟩
def dd_is_stretch : He5.DefA := ⟨(fun K => He.ga K "is_stretch"), "is_stretch", "is_stretch", defArgs s_is_stretch, defBody s_is_stretch, defScope s_is_stretch, [], []⟩
def dd_shows_lines : He5.DefA := ⟨(fun K => He.ga K "shows_lines"), "shows_lines", "shows_lines", defArgs s_shows_lines, defBody s_shows_lines, defScope s_shows_lines, [], []⟩
def dd_are_kinds : He5.DefA := ⟨(fun K => He.ga K "are_kinds"), "are_kinds", "are_kinds", defArgs s_are_kinds, defBody s_are_kinds, defScope s_are_kinds, [], []⟩
def dd_Style___init__ : He5.DefA := ⟨(fun K => He.ma K (He.ga K "Style") "__init__"), "__init__", "Style.__init__", defArgs s_Style___init__, defBody s_Style___init__, defScope s_Style___init__, [], [("gap", .int 1), ("least", .int 0)]⟩
def dd_Style_of : He5.DefA := ⟨(fun K => He5.wf K (He.ga K "Style") "classmethod" "of"), "of", "Style.of", defArgs s_Style_of, defBody s_Style_of, defScope s_Style_of, [], []⟩
def dd_Style_gap : He5.DefA := ⟨(fun K => He5.wf K (He.ga K "Style") "property" "gap"), "gap", "Style.gap", defArgs s_Style_gap, defBody s_Style_gap, defScope s_Style_gap, [], []⟩
def dd_Style_least : He5.DefA := ⟨(fun K => He5.wf K (He.ga K "Style") "property" "least"), "least", "Style.least", defArgs s_Style_least, defBody s_Style_least, defScope s_Style_least, [], []⟩
def dd__law_feed : He5.DefA := ⟨(fun K => He.ga K "_law_feed"), "_law_feed", "_law_feed", defArgs s__law_feed, defBody s__law_feed, defScope s__law_feed, [], []⟩
def dd__law_pick : He5.DefA := ⟨(fun K => He.ga K "_law_pick"), "_law_pick", "_law_pick", defArgs s__law_pick, defBody s__law_pick, defScope s__law_pick, [], []⟩
def dd__law_lengths : He5.DefA := ⟨(fun K => He.ga K "_law_lengths"), "_law_lengths", "_law_lengths", defArgs s__law_lengths, defBody s__law_lengths, defScope s__law_lengths, [], []⟩
def dd__law_rows : He5.DefA := ⟨(fun K => He.ga K "_law_rows"), "_law_rows", "_law_rows", defArgs s__law_rows, defBody s__law_rows, defScope s__law_rows, [], []⟩
def dd__law_look : He5.DefA := ⟨(fun K => He.ga K "_law_look"), "_law_look", "_law_look", defArgs s__law_look, defBody s__law_look, defScope s__law_look, [], []⟩
def dd__law_groups : He5.DefA := ⟨(fun K => He.ga K "_law_groups"), "_law_groups", "_law_groups", defArgs s__law_groups, defBody s__law_groups, defScope s__law_groups, [], []⟩
def dd__law_stops : He5.DefA := ⟨(fun K => He.ga K "_law_stops"), "_law_stops", "_law_stops", defArgs s__law_stops, defBody s__law_stops, defScope s__law_stops, [], []⟩
def dd__law_width : He5.DefA := ⟨(fun K => He.ga K "_law_width"), "_law_width", "_law_width", defArgs s__law_width, defBody s__law_width, defScope s__law_width, [], []⟩
def dd__law_class : He5.DefA := ⟨(fun K => He.ga K "_law_class"), "_law_class", "_law_class", defArgs s__law_class, defBody s__law_class, defScope s__law_class, [], []⟩
def dd__law_raised : He5.DefA := ⟨(fun K => He.ga K "_law_raised"), "_law_raised", "_law_raised", defArgs s__law_raised, defBody s__law_raised, defScope s__law_raised, [], []⟩
def dd__law_no_tables : He5.DefA := ⟨(fun K => He.ga K "_law_no_tables"), "_law_no_tables", "_law_no_tables", defArgs s__law_no_tables, defBody s__law_no_tables, defScope s__law_no_tables, [], []⟩
def dd__law_right : He5.DefA := ⟨(fun K => He.ga K "_law_right"), "_law_right", "_law_right", defArgs s__law_right, defBody s__law_right, defScope s__law_right, [], []⟩
def dd_law : He5.DefA := ⟨(fun K => He.ga K "law"), "law", "law", defArgs s_law, defBody s_law, defScope s_law, [], []⟩
abbrev s_TooNarrow___init__ : Stmt := inClass (top 14) 0
theorem sc_TooNarrow___init__ : FnScope (["self", "line"] : List Str) (["self", "line"] : List Str) (defScope s_TooNarrow___init__) := ⟨rfl, rfl, rfl, by decide +kernel, rfl, by decide +kernel, by decide +kernel⟩
def dd_TooNarrow___init__ : He5.DefA := ⟨(fun K => He.ma K (He.ga K "TooNarrow") "__init__"), "__init__", "TooNarrow.__init__", defArgs s_TooNarrow___init__, defBody s_TooNarrow___init__, defScope s_TooNarrow___init__, [], []⟩
def fnL : List He5.DefA := (([dd_is_integer, dd_is_cell, dd_is_line, dd_is_table, dd_need_table, dd_edge_of, dd_require_room, dd_wide_stretches, dd_stretches, dd_partings, dd_fewest_lines, dd_is_stretch, dd_shows_lines, dd_are_kinds, dd_Style___init__, dd_Style_of, dd_Style_gap, dd_Style_least, dd__law_feed, dd__law_pick] : List He5.DefA) ++ ([dd__law_lengths, dd__law_rows, dd__law_look, dd__law_groups, dd__law_stops, dd__law_width, dd__law_class, dd__law_raised, dd__law_no_tables, dd__law_right, dd_law, dd_TooNarrow___init__] : List He5.DefA))
def faL : List FaX := (([(fun K => (He.Fa.glo "is_integer").ok K), (fun K => (He.Fa.glo "is_cell").ok K), (fun K => (He.Fa.glo "is_line").ok K), (fun K => (He.Fa.glo "is_table").ok K), (fun K => (He.Fa.glo "need_table").ok K), (fun K => (He.Fa.glo "edge_of").ok K), (fun K => (He.Fa.glo "require_room").ok K), (fun K => (He.Fa.glo "wide_stretches").ok K), (fun K => (He.Fa.glo "stretches").ok K), (fun K => (He.Fa.glo "partings").ok K), (fun K => (He.Fa.glo "fewest_lines").ok K), (fun K => (He.Fa.glo "is_stretch").ok K), (fun K => (He.Fa.glo "shows_lines").ok K), (fun K => (He.Fa.glo "are_kinds").ok K), (fun K => (He.Fa.glo "_law_feed").ok K), (fun K => (He.Fa.glo "_law_pick").ok K), (fun K => (He.Fa.glo "_law_lengths").ok K), (fun K => (He.Fa.glo "_law_rows").ok K), (fun K => (He.Fa.glo "_law_look").ok K), (fun K => (He.Fa.glo "_law_groups").ok K)] : List FaX) ++ ([(fun K => (He.Fa.glo "_law_stops").ok K), (fun K => (He.Fa.glo "_law_width").ok K), (fun K => (He.Fa.glo "_law_class").ok K), (fun K => (He.Fa.glo "_law_raised").ok K), (fun K => (He.Fa.glo "_law_no_tables").ok K), (fun K => (He.Fa.glo "_law_right").ok K), (fun K => (He.Fa.glo "law").ok K), (fun K => (He.Fa.glo "TooNarrow").ok K), (fun K => (He.Fa.glo "PageError").ok K), (fun K => (He.Fa.meth "TooNarrow" "__init__").ok K), (fun K => (He.Fa.noat "TooNarrow" "line").ok K), (bOex "TooNarrow"), (bVeB "PageError"), (bXFld "TooNarrow" "line"), (fun K => (He.Fa.free "int").ok K), (fun K => (He.Fa.free "isinstance").ok K), (fun K => (He.Fa.free "bool").ok K), (fun K => (He.Fa.int "MOST_CELL" 1000000000000000000000000000000).ok K), (fun K => (He.Fa.free "list").ok K), (fun K => (He.Fa.free "len").ok K)] : List FaX) ++ ([(fun K => (He.Fa.int "MOST_CELLS" 12).ok K), (fun K => (He.Fa.free "all").ok K), (fun K => (He.Fa.int "MOST_LINES" 60).ok K), (fun K => (He.Fa.glo "InvalidTable").ok K), (fun K => (He.Fa.exc "InvalidTable").ok K), (fun K => (He.Fa.free "max").ok K), (fun K => (He.Fa.cls "Style").ok K), (bProp "Style" "least"), (bProp "Style" "gap"), (fun K => (He.Fa.glo "InvalidWidth").ok K), (fun K => (He.Fa.exc "InvalidWidth").ok K), (fun K => (He.Fa.free "range").ok K), (fun K => (He.Fa.free "tuple").ok K), (fun K => (He.Fa.free "sorted").ok K), (fun K => (He.Fa.int "MOST_KINDS" 12).ok K), (fun K => (He.Fa.free "str").ok K), (fun K => (He.Fa.glo "Kind").ok K), (bCVT "Kind" "NAMES" ["left", "right", "center"]), (fun K => (He.Fa.str "LEFT" "left").ok K), (fun K => (He.Fa.glo "InvalidStyle").ok K)] : List FaX) ++ ([(fun K => (He.Fa.exc "InvalidStyle").ok K), (fun K => (He.Fa.noat "Style" "held_kinds").ok K), (fun K => (He.Fa.noat "Style" "held_gap").ok K), (fun K => (He.Fa.noat "Style" "held_least").ok K), (fun K => (He.Fa.mkr "Style").ok K), (fun K => (He.Fa.free "abs").ok K), (fun K => (He.Fa.free "min").ok K), (fun K => (He.Fa.free "zip").ok K), (bExT "InvalidTable"), (bKit "InvalidTable" "InvalidTable" true), (bKit "InvalidTable" "InvalidWidth" false), (bKit "InvalidTable" "TooNarrow" false), (bKit "InvalidTable" "InvalidBlock" false), (bKit "InvalidTable" "InvalidNumber" false), (bKit "InvalidTable" "InvalidSights" false), (bKit "InvalidTable" "InvalidStyle" false), (bKit "InvalidTable" "InvalidTabs" false), (bKit "InvalidTable" "InvalidText" false), (bKit "InvalidTable" "InvalidCell" false), (bKit "InvalidTable" "InvalidColumn" false)] : List FaX) ++ ([(bKit "InvalidTable" "InvalidLine" false), (bKit "InvalidTable" "NothingToUndo" false), (bKit "InvalidTable" "NotPossible" false), (bKitT "InvalidTable" "ValueError" true), (bExT "InvalidWidth"), (bKit "InvalidWidth" "InvalidTable" false), (bKit "InvalidWidth" "InvalidWidth" true), (bKit "InvalidWidth" "TooNarrow" false), (bKit "InvalidWidth" "InvalidBlock" false), (bKit "InvalidWidth" "InvalidNumber" false), (bKit "InvalidWidth" "InvalidSights" false), (bKit "InvalidWidth" "InvalidStyle" false), (bKit "InvalidWidth" "InvalidTabs" false), (bKit "InvalidWidth" "InvalidText" false), (bKit "InvalidWidth" "InvalidCell" false), (bKit "InvalidWidth" "InvalidColumn" false), (bKit "InvalidWidth" "InvalidLine" false), (bKit "InvalidWidth" "NothingToUndo" false), (bKit "InvalidWidth" "NotPossible" false), (bKitT "InvalidWidth" "ValueError" true)] : List FaX) ++ ([(bExT "TooNarrow"), (bKit "TooNarrow" "InvalidTable" false), (bKit "TooNarrow" "InvalidWidth" false), (bKit "TooNarrow" "TooNarrow" true), (bKit "TooNarrow" "InvalidBlock" false), (bKit "TooNarrow" "InvalidNumber" false), (bKit "TooNarrow" "InvalidSights" false), (bKit "TooNarrow" "InvalidStyle" false), (bKit "TooNarrow" "InvalidTabs" false), (bKit "TooNarrow" "InvalidText" false), (bKit "TooNarrow" "InvalidCell" false), (bKit "TooNarrow" "InvalidColumn" false), (bKit "TooNarrow" "InvalidLine" false), (bKit "TooNarrow" "NothingToUndo" false), (bKit "TooNarrow" "NotPossible" false), (bKitT "TooNarrow" "ValueError" true), (fun K => (He.Fa.glo "InvalidText").ok K), (fun K => (He.Fa.glo "InvalidTabs").ok K), (fun K => (He.Fa.glo "InvalidSights").ok K), (fun K => (He.Fa.glo "InvalidNumber").ok K)] : List FaX) ++ ([(fun K => (He.Fa.glo "InvalidBlock").ok K), (fun K => (He.Fa.glo "NotPossible").ok K), (fun K => (He.Fa.glo "NothingToUndo").ok K), (fun K => (He.Fa.glo "InvalidLine").ok K), (fun K => (He.Fa.glo "InvalidColumn").ok K), (fun K => (He.Fa.glo "InvalidCell").ok K), (fun K => (He.Fa.free "ValueError").ok K), bModK, (fun K => (He.Fa.free "repr").ok K), (bExm "InvalidTable" "PageError"), (bExm "InvalidWidth" "PageError"), (bExm "TooNarrow" "PageError"), (fun K => (He.Fa.glo "Style").ok K), (bCRd "Style"), (bCMet "Style" "of")] : List FaX))
abbrev RR : PySem.W.OpenRow := PySem.W.OpenLaw.row PySem.Challenge.rw_runtabs_k40_errors_of_parting
abbrev hkL : PySem.W.Hook := hookX1 7 faL fnL
def obL (s : PySem.W.SharedT) : He.AlD := obsXG1 7 faL fnL (HandSHeadRun.getT s)
theorem obL_eq (s : PySem.W.SharedT) : obL s = hkL.obs s.abs := obsXG1_eq (HandSHeadRun.getT_eq s)
def othersL : List Str := ((["_wall", "PageError", "InvalidTable", "InvalidStyle", "InvalidTabs", "InvalidSights", "InvalidLine", "InvalidColumn", "InvalidCell", "InvalidWidth", "InvalidBlock", "InvalidNumber", "NothingToUndo", "TooNarrow", "NotPossible", "InvalidText", "MOST_CELL", "LEFT", "is_integer", "is_cell"] : List Str) ++ (["Kind", "MOST_LINES", "MOST_CELLS", "is_line", "is_table", "need_table", "edge_of", "require_room", "wide_stretches", "stretches", "partings", "fewest_lines", "is_stretch", "shows_lines", "MOST_KINDS", "are_kinds", "Style", "_law_feed", "_law_pick", "_law_lengths"] : List Str) ++ (["_law_rows", "_law_look", "_law_groups", "_law_stops", "_law_width", "_law_class", "_law_raised", "_law_no_tables", "_law_right"] : List Str))
theorem runL (w : World) : HandSHeadRun.RunEq RR (PySem.W.view RR.prog [55]) hkL obL 8000 othersL w := by
  intro os
  kernel_rfl
end DL
namespace DL
open PySem PySem.Spec PyProof.Rows L2
abbrev GREAT : Int := 1000000000000000000000000000000
abbrev MOST : Int := GREAT
def inB (v lo hi : Int) : Bool := decide (lo ≤ v) && decide (v ≤ hi)
/-- whole objects of any shape -/
inductive Pln : D → Prop
  | non : Pln .non
  | bl (b : Bool) : Pln (.bl b)
  | int (i : Int) : Pln (.int i)
  | str (x : Str) : Pln (.str x)
  | lst (ds : List D) (h : ∀ d ∈ ds, Pln d) : Pln (.lst ds)
  | tup (ds : List D) (h : ∀ d ∈ ds, Pln d) : Pln (.tup ds)
  | dic (ks : List (Key × D)) : Pln (.dic ks)
/-- an int between the two -/
def intIn (d : D) (lo hi : Int) : Bool := match d with
  | .int v => inB v lo hi
  | _ => false
/-- a line of cells; a table -/
def lineB (x : D) : Bool := match x with
  | .lst ds => decide (1 ≤ ds.length) && (decide (ds.length ≤ 12) && ds.all fun d => intIn d 0 GREAT)
  | _ => false
def tableB (x : D) : Bool := match x with
  | .lst ds => decide (1 ≤ ds.length) && (decide (ds.length ≤ 60) && ds.all lineB)
  | _ => false
def sp_is_integer : DSpec := fun ds S Φ _ => ∃ v lo hi, ds = [v, .int lo, .int hi] ∧ Pln v ∧ Φ S (.bl (intIn v lo hi))
def sp_is_cell : DSpec := fun ds S Φ _ => ∃ v, ds = [v] ∧ Pln v ∧ Φ S (.bl (intIn v 0 GREAT))
def sp_is_line : DSpec := fun ds S Φ _ => ∃ v, ds = [v] ∧ Pln v ∧ Φ S (.bl (lineB v))
def sp_is_table : DSpec := fun ds S Φ _ => ∃ v, ds = [v] ∧ Pln v ∧ Φ S (.bl (tableB v))
abbrev kindsL : List Str := ["left", "right", "center"]
structure LookOk (ks : List Str) (g l : Int) : Prop where
  lo : 1 ≤ ks.length
  hi : ks.length ≤ 12
  at_ : ∀ k ∈ ks, k ∈ kindsL
  g0 : 0 ≤ g
  g1 : g ≤ GREAT
  l0 : 0 ≤ l
  l1 : l ≤ GREAT
def styF (ks : List Str) (g l : Int) : List (Str × D) := [("held_kinds", .lst (ks.map D.str)), ("held_gap", .int g), ("held_least", .int l)]
def sp_are_kinds : DSpec := fun ds S Φ _ => ∃ ks : List Str, ds = [.lst (ks.map D.str)] ∧ 1 ≤ ks.length ∧ ks.length ≤ 12 ∧ (∀ k ∈ ks, k ∈ kindsL) ∧ Φ S (.bl true)
def kindsOr (ks : List Str) : List Str := if ks = [] then ["left"] else ks
def sp_Style___init__ (C : Addr) : DSpec := fun ds S Φ _ => ∃ h ks g l, ds = [.own h, .int g, .int l, .tup (ks.map D.str)] ∧ S[h]? = some (.ins C []) ∧ LookOk (kindsOr ks) g l ∧ Φ (S.set h (.ins C (styF (kindsOr ks) g l))) .non
def sp_Style_of (C : Addr) : DSpec := fun ds S Φ _ => ∃ ks g l, ds = [.obj C, .lst (ks.map D.str), .int g, .int l] ∧ LookOk ks g l ∧ Φ (S ++ [.ins C (styF ks g l)]) (.own S.length)
def sp_Style_gap (C : Addr) : DSpec := fun ds S Φ _ => ∃ d ks g l, ds = [d] ∧ asI S d = some (C, styF ks g l) ∧ Φ S (.int g)
def sp_Style_least (C : Addr) : DSpec := fun ds S Φ _ => ∃ d ks g l, ds = [d] ∧ asI S d = some (C, styF ks g l) ∧ Φ S (.int l)
structure RowOk (r : List Int) : Prop where
  lo : 1 ≤ r.length
  hi : r.length ≤ 12
  at_ : ∀ x ∈ r, 0 ≤ x ∧ x ≤ GREAT
structure TabOk (t : List (List Int)) : Prop where
  lo : 1 ≤ t.length
  hi : t.length ≤ 60
  row : ∀ r ∈ t, RowOk r
/-- an object that is a table of the law's, or none at all -/
def TabX (x : D) : Prop := Pln x ∧ (tableB x = false ∨ ∃ t, x = tabD t ∧ TabOk t)
def sp_need_table (T : Addr) : DSpec := fun ds S Φ Ψ => ∃ x, ds = [x] ∧ TabX x ∧ (tableB x = false → Ψ S ⟨T, []⟩) ∧ (tableB x = true → Φ S .non)
/-- the greatest cell of a leading run, at least `least` -/
def runM (least : Int) : List (Option Int) → Int
  | some v :: r => max v (runM least r)
  | _ => least
def roomAt (least : Int) (xs : List (Option Int)) (j : Nat) : Int := max (runM least (xs.drop j)) (runM least (xs.take j).reverse)
/-- m is the greatest of least and of the cells from f to l -/
structure IsRoom (least : Int) (xs : List (Option Int)) (f l : Nat) (m : Int) : Prop where
  lo : least ≤ m
  up : ∀ i v, f ≤ i → i ≤ l → xs[i]? = some (some v) → v ≤ m
  at_ : m = least ∨ ∃ i, f ≤ i ∧ i ≤ l ∧ xs[i]? = some (some m)
theorem IsRoom.eq {least : Int} {xs : List (Option Int)} {f l : Nat} {m m' : Int} (h : IsRoom least xs f l m) (h' : IsRoom least xs f l m') : m = m' := by
  have a : m ≤ m' := by
    rcases h.at_ with e | ⟨i, h1, h2, h3⟩
    · rw [e]; exact h'.lo
    · exact h'.up i m h1 h2 h3
  have b : m' ≤ m := by
    rcases h'.at_ with e | ⟨i, h1, h2, h3⟩
    · rw [e]; exact h.lo
    · exact h.up i m' h1 h2 h3
  omega
theorem runM_is (least : Int) : ∀ (xs : List (Option Int)) (n : Nat), (∀ i, i < n → ∃ v, xs[i]? = some (some v)) → (∀ v, xs[n]? ≠ some (some v)) →
    least ≤ runM least xs ∧ (∀ i v, i < n → xs[i]? = some (some v) → v ≤ runM least xs) ∧ (runM least xs = least ∨ ∃ i, i < n ∧ xs[i]? = some (some (runM least xs)))
  | [], n, h, _ => by
    cases n with
    | zero => exact ⟨Int.le_refl _, fun i v hi => absurd hi (by omega), .inl rfl⟩
    | succ n => obtain ⟨v, e⟩ := h 0 (by omega); cases e
  | none :: xs, n, h, _ => by
    cases n with
    | zero => exact ⟨Int.le_refl _, fun i v hi => absurd hi (by omega), .inl rfl⟩
    | succ n => obtain ⟨v, e⟩ := h 0 (by omega); cases e
  | some w :: xs, n, h, h2 => by
    cases n with
    | zero => exact absurd rfl (h2 w)
    | succ n =>
      obtain ⟨a, b, c⟩ := runM_is least xs n (fun i hi => by obtain ⟨v, e⟩ := h (i + 1) (by omega); exact ⟨v, by simpa using e⟩) (fun v e => h2 v (by simpa using e))
      have e : runM least (some w :: xs) = max w (runM least xs) := rfl
      rw [e]
      refine ⟨by omega, fun i v hi hv => ?_, ?_⟩
      · cases i with
        | zero => simp at hv; omega
        | succ i => have := b i v (by omega) (by simpa using hv); omega
      · by_cases q : w ≤ runM least xs
        · rw [show max w (runM least xs) = runM least xs by omega]
          rcases c with c | ⟨i, hi, c⟩
          · exact .inl c
          · exact .inr ⟨i + 1, by omega, by simpa using c⟩
        · rw [show max w (runM least xs) = w by omega]
          exact .inr ⟨0, by omega, rfl⟩
theorem rev_get {α : Type} {xs : List α} {j i : Nat} (hj : j ≤ xs.length) (hi : i < j) : (xs.take j).reverse[i]? = xs[j - 1 - i]? := by
  have hl : (xs.take j).length = j := by rw [List.length_take]; omega
  rw [List.getElem?_reverse (by omega), hl, List.getElem?_take]
  rw [if_pos (by omega)]
theorem roomAt_is (least : Int) {xs : List (Option Int)} {f l j : Nat} (hj : f ≤ j) (hj2 : j ≤ l) (hs : ∀ i, f ≤ i → i ≤ l → ∃ v, xs[i]? = some (some v)) (h1 : ∀ v, xs[l + 1]? ≠ some (some v)) (h0 : f = 0 ∨ ∀ v, xs[f - 1]? ≠ some (some v)) : IsRoom least xs f l (roomAt least xs j) := by
  have hlen : l < xs.length := by
    obtain ⟨v, e⟩ := hs l (by omega) (by omega)
    exact (List.getElem?_eq_some_iff.mp e).1
  obtain ⟨a1, b1, c1⟩ := runM_is least (xs.drop j) (l + 1 - j) (fun i hi => by rw [List.getElem?_drop]; exact hs _ (by omega) (by omega)) (fun v => by rw [List.getElem?_drop, show j + (l + 1 - j) = l + 1 by omega]; exact h1 v)
  obtain ⟨a2, b2, c2⟩ := runM_is least (xs.take j).reverse (j - f) (fun i hi => by rw [rev_get (by omega) (by omega)]; exact hs _ (by omega) (by omega)) (fun v => by
    rcases h0 with h0 | h0
    · rw [h0, Nat.sub_zero, List.getElem?_eq_none (by rw [List.length_reverse, List.length_take]; omega)]
      exact fun z => nomatch z
    · by_cases z : j - f < j
      · rw [rev_get (by omega) (by omega), show j - 1 - (j - f) = f - 1 by omega]
        exact h0 v
      · rw [List.getElem?_eq_none (by rw [List.length_reverse, List.length_take]; omega)]
        exact fun z => nomatch z)
  unfold roomAt
  refine ⟨by omega, fun i v h2 h3 hv => ?_, ?_⟩
  · by_cases q : j ≤ i
    · have := b1 (i - j) v (by omega) (by rw [List.getElem?_drop, show j + (i - j) = i by omega]; exact hv)
      omega
    · have := b2 (j - 1 - i) v (by omega) (by rw [rev_get (by omega) (by omega), show j - 1 - (j - 1 - i) = i by omega]; exact hv)
      omega
  · have k1 : ∀ m, (m = least ∨ ∃ i, i < l + 1 - j ∧ (xs.drop j)[i]? = some (some m)) → m = least ∨ ∃ i, f ≤ i ∧ i ≤ l ∧ xs[i]? = some (some m) := fun m h => by
      rcases h with h | ⟨i, hi, h⟩
      · exact .inl h
      · rw [List.getElem?_drop] at h
        exact .inr ⟨j + i, by omega, by omega, h⟩
    have k2 : ∀ m, (m = least ∨ ∃ i, i < j - f ∧ (xs.take j).reverse[i]? = some (some m)) → m = least ∨ ∃ i, f ≤ i ∧ i ≤ l ∧ xs[i]? = some (some m) := fun m h => by
      rcases h with h | ⟨i, hi, h⟩
      · exact .inl h
      · rw [rev_get (by omega) (by omega)] at h
        exact .inr ⟨j - 1 - i, by omega, by omega, h⟩
    rcases Int.le_total (runM least (xs.drop j)) (runM least (xs.take j).reverse) with q | q
    · rw [Int.max_eq_right q]; exact k2 _ c2
    · rw [Int.max_eq_left q]; exact k1 _ c1
def colRuns (p : Nat → Bool) : Nat → List (Nat × Nat) × Option Nat
  | 0 => ([], none)
  | k + 1 => if p k then ((colRuns p k).1, some ((colRuns p k).2.getD k)) else match (colRuns p k).2 with
    | none => ((colRuns p k).1, none)
    | some f => ((colRuns p k).1 ++ [(f, k - 1)], none)
def hasL (j : Nat) (b : Nat × Nat) : Bool := decide (b.1 ≤ j) && decide (j ≤ b.2)
structure RunsOk (p : Nat → Bool) (k : Nat) (bs : List (Nat × Nat)) (o : Option Nat) : Prop where
  blk : ∀ b ∈ bs, b.1 ≤ b.2 ∧ b.2 + 1 < k ∧ (∀ j, b.1 ≤ j → j ≤ b.2 → p j = true) ∧ p (b.2 + 1) = false ∧ (b.1 = 0 ∨ p (b.1 - 1) = false)
  opn : ∀ f, o = some f → f < k ∧ (∀ j, f ≤ j → j < k → p j = true) ∧ (f = 0 ∨ p (f - 1) = false) ∧ ∀ b ∈ bs, b.2 < f
  shut : o = none → k = 0 ∨ p (k - 1) = false
  one : ∀ j, j < k → p j = true → (∃ b, bs.filter (hasL j) = [b]) ∨ ∃ f, o = some f ∧ f ≤ j
  off : ∀ j, p j = false → bs.filter (hasL j) = []
theorem runs_ok (p : Nat → Bool) : ∀ k, RunsOk p k (colRuns p k).1 (colRuns p k).2
  | 0 => ⟨(fun _ h => nomatch h), (fun _ h => nomatch h), fun _ => .inl rfl, fun _ h => absurd h (by omega), fun _ _ => rfl⟩
  | k + 1 => by
    have ih := runs_ok p k
    unfold colRuns
    generalize (colRuns p k).1 = bs at ih ⊢
    generalize (colRuns p k).2 = o at ih ⊢
    by_cases c : p k = true
    · rw [if_pos c]
      refine ⟨fun b hb => ?_, fun f hf => ?_, (fun h => nomatch h), fun j hj hp => ?_, ih.off⟩
      · obtain ⟨a1, a2, a3, a4, a5⟩ := ih.blk b hb
        exact ⟨a1, by omega, a3, a4, a5⟩
      · cases o with
        | none =>
          cases hf
          refine ⟨by show k < _; omega, fun j h1 h2 => ?_, ?_, fun b hb => ?_⟩
          · have h1 : k ≤ j := h1
            rw [show j = k by omega]; exact c
          · exact ih.shut rfl
          · have := (ih.blk b hb).2.1
            show b.2 < k
            omega
        | some f0 =>
          cases hf
          obtain ⟨a1, a2, a3, a4⟩ := ih.opn f0 rfl
          refine ⟨by show f0 < _; omega, fun j h1 h2 => ?_, a3, a4⟩
          by_cases q : j = k
          · rw [q]; exact c
          · exact a2 j h1 (by omega)
      · by_cases q : j = k
        · right
          refine ⟨_, rfl, ?_⟩
          cases o with
          | none => show k ≤ j; omega
          | some f0 => have := (ih.opn f0 rfl).1; show f0 ≤ j; omega
        · rcases ih.one j (by omega) hp with h | ⟨f, e, h⟩
          · exact .inl h
          · right
            rw [e]
            exact ⟨f, rfl, h⟩
    · rw [if_neg c]
      have c : p k = false := by simpa using c
      cases o with
      | none =>
        refine ⟨fun b hb => ?_, (fun f hf => nomatch hf), fun _ => .inr c, fun j hj hp => ?_, ih.off⟩
        · obtain ⟨a1, a2, a3, a4, a5⟩ := ih.blk b hb
          exact ⟨a1, by omega, a3, a4, a5⟩
        · have : j ≠ k := fun e => by rw [e, c] at hp; cases hp
          rcases ih.one j (by omega) hp with h | ⟨f, e, h⟩
          · exact .inl h
          · cases e
      | some f0 =>
        obtain ⟨a1, a2, a3, a4⟩ := ih.opn f0 rfl
        have hk : k - 1 + 1 = k := by omega
        refine ⟨fun b hb => ?_, (fun f hf => nomatch hf), fun _ => .inr c, fun j hj hp => ?_, fun j hp => ?_⟩
        · rcases List.mem_append.mp hb with hb | hb
          · obtain ⟨a1, a2, a3, a4, a5⟩ := ih.blk b hb
            exact ⟨a1, by omega, a3, a4, a5⟩
          · rw [List.mem_singleton.mp hb]
            refine ⟨?_, ?_, fun j h1 h2 => a2 j h1 ?_, ?_, a3⟩
            · show f0 ≤ k - 1; omega
            · show k - 1 + 1 < k + 1; omega
            · have h2 : j ≤ k - 1 := h2; omega
            · show p (k - 1 + 1) = false; rw [hk]; exact c
        · have : j ≠ k := fun e => by rw [e, c] at hp; cases hp
          left
          show ∃ b, (bs ++ [(f0, k - 1)]).filter (hasL j) = [b]
          rw [List.filter_append]
          by_cases q : f0 ≤ j
          · refine ⟨(f0, k - 1), ?_⟩
            rw [List.filter_eq_nil_iff.mpr fun b hb => ?_]
            · rw [List.filter_cons_of_pos (by unfold hasL; simp; omega)]
              rfl
            · have := a4 b hb
              unfold hasL
              simp
              omega
          · rcases ih.one j (by omega) hp with ⟨b, h⟩ | ⟨f, e, h⟩
            · refine ⟨b, ?_⟩
              rw [h, List.filter_cons_of_neg (by unfold hasL; simp; omega)]
              rfl
            · cases e; omega
        · show (bs ++ [(f0, k - 1)]).filter (hasL j) = []
          rw [List.filter_append, ih.off j hp, List.filter_cons_of_neg ?_]
          · rfl
          · unfold hasL
            simp
            intro h1
            by_cases q : j < k
            · rw [a2 j h1 q] at hp; cases hp
            · omega
theorem runs_one {p : Nat → Bool} {n j : Nat} (hn : p n = false) (hj : j < n) (hp : p j = true) : ∃ b, (colRuns p (n + 1)).1.filter (hasL j) = [b] := by
  have h := runs_ok p (n + 1)
  rcases h.one j (by omega) hp with h1 | ⟨f, e, h2⟩
  · exact h1
  · obtain ⟨a1, a2, _⟩ := h.opn f e
    have := a2 n (by omega) (by omega)
    rw [hn] at this; cases this
def colOf (t : List (List Int)) (c : Nat) : List (Option Int) := t.map fun r => if c + 1 < r.length then r[c]? else none
def roomsOf (least : Int) (t : List (List Int)) (j : Nat) : List Int := (List.range ((t.getD j []).length - 1)).map fun c => roomAt least (colOf t c) j
def stopsFrom (gap : Int) : Int → List Int → List Int
  | _, [] => []
  | s, x :: xs => (s + (x + gap)) :: stopsFrom gap (s + (x + gap)) xs
def rowStops (g l : Int) (t : List (List Int)) (j : Nat) : List Int := stopsFrom g 0 (roomsOf l t j)
def rowEnd (g l : Int) (t : List (List Int)) (j : Nat) : Int := (rowStops g l t j).getLastD 0 + (t.getD j []).getLastD 0
def endsF (g l : Int) (t : List (List Int)) : List Int := (List.range t.length).map (rowEnd g l t)
def maxOf : List Int → Int
  | [] => 0
  | [x] => x
  | x :: y :: xs => max x (maxOf (y :: xs))
def widthF (g l : Int) (t : List (List Int)) : Int := maxOf (endsF g l t)
theorem maxOf_mem : ∀ {xs : List Int}, xs ≠ [] → maxOf xs ∈ xs
  | [], h => absurd rfl h
  | [x], _ => List.mem_singleton.mpr rfl
  | x :: y :: xs, _ => by
    have ih := maxOf_mem (xs := y :: xs) (by simp)
    unfold maxOf
    rcases Int.le_total x (maxOf (y :: xs)) with q | q
    · rw [Int.max_eq_right q]; exact List.mem_cons_of_mem _ ih
    · rw [Int.max_eq_left q]; exact List.mem_cons_self
theorem maxOf_le : ∀ {xs : List Int}, ∀ y ∈ xs, y ≤ maxOf xs
  | [], _, h => nomatch h
  | [x], y, h => by rw [List.mem_singleton.mp h]; exact Int.le_refl _
  | x :: z :: xs, y, h => by
    unfold maxOf
    rcases List.mem_cons.mp h with rfl | h
    · exact Int.le_max_left _ _
    · exact Int.le_trans (maxOf_le (xs := z :: xs) y h) (Int.le_max_right _ _)
theorem maxOf_eq {xs : List Int} {m : Int} (h : m ∈ xs) (h2 : ∀ y ∈ xs, y ≤ m) : m = maxOf xs :=
  Int.le_antisymm (maxOf_le m h) (h2 _ (maxOf_mem (List.ne_nil_of_mem h)))
theorem maxOf_app {xs ys : List Int} (hx : xs ≠ []) (hy : ys ≠ []) : maxOf (xs ++ ys) = max (maxOf xs) (maxOf ys) := by
  symm
  apply maxOf_eq
  · rcases Int.le_total (maxOf xs) (maxOf ys) with q | q
    · rw [Int.max_eq_right q]; exact List.mem_append_right _ (maxOf_mem hy)
    · rw [Int.max_eq_left q]; exact List.mem_append_left _ (maxOf_mem hx)
  · intro y h
    rcases List.mem_append.mp h with h | h
    · exact Int.le_trans (maxOf_le y h) (Int.le_max_left _ _)
    · exact Int.le_trans (maxOf_le y h) (Int.le_max_right _ _)
theorem getD_ap1 {α : Type} {a b : List α} {d : α} {j : Nat} (h : j < a.length) : (a ++ b).getD j d = a.getD j d := by
  rw [List.getD_eq_getElem?_getD, List.getD_eq_getElem?_getD, List.getElem?_append_left h]
theorem getD_ap2 {α : Type} {a b : List α} {d : α} {j : Nat} : (a ++ b).getD (a.length + j) d = b.getD j d := by
  rw [List.getD_eq_getElem?_getD, List.getD_eq_getElem?_getD, List.getElem?_append_right (Nat.le_add_right _ _), Nat.add_sub_cancel_left]
section
variable {A B : List (List Int)} {l g : Int}
theorem colOf_len (t : List (List Int)) (c : Nat) : (colOf t c).length = t.length := by unfold colOf; rw [List.length_map]
end
def CellsIn (t : List (List Int)) (G : Int) : Prop := ∀ r ∈ t, ∀ x ∈ r, 0 ≤ x ∧ x ≤ G
theorem runM_in {l G : Int} (h0 : 0 ≤ l) (h1 : l ≤ G) : ∀ {xs : List (Option Int)}, (∀ v, some v ∈ xs → 0 ≤ v ∧ v ≤ G) → 0 ≤ runM l xs ∧ runM l xs ≤ G
  | [], _ => ⟨h0, h1⟩
  | none :: _, _ => ⟨h0, h1⟩
  | some v :: xs, h => by
    have ih := runM_in h0 h1 (xs := xs) fun v hv => h v (List.mem_cons_of_mem _ hv)
    have := h v List.mem_cons_self
    show 0 ≤ max v (runM l xs) ∧ max v (runM l xs) ≤ G
    omega
theorem roomAt_in {l G : Int} (h0 : 0 ≤ l) (h1 : l ≤ G) {xs : List (Option Int)} (h : ∀ v, some v ∈ xs → 0 ≤ v ∧ v ≤ G) (j : Nat) : 0 ≤ roomAt l xs j ∧ roomAt l xs j ≤ G := by
  unfold roomAt
  have a := runM_in h0 h1 (xs := xs.drop j) fun v hv => h v (List.mem_of_mem_drop hv)
  have b := runM_in h0 h1 (xs := (xs.take j).reverse) fun v hv => h v (List.mem_of_mem_take (List.mem_reverse.mp hv))
  omega
theorem colOf_in {t : List (List Int)} {G : Int} (h : CellsIn t G) (c : Nat) : ∀ v, some v ∈ colOf t c → 0 ≤ v ∧ v ≤ G := by
  intro v hv
  unfold colOf at hv
  obtain ⟨r, hr, e⟩ := List.mem_map.mp hv
  split at e
  · exact h r hr v (List.mem_of_getElem? e)
  · cases e
theorem roomsOf_in {t : List (List Int)} {l G : Int} (h0 : 0 ≤ l) (h1 : l ≤ G) (h : CellsIn t G) (j : Nat) : ∀ x ∈ roomsOf l t j, 0 ≤ x ∧ x ≤ G := by
  intro x hx
  unfold roomsOf at hx
  obtain ⟨c, _, rfl⟩ := List.mem_map.mp hx
  exact roomAt_in h0 h1 (colOf_in h c) j
theorem stopsFrom_in {g G : Int} (h0 : 0 ≤ g) (h1 : g ≤ G) : ∀ {xs : List Int} {s : Int}, (∀ x ∈ xs, 0 ≤ x ∧ x ≤ G) → 0 ≤ s → ∀ y ∈ stopsFrom g s xs, 0 ≤ y ∧ y ≤ s + 2 * G * xs.length
  | [], _, _, _, y, hy => nomatch hy
  | x :: xs, s, h, hs, y, hy => by
    have hx := h x List.mem_cons_self
    have ih := stopsFrom_in h0 h1 (xs := xs) (s := s + (x + g)) (fun x hx => h x (List.mem_cons_of_mem _ hx)) (by omega)
    have e : (2 : Int) * G * ((x :: xs).length : Nat) = 2 * G * (xs.length : Nat) + 2 * G := by
      rw [List.length_cons, Int.natCast_add, Int.mul_add]
      simp
    rw [e]
    have p : 0 ≤ 2 * G * (xs.length : Int) := Int.mul_nonneg (by omega) (by omega)
    rcases List.mem_cons.mp hy with rfl | hy
    · omega
    · have := ih y hy
      omega
theorem rowStops_in {t : List (List Int)} {g l G : Int} (g0 : 0 ≤ g) (g1 : g ≤ G) (h0 : 0 ≤ l) (h1 : l ≤ G) (h : CellsIn t G) {j : Nat} (hl : (t.getD j []).length ≤ 12) : ∀ y ∈ rowStops g l t j, 0 ≤ y ∧ y ≤ 22 * G := by
  intro y hy
  have := stopsFrom_in g0 g1 (roomsOf_in h0 h1 h j) (Int.le_refl 0) y hy
  refine ⟨this.1, Int.le_trans this.2 ?_⟩
  have e : (roomsOf l t j).length ≤ 11 := by
    unfold roomsOf
    rw [List.length_map, List.length_range]
    omega
  have : 2 * G * ((roomsOf l t j).length : Int) ≤ 2 * G * 11 := Int.mul_le_mul_of_nonneg_left (by omega) (by omega)
  omega
theorem getLastD_mem {xs : List Int} {d : Int} : xs.getLastD d = d ∨ xs.getLastD d ∈ xs := by
  cases xs with
  | nil => exact .inl rfl
  | cons a b =>
    right
    rw [List.getLastD_cons]
    have : b.getLastD a = (a :: b).getLast (by simp) := (List.getLast_eq_getLastD ..).symm
    rw [this]
    exact List.getLast_mem _
theorem rowEnd_in {t : List (List Int)} {g l G : Int} (g0 : 0 ≤ g) (g1 : g ≤ G) (h0 : 0 ≤ l) (h1 : l ≤ G) (h : CellsIn t G) {j : Nat} (hl : (t.getD j []).length ≤ 12) : 0 ≤ rowEnd g l t j ∧ rowEnd g l t j ≤ 23 * G := by
  unfold rowEnd
  have a : 0 ≤ (rowStops g l t j).getLastD 0 ∧ (rowStops g l t j).getLastD 0 ≤ 22 * G := by
    rcases getLastD_mem (xs := rowStops g l t j) (d := 0) with e | m
    · rw [e]; omega
    · exact rowStops_in g0 g1 h0 h1 h hl _ m
  have b : 0 ≤ (t.getD j []).getLastD 0 ∧ (t.getD j []).getLastD 0 ≤ G := by
    rcases getLastD_mem (xs := t.getD j []) (d := 0) with e | m
    · rw [e]; omega
    · rw [List.getD_eq_getElem?_getD] at m
      cases q : t[j]? with
      | none => rw [q] at m; cases m
      | some r =>
        rw [q] at m
        rw [List.getD_eq_getElem?_getD, q]
        exact h r (List.mem_of_getElem? q) _ m
  omega
def tabAt (t : List (List Int)) (j : Nat) : Nat := (t.getD j []).length - 1
def hasT (ns : List Nat) (c j : Nat) : Bool := decide (c < ns.getD j 0)
abbrev Blk := Nat × Nat × Nat
def colBlks (ns : List Nat) (c : Nat) : List Blk := (colRuns (hasT ns c) (ns.length + 1)).1.map fun b => (c, b.1, b.2)
def tabsF (t : List (List Int)) : List Nat := t.map fun r => r.length - 1
def roomB (l : Int) (t : List (List Int)) (b : Blk) : Int := roomAt l (colOf t b.1) b.2.1
theorem tabsF_len (t : List (List Int)) : (tabsF t).length = t.length := by unfold tabsF; rw [List.length_map]
theorem tabsF_at (t : List (List Int)) (j : Nat) : (tabsF t).getD j 0 = tabAt t j := by
  unfold tabsF tabAt
  rw [List.getD_eq_getElem?_getD, List.getD_eq_getElem?_getD, List.getElem?_map]
  cases t[j]? <;> rfl
theorem colOf_some {t : List (List Int)} {c j : Nat} (h : hasT (tabsF t) c j = true) : ∃ v, (colOf t c)[j]? = some (some v) ∧ (t.getD j [])[c]? = some v := by
  unfold hasT at h
  rw [tabsF_at, decide_eq_true_eq] at h
  unfold tabAt at h
  unfold colOf
  rw [List.getElem?_map]
  rw [List.getD_eq_getElem?_getD] at h ⊢
  cases q : t[j]? with
  | none => rw [q] at h; exact absurd h (by simp)
  | some r =>
    rw [q] at h
    have h : c < r.length - 1 := h
    exact ⟨r[c]'(by omega), by rw [Option.map_some, if_pos (by omega), List.getElem?_eq_getElem (by omega)], List.getElem?_eq_getElem (by omega)⟩
theorem colOf_none {t : List (List Int)} {c j : Nat} (h : hasT (tabsF t) c j = false) : ∀ v, (colOf t c)[j]? ≠ some (some v) := by
  unfold hasT at h
  rw [tabsF_at, decide_eq_false_iff_not] at h
  unfold tabAt at h
  unfold colOf
  rw [List.getElem?_map]
  rw [List.getD_eq_getElem?_getD] at h
  cases q : t[j]? with
  | none => exact fun v e => nomatch e
  | some r =>
    rw [q] at h
    have h : ¬ c < r.length - 1 := h
    intro v e
    rw [Option.map_some, if_neg (by omega)] at e
    cases e
/-- what is known of a block -/
structure BlkOk (t : List (List Int)) (b : Blk) : Prop where
  le : b.2.1 ≤ b.2.2
  lt : b.2.2 < t.length
  at_ : ∀ j, b.2.1 ≤ j → j ≤ b.2.2 → hasT (tabsF t) b.1 j = true
  nx : hasT (tabsF t) b.1 (b.2.2 + 1) = false
  pv : b.2.1 = 0 ∨ hasT (tabsF t) b.1 (b.2.1 - 1) = false
theorem colBlks_ok {t : List (List Int)} {c : Nat} {b : Blk} (h : b ∈ colBlks (tabsF t) c) : BlkOk t b ∧ b.1 = c := by
  unfold colBlks at h
  obtain ⟨q, hq, rfl⟩ := List.mem_map.mp h
  obtain ⟨a1, a2, a3, a4, a5⟩ := (runs_ok _ _).blk q hq
  rw [tabsF_len] at a2
  exact ⟨⟨a1, by show q.2 < _; omega, a3, a4, a5⟩, rfl⟩
theorem BlkOk.room {t : List (List Int)} {b : Blk} (h : BlkOk t b) (l : Int) {j : Nat} (h1 : b.2.1 ≤ j) (h2 : j ≤ b.2.2) : IsRoom l (colOf t b.1) b.2.1 b.2.2 (roomAt l (colOf t b.1) j) :=
  roomAt_is l h1 h2 (fun i a b' => let ⟨v, e, _⟩ := colOf_some (h.at_ i a b'); ⟨v, e⟩) (colOf_none h.nx) (h.pv.imp id colOf_none)
theorem BlkOk.same {t : List (List Int)} {b : Blk} (h : BlkOk t b) (l : Int) {j : Nat} (h1 : b.2.1 ≤ j) (h2 : j ≤ b.2.2) : roomAt l (colOf t b.1) j = roomB l t b :=
  (h.room l h1 h2).eq (h.room l (Nat.le_refl _) h.le)
theorem runM_stop (least : Int) : ∀ (a b : List (Option Int)), (b = [] ∨ b.head? = some none ∨ none ∈ a) → runM least (a ++ b) = runM least a
  | [], [], _ => rfl
  | [], none :: _, _ => rfl
  | [], some v :: b, h => by
    rcases h with h | h | h
    · cases h
    · cases h
    · cases h
  | none :: _, _, _ => rfl
  | some v :: a, b, h => by
    show max v (runM least (a ++ b)) = max v (runM least a)
    rw [runM_stop least a b (by
      rcases h with h | h | h
      · exact .inl h
      · exact .inr (.inl h)
      · rcases List.mem_cons.mp h with h | h
        · cases h
        · exact .inr (.inr h))]
def Cln (a b : List (Option Int)) : Prop := a = [] ∨ b = [] ∨ a.getLast? = some none ∨ b.head? = some none
theorem roomAt_fst (least : Int) {a b : List (Option Int)} {j : Nat} (h : Cln a b) (hj : j < a.length) : roomAt least (a ++ b) j = roomAt least a j := by
  unfold roomAt
  rw [List.drop_append_of_le_length (by omega), List.take_append_of_le_length (by omega), runM_stop]
  rcases h with h | h | h | h
  · rw [h] at hj; simp at hj
  · exact .inl h
  · right; right
    have : (a.drop j).getLast? = some none := by
      rw [List.getLast?_drop, if_neg (by omega)]; exact h
    exact List.mem_of_getLast? this
  · exact .inr (.inl h)
theorem roomAt_snd (least : Int) {a b : List (Option Int)} {j : Nat} (h : Cln a b) {v : Int} (hv : b[j]? = some (some v)) : roomAt least (a ++ b) (a.length + j) = roomAt least b j := by
  unfold roomAt
  rw [List.drop_append, List.take_append]
  simp only [Nat.add_sub_cancel_left]
  rw [List.drop_of_length_le (by omega), List.take_of_length_le (by omega), List.reverse_append, List.nil_append, runM_stop least (b.take j).reverse]
  rcases h with h | h | h | h
  · left; rw [h]; rfl
  · rw [h] at hv; cases hv
  · right; left; rw [List.head?_reverse]; exact h
  · cases b with
    | nil => cases hv
    | cons x b =>
      cases h
      cases j with
      | zero => cases hv
      | succ j => right; right; simp
theorem col_last {t : List (List Int)} {c : Nat} (h : t.getLast?.elim True (fun r => r.length ≤ 1)) : t = [] ∨ (colOf t c).getLast? = some none := by
  cases q : t.getLast? with
  | none => exact .inl (List.getLast?_eq_none_iff.mp q)
  | some r =>
    rw [q] at h
    have h : r.length ≤ 1 := h
    right
    unfold colOf
    rw [List.getLast?_map, q, Option.map_some, if_neg (by omega)]
theorem col_head {t : List (List Int)} {c : Nat} (h : t.head?.elim True (fun r => r.length ≤ 1)) : t = [] ∨ (colOf t c).head? = some none := by
  cases t with
  | nil => exact .inl rfl
  | cons r t =>
    have h : r.length ≤ 1 := h
    right
    unfold colOf
    rw [List.map_cons, List.head?_cons, if_neg (by omega)]
def ClnT (A B : List (List Int)) : Prop := A.getLast?.elim True (fun r => r.length ≤ 1) ∨ B.head?.elim True (fun r => r.length ≤ 1)
theorem ClnT.col {A B : List (List Int)} (h : ClnT A B) (c : Nat) : Cln (colOf A c) (colOf B c) := by
  rcases h with h | h
  · rcases col_last (c := c) h with h | h
    · left; rw [h]; rfl
    · right; right; left; exact h
  · rcases col_head (c := c) h with h | h
    · right; left; rw [h]; rfl
    · right; right; right; exact h
theorem colOf_app (A B : List (List Int)) (c : Nat) : colOf (A ++ B) c = colOf A c ++ colOf B c := by unfold colOf; rw [List.map_append]
theorem col_at {t : List (List Int)} {c j : Nat} (h : c < (t.getD j []).length - 1) : ∃ v, (colOf t c)[j]? = some (some v) := by
  rw [List.getD_eq_getElem?_getD] at h
  unfold colOf
  rw [List.getElem?_map]
  cases q : t[j]? with
  | none => rw [q] at h; simp at h
  | some r =>
    rw [q] at h
    have h : c < r.length - 1 := h
    exact ⟨r[c]'(by omega), by rw [Option.map_some, if_pos (by omega), List.getElem?_eq_getElem (by omega)]⟩
section
variable {A B : List (List Int)} {l g : Int}
theorem rooms_fst (h : ClnT A B) {j : Nat} (hj : j < A.length) : roomsOf l (A ++ B) j = roomsOf l A j := by
  unfold roomsOf
  rw [getD_ap1 hj]
  apply List.map_congr_left
  intro c _
  rw [colOf_app, roomAt_fst l (h.col c) (by rw [colOf_len]; exact hj)]
theorem rooms_snd (h : ClnT A B) (j : Nat) : roomsOf l (A ++ B) (A.length + j) = roomsOf l B j := by
  unfold roomsOf
  rw [getD_ap2]
  apply List.map_congr_left
  intro c hc
  obtain ⟨v, hv⟩ := col_at (List.mem_range.mp hc)
  rw [colOf_app, show A.length + j = (colOf A c).length + j by rw [colOf_len], roomAt_snd l (h.col c) hv]
theorem endsF_app (h : ClnT A B) : endsF g l (A ++ B) = endsF g l A ++ endsF g l B := by
  unfold endsF
  rw [List.length_append, List.range_add, List.map_append, List.map_map]
  congr 1
  · apply List.map_congr_left
    intro j hj
    have hj := List.mem_range.mp hj
    unfold rowEnd rowStops
    rw [rooms_fst h hj, getD_ap1 hj]
  · apply List.map_congr_left
    intro j _
    show rowEnd g l _ _ = rowEnd g l _ _
    unfold rowEnd rowStops
    rw [rooms_snd h, getD_ap2]
end
def endS0 (g : Int) (xs : List Int) : Int := (xs.map (· + g)).sum
theorem sum_cons (x : Int) (xs : List Int) : (x :: xs).sum = x + xs.sum := by simp
theorem stops_last (g : Int) : ∀ (xs : List Int) (s : Int), (stopsFrom g s xs).getLastD s = s + endS0 g xs
  | [], s => by unfold stopsFrom endS0; simp
  | x :: xs, s => by
    unfold stopsFrom
    rw [List.getLastD_cons, stops_last g xs]
    unfold endS0
    rw [List.map_cons, sum_cons]
    omega
theorem rowEnd_eq (g l : Int) (t : List (List Int)) (j : Nat) : rowEnd g l t j = endS0 g (roomsOf l t j) + (t.getD j []).getLastD 0 := by
  unfold rowEnd rowStops
  rw [stops_last]
  omega
theorem roomAt_next (l : Int) {xs : List (Option Int)} {j : Nat} {v w : Int} (h1 : xs[j]? = some (some v)) (h2 : xs[j + 1]? = some (some w)) : roomAt l xs (j + 1) = roomAt l xs j := by
  unfold roomAt
  obtain ⟨l1, e1⟩ := List.getElem?_eq_some_iff.mp h1
  rw [List.drop_eq_getElem_cons l1, e1, List.take_add_one, h1]
  simp only [Option.toList_some, List.reverse_append, List.reverse_cons, List.reverse_nil, List.nil_append, List.singleton_append]
  show max _ (max v _) = max (max v _) _
  omega
theorem roomAt_run (l : Int) {xs : List (Option Int)} {j : Nat} : ∀ k, (∀ i, j ≤ i → i ≤ j + k → ∃ v, xs[i]? = some (some v)) → roomAt l xs (j + k) = roomAt l xs j
  | 0, _ => rfl
  | k + 1, h => by
    obtain ⟨v, e1⟩ := h (j + k) (by omega) (by omega)
    obtain ⟨w, e2⟩ := h (j + k + 1) (by omega) (by omega)
    rw [← roomAt_run l k (fun i a b => h i a (by omega))]
    exact roomAt_next l e1 e2
/-- the room of a block of all lines -/
def headM (l : Int) : List (List Int) → Int
  | [] => l
  | r :: t => max (r.headD 0) (headM l t)
theorem runM_all (l : Int) : ∀ {t : List (List Int)}, (∀ r ∈ t, 2 ≤ r.length) → runM l (colOf t 0) = headM l t
  | [], _ => rfl
  | r :: t, h => by
    have hr := h r List.mem_cons_self
    unfold colOf
    rw [List.map_cons, if_pos (by omega), List.getElem?_eq_getElem (by omega)]
    show max r[0] (runM l (colOf t 0)) = max (r.headD 0) (headM l t)
    rw [runM_all l fun r' h' => h r' (List.mem_cons_of_mem _ h')]
    congr 1
    cases r with
    | nil => simp at hr
    | cons a b => rfl
theorem room0 {l : Int} {t : List (List Int)} (h : ∀ r ∈ t, 2 ≤ r.length) {j : Nat} (hj : j < t.length) : roomAt l (colOf t 0) j = headM l t := by
  have all : ∀ i, i < t.length → ∃ v, (colOf t 0)[i]? = some (some v) := fun i hi => col_at (by
    rw [List.getD_eq_getElem?_getD, List.getElem?_eq_getElem hi]
    have := h _ (List.getElem_mem hi)
    show 0 < (t[i]).length - 1
    omega)
  have e := roomAt_run l (xs := colOf t 0) (j := 0) j fun i _ hi => all i (by omega)
  rw [Nat.zero_add] at e
  rw [e]
  have hm : ∀ xs : List (Option Int), roomAt l xs 0 = max (runM l xs) l := fun xs => rfl
  rw [hm, runM_all l h]
  have : ∀ t, l ≤ headM l t := fun t => by
    induction t with
    | nil => exact Int.le_refl _
    | cons r t ih => unfold headM; omega
  have := this t
  omega
theorem colOf_tail (t : List (List Int)) (c : Nat) : colOf (t.map List.tail) c = colOf t (c + 1) := by
  unfold colOf
  rw [List.map_map]
  apply List.map_congr_left
  intro r _
  show (if c + 1 < r.tail.length then r.tail[c]? else none) = _
  rw [List.length_tail]
  by_cases h : c + 1 + 1 < r.length
  · rw [if_pos (by omega), if_pos h]
    cases r with
    | nil => simp at h
    | cons a r => rfl
  · rw [if_neg (by omega), if_neg h]
theorem rooms_tail {l : Int} {t : List (List Int)} (h : ∀ r ∈ t, 2 ≤ r.length) {j : Nat} (hj : j < t.length) : roomsOf l t j = headM l t :: roomsOf l (t.map List.tail) j := by
  unfold roomsOf
  have e1 : t.getD j [] = t[j] := by rw [List.getD_eq_getElem?_getD, List.getElem?_eq_getElem hj]; rfl
  have e2 : (t.map List.tail).getD j [] = (t[j]).tail := by rw [List.getD_eq_getElem?_getD, List.getElem?_map, List.getElem?_eq_getElem hj]; rfl
  have h2 := h _ (List.getElem_mem hj)
  rw [e1, e2, List.length_tail, show (t[j]).length - 1 = ((t[j]).length - 1 - 1) + 1 by omega, List.range_succ_eq_map, List.map_cons, List.map_map, room0 h hj]
  congr 1
  apply List.map_congr_left
  intro c _
  show roomAt l (colOf t (c + 1)) j = _
  rw [colOf_tail]
theorem ends_block {g l : Int} {t : List (List Int)} (h : ∀ r ∈ t, 2 ≤ r.length) : endsF g l t = (endsF g l (t.map List.tail)).map (headM l t + g + ·) := by
  unfold endsF
  rw [List.map_map, List.length_map]
  apply List.map_congr_left
  intro j hj
  have hj := List.mem_range.mp hj
  show rowEnd g l t j = headM l t + g + rowEnd g l (t.map List.tail) j
  rw [rowEnd_eq, rowEnd_eq, rooms_tail h hj]
  have e1 : t.getD j [] = t[j] := by rw [List.getD_eq_getElem?_getD, List.getElem?_eq_getElem hj]; rfl
  have e2 : (t.map List.tail).getD j [] = (t[j]).tail := by rw [List.getD_eq_getElem?_getD, List.getElem?_map, List.getElem?_eq_getElem hj]; rfl
  have h2 := h _ (List.getElem_mem hj)
  have e3 : (t[j]).tail.getLastD 0 = (t[j]).getLastD 0 := by
    cases q : t[j] with
    | nil => rw [q] at h2; simp at h2
    | cons a r =>
      cases r with
      | nil => rw [q] at h2; simp at h2
      | cons b r => rw [List.tail_cons, List.getLastD_cons, List.getLastD_cons, List.getLastD_cons]
  rw [e1, e2, e3]
  unfold endS0
  rw [List.map_cons, sum_cons]
  omega
theorem maxOf_add (c : Int) : ∀ {xs : List Int}, xs ≠ [] → maxOf (xs.map (c + ·)) = c + maxOf xs
  | [], h => absurd rfl h
  | [x], _ => rfl
  | x :: y :: xs, _ => by
    have ih := maxOf_add c (xs := y :: xs) (by simp)
    show max (c + x) (maxOf ((y :: xs).map (c + ·))) = c + max x (maxOf (y :: xs))
    rw [ih]
    omega
theorem ends_len (g l : Int) (t : List (List Int)) : (endsF g l t).length = t.length := by unfold endsF; rw [List.length_map, List.length_range]
theorem width_block {g l : Int} {t : List (List Int)} (h : ∀ r ∈ t, 2 ≤ r.length) (hn : t ≠ []) : widthF g l t = headM l t + g + widthF g l (t.map List.tail) := by
  unfold widthF
  rw [ends_block h, maxOf_add]
  intro e
  have := ends_len g l (t.map List.tail)
  rw [e, List.length_map] at this
  exact hn (List.eq_nil_of_length_eq_zero this.symm)
/-- the greatest of them, at least 0 -/
def maxP (xs : List Int) : Int := max 0 (maxOf xs)
theorem maxP_app (xs ys : List Int) : maxP (xs ++ ys) = max (maxP xs) (maxP ys) := by
  unfold maxP
  cases xs with
  | nil => rw [List.nil_append]; show _ = max (max 0 0) _; omega
  | cons a xs =>
    cases ys with
    | nil => rw [List.append_nil]; show _ = max _ (max 0 0); omega
    | cons b ys => rw [maxOf_app (by simp) (by simp)]; omega
def bF (g l : Int) (t : List (List Int)) (c k : Nat) : Int := endS0 g ((roomsOf l t k).take c)
theorem rooms_len (l : Int) (t : List (List Int)) (k : Nat) : (roomsOf l t k).length = tabAt t k := by
  unfold roomsOf tabAt
  rw [List.length_map, List.length_range]
theorem rooms_at {l : Int} {t : List (List Int)} {k c : Nat} (h : c < tabAt t k) : (roomsOf l t k)[c]? = some (roomAt l (colOf t c) k) := by
  have h : c < (t.getD k []).length - 1 := h
  unfold roomsOf
  rw [List.getElem?_map, List.getElem?_range h]
  rfl
theorem endS0_snoc (g x : Int) (xs : List Int) : endS0 g (xs ++ [x]) = endS0 g xs + (x + g) := by
  unfold endS0
  simp
theorem bF_next {g l : Int} {t : List (List Int)} {c k : Nat} (h : c < tabAt t k) : bF g l t (c + 1) k = bF g l t c k + (roomAt l (colOf t c) k + g) := by
  unfold bF
  rw [List.take_add_one, rooms_at h]
  exact endS0_snoc _ _ _
theorem bF_stay {g l : Int} {t : List (List Int)} {c k : Nat} (h : tabAt t k ≤ c) : bF g l t (c + 1) k = bF g l t c k := by
  unfold bF
  rw [List.take_of_length_le (by rw [rooms_len]; omega), List.take_of_length_le (by rw [rooms_len]; omega)]
theorem bF_all {g l : Int} {t : List (List Int)} {c k : Nat} (h : tabAt t k ≤ c) : bF g l t c k = endS0 g (roomsOf l t k) := by
  unfold bF
  rw [List.take_of_length_le (by rw [rooms_len]; omega)]
theorem bF_zero {g l : Int} {t : List (List Int)} {k : Nat} : bF g l t 0 k = 0 := rfl
theorem has_tab {t : List (List Int)} {c j : Nat} (h : hasT (tabsF t) c j = true) : c < tabAt t j := by
  unfold hasT at h
  rw [tabsF_at, decide_eq_true_eq] at h
  exact h
theorem has_not {t : List (List Int)} {c j : Nat} (h : hasT (tabsF t) c j = false) : tabAt t j ≤ c := by
  unfold hasT at h
  rw [tabsF_at, decide_eq_false_iff_not] at h
  omega
theorem bF_same {g l : Int} {t : List (List Int)} {b : Blk} (bk : BlkOk t b) {k : Nat} (h1 : b.2.1 ≤ k) (h2 : k ≤ b.2.2) : bF g l t b.1 k = bF g l t b.1 b.2.1 := by
  unfold bF
  congr 1
  apply List.ext_getElem?
  intro c
  by_cases hc : c < b.1
  · have t1 := has_tab (bk.at_ k h1 h2)
    have t2 := has_tab (bk.at_ b.2.1 (Nat.le_refl _) bk.le)
    rw [List.getElem?_take, List.getElem?_take, if_pos hc, if_pos hc, rooms_at (by omega), rooms_at (by omega)]
    congr 1
    obtain ⟨d, rfl⟩ : ∃ d, k = b.2.1 + d := ⟨k - b.2.1, by omega⟩
    refine roomAt_run l d fun i hi1 hi2 => col_at ?_
    have := has_tab (bk.at_ i hi1 (by omega))
    unfold tabAt at this
    omega
  · rw [List.getElem?_take, List.getElem?_take, if_neg hc, if_neg hc]
theorem bF_block {g l : Int} {t : List (List Int)} {b : Blk} (bk : BlkOk t b) {k : Nat} (h1 : b.2.1 ≤ k) (h2 : k ≤ b.2.2) : bF g l t (b.1 + 1) k = bF g l t b.1 b.2.1 + (roomB l t b + g) := by
  rw [bF_next (has_tab (bk.at_ k h1 h2)), bF_same bk h1 h2, bk.same l h1 h2]
/-- the begins while the runs of a column are walked -/
def mixB (g l : Int) (t : List (List Int)) (c : Nat) (rs : List (Nat × Nat)) (k : Nat) : Int := if rs.any (hasL k) then bF g l t (c + 1) k else bF g l t c k
theorem mixB_all {g l : Int} {t : List (List Int)} {c k : Nat} (hk : k < t.length) : mixB g l t c (colRuns (hasT (tabsF t) c) (t.length + 1)).1 k = bF g l t (c + 1) k := by
  unfold mixB
  by_cases h : hasT (tabsF t) c k = true
  · have hn : hasT (tabsF t) c t.length = false := by
      unfold hasT
      rw [tabsF_at, decide_eq_false_iff_not]
      unfold tabAt
      rw [List.getD_eq_getElem?_getD, List.getElem?_eq_none (Nat.le_refl _)]
      exact Nat.not_lt_zero _
    obtain ⟨b, hb⟩ := runs_one hn hk h
    have hm : b ∈ (colRuns (hasT (tabsF t) c) (t.length + 1)).1.filter (hasL k) := by rw [hb]; exact List.mem_singleton.mpr rfl
    obtain ⟨m1, m2⟩ := List.mem_filter.mp hm
    rw [if_pos (List.any_eq_true.mpr ⟨b, m1, m2⟩)]
  · have h : hasT (tabsF t) c k = false := by simpa using h
    have := (runs_ok (hasT (tabsF t) c) (t.length + 1)).off k h
    rw [List.filter_eq_nil_iff] at this
    rw [if_neg ?_, bF_stay (has_not h)]
    rw [List.any_eq_true]
    rintro ⟨b, hb, hb2⟩
    exact this b hb hb2
theorem run_fresh {p : Nat → Bool} {n i j : Nat} {b : Nat × Nat} (hn : p n = false) (hi : (colRuns p (n + 1)).1[i]? = some b) (hj : hasL j b = true) (hj2 : j < n) (hp : p j = true) : ((colRuns p (n + 1)).1.take i).any (hasL j) = false := by
  obtain ⟨b', hb⟩ := runs_one hn hj2 hp
  obtain ⟨hlt, e⟩ := List.getElem?_eq_some_iff.mp hi
  have sp : (colRuns p (n + 1)).1 = (colRuns p (n + 1)).1.take i ++ b :: (colRuns p (n + 1)).1.drop (i + 1) := by
    rw [← e, List.getElem_cons_drop, List.take_append_drop]
  rw [sp, List.filter_append, List.filter_cons_of_pos hj] at hb
  cases q : ((colRuns p (n + 1)).1.take i).filter (hasL j) with
  | nil =>
    rw [List.filter_eq_nil_iff] at q
    rw [Bool.eq_false_iff]
    intro h
    rw [List.any_eq_true] at h
    obtain ⟨x, hx, hx2⟩ := h
    exact q x hx hx2
  | cons x xs =>
    rw [q] at hb
    have := congrArg List.length hb
    simp at this
theorem rng_set2 {α : Type} (F : Nat → α) (n j : Nat) (v : α) : ((List.range n).map F).set j v = (List.range n).map fun i => if i = j then v else F i := by
  apply List.ext_getElem
  · rw [List.length_set, List.length_map, List.length_map]
  · intro i h1 h2
    rw [List.getElem_set, List.getElem_map, List.getElem_map, List.getElem_range]
    by_cases q : j = i
    · rw [if_pos q, if_pos q.symm]
    · rw [if_neg q, if_neg (fun e => q e.symm)]
/-- the lines from f to l, without their first c cells -/
def subT (t : List (List Int)) (f l c : Nat) : List (List Int) := ((t.drop f).take (l + 1 - f)).map (List.drop c)
/-- the width of the lines from f to l -/
def wideF (g l : Int) (t : List (List Int)) (a b : Nat) : Int := maxP (endsF g l (subT t a b 0))
def sp_edge_of (m : Nat) (C : Addr) : DSpec := fun ds S Φ _ => ∃ d s t ks g l, ∃ f z c : Nat, ∃ b : Int, ds = [d, s, .int f, .int z, .int c, .int b] ∧ TabS S d t ∧ TabOk t ∧ asI S s = some (C, styF ks g l) ∧ LookOk ks g l ∧ f ≤ z ∧ z < t.length ∧ (∀ i, f ≤ i → i ≤ z → c < (t.getD i []).length ∧ (t.getD i []).length ≤ c + m) ∧ Φ S (.int (b + maxP (endsF g l (subT t f z c))))
/-- stretches that are too wide, each from the end of the one before -/
def greedyF (g l : Int) (t : List (List Int)) (w : Int) : Nat → List (Nat × Nat) × Nat
  | 0 => ([], 0)
  | k + 1 => if wideF g l t (greedyF g l t w k).2 k > w then ((greedyF g l t w k).1 ++ [((greedyF g l t w k).2, k)], k) else greedyF g l t w k
def strF (g l : Int) (t : List (List Int)) (w : Int) : List (Nat × Nat) := (greedyF g l t w t.length).1
def pairD (p : Nat × Nat) : D := .tup [.int (p.1 : Nat), .int (p.2 : Nat)]
/-- each line alone is narrow enough -/
def Fits (g l : Int) (t : List (List Int)) (w : Int) : Prop := ∀ i, i < t.length → wideF g l t i i ≤ w
def sp_wide_stretches (C : Addr) : DSpec := fun ds S Φ _ => ∃ d s t ks g l w, ds = [d, s, .int w] ∧ TabS S d t ∧ TabOk t ∧ asI S s = some (C, styF ks g l) ∧ LookOk ks g l ∧ Φ S (.lst ((strF g l t w).map pairD))
/-- the lines that are too wide alone -/
def wides (g l : Int) (t : List (List Int)) (w : Int) : List Nat := (List.range t.length).filter fun i => decide (w < wideF g l t i i)
/-- what the four functions raise for a table -/
def RoomQ (W N : Addr) (g l : Int) (t : List (List Int)) (w : Int) (ok : Prop) (er : Exn → Prop) : Prop := if w < 0 then er ⟨W, []⟩ else match wides g l t w with
  | i :: _ => er ⟨N, [("line", .int (i : Nat))]⟩
  | [] => ok
def RoomSp (T W N Y : Addr) (x s : D) (w : Int) (S : Sto) (ok : List (List Int) → Int → Int → Prop) (Ψ : KX) : Prop := ∃ ks g l, TabX x ∧ asI S s = some (Y, styF ks g l) ∧ LookOk ks g l ∧ (tableB x = false → Ψ S ⟨T, []⟩) ∧ ∀ t, x = tabD t → TabOk t → RoomQ W N g l t w (ok t g l) (Ψ S)
def sp_require_room (T W N Y : Addr) : DSpec := fun ds S Φ Ψ => ∃ x s w, ds = [x, s, .int w] ∧ RoomSp T W N Y x s w S (fun _ _ _ => Φ S .non) Ψ
def sp_stretches (T W N Y : Addr) : DSpec := fun ds S Φ Ψ => ∃ x s w, ds = [x, s, .int w] ∧ RoomSp T W N Y x s w S (fun t g l => Φ S (.lst ((strF g l t w).map pairD))) Ψ
def sp_partings (T W N Y : Addr) : DSpec := fun ds S Φ Ψ => ∃ x s w, ds = [x, s, .int w] ∧ RoomSp T W N Y x s w S (fun _ _ _ => ∀ d, Φ S d) Ψ
def sp_fewest_lines (T W N Y : Addr) : DSpec := fun ds S Φ Ψ => ∃ x s w, ds = [x, s, .int w] ∧ RoomSp T W N Y x s w S (fun _ _ _ => ∀ d, Φ S d) Ψ
def sp_shows_lines (T W N Y : Addr) : DSpec := fun ds S Φ Ψ => ∃ x s w n z, ds = [x, s, .int w, .int n, z] ∧ Pln z ∧ (∀ ds, z = .lst ds → ds.length ≤ 1000) ∧ RoomSp T W N Y x s w S (fun _ _ _ => ∀ d, Φ S d) Ψ
/-- a pair of lines of a table of n lines -/
def strB (n : Nat) (x : D) : Bool := match x with
  | .tup [.int a, .int b] => inB a 0 ((n : Int) - 1) && (inB b 0 ((n : Int) - 1) && decide (a ≤ b))
  | _ => false
def sp_is_stretch : DSpec := fun ds S Φ _ => ∃ d t x, ds = [d, x] ∧ TabS S d t ∧ TabOk t ∧ Pln x ∧ Φ S (.bl (strB t.length x))
/-- stretches that are too wide and lie apart -/
structure WideOk (g l : Int) (t : List (List Int)) (w : Int) (ps : List (Nat × Nat)) : Prop where
  one : ∀ p ∈ ps, p.1 < p.2 ∧ p.2 < t.length ∧ w < wideF g l t p.1 p.2
  two : ps.Pairwise fun p q => p.2 ≤ q.1 ∨ q.2 ≤ p.1
/-- n stretches at least, all too wide, none over another -/
def OkShown (g l : Int) (t : List (List Int)) (w n : Int) (x : D) : Prop := ∃ ps : List (Nat × Nat), x = .lst (ps.map pairD) ∧ n ≤ ps.length ∧ WideOk g l t w ps
noncomputable def fitB (g l : Int) (t : List (List Int)) (w n : Int) (x : D) : Bool := @decide (OkShown g l t w n x) (Classical.propDecidable _)
/-- a gap and a least width -/
structure GapOk (g l : Int) : Prop where
  g0 : 0 ≤ g
  g1 : g ≤ GREAT
  l0 : 0 ≤ l
  l1 : l ≤ GREAT
/-- what the law is told -/
def toldD (ws : List Nat) (w : Int) : D := if w < 0 then .str "width" else match ws with
  | i :: _ => .lst [.str "narrow", .int (i : Nat)]
  | [] => .str "none"
def sp__law_class (T W N : Addr) : DSpec := fun ds S Φ _ => ∃ e v, ds = [e] ∧ ((e = .exc T [] ∧ v = .str "table") ∨ (e = .exc W [] ∧ v = .str "width") ∨ ∃ i : Nat, e = .exc N [("line", .int i)] ∧ v = .lst [.str "narrow", .int i]) ∧ Φ S v
/-- read by repr, of any shape, nothing of it a cell -/
structure Shx (x : D) : Prop where
  pln : Pln x
  py : ∃ p, (∀ S, PyX S x p) ∧ FitX 8 200000 p
  low : ∀ k, x.low k = true
def sp__law_raised (Y : Addr) : DSpec := fun ds S Φ _ => ∃ d : Nat, ∃ x s w z ks g l, ds = [.int d, x, s, .int w, z] ∧ d < 4 ∧ TabX x ∧ asI S s = some (Y, styF ks g l) ∧ LookOk ks g l ∧ Pln z ∧ (∀ ds, z = .lst ds → ds.length ≤ 1000) ∧ Shx (.lst [x, z]) ∧ (tableB x = false → Φ S (.str "table")) ∧ ∀ t, x = tabD t → TabOk t → Φ S (toldD (wides g l t w) w)
def sp__law_no_tables : DSpec := fun ds S Φ _ => ∃ h n t, ds = [.own h, tabD t] ∧ FdAt S h n ∧ n < 2 ^ 95 ∧ TabOk t ∧ ∀ S' x, Fs h (n + 2) S S' → Pln x → tableB x = false → (∃ p, (∀ S, PyX S x p) ∧ FitX 4 30000 p) → (∀ k, x.low k = true) → Φ S' x
def sp__law_right : DSpec := fun ds S Φ _ => ∃ h n t g l, ds = [.own h, tabD t, rowD [g, l]] ∧ FdAt S h n ∧ n < 2 ^ 92 ∧ TabOk t ∧ GapOk g l ∧ ∀ S', FdAt S' h (n + 1000) → Φ S' (.bl true)
def sp__law_feed : DSpec := fun ds S Φ _ => ∃ ns : List Int, ∃ k : Nat, ds = [.sq (ns.map D.int), .int k] ∧ k < 2 ^ 20 ∧ ∀ c, FdC 0 c → Φ (S ++ [c]) (.own S.length)
def sp__law_pick : DSpec := fun ds S Φ _ => ∃ h n m, ds = [.own h, .int m] ∧ FdAt S h n ∧ n < 2 ^ 100 ∧ 0 < m ∧ m < 2 ^ 200 ∧ ∀ S' v, Fs h (n + 1) S S' → 0 ≤ v → v < m → Φ S' (.int v)
def sp__law_lengths : DSpec := fun ds S Φ _ => ∃ h n, ∃ a : Nat, ∃ m : Int, ds = [.own h, .int a, .int m] ∧ FdAt S h n ∧ n < 2 ^ 95 ∧ a ≤ 1000 ∧ 0 < m ∧ m < 2 ^ 100 ∧ ∀ S' (ls : List Int), Fs h (n + 10000) S S' → ls.length = a → (∀ x ∈ ls, 1 ≤ x ∧ x ≤ m) → Φ S' (rowD ls)
def sp__law_rows : DSpec := fun ds S Φ _ => ∃ h n, ∃ a b : Nat, ds = [.own h, .int a, .int b] ∧ FdAt S h n ∧ n < 2 ^ 90 ∧ 0 < a ∧ a ≤ 1000 ∧ 0 < b ∧ b ≤ 1000 ∧ ∀ S' (t : List (List Int)), Fs h (n + 10000000) S S' → 1 ≤ t.length → t.length ≤ a → (∀ r ∈ t, 1 ≤ r.length ∧ r.length ≤ b ∧ ∀ x ∈ r, 0 ≤ x ∧ x ≤ MOST) → Φ S' (tabD t)
def sp__law_look : DSpec := fun ds S Φ _ => ∃ h n, ds = [.own h] ∧ FdAt S h n ∧ n < 2 ^ 90 ∧ ∀ S' g l, Fs h (n + 10) S S' → GapOk g l → Φ S' (rowD [g, l])
/-- lines as the law has them: any number of them, up to twelve cells -/
structure LinOk (t : List (List Int)) : Prop where
  lo : 1 ≤ t.length
  hi : t.length ≤ 200
  row : ∀ r ∈ t, RowOk r
def runsD (t : List (List Int)) (c : Nat) : D := .lst ((colRuns (hasT (tabsF t) c) (t.length + 1)).1.map pairD)
def sp__law_groups : DSpec := fun ds S Φ _ => ∃ t, ∃ c : Nat, ds = [tabD t, .int c] ∧ LinOk t ∧ Φ S (runsD t c)
def beginsF (g l : Int) (t : List (List Int)) : List Int := (List.range t.length).map fun j => endS0 g (roomsOf l t j)
def sp__law_stops : DSpec := fun ds S Φ _ => ∃ t g l, ds = [tabD t, rowD [g, l]] ∧ LinOk t ∧ GapOk g l ∧ ∀ a Z, Φ (S ++ Z ++ [.lst ((beginsF g l t).map D.int)]) (.lst [a, .own (S.length + Z.length)])
def sp__law_width : DSpec := fun ds S Φ _ => ∃ t g l, ds = [tabD t, rowD [g, l]] ∧ LinOk t ∧ GapOk g l ∧ Φ S (.int (maxP (endsF g l t)))
def sp_law : DSpec := fun ds S Φ _ => ∃ ns : List Int, ds = [.sq (ns.map D.int)] ∧ ∀ S, Φ S (.bl true)
abbrev N_is_integer : List Str := ["thing", "least", "most"]
abbrev P_is_integer : List Str := ["thing", "least", "most"]
abbrev N_is_cell : List Str := ["thing"]
abbrev P_is_cell : List Str := ["thing"]
abbrev N_is_line : List Str := ["thing", "cell"]
abbrev P_is_line : List Str := ["thing"]
abbrev N_is_table : List Str := ["thing", "line"]
abbrev P_is_table : List Str := ["thing"]
abbrev N_need_table : List Str := ["table"]
abbrev P_need_table : List Str := ["table"]
abbrev N_edge_of : List Str := ["table", "style", "first", "last", "column", "begin", "found", "line", "end", "greatest"]
abbrev P_edge_of : List Str := ["table", "style", "first", "last", "column", "begin"]
abbrev N_require_room : List Str := ["table", "style", "width", "line"]
abbrev P_require_room : List Str := ["table", "style", "width"]
abbrev N_wide_stretches : List Str := ["table", "style", "width", "found", "first", "line"]
abbrev P_wide_stretches : List Str := ["table", "style", "width"]
abbrev N_stretches : List Str := ["table", "style", "width"]
abbrev P_stretches : List Str := ["table", "style", "width"]
abbrev N_partings : List Str := ["table", "style", "width", "first", "last"]
abbrev P_partings : List Str := ["table", "style", "width"]
abbrev N_fewest_lines : List Str := ["table", "style", "width"]
abbrev P_fewest_lines : List Str := ["table", "style", "width"]
abbrev N_is_stretch : List Str := ["table", "thing", "line"]
abbrev P_is_stretch : List Str := ["table", "thing"]
abbrev N_shows_lines : List Str := ["table", "style", "width", "number", "thing", "end", "stretch", "first", "last"]
abbrev P_shows_lines : List Str := ["table", "style", "width", "number", "thing"]
abbrev N_are_kinds : List Str := ["thing", "name"]
abbrev P_are_kinds : List Str := ["thing"]
abbrev N_Style___init__ : List Str := ["self", "gap", "least", "kinds", "names"]
abbrev P_Style___init__ : List Str := ["self", "gap", "least", "kinds"]
abbrev P0_Style___init__ : List Str := ["self", "gap", "least"]
abbrev N_Style_of : List Str := ["cls", "kinds", "gap", "least"]
abbrev P_Style_of : List Str := ["cls", "kinds", "gap", "least"]
abbrev N_Style_gap : List Str := ["self"]
abbrev P_Style_gap : List Str := ["self"]
abbrev N_Style_least : List Str := ["self"]
abbrev P_Style_least : List Str := ["self"]
abbrev N__law_feed : List Str := ["_law_script", "_law_k", "_law_given"]
abbrev P__law_feed : List Str := ["_law_script", "_law_k"]
abbrev N__law_pick : List Str := ["_law_feed_here", "_law_wide", "_law_digit", "_law_mixed"]
abbrev P__law_pick : List Str := ["_law_feed_here", "_law_wide"]
abbrev N__law_lengths : List Str := ["_law_feed_here", "_law_many", "_law_most", "_law_way", "_law_here", "_law_found", "_law_at", "_law_step", "_law_kept", "_law_some"]
abbrev P__law_lengths : List Str := ["_law_feed_here", "_law_many", "_law_most"]
abbrev N__law_rows : List Str := ["_law_feed_here", "_law_most", "_law_widest", "_law_many", "_law_wide", "_law_found", "_law_size", "_law_at"]
abbrev P__law_rows : List Str := ["_law_feed_here", "_law_most", "_law_widest"]
abbrev N__law_look : List Str := ["_law_feed_here", "_law_amounts"]
abbrev P__law_look : List Str := ["_law_feed_here"]
abbrev N__law_groups : List Str := ["_law_rows_here", "_law_at", "_law_found", "_law_first", "_law_k", "_law_has"]
abbrev P__law_groups : List Str := ["_law_rows_here", "_law_at"]
abbrev N__law_stops : List Str := ["_law_rows_here", "_law_look_here", "_law_found", "_law_begins", "_law_at", "_law_first", "_law_last", "_law_widest", "_law_stop", "_law_row", "_law_k"]
abbrev P__law_stops : List Str := ["_law_rows_here", "_law_look_here"]
abbrev N__law_width : List Str := ["_law_rows_here", "_law_look_here", "_law_begins", "_law_begin", "_law_row"]
abbrev P__law_width : List Str := ["_law_rows_here", "_law_look_here"]
abbrev N__law_class : List Str := ["_law_e", "_law_found", "_law_others"]
abbrev P__law_class : List Str := ["_law_e"]
abbrev N__law_raised : List Str := ["_law_door", "_law_rows_here", "_law_style_here", "_law_limit", "_law_thing_here", "_law_kept", "_law_told", "_law_e"]
abbrev P__law_raised : List Str := ["_law_door", "_law_rows_here", "_law_style_here", "_law_limit", "_law_thing_here"]
abbrev N__law_no_tables : List Str := ["_law_feed_here", "_law_rows_here", "_law_spot", "_law_far", "_law_some", "_law_odd", "_law_row"]
abbrev P__law_no_tables : List Str := ["_law_feed_here", "_law_rows_here"]
abbrev N__law_right : List Str := ["_law_feed_here", "_law_rows_here", "_law_look_here", "_law_style_here", "_law_alone", "_law_most", "_law_far", "_law_things", "_law_turn", "_law_limit", "_law_wide", "_law_due", "_law_thing_here", "_law_no_rows", "_law_door", "_law_row", "_law_k"]
abbrev P__law_right : List Str := ["_law_feed_here", "_law_rows_here", "_law_look_here"]
abbrev N_law : List Str := ["_law_script", "_law_k", "_law_feed_here", "_law_most", "_law_widest", "_law_rows_here", "_law_told", "_law_door"]
abbrev P_law : List Str := ["_law_script"]
def conNAMES (C_Kind : Addr) : List (Addr × D) := [(C_Kind, .tup ((["left", "right", "center"] : List Str).map D.str))]
def xtabD (C_InvalidTable C_InvalidWidth C_TooNarrow C_InvalidBlock C_InvalidNumber C_InvalidSights C_InvalidStyle C_InvalidTabs C_InvalidText C_InvalidCell C_InvalidColumn C_InvalidLine C_NothingToUndo C_NotPossible : Addr) : List (Addr × D × Bool) := [(C_InvalidTable, .obj C_InvalidTable, true), (C_InvalidTable, .obj C_InvalidWidth, false), (C_InvalidTable, .obj C_TooNarrow, false), (C_InvalidTable, .obj C_InvalidBlock, false), (C_InvalidTable, .obj C_InvalidNumber, false), (C_InvalidTable, .obj C_InvalidSights, false), (C_InvalidTable, .obj C_InvalidStyle, false), (C_InvalidTable, .obj C_InvalidTabs, false), (C_InvalidTable, .obj C_InvalidText, false), (C_InvalidTable, .obj C_InvalidCell, false), (C_InvalidTable, .obj C_InvalidColumn, false), (C_InvalidTable, .obj C_InvalidLine, false), (C_InvalidTable, .obj C_NothingToUndo, false), (C_InvalidTable, .obj C_NotPossible, false), (C_InvalidTable, .ty "ValueError", true), (C_InvalidWidth, .obj C_InvalidTable, false), (C_InvalidWidth, .obj C_InvalidWidth, true), (C_InvalidWidth, .obj C_TooNarrow, false), (C_InvalidWidth, .obj C_InvalidBlock, false), (C_InvalidWidth, .obj C_InvalidNumber, false), (C_InvalidWidth, .obj C_InvalidSights, false), (C_InvalidWidth, .obj C_InvalidStyle, false), (C_InvalidWidth, .obj C_InvalidTabs, false), (C_InvalidWidth, .obj C_InvalidText, false), (C_InvalidWidth, .obj C_InvalidCell, false), (C_InvalidWidth, .obj C_InvalidColumn, false), (C_InvalidWidth, .obj C_InvalidLine, false), (C_InvalidWidth, .obj C_NothingToUndo, false), (C_InvalidWidth, .obj C_NotPossible, false), (C_InvalidWidth, .ty "ValueError", true), (C_TooNarrow, .obj C_InvalidTable, false), (C_TooNarrow, .obj C_InvalidWidth, false), (C_TooNarrow, .obj C_TooNarrow, true), (C_TooNarrow, .obj C_InvalidBlock, false), (C_TooNarrow, .obj C_InvalidNumber, false), (C_TooNarrow, .obj C_InvalidSights, false), (C_TooNarrow, .obj C_InvalidStyle, false), (C_TooNarrow, .obj C_InvalidTabs, false), (C_TooNarrow, .obj C_InvalidText, false), (C_TooNarrow, .obj C_InvalidCell, false), (C_TooNarrow, .obj C_InvalidColumn, false), (C_TooNarrow, .obj C_InvalidLine, false), (C_TooNarrow, .obj C_NothingToUndo, false), (C_TooNarrow, .obj C_NotPossible, false), (C_TooNarrow, .ty "ValueError", true)]
def T_is_integer : TSd :=
  (sRet (dAnd (dCB cIsi (lCons (dVar 0) (lCons (dC (.ty "int")) lNil))) (dAnd (dNot (dCB cIsi (lCons (dVar 0) (lCons (dC (.ty "bool")) lNil)))) (dChain dLe dLe (dVar 1) (dVar 0) (dVar 2)))))
def T_is_cell : TSd :=
  (sRet (dCall sp_is_integer (lCons (dVar 0) (lCons (dC (.int 0)) (lCons (dC (.int 1000000000000000000000000000000)) lNil)))))
def T_is_line : TSd :=
  (sRet (dAnd (dCB cIsi (lCons (dVar 0) (lCons (dC (.ty "list")) lNil))) (dAnd (dChain dLe dLe (dC (.int 1)) (dCB cLen (lCons (dVar 0) lNil)) (dC (.int 12))) (dCB cAll (lCons (dLc (iSeq (dVar 0)) (nmG 1) bYes (dCall sp_is_cell (lCons (dVar 1) lNil)) [1] finF) lNil)))))
def T_is_table : TSd :=
  (sRet (dAnd (dCB cIsi (lCons (dVar 0) (lCons (dC (.ty "list")) lNil))) (dAnd (dChain dLe dLe (dC (.int 1)) (dCB cLen (lCons (dVar 0) lNil)) (dC (.int 60))) (dCB cAll (lCons (dLc (iSeq (dVar 0)) (nmG 1) bYes (dCall sp_is_line (lCons (dVar 1) lNil)) [1] finF) lNil)))))
def T_need_table (C_InvalidTable : Addr) : TSd :=
  (sIf (bNot (bOf (dCall sp_is_table (lCons (dVar 0) lNil))))
  (sRaise C_InvalidTable)
  sNext)
def T_edge_of (sp_rec : DSpec) (C_Style : Addr) : TSd :=
  (sSeq (sAsg (dVar 5) (nmG 6))
  (sSeq (sAsg (dVar 2) (nmG 7))
  (sSeq (sWhile (bOf (dOp dLe (dVar 7) (dVar 3)))
  (sJ (sIf (bOf (dOp dEq (dCB cLen (lCons (dOp dIx (dVar 0) (dVar 7)) lNil)) (dOp dAdd (dVar 4) (dC (.int 1)))))
  (sSeq (sAsg (dCB cMax2 (lCons (dVar 6) (lCons (dOp dAdd (dVar 5) (dOp dIx (dOp dIx (dVar 0) (dVar 7)) (dVar 4))) lNil))) (nmG 6))
  (sAug 7 (dC (.int 1)) dAddI))
  (sSeq (sAsg (dVar 7) (nmG 8))
  (sSeq (sAsg (dPropA C_Style (pkP 1 [0] [] (sp_Style_least C_Style)) (dVar 1)) (nmG 9))
  (sSeq (sWhile (bAnd (bOf (dOp dLe (dVar 8) (dVar 3))) (bOf (dOp dGt (dCB cLen (lCons (dOp dIx (dVar 0) (dVar 8)) lNil)) (dOp dAdd (dVar 4) (dC (.int 1))))))
  (sSeq (sAsg (dCB cMax2 (lCons (dVar 9) (lCons (dOp dIx (dOp dIx (dVar 0) (dVar 8)) (dVar 4)) lNil))) (nmG 9))
  (sAug 8 (dC (.int 1)) dAddI)))
  (sSeq (sAsg (dCB cMax2 (lCons (dVar 6) (lCons (dCall sp_rec (lCons (dVar 0) (lCons (dVar 1) (lCons (dVar 7) (lCons (dOp dSub (dVar 8) (dC (.int 1))) (lCons (dOp dAdd (dVar 4) (dC (.int 1))) (lCons (dOp dAdd (dOp dAdd (dVar 5) (dVar 9)) (dPropA C_Style (pkP 1 [0] [] (sp_Style_gap C_Style)) (dVar 1))) lNil))))))) lNil))) (nmG 6))
  (sAsg (dVar 8) (nmG 7)))))))))
  (sRet (dVar 6)))))
def T_require_room (C_InvalidWidth C_TooNarrow C_InvalidTable C_Style : Addr) : TSd :=
  (sSeq (sDrop (dCall (sp_need_table C_InvalidTable) (lCons (dVar 0) lNil)))
  (sSeq (sIf (bOf (dOp dLt (dVar 2) (dC (.int 0))))
  (sRaise C_InvalidWidth)
  sNext)
  (sFor (iRg1 (lCons (dCB cLen (lCons (dVar 0) lNil)) lNil)) (nmG 3)
  (sIf (bOf (dOp dGt (dCall (sp_edge_of 12 C_Style) (lCons (dVar 0) (lCons (dVar 1) (lCons (dVar 3) (lCons (dVar 3) (lCons (dC (.int 0)) (lCons (dC (.int 0)) lNil))))))) (dVar 2)))
  (sRaiseI C_TooNarrow "line" (dVar 3))
  sNext))))
def T_wide_stretches (C_Style : Addr) : TSd :=
  (sSeq (sAsg (dLstO lNil) (nmG 3))
  (sSeq (sAsg (dC (.int 0)) (nmG 4))
  (sSeq (sFor (iRg1 (lCons (dCB cLen (lCons (dVar 0) lNil)) lNil)) (nmG 5)
  (sJ (sIf (bOf (dOp dGt (dCall (sp_edge_of 12 C_Style) (lCons (dVar 0) (lCons (dVar 1) (lCons (dVar 4) (lCons (dVar 5) (lCons (dC (.int 0)) (lCons (dC (.int 0)) lNil))))))) (dVar 2)))
  (sSeq (sDrop (dBM mAppend (dVar 3) (lCons (dTup (lCons (dVar 4) (lCons (dVar 5) lNil))) lNil)))
  (sAsg (dVar 5) (nmG 4)))
  sNext)))
  (sRet (dFz (dVar 3))))))
def T_stretches (C_InvalidTable C_InvalidWidth C_TooNarrow C_Style : Addr) : TSd :=
  (sSeq (sDrop (dCall (sp_require_room C_InvalidTable C_InvalidWidth C_TooNarrow C_Style) (lCons (dVar 0) (lCons (dVar 1) (lCons (dVar 2) lNil)))))
  (sRet (dCall (sp_wide_stretches C_Style) (lCons (dVar 0) (lCons (dVar 1) (lCons (dVar 2) lNil))))))
def T_partings (C_InvalidTable C_InvalidWidth C_TooNarrow C_Style : Addr) : TSd :=
  (sSeq (sDrop (dCall (sp_require_room C_InvalidTable C_InvalidWidth C_TooNarrow C_Style) (lCons (dVar 0) (lCons (dVar 1) (lCons (dVar 2) lNil)))))
  (sRet (dLc (iSeq (dCall (sp_wide_stretches C_Style) (lCons (dVar 0) (lCons (dVar 1) (lCons (dVar 2) lNil))))) (tupG 2 (gsCons (nmG 3) (gsCons (nmG 4) gsNil))) bYes (dOp dSub (dVar 4) (dC (.int 1))) [3, 4] finF)))
def T_fewest_lines (C_InvalidTable C_InvalidWidth C_TooNarrow C_Style : Addr) : TSd :=
  (sRet (dCB cLen (lCons (dCall (sp_stretches C_InvalidTable C_InvalidWidth C_TooNarrow C_Style) (lCons (dVar 0) (lCons (dVar 1) (lCons (dVar 2) lNil)))) lNil)))
def T_is_stretch : TSd :=
  (sSeq (sIf (bOr (bNot (bOf (dCB cIsi (lCons (dVar 1) (lCons (dC (.ty "tuple")) lNil))))) (bOf (dOp dNe (dCB cLen (lCons (dVar 1) lNil)) (dC (.int 2)))))
  (sRet (dC (.bl false)))
  sNext)
  (sRet (dAnd (dCB cAll (lCons (dLc (iTupD (dVar 1)) (nmG 2) bYes (dCall sp_is_integer (lCons (dVar 2) (lCons (dC (.int 0)) (lCons (dOp dSub (dCB cLen (lCons (dVar 0) lNil)) (dC (.int 1))) lNil)))) [2] finF) lNil)) (dOp dLe (dOp dIx (dVar 1) (dC (.int 0))) (dOp dIx (dVar 1) (dC (.int 1)))))))
def T_shows_lines (C_InvalidTable C_InvalidWidth C_TooNarrow C_Style : Addr) : TSd :=
  (sSeq (sDrop (dCall (sp_require_room C_InvalidTable C_InvalidWidth C_TooNarrow C_Style) (lCons (dVar 0) (lCons (dVar 1) (lCons (dVar 2) lNil)))))
  (sSeq (sIf (bOr (bNot (bOf (dCB cIsi (lCons (dVar 4) (lCons (dC (.ty "list")) lNil))))) (bOf (dOp dLt (dCB cLen (lCons (dVar 4) lNil)) (dVar 3))))
  (sRet (dC (.bl false)))
  sNext)
  (sSeq (sAsg (dC (.int 0)) (nmG 5))
  (sSeq (sFor (iSeq (dVar 4)) (nmG 6)
  (sIf (bOr (bNot (bOf (dCall sp_is_stretch (lCons (dVar 0) (lCons (dVar 6) lNil))))) (bOf (dOp dLe (dCall (sp_edge_of 12 C_Style) (lCons (dVar 0) (lCons (dVar 1) (lCons (dOp dIx (dVar 6) (dC (.int 0))) (lCons (dOp dIx (dVar 6) (dC (.int 1))) (lCons (dC (.int 0)) (lCons (dC (.int 0)) lNil))))))) (dVar 2))))
  (sRet (dC (.bl false)))
  sNext))
  (sSeq (sFor (iSeq (dCB cSortQ (lCons (dVar 4) lNil))) (tupG 2 (gsCons (nmG 7) (gsCons (nmG 8) gsNil)))
  (sSeq (sIf (bOf (dOp dLt (dVar 7) (dVar 5)))
  (sRet (dC (.bl false)))
  sNext)
  (sAsg (dVar 8) (nmG 5))))
  (sRet (dC (.bl true))))))))
def T_are_kinds (C_Kind : Addr) : TSd :=
  (sSeq (sIf (bOr (bNot (bOf (dCB cIsi (lCons (dVar 0) (lCons (dC (.ty "list")) lNil))))) (bNot (bOf (dChain dLe dLe (dC (.int 1)) (dCB cLen (lCons (dVar 0) lNil)) (dC (.int 12))))))
  (sRet (dC (.bl false)))
  sNext)
  (sRet (dCB cAll (lCons (dLc (iSeq (dVar 0)) (nmG 1) bYes (dAnd (dCB cIsi (lCons (dVar 1) (lCons (dC (.ty "str")) lNil))) (dOp (dIn false) (dVar 1) (dCVal (conNAMES C_Kind) "NAMES" (dC (.obj C_Kind))))) [1] finF) lNil))))
def T_Style___init__ (C_InvalidStyle C_Style : Addr) : TSd :=
  (sSeq (sAsg (dJ (dIf (bOf (dOp dGt (dCB cLen (lCons (dVar 3) lNil)) (dC (.int 0)))) (dCB cList (lCons (dVar 3) lNil)) (dLst (lCons (dC (.str "left")) lNil)))) (nmG 4))
  (sSeq (sIf (bOr (bNot (bOf (dCall sp_are_kinds (lCons (dVar 4) lNil)))) (bOr (bNot (bOf (dCall sp_is_cell (lCons (dVar 1) lNil)))) (bNot (bOf (dCall sp_is_cell (lCons (dVar 2) lNil))))))
  (sRaise C_InvalidStyle)
  sNext)
  (sSeq (sFldS C_Style "held_kinds" (dVar 0) (dVar 4))
  (sSeq (sFldS C_Style "held_gap" (dVar 0) (dVar 1))
  (sFldS C_Style "held_least" (dVar 0) (dVar 2))))))
def T_Style_of (C_InvalidStyle C_Style : Addr) : TSd :=
  (sSeq (sIf (bNot (bOf (dCall sp_are_kinds (lCons (dVar 1) lNil))))
  (sRaise C_InvalidStyle)
  sNext)
  (sRet (dMakeV 0 C_Style (pkS true 1 [0, 1, 2] [] (sp_Style___init__ C_Style)) (dLone (dVar 1) (lCons (dVar 2) (lCons (dVar 3) lNil)) 2))))
def T_Style_gap (C_Style : Addr) : TSd :=
  (sRet (dFld C_Style "held_gap" (dVar 0)))
def T_Style_least (C_Style : Addr) : TSd :=
  (sRet (dFld C_Style "held_least" (dVar 0)))
def T__law_feed : TSd :=
  (sSeq (sAsg (dJ (dIf (bOf (dOp dLt (dVar 1) (dCB cLen (lCons (dVar 0) lNil)))) (dCB cAbs (lCons (dOp dIx (dVar 0) (dVar 1)) lNil)) (dC (.int 0)))) (nmG 2))
  (sRet (dLstO (lCons (dCB cMax2 (lCons (dC (.int 0)) (lCons (dOp dSub (dVar 2) (dOp dPow (dC (.int 10)) (dC (.int 18)))) lNil))) (lCons (dOp dAdd (dOp dAdd (dOp dMul (dOp dMod (dVar 2) (dOp dAdd (dOp dPow (dC (.int 10)) (dC (.int 36))) (dC (.int 67)))) (dC (.int 128))) (dOp dMul (dC (.int 7)) (dVar 1))) (dC (.int 9))) (lCons (dC (.int 0)) lNil))))))
def T__law_pick : TSd :=
  (sSeq (sIf (bOf (dOp dGt (dOp dIx (dVar 0) (dC (.int 0))) (dC (.int 0))))
  (sSeq (sAsg (dOp dMod (dOp dIx (dVar 0) (dC (.int 0))) (dVar 1)) (nmG 2))
  (sSeq (sAsg (dOp dDiv (dOp dIx (dVar 0) (dC (.int 0))) (dVar 1)) (subG dSetO (dVar 0) (dC (.int 0))))
  (sRet (dVar 2))))
  sNext)
  (sSeq (sAsg (dOp dAdd (dOp dIx (dVar 0) (dC (.int 2))) (dC (.int 1))) (subG dSetO (dVar 0) (dC (.int 2))))
  (sSeq (sAsg (dOp dMod (dOp dPow (dOp dAdd (dOp dIx (dVar 0) (dC (.int 1))) (dOp dMul (dC (.int 49979687)) (dOp dIx (dVar 0) (dC (.int 2))))) (dC (.int 3))) (dOp dAdd (dOp dPow (dC (.int 10)) (dC (.int 41))) (dC (.int 37)))) (nmG 3))
  (sSeq (sAsg (dOp dMod (dOp dPow (dOp dAdd (dVar 3) (dOp dMul (dC (.int 32452867)) (dOp dIx (dVar 0) (dC (.int 2))))) (dC (.int 5))) (dOp dAdd (dOp dPow (dC (.int 10)) (dC (.int 39))) (dC (.int 3)))) (nmG 3))
  (sRet (dOp dMod (dOp dDiv (dVar 3) (dC (.int 1048583))) (dVar 1)))))))
def T__law_lengths : TSd :=
  (sSeq (sPar3 3 4 5 (lCons (dCall sp__law_pick (lCons (dVar 0) (lCons (dC (.int 5)) lNil))) (lCons (dOp dAdd (dC (.int 1)) (dCall sp__law_pick (lCons (dVar 0) (lCons (dVar 2) lNil)))) (lCons (dLstO lNil) lNil))))
  (sSeq (sFor (iRg1 (lCons (dVar 1) lNil)) (nmG 6)
  (sSeq (sAsg (dOp dSub (dOp dAdd (dVar 4) (dCall sp__law_pick (lCons (dVar 0) (lCons (dC (.int 3)) lNil)))) (dC (.int 1))) (nmG 7))
  (sSeq (sAsg (dJ (dIf (bOf (dOp dGt (dCall sp__law_pick (lCons (dVar 0) (lCons (dC (.int 4)) lNil))) (dC (.int 0)))) (dVar 4) (dOp dAdd (dC (.int 1)) (dCall sp__law_pick (lCons (dVar 0) (lCons (dVar 2) lNil)))))) (nmG 8))
  (sSeq (sAsg (dLst (lCons (dOp dAdd (dC (.int 1)) (dCall sp__law_pick (lCons (dVar 0) (lCons (dVar 2) lNil)))) (lCons (dVar 8) (lCons (dCB cMax2 (lCons (dC (.int 1)) (lCons (dCB cMin2 (lCons (dVar 2) (lCons (dVar 7) lNil))) lNil))) (lCons (dVar 2) (lCons (dOp dAdd (dC (.int 1)) (dCall sp__law_pick (lCons (dVar 0) (lCons (dCB cMin2 (lCons (dC (.int 2)) (lCons (dVar 2) lNil))) lNil)))) lNil)))))) (nmG 9))
  (sSeq (sAsg (dOp dIx (dVar 9) (dVar 3)) (nmG 4))
  (sDrop (dBM mAppend (dVar 5) (lCons (dVar 4) lNil))))))))
  (sRet (dFz (dVar 5)))))
def T__law_rows : TSd :=
  (sSeq (sAsg (dOp dIx (dLst (lCons (dOp dAdd (dC (.int 1)) (dCall sp__law_pick (lCons (dVar 0) (lCons (dVar 1) lNil)))) (lCons (dOp dAdd (dC (.int 1)) (dCall sp__law_pick (lCons (dVar 0) (lCons (dCB cMin2 (lCons (dVar 1) (lCons (dC (.int 4)) lNil))) lNil)))) (lCons (dVar 1) lNil)))) (dCall sp__law_pick (lCons (dVar 0) (lCons (dC (.int 3)) lNil)))) (nmG 3))
  (sSeq (sAsg (dOp dIx (dLst (lCons (dC (.int 2)) (lCons (dC (.int 4)) (lCons (dC (.int 10)) (lCons (dC (.int 100)) (lCons (dOp dAdd (dOp dPow (dC (.int 10)) (dC (.int 30))) (dC (.int 1))) lNil)))))) (dCall sp__law_pick (lCons (dVar 0) (lCons (dC (.int 5)) lNil)))) (nmG 4))
  (sSeq (sAsg (dLstO lNil) (nmG 5))
  (sSeq (sFor (iSeq (dCall sp__law_lengths (lCons (dVar 0) (lCons (dVar 3) (lCons (dVar 2) lNil))))) (nmG 6)
  (sDrop (dBM mAppend (dVar 5) (lCons (dLc (iRg1 (lCons (dVar 6) lNil)) (nmG 7) bYes (dCall sp__law_pick (lCons (dVar 0) (lCons (dVar 4) lNil))) [7] finF) lNil))))
  (sRet (dFz (dVar 5)))))))
def T__law_look : TSd :=
  (sSeq (sAsg (dLst (lCons (dC (.int 0)) (lCons (dC (.int 1)) (lCons (dC (.int 2)) (lCons (dOp dAdd (dC (.int 1)) (dCall sp__law_pick (lCons (dVar 0) (lCons (dC (.int 9)) lNil)))) (lCons (dOp dSub (dOp dPow (dC (.int 10)) (dC (.int 30))) (dCall sp__law_pick (lCons (dVar 0) (lCons (dC (.int 2)) lNil)))) lNil)))))) (nmG 1))
  (sRet (dLst (lCons (dOp dIx (dVar 1) (dCall sp__law_pick (lCons (dVar 0) (lCons (dC (.int 5)) lNil)))) (lCons (dOp dIx (dVar 1) (dOp dIx (dLst (lCons (dC (.int 0)) (lCons (dC (.int 0)) (lCons (dC (.int 1)) (lCons (dC (.int 3)) (lCons (dC (.int 4)) lNil)))))) (dCall sp__law_pick (lCons (dVar 0) (lCons (dC (.int 5)) lNil))))) lNil)))))
def T__law_groups : TSd :=
  (sSeq (sPar 2 3 (lCons (dLstO lNil) (lCons (dC .non) lNil)))
  (sSeq (sFor (iRg1 (lCons (dOp dAdd (dCB cLen (lCons (dVar 0) lNil)) (dC (.int 1))) lNil)) (nmG 4)
  (sSeq (sAsg (dAnd (dOp dLt (dVar 4) (dCB cLen (lCons (dVar 0) lNil))) (dOp dGt (dCB cLen (lCons (dOp dIx (dVar 0) (dVar 4)) lNil)) (dOp dAdd (dVar 1) (dC (.int 1))))) (nmG 5))
  (sSeq (sJ (sIf (bAnd (bOf (dVar 5)) (bOf (dOp dIsN (dVar 3) (dC .non))))
  (sAsg (dVar 4) (nmG 3))
  sNext))
  (sJ (sIf (bAnd (bNot (bOf (dVar 5))) (bOf (dOp dNotN (dVar 3) (dC .non))))
  (sSeq (sDrop (dBM mAppend (dVar 2) (lCons (dTup (lCons (dVar 3) (lCons (dOp dSub (dVar 4) (dC (.int 1))) lNil))) lNil)))
  (sAsg (dC .non) (nmG 3)))
  sNext)))))
  (sRet (dFz (dVar 2)))))
def T__law_stops : TSd :=
  (sSeq (sPar 2 3 (lCons dNew (lCons (dOp dMulO (dLst (lCons (dC (.int 0)) lNil)) (dCB cLen (lCons (dVar 0) lNil))) lNil)))
  (sSeq (sFor (iRg1 (lCons (dOp dSub (dCB cMax (lCons (dLc (iSeq (dVar 0)) (nmG 9) bYes (dCB cLen (lCons (dVar 9) lNil)) [9] finF) lNil)) (dC (.int 1))) lNil)) (nmG 4)
  (sFor (iSeq (dCall sp__law_groups (lCons (dVar 0) (lCons (dVar 4) lNil)))) (tupG 2 (gsCons (nmG 5) (gsCons (nmG 6) gsNil)))
  (sSeq (sAsg (dCB cMax (lCons (dLc (iRg2 (lCons (dVar 5) (lCons (dOp dAdd (dVar 6) (dC (.int 1))) lNil))) (nmG 10) bYes (dOp dIx (dOp dIx (dVar 0) (dVar 10)) (dVar 4)) [10] finF) lNil)) (nmG 7))
  (sSeq (sAsg (dOp dAdd (dOp dAdd (dOp dIx (dVar 3) (dVar 5)) (dCB cMax2 (lCons (dOp dIx (dVar 1) (dC (.int 1))) (lCons (dVar 7) lNil)))) (dOp dIx (dVar 1) (dC (.int 0)))) (nmG 8))
  (sSeq (sDct (dVar 8) (dVar 2) (lCons (dVar 4) (lCons (dVar 5) (lCons (dVar 6) lNil))))
  (sFor (iRg2 (lCons (dVar 5) (lCons (dOp dAdd (dVar 6) (dC (.int 1))) lNil))) (nmG 10)
  (sAsg (dVar 8) (subG dSetO (dVar 3) (dVar 10)))))))))
  (sRet (dLst (lCons (dVar 2) (lCons (dVar 3) lNil))))))
def T__law_width : TSd :=
  (sSeq (sAsg (dOp dIx (dCall sp__law_stops (lCons (dVar 0) (lCons (dVar 1) lNil))) (dC (.int 1))) (nmG 2))
  (sRet (dCB cMax (lCons (dLc (iZipD (lCons (dVar 2) (lCons (dVar 0) lNil))) (tupG 2 (gsCons (nmG 3) (gsCons (nmG 4) gsNil))) bYes (dOp dAdd (dVar 3) (dOp dIx (dVar 4) (dUn uNeg (dC (.int 1))))) [3, 4] finF) lNil))))
def T__law_class (C_TooNarrow C_InvalidTable C_InvalidWidth C_InvalidBlock C_InvalidNumber C_InvalidSights C_InvalidStyle C_InvalidTabs C_InvalidText C_InvalidCell C_InvalidColumn C_InvalidLine C_NothingToUndo C_NotPossible : Addr) : TSd :=
  (sSeq (sAsg (dLst (lCons (dCB (cIsX (xtabD C_InvalidTable C_InvalidWidth C_TooNarrow C_InvalidBlock C_InvalidNumber C_InvalidSights C_InvalidStyle C_InvalidTabs C_InvalidText C_InvalidCell C_InvalidColumn C_InvalidLine C_NothingToUndo C_NotPossible)) (lCons (dVar 0) (lCons (dC (.obj C_InvalidTable)) lNil))) (lCons (dCB (cIsX (xtabD C_InvalidTable C_InvalidWidth C_TooNarrow C_InvalidBlock C_InvalidNumber C_InvalidSights C_InvalidStyle C_InvalidTabs C_InvalidText C_InvalidCell C_InvalidColumn C_InvalidLine C_NothingToUndo C_NotPossible)) (lCons (dVar 0) (lCons (dC (.obj C_InvalidWidth)) lNil))) (lCons (dCB (cIsX (xtabD C_InvalidTable C_InvalidWidth C_TooNarrow C_InvalidBlock C_InvalidNumber C_InvalidSights C_InvalidStyle C_InvalidTabs C_InvalidText C_InvalidCell C_InvalidColumn C_InvalidLine C_NothingToUndo C_NotPossible)) (lCons (dVar 0) (lCons (dC (.obj C_TooNarrow)) lNil))) lNil)))) (nmG 1))
  (sSeq (sAsg (dCB (cIsX (xtabD C_InvalidTable C_InvalidWidth C_TooNarrow C_InvalidBlock C_InvalidNumber C_InvalidSights C_InvalidStyle C_InvalidTabs C_InvalidText C_InvalidCell C_InvalidColumn C_InvalidLine C_NothingToUndo C_NotPossible)) (lCons (dVar 0) (lCons (dTup (lCons (dC (.obj C_InvalidBlock)) (lCons (dC (.obj C_InvalidNumber)) (lCons (dC (.obj C_InvalidSights)) (lCons (dC (.obj C_InvalidStyle)) (lCons (dC (.obj C_InvalidTabs)) (lCons (dC (.obj C_InvalidText)) lNil))))))) lNil))) (nmG 2))
  (sSeq (sAsg (dOr (dVar 2) (dCB (cIsX (xtabD C_InvalidTable C_InvalidWidth C_TooNarrow C_InvalidBlock C_InvalidNumber C_InvalidSights C_InvalidStyle C_InvalidTabs C_InvalidText C_InvalidCell C_InvalidColumn C_InvalidLine C_NothingToUndo C_NotPossible)) (lCons (dVar 0) (lCons (dTup (lCons (dC (.obj C_InvalidCell)) (lCons (dC (.obj C_InvalidColumn)) (lCons (dC (.obj C_InvalidLine)) (lCons (dC (.obj C_NothingToUndo)) (lCons (dC (.obj C_NotPossible)) lNil)))))) lNil)))) (nmG 2))
  (sSeq (sIf (bOr (bOf (dVar 2)) (bOr (bOf (dOp dNeF (dBM mCnt (dVar 1) (lCons (dC (.bl true)) lNil)) (dC (.int 1)))) (bNot (bOf (dCB (cIsX (xtabD C_InvalidTable C_InvalidWidth C_TooNarrow C_InvalidBlock C_InvalidNumber C_InvalidSights C_InvalidStyle C_InvalidTabs C_InvalidText C_InvalidCell C_InvalidColumn C_InvalidLine C_NothingToUndo C_NotPossible)) (lCons (dVar 0) (lCons (dC (.ty "ValueError")) lNil)))))))
  (sRet (dC (.str "odd")))
  sNext)
  (sRet (dJ (dIf (bOf (dOp dIx (dVar 1) (dC (.int 2)))) (dLst (lCons (dC (.str "narrow")) (lCons (dXFld [C_TooNarrow] "line" (dVar 0)) lNil))) (dOp dIx (dLst (lCons (dC (.str "table")) (lCons (dC (.str "width")) lNil))) (dBM mIdx (dVar 1) (lCons (dC (.bl true)) lNil))))))))))
def T__law_raised (C_stretches C_partings C_fewest_lines C_InvalidTable C_InvalidWidth C_TooNarrow C_Style : Addr) : TSd :=
  (sSeq (sPar 5 6 (lCons (dCB cReprX (lCons (dLst (lCons (dVar 1) (lCons (dVar 4) lNil))) lNil)) (lCons (dC (.str "none")) lNil)))
  (sSeq (sTryH [C_InvalidTable, C_InvalidWidth, C_TooNarrow] 7 (sIf (bOf (dOp dLt (dVar 0) (dC (.int 3))))
  (sDrop (dCallF [(C_fewest_lines, (sp_fewest_lines C_InvalidTable C_InvalidWidth C_TooNarrow C_Style)), (C_partings, (sp_partings C_InvalidTable C_InvalidWidth C_TooNarrow C_Style)), (C_stretches, (sp_stretches C_InvalidTable C_InvalidWidth C_TooNarrow C_Style))] (dOp dIx (dLst (lCons (dC (.obj C_fewest_lines)) (lCons (dC (.obj C_partings)) (lCons (dC (.obj C_stretches)) lNil)))) (dVar 0)) (lCons (dVar 1) (lCons (dVar 2) (lCons (dVar 3) lNil)))))
  (sDrop (dCall (sp_shows_lines C_InvalidTable C_InvalidWidth C_TooNarrow C_Style) (lCons (dVar 1) (lCons (dVar 2) (lCons (dVar 3) (lCons (dC (.int 1)) (lCons (dVar 4) lNil)))))))) (sAsg (dCall (sp__law_class C_InvalidTable C_InvalidWidth C_TooNarrow) (lCons (dVar 7) lNil)) (nmG 6)))
  (sRet (dJ (dIf (bOf (dOp dEqF (dCB cReprX (lCons (dLst (lCons (dVar 1) (lCons (dVar 4) lNil))) lNil)) (dVar 5))) (dVar 6) (dC (.str "changed")))))))
def T__law_no_tables : TSd :=
  (sSeq (sPar 2 3 (lCons (dCall sp__law_pick (lCons (dVar 0) (lCons (dCB cLen (lCons (dVar 1) lNil)) lNil))) (lCons (dOp dAdd (dOp dPow (dC (.int 10)) (dC (.int 30))) (dC (.int 1))) lNil)))
  (sSeq (sAsg (dLstO (lCons (dC .non) (lCons (dC (.int 0)) (lCons (dC (.bl true)) (lCons (dC (.str "")) (lCons (dC (.str "5|2")) (lCons (dTup lNil) (lCons (dLst lNil) (lCons dDic0 (lCons (dDic1 (dLst (lCons (dLst (lCons (dC (.int 1)) lNil)) lNil)) "_") (lCons (dLst (lCons (dLst lNil) lNil)) (lCons (dLst (lCons (dTup lNil) lNil)) (lCons (dLst (lCons (dC (.int 1)) lNil)) (lCons (dLst (lCons (dLst (lCons (dC (.str "1")) lNil)) lNil)) (lCons (dLst (lCons (dLst (lCons (dC (.bl true)) lNil)) lNil)) (lCons (dLst (lCons (dLst (lCons (dUn uNeg (dC (.int 1))) lNil)) lNil)) (lCons (dLst (lCons (dLst (lCons (dVar 3) lNil)) lNil)) lNil))))))))))))))))) (nmG 4))
  (sSeq (sAsg (dOp dAddO (dVar 4) (dLst (lCons (dCB cTup (lCons (dVar 1) lNil)) (lCons (dLc (iSeq (dVar 1)) (nmG 6) bYes (dCB cTup (lCons (dVar 6) lNil)) [6] finF) (lCons (dOp dAdd (dVar 1) (dLst (lCons (dOp dMul (dLst (lCons (dC (.int 1)) lNil)) (dC (.int 13))) lNil))) (lCons (dOp dMul (dLst (lCons (dLst (lCons (dC (.int 1)) lNil)) lNil)) (dC (.int 61))) lNil)))))) (nmG 4))
  (sSeq (sFor (iSeq (dLst (lCons (dLst lNil) (lCons (dOp dMul (dLst (lCons (dC (.int 1)) lNil)) (dC (.int 13))) (lCons (dTup (lCons (dC (.int 1)) lNil)) (lCons (dC .non) (lCons (dLst (lCons (dC (.int 0)) (lCons (dUn uNeg (dC (.int 1))) lNil))) (lCons (dLst (lCons (dVar 3) (lCons (dC (.int 0)) lNil))) (lCons (dLst (lCons (dC (.bl true)) lNil)) (lCons (dLst (lCons (dC (.str "_")) lNil)) (lCons (dLst (lCons (dLst (lCons (dC (.int 1)) lNil)) lNil)) (lCons (dDic1 (dC (.int 1)) "a") lNil)))))))))))) (nmG 5)
  (sDrop (dBM mAppend (dVar 4) (lCons (dOp dAdd (dOp dAdd (dSl dSlL (dVar 1) oNone (oSome (dVar 2))) (dLst (lCons (dVar 5) lNil))) (dSl dSlL (dVar 1) (oSome (dOp dAdd (dVar 2) (dC (.int 1)))) oNone)) lNil))))
  (sRet (dOp dIx (dVar 4) (dCall sp__law_pick (lCons (dVar 0) (lCons (dCB cLen (lCons (dVar 4) lNil)) lNil)))))))))
def T__law_right (C_Style : Addr) : TSd :=
  (sSeq (sAsg (dTup (lCons (dFzI (dCMethA C_Style (pkP 4 [0, 1, 2, 3] [] (sp_Style_of C_Style)) (dC (.obj C_Style)) (d2 (lCons (dLst (lCons (dC (.str "left")) lNil)) (lCons (dOp dIx (dVar 2) (dC (.int 0))) (lCons (dOp dIx (dVar 2) (dC (.int 1))) lNil))) lNil 0))) (lCons (dLc (iSeq (dVar 1)) (nmG 15) bYes (dCall sp__law_width (lCons (dLst (lCons (dVar 15) lNil)) (lCons (dVar 2) lNil))) [15] finF) lNil))) (tupG 2 (gsCons (nmG 3) (gsCons (nmG 4) gsNil))))
  (sSeq (sPar 5 6 (lCons (dCB cMax (lCons (dVar 4) lNil)) (lCons (dOp dPow (dC (.int 10)) (dC (.int 59))) lNil)))
  (sSeq (sAsg (dLst (lCons (dC .non) (lCons (dLst lNil) (lCons (dLst (lCons (dTup (lCons (dC (.int 0)) (lCons (dC (.int 1)) lNil))) lNil)) (lCons (dDic1 (dLst lNil) "_") (lCons (dC (.str "x")) (lCons (dTup (lCons (dC (.int 0)) (lCons (dC (.int 1)) lNil))) (lCons (dLst (lCons (dC (.bl true)) lNil)) lNil)))))))) (nmG 7))
  (sSeq (sFor (iRg1 (lCons (dC (.int 4)) lNil)) (nmG 8)
  (sSeq (sAsg (dOp dIx (dLst (lCons (dVar 5) (lCons (dOp dAdd (dVar 5) (dC (.int 1))) (lCons (dOp dSub (dVar 5) (dC (.int 1))) (lCons (dOp dIx (dVar 4) (dC (.int 0))) (lCons (dOp dSub (dOp dIx (dVar 4) (dUn uNeg (dC (.int 1)))) (dC (.int 1))) (lCons (dCB cMin (lCons (dVar 4) lNil)) (lCons (dC (.int 0)) (lCons (dVar 6) lNil))))))))) (dCall sp__law_pick (lCons (dVar 0) (lCons (dC (.int 8)) lNil)))) (nmG 9))
  (sSeq (sAsg (dOp dIx (dLst (lCons (dVar 9) (lCons (dVar 9) (lCons (dVar 9) (lCons (dUn uNeg (dC (.int 1))) (lCons (dOp dSub (dC (.int 0)) (dVar 6)) lNil)))))) (dCall sp__law_pick (lCons (dVar 0) (lCons (dC (.int 5)) lNil)))) (nmG 9))
  (sSeq (sAsg (dLc (iRg1 (lCons (dCB cLen (lCons (dVar 1) lNil)) lNil)) (nmG 16) (bOf (dOp dGt (dOp dIx (dVar 4) (dVar 16)) (dVar 9))) (dVar 16) [16] finF) (nmG 10))
  (sSeq (sAsg (dJ (dIf (bOf (dOp dLt (dVar 9) (dC (.int 0)))) (dC (.str "width")) (dJ (dIf (bOf (dOp dNe (dVar 10) (dLst lNil))) (dLst (lCons (dC (.str "narrow")) (lCons (dOp dIx (dVar 10) (dC (.int 0))) lNil))) (dC (.str "none")))))) (nmG 11))
  (sSeq (sPar 12 13 (lCons (dOp dIx (dVar 7) (dCall sp__law_pick (lCons (dVar 0) (lCons (dC (.int 7)) lNil)))) (lCons (dCall sp__law_no_tables (lCons (dVar 0) (lCons (dVar 1) lNil))) lNil)))
  (sFor (iRg1 (lCons (dC (.int 4)) lNil)) (nmG 14)
  (sSeq (sIf (bOf (dOp dNe (dCall (sp__law_raised C_Style) (lCons (dVar 14) (lCons (dVar 1) (lCons (dVar 3) (lCons (dVar 9) (lCons (dVar 12) lNil)))))) (dVar 11)))
  (sRet (dC (.bl false)))
  sNext)
  (sIf (bOf (dOp dNe (dCall (sp__law_raised C_Style) (lCons (dVar 14) (lCons (dVar 13) (lCons (dVar 3) (lCons (dVar 9) (lCons (dVar 12) lNil)))))) (dC (.str "table"))))
  (sRet (dC (.bl false)))
  sNext)))))))))
  (sRet (dC (.bl true)))))))
def T_law (C_Style : Addr) : TSd :=
  (sSeq (sFor (iRg1 (lCons (dCB cMax2 (lCons (dC (.int 1)) (lCons (dCB cMin2 (lCons (dC (.int 3)) (lCons (dCB cLen (lCons (dVar 0) lNil)) lNil))) lNil))) lNil)) (nmG 1)
  (sSeq (sAsg (dCall sp__law_feed (lCons (dVar 0) (lCons (dVar 1) lNil))) (nmG 2))
  (sFor (iSeq (dLst (lCons (dTup (lCons (dOp dIx (dLst (lCons (dC (.int 60)) (lCons (dC (.int 8)) lNil))) (dCB cInt (lCons (dOp dGt (dVar 1) (dC (.int 0))) lNil))) (lCons (dC (.int 4)) lNil))) (lCons (dTup (lCons (dC (.int 3)) (lCons (dC (.int 12)) lNil))) lNil)))) (tupG 2 (gsCons (nmG 3) (gsCons (nmG 4) gsNil)))
  (sSeq (sAsg (dCall sp__law_rows (lCons (dVar 2) (lCons (dVar 3) (lCons (dVar 4) lNil)))) (nmG 5))
  (sIf (bNot (bOf (dCall sp__law_right (lCons (dVar 2) (lCons (dVar 5) (lCons (dCall sp__law_look (lCons (dVar 2) lNil)) lNil))))))
  (sRet (dC (.bl false)))
  sNext)))))
  (sSeq (sAsg (dLc (iRg1 (lCons (dC (.int 4)) lNil)) (nmG 7) bYes (dCall (sp__law_raised C_Style) (lCons (dVar 7) (lCons (dLst (lCons (dLst (lCons (dC (.int 0)) lNil)) (lCons (dLst (lCons (dC (.int 1)) (lCons (dC (.int 0)) lNil))) lNil))) (lCons (dFzI (dMakeA C_Style (pkS true 1 [0, 1, 2] [] (sp_Style___init__ C_Style)) (d2 lNil (lCons (dC (.int 0)) (lCons (dC (.int 7)) lNil)) 2))) (lCons (dC (.int 6)) (lCons (dC .non) lNil)))))) [7] finF) (nmG 6))
  (sRet (dOp dEq (dVar 6) (dOp dMul (dLst (lCons (dLst (lCons (dC (.str "narrow")) (lCons (dC (.int 1)) lNil))) lNil)) (dC (.int 4)))))))
local macro_rules | `(tactic| walk_at "dl") => `(tactic| ((try simp only [gstart, gwipe, List.set_set, List.map_cons, List.map_nil, List.length_cons, List.length_nil, rep_0, rep_s, List.cons_append, List.nil_append, List.set_cons_zero, List.set_cons_succ, Nat.reduceAdd, Nat.reduceSub, Nat.zero_add, Nat.add_zero]); (try simp only [↓dv0, ↓dv1, ↓dv2, ↓dv3, ↓dv4, ↓dv5, ↓dv6, ↓dv7, ↓dv8, ↓dv9, ↓dv10, ↓dv11, ↓dv12, ↓dv13, ↓dv14, ↓dv15, ↓dv16, ↓dv17, ↓dv18, ↓dv19, ↓dv20, ↓dv21, ↓dv22, ↓dv23, ↓dv24, ↓dv25, ↓dv26, ↓dv27, ↓dv28, ↓dv29, ↓dv30, ↓dv31, ↓dv32, ↓dv33, ↓dv34, ↓dv35, ↓dv36, ↓dv37, ↓dv38, ↓dv39, ↓nm0, ↓nm1, ↓nm2, ↓nm3, ↓nm4, ↓nm5, ↓nm6, ↓nm7, ↓nm8, ↓nm9, ↓nm10, ↓nm11, ↓nm12, ↓nm13, ↓nm14, ↓nm15, ↓nm16, ↓nm17, ↓nm18, ↓nm19, ↓nm20, ↓nm21, ↓nm22, ↓nm23, ↓nm24, ↓nm25, ↓nm26, ↓nm27, ↓nm28, ↓nm29, ↓nm30, ↓nm31, ↓nm32, ↓nm33, ↓nm34, ↓nm35, ↓nm36, ↓nm37, ↓nm38, ↓nm39, ↓sPar_n, ↓sPar3_n, ↓sAug_n, ↓reduceIte, List.set_set, ↓sNext_e, ↓sSeq_e, ↓sBrk_e, ↓sCnt_e, ↓sDrop_e, ↓sRet_e, ↓sRetN_e, ↓sIf_e, ↓sAsg_e, ↓sRaise_e, ↓nmG_e, ↓tupG_e, ↓gsNil_e, ↓gsCons_e, ↓subG_e, ↓dC_e, ↓dOp_e, ↓dUn_e, ↓dChain_e, ↓bOf_e, ↓bAnd_e, ↓bOr_e, ↓bNot_e, ↓bYes_e, ↓dAnd_e, ↓dOr_e, ↓dNot_e, ↓dIf_e, ↓lNil_e, ↓lCons_e, ↓dLst_e, ↓dDic0_e, ↓dDic1_e, ↓dLenSetG_e, dIsB_b, ↓dLstO_e, ↓dTup_e, ↓dCB_e, ↓dCall_e, ↓dCallK_e, ↓oNone_e, ↓oSome_e, ↓dSl_e, ↓dBM_e, ↓dBM0_e, ↓dFz_e, ↓dFz2_e, ↓d2_e, ↓dLone_e, ↓lStar_e, ↓dCallA_e, ↓dMakeA_e, ↓dMakeV_e, ↓dMethA_e, ↓dCMethA_e, ↓dPropA_e, ↓dFld_e, ↓sFldS_e, ↓dFzI_e, ↓fzID_o, ↓dM1_e, ↓dM0_e, ↓dRev_e, ↓mSplit_s, ↓mUpper_s, ↓exStr, ↓exZ, ↓cStrI_i, ↓cIntS_s, ↓iStrD_e, ↓dEqF_s, ↓dNeF_s, ↓dEqF_i, ↓dNeF_i, ↓dSign_s, ↓sRaiseI_e, ↓dXFld_e, ↓mPop_e, ↓dAddO_l, ↓dAddO_o, ↓dMk0_e, ↓sKeep_e, ↓sTryH_e, ↓dCVal_e, ↓dConI_e, ↓cLen_s, ↓dIx_s, ↓dSlS_s, ↓dAdd_s, ↓cTup_l, ↓pkP_e, ↓pkS_e, ↓lstG_e, ↓asI_i, ↓iSeq_e, ↓iTupD_e, ↓iRg1_e, ↓iRg2_e, ↓iZipD_e, ↓iEnumD_e, ↓sFor_e, ↓dLc_e, ↓finF_e, ↓finO_e, ↓fzD_l, ↓fzD_i, ↓fzD_o, ↓fzD2_o, ↓dSetO_e, ↓mAppend_e, ↓mClear_e, ↓mReverse_e, List.map_cons, List.map_nil, List.length_cons, List.length_nil, rep_0, rep_s, List.cons_append, List.nil_append, List.getElem?_cons_zero, List.getElem?_cons_succ, List.set_cons_zero, List.set_cons_succ, Nat.reduceAdd, Nat.reduceSub, Nat.zero_add, Nat.add_zero, ↓exSS, ↓exB, ↓exI, ↓ex1, ↓ex2, ↓ex3, ↓exI1, ↓exI2, ↓exT, ↓exC, ↓exAs, ↓dAdd_i, ↓dAddI_i, ↓dSubI_i, ↓dLRg_e, ↓dIsiT_e, ↓dLenSet_e, ↓bChain3_e, ↓dLRg2_e, ↓iRg3_e, ↓dLc2_e, ↓dSlT_t, ↓dNew_e, ↓sDct_e, ↓dMulO_l, ↓dLRgO_e, ↓dAdd_l, ↓dSub_i, ↓dMul_i, ↓dMul_l, ↓dMod_i, ↓dDiv_i, ↓dPow_i, ↓dLt_i, ↓dLe_i, ↓dGt_i, ↓dGe_i, ↓uNeg_i, ↓cMax2_i, ↓cMin2_i, ↓cAbs_i, ↓cInt_i, ↓cInt_b, ↓cLen_l, ↓cLen_q, ↓cLen_t, ↓cList_l, ↓cList_q, ↓cList_t, ↓cListO_l, ↓cListO_t, ↓dIx_l, ↓dIx_q, ↓dIx_t, ↓dIx_o', ↓exS, ↓exL, at_1, at_2, at_3, at_4, ix30, ix31, ix32, ↓dSlL_l, ↓dSlL_q, ↓asQ_l, ↓asL_l, at_0, ↓isi_non_int, ↓isi_non_bool, ↓isi_non_str, ↓isi_non_list, ↓isi_non_tuple, ↓isi_non_dict, ↓isi_bl_int, ↓isi_bl_bool, ↓isi_bl_str, ↓isi_bl_list, ↓isi_bl_tuple, ↓isi_bl_dict, ↓isi_int_int, ↓isi_int_bool, ↓isi_int_str, ↓isi_int_list, ↓isi_int_tuple, ↓isi_int_dict, ↓isi_str_int, ↓isi_str_bool, ↓isi_str_str, ↓isi_str_list, ↓isi_str_tuple, ↓isi_str_dict, ↓isi_lst_int, ↓isi_lst_bool, ↓isi_lst_str, ↓isi_lst_list, ↓isi_lst_tuple, ↓isi_lst_dict, ↓isi_sq_int, ↓isi_sq_bool, ↓isi_sq_str, ↓isi_sq_list, ↓isi_sq_tuple, ↓isi_sq_dict, ↓isi_tup_int, ↓isi_tup_bool, ↓isi_tup_str, ↓isi_tup_list, ↓isi_tup_tuple, ↓isi_tup_dict, ↓isi_dic_int, ↓isi_dic_bool, ↓isi_dic_str, ↓isi_dic_list, ↓isi_dic_tuple, ↓isi_dic_dict, if_true, if_false, Bool.not_true, Bool.not_false, true_and, and_true, reduceCtorEq, Bool.true_eq_false, Bool.false_eq_true, ite_true, ite_false, ↓exAny, ↓isLst_l, Int.toNat_natCast, Int.reduceToNat, dVar_e, sPar_e, sPar3_e, sAug_e])))
local macro_rules | `(tactic| walk_at "dls") => `(tactic| ((try simp only [gstart, gwipe, List.set_set, List.map_cons, List.map_nil, List.length_cons, List.length_nil, rep_0, rep_s, List.cons_append, List.nil_append, List.set_cons_zero, List.set_cons_succ, Nat.reduceAdd, Nat.reduceSub, Nat.zero_add, Nat.add_zero]); (try simp only [*, ↓dv0, ↓dv1, ↓dv2, ↓dv3, ↓dv4, ↓dv5, ↓dv6, ↓dv7, ↓dv8, ↓dv9, ↓dv10, ↓dv11, ↓dv12, ↓dv13, ↓dv14, ↓dv15, ↓dv16, ↓dv17, ↓dv18, ↓dv19, ↓dv20, ↓dv21, ↓dv22, ↓dv23, ↓dv24, ↓dv25, ↓dv26, ↓dv27, ↓dv28, ↓dv29, ↓dv30, ↓dv31, ↓dv32, ↓dv33, ↓dv34, ↓dv35, ↓dv36, ↓dv37, ↓dv38, ↓dv39, ↓nm0, ↓nm1, ↓nm2, ↓nm3, ↓nm4, ↓nm5, ↓nm6, ↓nm7, ↓nm8, ↓nm9, ↓nm10, ↓nm11, ↓nm12, ↓nm13, ↓nm14, ↓nm15, ↓nm16, ↓nm17, ↓nm18, ↓nm19, ↓nm20, ↓nm21, ↓nm22, ↓nm23, ↓nm24, ↓nm25, ↓nm26, ↓nm27, ↓nm28, ↓nm29, ↓nm30, ↓nm31, ↓nm32, ↓nm33, ↓nm34, ↓nm35, ↓nm36, ↓nm37, ↓nm38, ↓nm39, ↓sPar_n, ↓sPar3_n, ↓sAug_n, ↓reduceIte, List.set_set, ↓sNext_e, ↓sSeq_e, ↓sBrk_e, ↓sCnt_e, ↓sDrop_e, ↓sRet_e, ↓sRetN_e, ↓sIf_e, ↓sAsg_e, ↓sRaise_e, ↓nmG_e, ↓tupG_e, ↓gsNil_e, ↓gsCons_e, ↓subG_e, ↓dC_e, ↓dOp_e, ↓dUn_e, ↓dChain_e, ↓bOf_e, ↓bAnd_e, ↓bOr_e, ↓bNot_e, ↓bYes_e, ↓dAnd_e, ↓dOr_e, ↓dNot_e, ↓dIf_e, ↓lNil_e, ↓lCons_e, ↓dLst_e, ↓dDic0_e, ↓dDic1_e, ↓dLenSetG_e, dIsB_b, ↓dLstO_e, ↓dTup_e, ↓dCB_e, ↓dCall_e, ↓dCallK_e, ↓oNone_e, ↓oSome_e, ↓dSl_e, ↓dBM_e, ↓dBM0_e, ↓dFz_e, ↓dFz2_e, ↓d2_e, ↓dLone_e, ↓lStar_e, ↓dCallA_e, ↓dMakeA_e, ↓dMakeV_e, ↓dMethA_e, ↓dCMethA_e, ↓dPropA_e, ↓dFld_e, ↓sFldS_e, ↓dFzI_e, ↓fzID_o, ↓dM1_e, ↓dM0_e, ↓dRev_e, ↓mSplit_s, ↓mUpper_s, ↓exStr, ↓exZ, ↓cStrI_i, ↓cIntS_s, ↓iStrD_e, ↓dEqF_s, ↓dNeF_s, ↓dEqF_i, ↓dNeF_i, ↓dSign_s, ↓sRaiseI_e, ↓dXFld_e, ↓mPop_e, ↓dAddO_l, ↓dAddO_o, ↓dMk0_e, ↓sKeep_e, ↓sTryH_e, ↓dCVal_e, ↓dConI_e, ↓cLen_s, ↓dIx_s, ↓dSlS_s, ↓dAdd_s, ↓cTup_l, ↓pkP_e, ↓pkS_e, ↓lstG_e, ↓asI_i, ↓iSeq_e, ↓iTupD_e, ↓iRg1_e, ↓iRg2_e, ↓iZipD_e, ↓iEnumD_e, ↓sFor_e, ↓dLc_e, ↓finF_e, ↓finO_e, ↓fzD_l, ↓fzD_i, ↓fzD_o, ↓fzD2_o, ↓dSetO_e, ↓mAppend_e, ↓mClear_e, ↓mReverse_e, List.map_cons, List.map_nil, List.length_cons, List.length_nil, rep_0, rep_s, List.cons_append, List.nil_append, List.getElem?_cons_zero, List.getElem?_cons_succ, List.set_cons_zero, List.set_cons_succ, Nat.reduceAdd, Nat.reduceSub, Nat.zero_add, Nat.add_zero, ↓exSS, ↓exB, ↓exI, ↓ex1, ↓ex2, ↓ex3, ↓exI1, ↓exI2, ↓exT, ↓exC, ↓exAs, ↓dAdd_i, ↓dAddI_i, ↓dSubI_i, ↓dLRg_e, ↓dIsiT_e, ↓dLenSet_e, ↓bChain3_e, ↓dLRg2_e, ↓iRg3_e, ↓dLc2_e, ↓dSlT_t, ↓dNew_e, ↓sDct_e, ↓dMulO_l, ↓dLRgO_e, ↓dAdd_l, ↓dSub_i, ↓dMul_i, ↓dMul_l, ↓dMod_i, ↓dDiv_i, ↓dPow_i, ↓dLt_i, ↓dLe_i, ↓dGt_i, ↓dGe_i, ↓uNeg_i, ↓cMax2_i, ↓cMin2_i, ↓cAbs_i, ↓cInt_i, ↓cInt_b, ↓cLen_l, ↓cLen_q, ↓cLen_t, ↓cList_l, ↓cList_q, ↓cList_t, ↓cListO_l, ↓cListO_t, ↓dIx_l, ↓dIx_q, ↓dIx_t, ↓dIx_o', ↓exS, ↓exL, at_1, at_2, at_3, at_4, ix30, ix31, ix32, ↓dSlL_l, ↓dSlL_q, ↓asQ_l, ↓asL_l, at_0, ↓isi_non_int, ↓isi_non_bool, ↓isi_non_str, ↓isi_non_list, ↓isi_non_tuple, ↓isi_non_dict, ↓isi_bl_int, ↓isi_bl_bool, ↓isi_bl_str, ↓isi_bl_list, ↓isi_bl_tuple, ↓isi_bl_dict, ↓isi_int_int, ↓isi_int_bool, ↓isi_int_str, ↓isi_int_list, ↓isi_int_tuple, ↓isi_int_dict, ↓isi_str_int, ↓isi_str_bool, ↓isi_str_str, ↓isi_str_list, ↓isi_str_tuple, ↓isi_str_dict, ↓isi_lst_int, ↓isi_lst_bool, ↓isi_lst_str, ↓isi_lst_list, ↓isi_lst_tuple, ↓isi_lst_dict, ↓isi_sq_int, ↓isi_sq_bool, ↓isi_sq_str, ↓isi_sq_list, ↓isi_sq_tuple, ↓isi_sq_dict, ↓isi_tup_int, ↓isi_tup_bool, ↓isi_tup_str, ↓isi_tup_list, ↓isi_tup_tuple, ↓isi_tup_dict, ↓isi_dic_int, ↓isi_dic_bool, ↓isi_dic_str, ↓isi_dic_list, ↓isi_dic_tuple, ↓isi_dic_dict, if_true, if_false, Bool.not_true, Bool.not_false, true_and, and_true, reduceCtorEq, Bool.true_eq_false, Bool.false_eq_true, ite_true, ite_false, ↓exAny, ↓isLst_l, Int.toNat_natCast, Int.reduceToNat, dVar_e, sPar_e, sPar3_e, sAug_e])))
--MD
abbrev Rets (sp : DSpec) (T : TSd) (N : List Str) : Prop := ∀ ds S Φ Ψ, sp ds S Φ Ψ → T { nx := fun _ S' => RetOk S Φ S' .non, rt := RetOk S Φ, er := ErOk S Ψ } (gstart N ds) S
theorem under {n : Nat} (h : n ≤ 1000000) : n < sizeLine := Nat.lt_of_le_of_lt h (by decide)
theorem rep_flat {α : Type} (x : α) : ∀ m : Nat, (List.replicate m [x]).flatten = List.replicate m x
  | 0 => rfl
  | m + 1 => by rw [List.replicate_succ, List.flatten_cons, rep_flat x m, List.replicate_succ]; rfl
theorem all_map {α : Type} {S : Sto} {Φ : KD} (xs : List α) (f : α → Bool) (h : Φ S (.bl (xs.all f))) : cAll [.lst (xs.map fun x => D.bl (f x))] S Φ :=
  ⟨xs.map f, by rw [List.map_map]; rfl, by rw [List.all_map]; exact h⟩
theorem p__law_feed : Rets sp__law_feed T__law_feed N__law_feed := by
  rintro _ S Φ Ψ ⟨ns, k, rfl, hk, h⟩
  unfold T__law_feed
  walk_at "dl"
  have done : ∀ a m : Int, 0 ≤ m → RetOk S Φ (S ++ [Cell.lst [D.int (if a > 0 then a else 0), D.int (m % (10 ^ 36 + 67) * 128 + 7 * (k : Int) + 9), D.int 0]]) (D.own S.length) := fun a m hm => by
    refine ret_now (h _ ⟨_, _, 0, rfl, by split <;> omega, ?_, ?_, by decide, by decide⟩)
    · have := Int.emod_nonneg m (show (10 ^ 36 + 67 : Int) ≠ 0 by decide)
      omega
    · have := Int.emod_lt_of_pos m (show (0 : Int) < 10 ^ 36 + 67 by decide)
      omega
  rw [dJ_e]
  walk_at "dl"
  rw [List.length_map]
  by_cases c : k < ns.length
  · rw [if_pos (by rw [decide_eq_true_eq]; omega), at_nat]
    refine ⟨.int (ns[k]), by rw [List.getElem?_map, List.getElem?_eq_getElem c]; rfl, ?_⟩
    walk_at "dl"
    refine ⟨cpw (by decide) (by decide) (by decide), cpw (by decide) (by decide) (by decide), by decide, cmr (by decide) (by decide), cml (by decide) (by decide), small, ?_⟩
    exact done _ _ (by split <;> omega)
  · rw [if_neg (by rw [decide_eq_true_eq]; omega)]
    exact ⟨cpw (by decide) (by decide) (by decide), cpw (by decide) (by decide) (by decide), by decide, cmr (by decide) (by decide), cml (by decide) (by decide), small, done _ _ (by decide)⟩
theorem p__law_pick : Rets sp__law_pick T__law_pick N__law_pick := by
  rintro _ S Φ Ψ ⟨h, n, m, rfl, ⟨c, ec, a, b, k, rfl, ha, hb, hb2, hk, hk2⟩, hn, hm, hm2, q⟩
  unfold T__law_pick
  walk_at "dl"
  have es : ∀ c, (S.set h c)[h]? = some c := fun c => List.getElem?_set_self (List.getElem?_eq_some_iff.mp ec).1
  walk_at "dls"
  by_cases c : 0 < a
  · rw [if_pos (by rw [decide_eq_true_eq]; exact c)]
    refine ⟨cdw hm (by omega), ret_now (q _ _ ⟨_, ⟨_, _, _, rfl, Int.ediv_nonneg ha (by omega), hb, hb2, hk, by omega⟩, rfl⟩ (Int.emod_nonneg _ (by omega)) (Int.emod_lt_of_pos _ hm))⟩
  · rw [if_neg (by rw [decide_eq_true_eq]; exact c)]
    have e1 := Int.emod_nonneg ((b + 49979687 * (k + 1)) ^ 3) (show (10 ^ 41 + 37 : Int) ≠ 0 by decide)
    have e2 := Int.emod_lt_of_pos ((b + 49979687 * (k + 1)) ^ 3) (show (0 : Int) < 10 ^ 41 + 37 by decide)
    refine ⟨cml (by decide) (by decide), cpw (by decide) (by decide) (by omega), cpw (by decide) (by decide) (by decide), by decide, cml (by decide) (by decide), cpw (by decide) (by decide) (by omega), cpw (by decide) (by decide) (by decide), by decide, cdw (by decide) (by decide), ret_now (q _ _ ⟨_, ⟨_, _, _, rfl, ha, hb, hb2, by omega, by omega⟩, rfl⟩ (Int.emod_nonneg _ (by omega)) (Int.emod_lt_of_pos _ hm))⟩
theorem pick_at {S : Sto} {Φ : KD} {Ψ : KX} {h n : Nat} {m : Int} (f : FdAt S h n) (hm : 0 < m) (q : ∀ S' v, Fs h (n + 1) S S' → FdAt S' h (n + 1) → 0 ≤ v → v < m → Φ S' (.int v)) (hn : n < 2 ^ 100 := by omega) (hm2 : m < 2 ^ 200 := by omega) : sp__law_pick [.own h, .int m] S Φ Ψ :=
  ⟨h, n, m, rfl, f, hn, hm, hm2, fun S' v f' a b => q S' v f' (f'.at f.lt) a b⟩
theorem p__law_lengths : Rets sp__law_lengths T__law_lengths N__law_lengths := by
  rintro _ S Φ Ψ ⟨h, n, a, m, rfl, f, hn, ha, hm, hm2, q⟩
  unfold T__law_lengths
  walk_at "dl"
  refine pick_at f (by decide) fun S1 w f1 g1 hw0 hw1 => ?_
  refine pick_at g1 hm fun S2 x f2 g2 hx0 hx1 => ?_
  walk_at "dl"
  refine ⟨small, by omega, by omega, ?_⟩
  have f0 := ((f1.trans f2).cell (.lst []) f.lt)
  have eL : S2.length = S.length := (f1.trans f2).len
  refine for_r0 (fun i Γ S' => ∃ (ls : List Int) (x : Int) (o1 o2 o3 o4 : Option D), Γ = [some (.own h), some (.int a), some (.int m), some (.int w), some (.int x), some (.own S.length), o1, o2, o3, o4] ∧ Fs h (n + 2 + 5 * i) (S ++ [.lst (ls.map D.int)]) S' ∧ ls.length = i ∧ (∀ y ∈ ls, 1 ≤ y ∧ y ≤ m) ∧ 1 ≤ x ∧ x ≤ m) ?_ (fun i Γ' S' hi hp => ?_) fun Γ' S' hp => ?_
  · exact ⟨[], 1 + x, _, _, _, _, by rw [eL], f0, rfl, (fun y hy => absurd hy (by simp)), by omega, by omega⟩
  · obtain ⟨ls, x, o1, o2, o3, o4, rfl, fs, hl, hls, hx0, hx1⟩ := hp
    have lt : h < (S ++ [Cell.lst (ls.map D.int)]).length := by have := f.lt; rw [List.length_append]; omega
    walk_at "dl"
    have g3 := fs.at lt
    refine pick_at g3 (by decide) fun S4 y f4 g4 hy0 hy1 => ?_
    walk_at "dl"
    refine joinD (fun Sx d => ∃ k : Int, d = .int k ∧ 1 ≤ k ∧ k ≤ m ∧ Fs h (n + 2 + 5 * i + 3) (S ++ [Cell.lst (ls.map D.int)]) Sx) (fun Sx d hd => ?_) fun Φ' hΦ => ?_
    · obtain ⟨k, rfl, hk0, hk1, fx⟩ := hd
      walk_at "dl"
      refine pick_at (fx.at lt) hm fun S6 u f6 g6 hu0 hu1 => ?_
      walk_at "dl"
      refine pick_at g6 (by split <;> omega) (fun S7 t f7 g7 ht0 ht1 => ?_) (by omega) (by split <;> omega)
      walk_at "dl"
      have fz := (fx.trans f6).trans f7
      obtain ⟨el, fl⟩ := fz.last f.lt
      refine ⟨small, ?_⟩
      obtain ⟨d, hd, hm'⟩ := ix_all (xs := [D.int (1 + u), D.int k, D.int (if (if x + y - 1 < m then x + y - 1 else m) > 1 then if x + y - 1 < m then x + y - 1 else m else 1), D.int m, D.int (1 + t)]) hw0 (by show w < 5; exact hw1)
      have hv : ∃ v : Int, d = .int v ∧ 1 ≤ v ∧ v ≤ m := by
        simp only [List.mem_cons, List.not_mem_nil, or_false] at hm'
        rcases hm' with rfl | rfl | rfl | rfl | rfl
        · exact ⟨_, rfl, by omega, by omega⟩
        · exact ⟨_, rfl, by omega, by omega⟩
        · exact ⟨_, rfl, by (repeat' split) <;> omega, by (repeat' split) <;> omega⟩
        · exact ⟨_, rfl, by omega, by omega⟩
        · exact ⟨_, rfl, by omega, by have : (if m < 2 then m else 2) ≤ m := by { split <;> omega }; omega⟩
      obtain ⟨v, rfl, hv0, hv1⟩ := hv
      refine ⟨_, hd, isLst_at el, _, el, by rw [List.length_map, hl]; have := small (n := a) (by omega); omega, ls ++ [v], v, _, _, _, _, rfl, ?_, by rw [List.length_append, hl]; rfl, ?_, hv0, hv1⟩
      · have := fl (.lst (ls.map D.int ++ [.int v]))
        rw [List.map_append]
        exact this.mono (by omega)
      · intro z hz
        rcases List.mem_append.mp hz with hz | hz
        · exact hls z hz
        · rw [List.mem_singleton.mp hz]; exact ⟨hv0, hv1⟩
    · walk_at "dl"
      refine pick_at g4 (by decide) fun S5 z f5 g5 hz0 hz1 => ?_
      walk_at "dl"
      by_cases c : 0 < z
      · rw [if_pos (by rw [decide_eq_true_eq]; exact c)]
        exact hΦ _ _ ⟨x, rfl, hx0, hx1, ((fs.trans f4).trans f5).mono (by omega)⟩
      · rw [if_neg (by rw [decide_eq_true_eq]; exact c)]
        refine pick_at g5 hm fun S6 u f6 g6 hu0 hu1 => ?_
        walk_at "dl"
        exact hΦ _ _ ⟨_, rfl, by omega, by omega, (((fs.trans f4).trans f5).trans f6).mono (by omega)⟩
  · obtain ⟨ls, x, o1, o2, o3, o4, rfl, fs, hl, hls, hx0, hx1⟩ := hp
    walk_at "dl"
    obtain ⟨el, fl⟩ := fs.last f.lt
    obtain ⟨S1', fs1, e1⟩ := (fl .gone).app f.lt
    refine ⟨_, el, ?_⟩
    rw [e1]
    exact ret_feed fs1 (lowA_ints _ _) (q _ ls (fs1.mono (by omega)) hl hls)
theorem p__law_rows : Rets sp__law_rows T__law_rows N__law_rows := by
  rintro _ S Φ Ψ ⟨h, n, a, b, rfl, f, hn, ha, ha2, hb, hb2, q⟩
  unfold T__law_rows
  walk_at "dl"
  refine pick_at f (by omega) fun S1 u f1 g1 hu0 hu1 => ?_
  walk_at "dl"
  refine pick_at g1 (by split <;> omega) (fun S2 v f2 g2 hv0 hv1 => ?_) (by omega) (by split <;> omega)
  walk_at "dl"
  refine ⟨small, pick_at g2 (by decide) fun S3 w f3 g3 hw0 hw1 => ?_⟩
  walk_at "dl"
  have f123 := (f1.trans f2).trans f3
  have hA : ∃ A : Nat, atI [D.int (1 + u), D.int (1 + v), D.int a] w = some (.int A) ∧ 1 ≤ A ∧ A ≤ a := by
    obtain ⟨d, hd, hm'⟩ := ix_all (xs := [D.int (1 + u), D.int (1 + v), D.int (a : Int)]) hw0 (by show w < 3; exact hw1)
    simp only [List.mem_cons, List.not_mem_nil, or_false] at hm'
    rcases hm' with rfl | rfl | rfl
    · exact ⟨(1 + u).toNat, by rw [hd]; congr 2; omega, by omega, by omega⟩
    · exact ⟨(1 + v).toNat, by rw [hd]; congr 2; omega, by omega, by have : (if (4 : Int) < a then 4 else (a : Int)) ≤ a := by { split <;> omega }; omega⟩
    · exact ⟨a, hd, by omega, by omega⟩
  obtain ⟨A, hA, hA1, hA2⟩ := hA
  refine ⟨_, hA, cpw (by decide) (by decide) (by decide), small, pick_at g3 (by decide) fun S4 x f4 g4 hx0 hx1 => ?_⟩
  have f5 := (f123.trans f4)
  refine dIx_p (p := fun d => ∃ W : Int, d = .int W ∧ 2 ≤ W ∧ W ≤ MOST + 1) hx0 (by show x < 5; exact hx1) ?_ fun d ⟨W, e, hW0, hW1⟩ => ?_
  · intro d hd
    simp only [List.mem_cons, List.not_mem_nil, or_false] at hd
    rcases hd with rfl | rfl | rfl | rfl | rfl <;> exact ⟨_, rfl, by decide, by decide⟩
  subst e
  walk_at "dl"
  have gF := f5.cell (.lst []) f.lt
  have lt0 : ∀ c : Cell, h < (S ++ [c]).length := fun c => by have := f.lt; rw [List.length_append]; omega
  refine ⟨small, h, n + 4, A, b, rfl, gF.at (lt0 _), by omega, by omega, by omega, by omega, fun S5 ls f6 hl hls => ?_⟩
  walk_at "dl"
  have eL : S4.length = S.length := f5.len
  rw [eL]
  have f7 := gF.trans f6
  refine for_l (fun i Γ S' => ∃ (t : List (List Int)) (o1 o2 : Option D), Γ = [some (.own h), some (.int a), some (.int b), some (.int A), some (.int W), some (.own S.length), o1, o2] ∧ Fs h (n + 4 + 10000 + 1000 * i) (S ++ [.lst (t.map rowD)]) S' ∧ t.length = i ∧ ∀ r ∈ t, 1 ≤ r.length ∧ r.length ≤ b ∧ ∀ x ∈ r, 0 ≤ x ∧ x ≤ MOST) ⟨[], _, _, rfl, f7, rfl, fun r hr => absurd hr (by simp)⟩ (fun i Γ' S' hi hp => ?_) fun Γ' S' hp => ?_
  · obtain ⟨t, o1, o2, rfl, fs, ht, hrow⟩ := hp
    rw [List.length_map] at hi
    rw [List.getElem_map]
    obtain ⟨hz1, hz2⟩ := hls _ (List.getElem_mem hi)
    obtain ⟨z, hz⟩ : ∃ z : Nat, ls[i] = z := ⟨(ls[i]).toNat, by omega⟩
    rw [hz] at hz1 hz2 ⊢
    walk_at "dl"
    obtain ⟨el, _⟩ := fs.last f.lt
    refine ⟨isLst_at el, by omega, by omega, ?_⟩
    refine lc_r0 (fun j acc S' => ∃ r : List Int, acc = r.map D.int ∧ Fs h (n + 4 + 10000 + 1000 * i + j) (S ++ [.lst (t.map rowD)]) S' ∧ r.length = j ∧ ∀ x ∈ r, 0 ≤ x ∧ x ≤ MOST) (small (by omega)) ⟨[], rfl, fs, rfl, fun x hx => absurd hx (by simp)⟩ (fun j acc S2 hj hp => ?_) fun acc S2 hp => ?_
    · obtain ⟨r, rfl, fr, hr, hrx⟩ := hp
      walk_at "dl"
      refine pick_at (fr.at (lt0 _)) (by omega) (fun S3 y f6 g6 hy0 hy1 => ⟨r ++ [y], by rw [List.map_append]; rfl, (fr.trans f6).mono (by omega), by rw [List.length_append, hr]; rfl, fun x hx => ?_⟩) (by omega) (Int.lt_of_le_of_lt hW1 (by decide))
      rcases List.mem_append.mp hx with hx | hx
      · exact hrx x hx
      · rw [List.mem_singleton.mp hx]; exact ⟨hy0, Int.le_of_lt_add_one (Int.lt_of_lt_of_le hy1 hW1)⟩
    · obtain ⟨r, rfl, fr, hr, hrx⟩ := hp
      walk_at "dl"
      obtain ⟨el, fl⟩ := fr.last f.lt
      refine ⟨_, el, by rw [List.length_map, ht]; have := small (n := a) (by omega); omega, t ++ [r], _, _, rfl, ?_, by rw [List.length_append, ht]; rfl, fun r' hr' => ?_⟩
      · have := fl (.lst (t.map rowD ++ [rowD r]))
        rw [List.map_append]
        exact this.mono (by omega)
      · rcases List.mem_append.mp hr' with hr' | hr'
        · exact hrow r' hr'
        · rw [List.mem_singleton.mp hr', hr]; exact ⟨by omega, by omega, hrx⟩
  · obtain ⟨t, o1, o2, rfl, fs, ht, hrow⟩ := hp
    rw [List.length_map, hl] at ht fs
    walk_at "dl"
    obtain ⟨el, fl⟩ := fs.last f.lt
    obtain ⟨S1', fs1, e1⟩ := (fl .gone).app f.lt
    refine ⟨_, el, ?_⟩
    rw [e1]
    exact ret_feed fs1 (by rw [D.low]; exact lowA_map _ _ (fun r => by rw [D.low]; exact lowA_ints _ _) t) (q _ t (fs1.mono (by omega)) (by omega) (by omega) hrow)
end DL
namespace DL
open PySem PySem.Spec PyProof.Rows L2
local macro_rules | `(tactic| walk_at "dl") => `(tactic| ((try simp only [gstart, gwipe, List.set_set, List.map_cons, List.map_nil, List.length_cons, List.length_nil, rep_0, rep_s, List.cons_append, List.nil_append, List.set_cons_zero, List.set_cons_succ, Nat.reduceAdd, Nat.reduceSub, Nat.zero_add, Nat.add_zero]); (try simp only [↓dv0, ↓dv1, ↓dv2, ↓dv3, ↓dv4, ↓dv5, ↓dv6, ↓dv7, ↓dv8, ↓dv9, ↓dv10, ↓dv11, ↓dv12, ↓dv13, ↓dv14, ↓dv15, ↓dv16, ↓dv17, ↓dv18, ↓dv19, ↓dv20, ↓dv21, ↓dv22, ↓dv23, ↓dv24, ↓dv25, ↓dv26, ↓dv27, ↓dv28, ↓dv29, ↓dv30, ↓dv31, ↓dv32, ↓dv33, ↓dv34, ↓dv35, ↓dv36, ↓dv37, ↓dv38, ↓dv39, ↓nm0, ↓nm1, ↓nm2, ↓nm3, ↓nm4, ↓nm5, ↓nm6, ↓nm7, ↓nm8, ↓nm9, ↓nm10, ↓nm11, ↓nm12, ↓nm13, ↓nm14, ↓nm15, ↓nm16, ↓nm17, ↓nm18, ↓nm19, ↓nm20, ↓nm21, ↓nm22, ↓nm23, ↓nm24, ↓nm25, ↓nm26, ↓nm27, ↓nm28, ↓nm29, ↓nm30, ↓nm31, ↓nm32, ↓nm33, ↓nm34, ↓nm35, ↓nm36, ↓nm37, ↓nm38, ↓nm39, ↓sPar_n, ↓sPar3_n, ↓sAug_n, ↓reduceIte, List.set_set, ↓sNext_e, ↓sSeq_e, ↓sBrk_e, ↓sCnt_e, ↓sDrop_e, ↓sRet_e, ↓sRetN_e, ↓sIf_e, ↓sAsg_e, ↓sRaise_e, ↓nmG_e, ↓tupG_e, ↓gsNil_e, ↓gsCons_e, ↓subG_e, ↓dC_e, ↓dOp_e, ↓dUn_e, ↓dChain_e, ↓bOf_e, ↓bAnd_e, ↓bOr_e, ↓bNot_e, ↓bYes_e, ↓dAnd_e, ↓dOr_e, ↓dNot_e, ↓dIf_e, ↓lNil_e, ↓lCons_e, ↓dLst_e, ↓dDic0_e, ↓dDic1_e, ↓dLenSetG_e, dIsB_b, ↓dLstO_e, ↓dTup_e, ↓dCB_e, ↓dCall_e, ↓dCallK_e, ↓oNone_e, ↓oSome_e, ↓dSl_e, ↓dBM_e, ↓dBM0_e, ↓dFz_e, ↓dFz2_e, ↓d2_e, ↓dLone_e, ↓lStar_e, ↓dCallA_e, ↓dMakeA_e, ↓dMakeV_e, ↓dMethA_e, ↓dCMethA_e, ↓dPropA_e, ↓dFld_e, ↓sFldS_e, ↓dFzI_e, ↓fzID_o, ↓dM1_e, ↓dM0_e, ↓dRev_e, ↓mSplit_s, ↓mUpper_s, ↓exStr, ↓exZ, ↓cStrI_i, ↓cIntS_s, ↓iStrD_e, ↓dEqF_s, ↓dNeF_s, ↓dEqF_i, ↓dNeF_i, ↓dSign_s, ↓sRaiseI_e, ↓dXFld_e, ↓mPop_e, ↓dAddO_l, ↓dAddO_o, ↓dMk0_e, ↓sKeep_e, ↓dCVal_e, ↓dConI_e, ↓cLen_s, ↓dIx_s, ↓dSlS_s, ↓dAdd_s, ↓cTup_l, ↓pkP_e, ↓pkS_e, ↓lstG_e, ↓asI_i, ↓iSeq_e, ↓iTupD_e, ↓iRg1_e, ↓iRg2_e, ↓iZipD_e, ↓iEnumD_e, ↓sFor_e, ↓dLc_e, ↓finF_e, ↓finO_e, ↓fzD_l, ↓fzD_i, ↓fzD_o, ↓fzD2_o, ↓dSetO_e, ↓mAppend_e, ↓mClear_e, ↓mReverse_e, List.map_cons, List.map_nil, List.length_cons, List.length_nil, rep_0, rep_s, List.cons_append, List.nil_append, List.getElem?_cons_zero, List.getElem?_cons_succ, List.set_cons_zero, List.set_cons_succ, Nat.reduceAdd, Nat.reduceSub, Nat.zero_add, Nat.add_zero, ↓exSS, ↓exB, ↓exI, ↓ex1, ↓ex2, ↓ex3, ↓exI1, ↓exI2, ↓exT, ↓exC, ↓exAs, ↓dAdd_i, ↓dAddI_i, ↓dSubI_i, ↓dLRg_e, ↓dIsiT_e, ↓dLenSet_e, ↓bChain3_e, ↓dLRg2_e, ↓iRg3_e, ↓dLc2_e, ↓dSlT_t, ↓dNew_e, ↓sDct_e, ↓dMulO_l, ↓dLRgO_e, ↓dAdd_l, ↓dSub_i, ↓dMul_i, ↓dMul_l, ↓dMod_i, ↓dDiv_i, ↓dPow_i, ↓dLt_i, ↓dLe_i, ↓dGt_i, ↓dGe_i, ↓uNeg_i, ↓cMax2_i, ↓cMin2_i, ↓cAbs_i, ↓cInt_i, ↓cInt_b, ↓cLen_l, ↓cLen_q, ↓cLen_t, ↓cList_l, ↓cList_q, ↓cList_t, ↓cListO_l, ↓cListO_t, ↓dIx_l, ↓dIx_q, ↓dIx_t, ↓dIx_o', ↓exS, ↓exL, at_1, at_2, at_3, at_4, ix30, ix31, ix32, ↓dSlL_l, ↓dSlL_q, ↓asQ_l, ↓asL_l, at_0, ↓isi_non_int, ↓isi_non_bool, ↓isi_non_str, ↓isi_non_list, ↓isi_non_tuple, ↓isi_non_dict, ↓isi_bl_int, ↓isi_bl_bool, ↓isi_bl_str, ↓isi_bl_list, ↓isi_bl_tuple, ↓isi_bl_dict, ↓isi_int_int, ↓isi_int_bool, ↓isi_int_str, ↓isi_int_list, ↓isi_int_tuple, ↓isi_int_dict, ↓isi_str_int, ↓isi_str_bool, ↓isi_str_str, ↓isi_str_list, ↓isi_str_tuple, ↓isi_str_dict, ↓isi_lst_int, ↓isi_lst_bool, ↓isi_lst_str, ↓isi_lst_list, ↓isi_lst_tuple, ↓isi_lst_dict, ↓isi_sq_int, ↓isi_sq_bool, ↓isi_sq_str, ↓isi_sq_list, ↓isi_sq_tuple, ↓isi_sq_dict, ↓isi_tup_int, ↓isi_tup_bool, ↓isi_tup_str, ↓isi_tup_list, ↓isi_tup_tuple, ↓isi_tup_dict, ↓isi_dic_int, ↓isi_dic_bool, ↓isi_dic_str, ↓isi_dic_list, ↓isi_dic_tuple, ↓isi_dic_dict, if_true, if_false, Bool.not_true, Bool.not_false, true_and, and_true, reduceCtorEq, Bool.true_eq_false, Bool.false_eq_true, ite_true, ite_false, ↓exAny, ↓isLst_l, Int.toNat_natCast, Int.reduceToNat, dVar_e, sPar_e, sPar3_e, sAug_e])))
local macro_rules | `(tactic| walk_at "dls") => `(tactic| ((try simp only [gstart, gwipe, List.set_set, List.map_cons, List.map_nil, List.length_cons, List.length_nil, rep_0, rep_s, List.cons_append, List.nil_append, List.set_cons_zero, List.set_cons_succ, Nat.reduceAdd, Nat.reduceSub, Nat.zero_add, Nat.add_zero]); (try simp only [*, ↓dv0, ↓dv1, ↓dv2, ↓dv3, ↓dv4, ↓dv5, ↓dv6, ↓dv7, ↓dv8, ↓dv9, ↓dv10, ↓dv11, ↓dv12, ↓dv13, ↓dv14, ↓dv15, ↓dv16, ↓dv17, ↓dv18, ↓dv19, ↓dv20, ↓dv21, ↓dv22, ↓dv23, ↓dv24, ↓dv25, ↓dv26, ↓dv27, ↓dv28, ↓dv29, ↓dv30, ↓dv31, ↓dv32, ↓dv33, ↓dv34, ↓dv35, ↓dv36, ↓dv37, ↓dv38, ↓dv39, ↓nm0, ↓nm1, ↓nm2, ↓nm3, ↓nm4, ↓nm5, ↓nm6, ↓nm7, ↓nm8, ↓nm9, ↓nm10, ↓nm11, ↓nm12, ↓nm13, ↓nm14, ↓nm15, ↓nm16, ↓nm17, ↓nm18, ↓nm19, ↓nm20, ↓nm21, ↓nm22, ↓nm23, ↓nm24, ↓nm25, ↓nm26, ↓nm27, ↓nm28, ↓nm29, ↓nm30, ↓nm31, ↓nm32, ↓nm33, ↓nm34, ↓nm35, ↓nm36, ↓nm37, ↓nm38, ↓nm39, ↓sPar_n, ↓sPar3_n, ↓sAug_n, ↓reduceIte, List.set_set, ↓sNext_e, ↓sSeq_e, ↓sBrk_e, ↓sCnt_e, ↓sDrop_e, ↓sRet_e, ↓sRetN_e, ↓sIf_e, ↓sAsg_e, ↓sRaise_e, ↓nmG_e, ↓tupG_e, ↓gsNil_e, ↓gsCons_e, ↓subG_e, ↓dC_e, ↓dOp_e, ↓dUn_e, ↓dChain_e, ↓bOf_e, ↓bAnd_e, ↓bOr_e, ↓bNot_e, ↓bYes_e, ↓dAnd_e, ↓dOr_e, ↓dNot_e, ↓dIf_e, ↓lNil_e, ↓lCons_e, ↓dLst_e, ↓dDic0_e, ↓dDic1_e, ↓dLenSetG_e, dIsB_b, ↓dLstO_e, ↓dTup_e, ↓dCB_e, ↓dCall_e, ↓dCallK_e, ↓oNone_e, ↓oSome_e, ↓dSl_e, ↓dBM_e, ↓dBM0_e, ↓dFz_e, ↓dFz2_e, ↓d2_e, ↓dLone_e, ↓lStar_e, ↓dCallA_e, ↓dMakeA_e, ↓dMakeV_e, ↓dMethA_e, ↓dCMethA_e, ↓dPropA_e, ↓dFld_e, ↓sFldS_e, ↓dFzI_e, ↓fzID_o, ↓dM1_e, ↓dM0_e, ↓dRev_e, ↓mSplit_s, ↓mUpper_s, ↓exStr, ↓exZ, ↓cStrI_i, ↓cIntS_s, ↓iStrD_e, ↓dEqF_s, ↓dNeF_s, ↓dEqF_i, ↓dNeF_i, ↓dSign_s, ↓sRaiseI_e, ↓dXFld_e, ↓mPop_e, ↓dAddO_l, ↓dAddO_o, ↓dMk0_e, ↓sKeep_e, ↓dCVal_e, ↓dConI_e, ↓cLen_s, ↓dIx_s, ↓dSlS_s, ↓dAdd_s, ↓cTup_l, ↓pkP_e, ↓pkS_e, ↓lstG_e, ↓asI_i, ↓iSeq_e, ↓iTupD_e, ↓iRg1_e, ↓iRg2_e, ↓iZipD_e, ↓iEnumD_e, ↓sFor_e, ↓dLc_e, ↓finF_e, ↓finO_e, ↓fzD_l, ↓fzD_i, ↓fzD_o, ↓fzD2_o, ↓dSetO_e, ↓mAppend_e, ↓mClear_e, ↓mReverse_e, List.map_cons, List.map_nil, List.length_cons, List.length_nil, rep_0, rep_s, List.cons_append, List.nil_append, List.getElem?_cons_zero, List.getElem?_cons_succ, List.set_cons_zero, List.set_cons_succ, Nat.reduceAdd, Nat.reduceSub, Nat.zero_add, Nat.add_zero, ↓exSS, ↓exB, ↓exI, ↓ex1, ↓ex2, ↓ex3, ↓exI1, ↓exI2, ↓exT, ↓exC, ↓exAs, ↓dAdd_i, ↓dAddI_i, ↓dSubI_i, ↓dLRg_e, ↓dIsiT_e, ↓dLenSet_e, ↓bChain3_e, ↓dLRg2_e, ↓iRg3_e, ↓dLc2_e, ↓dSlT_t, ↓dNew_e, ↓sDct_e, ↓dMulO_l, ↓dLRgO_e, ↓dAdd_l, ↓dSub_i, ↓dMul_i, ↓dMul_l, ↓dMod_i, ↓dDiv_i, ↓dPow_i, ↓dLt_i, ↓dLe_i, ↓dGt_i, ↓dGe_i, ↓uNeg_i, ↓cMax2_i, ↓cMin2_i, ↓cAbs_i, ↓cInt_i, ↓cInt_b, ↓cLen_l, ↓cLen_q, ↓cLen_t, ↓cList_l, ↓cList_q, ↓cList_t, ↓cListO_l, ↓cListO_t, ↓dIx_l, ↓dIx_q, ↓dIx_t, ↓dIx_o', ↓exS, ↓exL, at_1, at_2, at_3, at_4, ix30, ix31, ix32, ↓dSlL_l, ↓dSlL_q, ↓asQ_l, ↓asL_l, at_0, ↓isi_non_int, ↓isi_non_bool, ↓isi_non_str, ↓isi_non_list, ↓isi_non_tuple, ↓isi_non_dict, ↓isi_bl_int, ↓isi_bl_bool, ↓isi_bl_str, ↓isi_bl_list, ↓isi_bl_tuple, ↓isi_bl_dict, ↓isi_int_int, ↓isi_int_bool, ↓isi_int_str, ↓isi_int_list, ↓isi_int_tuple, ↓isi_int_dict, ↓isi_str_int, ↓isi_str_bool, ↓isi_str_str, ↓isi_str_list, ↓isi_str_tuple, ↓isi_str_dict, ↓isi_lst_int, ↓isi_lst_bool, ↓isi_lst_str, ↓isi_lst_list, ↓isi_lst_tuple, ↓isi_lst_dict, ↓isi_sq_int, ↓isi_sq_bool, ↓isi_sq_str, ↓isi_sq_list, ↓isi_sq_tuple, ↓isi_sq_dict, ↓isi_tup_int, ↓isi_tup_bool, ↓isi_tup_str, ↓isi_tup_list, ↓isi_tup_tuple, ↓isi_tup_dict, ↓isi_dic_int, ↓isi_dic_bool, ↓isi_dic_str, ↓isi_dic_list, ↓isi_dic_tuple, ↓isi_dic_dict, if_true, if_false, Bool.not_true, Bool.not_false, true_and, and_true, reduceCtorEq, Bool.true_eq_false, Bool.false_eq_true, ite_true, ite_false, ↓exAny, ↓isLst_l, Int.toNat_natCast, Int.reduceToNat, dVar_e, sPar_e, sPar3_e, sAug_e])))
--MC
theorem tab_at {t : List (List Int)} {i : Nat} (h : i < t.length) : t.getD i [] = t[i] := by
  rw [List.getD_eq_getElem?_getD, List.getElem?_eq_getElem h]
  rfl
theorem asI_app {S T : Sto} {d : D} {C : Addr} {fs : List (Str × D)} (e : asI S d = some (C, fs)) : asI (S ++ T) d = some (C, fs) := by
  cases d with
  | ins C' fs' => exact e
  | own h =>
    have e : (match S[h]? with | some (.ins C fs) => some (C, fs) | _ => none) = some (C, fs) := e
    split at e
    · cases e
      exact asI_own (get_app (by assumption))
    · cases e
  | _ => cases e
theorem inB_of {v lo hi : Int} (h : lo ≤ v) (h2 : v ≤ hi) : inB v lo hi = true := by unfold inB; rw [decide_eq_true h, decide_eq_true h2]; rfl
theorem p_is_integer : Rets sp_is_integer T_is_integer N_is_integer := by
  rintro _ S Φ Ψ ⟨v, lo, hi, rfl, pl, h⟩
  unfold T_is_integer
  cases pl with
  | int v =>
    walk_at "dl"
    have h : Φ S (.bl (inB v lo hi)) := h
    unfold inB at h
    by_cases c : lo ≤ v
    · rw [if_pos (by rw [decide_eq_true_eq]; exact c)]
      rw [decide_eq_true c, Bool.true_and] at h
      exact ret_now h
    · rw [if_neg (by rw [decide_eq_true_eq]; exact c)]
      rw [decide_eq_false c, Bool.false_and] at h
      exact ret_now h
  | _ => walk_at "dl"; exact ret_now h
theorem p_is_cell : Rets sp_is_cell T_is_cell N_is_cell := by
  rintro _ S Φ Ψ ⟨v, rfl, pl, h⟩
  unfold T_is_cell
  walk_at "dl"
  exact ⟨_, _, _, rfl, pl, ret_now h⟩
theorem p_is_line : Rets sp_is_line T_is_line N_is_line := by
  rintro _ S Φ Ψ ⟨v, rfl, pl, h⟩
  unfold T_is_line
  cases pl with
  | lst ds hd =>
    walk_at "dl"
    unfold lineB at h
    dsimp only at h
    by_cases c1 : 1 ≤ ds.length
    · rw [if_pos (by rw [decide_eq_true_eq]; omega)]
      rw [decide_eq_true c1, Bool.true_and] at h
      by_cases c2 : ds.length ≤ 12
      · rw [decide_eq_true c2, Bool.true_and] at h
        rw [if_pos (by rw [decide_eq_true_eq]; omega)]
        refine lc_idS ds (fun x => .bl (intIn x 0 GREAT)) rfl (small (by omega)) (fun x hx R hR => ?_) ?_
        · walk_at "dl"
          exact ⟨x, rfl, hd x hx, hR⟩
        · walk_at "dl"
          refine all_map ds (fun x => intIn x 0 GREAT) (ret_now h)
      · rw [decide_eq_false c2, Bool.false_and] at h
        rw [if_neg (by rw [decide_eq_true_eq]; omega)]
        exact ret_now h
    · rw [decide_eq_false c1, Bool.false_and] at h
      rw [if_neg (by rw [decide_eq_true_eq]; omega)]
      exact ret_now h
  | _ => walk_at "dl"; exact ret_now h
theorem p_is_table : Rets sp_is_table T_is_table N_is_table := by
  rintro _ S Φ Ψ ⟨v, rfl, pl, h⟩
  unfold T_is_table
  cases pl with
  | lst ds hd =>
    walk_at "dl"
    unfold tableB at h
    dsimp only at h
    by_cases c1 : 1 ≤ ds.length
    · rw [if_pos (by rw [decide_eq_true_eq]; omega)]
      rw [decide_eq_true c1, Bool.true_and] at h
      by_cases c2 : ds.length ≤ 60
      · rw [decide_eq_true c2, Bool.true_and] at h
        rw [if_pos (by rw [decide_eq_true_eq]; omega)]
        refine lc_idS ds (fun x => .bl (lineB x)) rfl (small (by omega)) (fun x hx R hR => ?_) ?_
        · walk_at "dl"
          exact ⟨x, rfl, hd x hx, hR⟩
        · walk_at "dl"
          refine all_map ds lineB (ret_now h)
      · rw [decide_eq_false c2, Bool.false_and] at h
        rw [if_neg (by rw [decide_eq_true_eq]; omega)]
        exact ret_now h
    · rw [decide_eq_false c1, Bool.false_and] at h
      rw [if_neg (by rw [decide_eq_true_eq]; omega)]
      exact ret_now h
  | _ => walk_at "dl"; exact ret_now h
theorem lineB_row {r : List Int} (h : RowOk r) : lineB (rowD r) = true := by
  show (decide (1 ≤ (r.map D.int).length) && (decide ((r.map D.int).length ≤ 12) && (r.map D.int).all fun d => intIn d 0 GREAT)) = true
  have h1 := h.lo
  have h2 := h.hi
  rw [List.length_map, decide_eq_true h1, decide_eq_true h2, Bool.true_and, Bool.true_and, List.all_eq_true]
  intro d hd
  obtain ⟨x, hx, rfl⟩ := List.mem_map.mp hd
  exact inB_of (h.at_ x hx).1 (h.at_ x hx).2
theorem tableB_tab {t : List (List Int)} (h : TabOk t) : tableB (tabD t) = true := by
  show (decide (1 ≤ (t.map rowD).length) && (decide ((t.map rowD).length ≤ 60) && (t.map rowD).all lineB)) = true
  have h1 := h.lo
  have h2 := h.hi
  rw [List.length_map, decide_eq_true h1, decide_eq_true h2, Bool.true_and, Bool.true_and, List.all_eq_true]
  intro d hd
  obtain ⟨x, hx, rfl⟩ := List.mem_map.mp hd
  exact lineB_row (h.row x hx)
theorem pln_row (r : List Int) : Pln (rowD r) := .lst _ fun d hd => by
  obtain ⟨x, _, rfl⟩ := List.mem_map.mp hd
  exact .int x
theorem pln_tab (t : List (List Int)) : Pln (tabD t) := .lst _ fun d hd => by
  obtain ⟨x, _, rfl⟩ := List.mem_map.mp hd
  exact pln_row x
theorem tabX_ok {t : List (List Int)} (h : TabOk t) : TabX (tabD t) := ⟨pln_tab t, .inr ⟨t, rfl, h⟩⟩
theorem p_need_table (T) : Rets (sp_need_table T) (T_need_table T) N_need_table := by
  rintro _ S Φ Ψ ⟨x, rfl, ⟨pl, _⟩, no, ok⟩
  unfold T_need_table
  walk_at "dl"
  refine ⟨x, rfl, pl, ?_⟩
  cases hb : tableB x with
  | false => walk_at "dl"; exact .inl (no hb)
  | true => walk_at "dl"; exact ret_now (ok hb)
theorem need_tab {T : Addr} {x : D} {S : Sto} {Φ : KD} {Ψ : KX} (tx : TabX x) (no : tableB x = false → Ψ S ⟨T, []⟩) (ok : ∀ t, x = tabD t → TabOk t → Φ S .non) : sp_need_table T [x] S Φ Ψ := by
  refine ⟨x, rfl, tx, no, fun h => ?_⟩
  rcases tx.2 with z | ⟨t, e, o⟩
  · rw [z] at h; cases h
  · exact ok t e o
theorem in_words (w : Str) : inD (.str w) (kindsL.map D.str) = decide (w ∈ kindsL) := by
  unfold inD
  rw [Bool.eq_iff_iff, List.any_eq_true, decide_eq_true_eq]
  constructor
  · rintro ⟨d, hd, e⟩
    obtain ⟨x, hx, rfl⟩ := List.mem_map.mp hd
    have : (x == w) = true := e
    rw [beq_iff_eq] at this
    exact this ▸ hx
  · intro h
    exact ⟨.str w, List.mem_map.mpr ⟨w, h, rfl⟩, show (w == w) = true from beq_self_eq_true w⟩
theorem p_are_kinds (C : Addr) : Rets sp_are_kinds (T_are_kinds C) N_are_kinds := by
  rintro _ S Φ Ψ ⟨ks, rfl, h1, h2, hk, h⟩
  unfold T_are_kinds
  walk_at "dl"
  rw [List.length_map]
  rw [if_pos (by rw [decide_eq_true_eq]; omega), if_neg (by rw [Bool.not_eq_true', decide_eq_false_iff_not]; omega)]
  refine lc_map ks D.str (fun _ => .bl true) (small (by omega)) (fun k hk' R hR => ?_) ?_
  · walk_at "dl"
    refine ⟨C, rfl, _, .head _, _, rfl, rfl, rfl, ?_⟩
    rw [if_neg Bool.false_ne_true]
    show R S (.bl (inD (.str k) (kindsL.map D.str)))
    rw [in_words, decide_eq_true (hk k hk')]
    exact hR
  · walk_at "dl"
    refine all_map ks (fun _ => true) ?_
    rw [show (ks.all fun _ => true) = true from by simp]
    exact ret_now h
theorem p_Style___init__ (I C : Addr) : Rets (sp_Style___init__ C) (T_Style___init__ I C) N_Style___init__ := by
  rintro _ S Φ Ψ ⟨h, ks, g, l, rfl, eh, ok, q⟩
  unfold T_Style___init__
  walk_at "dl"
  have es : ∀ c, (S.set h c)[h]? = some c := fun c => List.getElem?_set_self (List.getElem?_eq_some_iff.mp eh).1
  refine joinD (fun S' d => S' = S ∧ d = .lst ((kindsOr ks).map D.str)) (fun S' d ⟨e1, e2⟩ => ?_) fun N hN => ?_
  · subst e1
    subst e2
    refine ⟨_, rfl, ok.lo, ok.hi, ok.at_, true, rfl, ?_⟩
    rw [if_neg (by decide)]
    refine ⟨.int g, rfl, .int g, true, by rw [show intIn (.int g) 0 GREAT = inB g 0 GREAT from rfl, inB_of ok.g0 ok.g1], ?_⟩
    rw [if_neg (by decide)]
    refine ⟨.int l, rfl, .int l, true, by rw [show intIn (.int l) 0 GREAT = inB l 0 GREAT from rfl, inB_of ok.l0 ok.l1], ?_⟩
    rw [if_neg (by decide)]
    refine ⟨h, [], rfl, eh, by decide, h, _, rfl, es _, by show (1 : Nat) < 1000; decide, h, _, rfl, by rw [List.set_set]; exact es _, by show (2 : Nat) < 1000; decide, ?_⟩
    rw [List.set_set, List.set_set]
    exact ret_now q
  · walk_at "dl"
    rw [List.length_map]
    cases ks with
    | nil =>
      rw [if_neg (by decide)]
      exact ⟨small, hN _ _ ⟨rfl, rfl⟩⟩
    | cons k r =>
      rw [if_pos (by rw [decide_eq_true_eq, List.length_cons]; omega)]
      exact hN _ _ ⟨rfl, rfl⟩
theorem p_Style_of (I C : Addr) : Rets (sp_Style_of C) (T_Style_of I C) N_Style_of := by
  rintro _ S Φ Ψ ⟨ks, g, l, rfl, ok, q⟩
  unfold T_Style_of
  walk_at "dl"
  have e : kindsOr ks = ks := by
    unfold kindsOr
    rw [if_neg (fun e => by have := ok.lo; rw [e] at this; simp at this)]
  refine ⟨_, rfl, ok.lo, ok.hi, ok.at_, true, rfl, ?_⟩
  rw [if_neg (by decide)]
  refine ⟨_, rfl, rfl, by simp, small (by show (ks.map D.str).length ≤ _; rw [List.length_map]; have := ok.hi; omega), _, ks, _, _, rfl, get_at, by rw [e]; exact ok, rfl, ?_⟩
  rw [set_at, e]
  exact ret_now q
theorem p_Style_gap (C : Addr) : Rets (sp_Style_gap C) (T_Style_gap C) N_Style_gap := by
  rintro _ S Φ Ψ ⟨d, ks, g, l, rfl, e, h⟩
  unfold T_Style_gap
  walk_at "dl"
  exact ⟨_, e, _, rfl, ret_now h⟩
theorem p_Style_least (C : Addr) : Rets (sp_Style_least C) (T_Style_least C) N_Style_least := by
  rintro _ S Φ Ψ ⟨d, ks, g, l, rfl, e, h⟩
  unfold T_Style_least
  walk_at "dl"
  exact ⟨_, e, _, rfl, ret_now h⟩
end DL
namespace DL
open PySem PySem.Spec PyProof.Rows L2
local macro_rules | `(tactic| walk_at "dl") => `(tactic| ((try simp only [gstart, gwipe, List.set_set, List.map_cons, List.map_nil, List.length_cons, List.length_nil, rep_0, rep_s, List.cons_append, List.nil_append, List.set_cons_zero, List.set_cons_succ, Nat.reduceAdd, Nat.reduceSub, Nat.zero_add, Nat.add_zero]); (try simp only [↓dv0, ↓dv1, ↓dv2, ↓dv3, ↓dv4, ↓dv5, ↓dv6, ↓dv7, ↓dv8, ↓dv9, ↓dv10, ↓dv11, ↓dv12, ↓dv13, ↓dv14, ↓dv15, ↓dv16, ↓dv17, ↓dv18, ↓dv19, ↓dv20, ↓dv21, ↓dv22, ↓dv23, ↓dv24, ↓dv25, ↓dv26, ↓dv27, ↓dv28, ↓dv29, ↓dv30, ↓dv31, ↓dv32, ↓dv33, ↓dv34, ↓dv35, ↓dv36, ↓dv37, ↓dv38, ↓dv39, ↓nm0, ↓nm1, ↓nm2, ↓nm3, ↓nm4, ↓nm5, ↓nm6, ↓nm7, ↓nm8, ↓nm9, ↓nm10, ↓nm11, ↓nm12, ↓nm13, ↓nm14, ↓nm15, ↓nm16, ↓nm17, ↓nm18, ↓nm19, ↓nm20, ↓nm21, ↓nm22, ↓nm23, ↓nm24, ↓nm25, ↓nm26, ↓nm27, ↓nm28, ↓nm29, ↓nm30, ↓nm31, ↓nm32, ↓nm33, ↓nm34, ↓nm35, ↓nm36, ↓nm37, ↓nm38, ↓nm39, ↓sPar_n, ↓sPar3_n, ↓sAug_n, ↓reduceIte, List.set_set, ↓sNext_e, ↓sSeq_e, ↓sBrk_e, ↓sCnt_e, ↓sDrop_e, ↓sRet_e, ↓sRetN_e, ↓sIf_e, ↓sAsg_e, ↓sRaise_e, ↓nmG_e, ↓tupG_e, ↓gsNil_e, ↓gsCons_e, ↓subG_e, ↓dC_e, ↓dOp_e, ↓dUn_e, ↓dChain_e, ↓bOf_e, ↓bAnd_e, ↓bOr_e, ↓bNot_e, ↓bYes_e, ↓dAnd_e, ↓dOr_e, ↓dNot_e, ↓dIf_e, ↓lNil_e, ↓lCons_e, ↓dLst_e, ↓dDic0_e, ↓dDic1_e, ↓dLenSetG_e, dIsB_b, ↓dLstO_e, ↓dTup_e, ↓dCB_e, ↓dCall_e, ↓dCallK_e, ↓oNone_e, ↓oSome_e, ↓dSl_e, ↓dBM_e, ↓dBM0_e, ↓dFz_e, ↓dFz2_e, ↓d2_e, ↓dLone_e, ↓lStar_e, ↓dCallA_e, ↓dMakeA_e, ↓dMakeV_e, ↓dMethA_e, ↓dCMethA_e, ↓dPropA_e, ↓dFld_e, ↓sFldS_e, ↓dFzI_e, ↓fzID_o, ↓dM1_e, ↓dM0_e, ↓dRev_e, ↓mSplit_s, ↓mUpper_s, ↓exStr, ↓exZ, ↓cStrI_i, ↓cIntS_s, ↓iStrD_e, ↓dEqF_s, ↓dNeF_s, ↓dEqF_i, ↓dNeF_i, ↓dSign_s, ↓sRaiseI_e, ↓dXFld_e, ↓mPop_e, ↓dAddO_l, ↓dAddO_o, ↓dMk0_e, ↓sKeep_e, ↓sTryH_e, ↓dCVal_e, ↓dConI_e, ↓cLen_s, ↓dIx_s, ↓dSlS_s, ↓dAdd_s, ↓cTup_l, ↓pkP_e, ↓pkS_e, ↓lstG_e, ↓asI_i, ↓iSeq_e, ↓iTupD_e, ↓iRg1_e, ↓iRg2_e, ↓iZipD_e, ↓iEnumD_e, ↓sFor_e, ↓dLc_e, ↓finF_e, ↓finO_e, ↓fzD_l, ↓fzD_i, ↓fzD_o, ↓fzD2_o, ↓dSetO_e, ↓mAppend_e, ↓mClear_e, ↓mReverse_e, List.map_cons, List.map_nil, List.length_cons, List.length_nil, rep_0, rep_s, List.cons_append, List.nil_append, List.getElem?_cons_zero, List.getElem?_cons_succ, List.set_cons_zero, List.set_cons_succ, Nat.reduceAdd, Nat.reduceSub, Nat.zero_add, Nat.add_zero, ↓exSS, ↓exB, ↓exI, ↓ex1, ↓ex2, ↓ex3, ↓exI1, ↓exI2, ↓exT, ↓exC, ↓exAs, ↓dAdd_i, ↓dAddI_i, ↓dSubI_i, ↓dLRg_e, ↓dIsiT_e, ↓dLenSet_e, ↓bChain3_e, ↓dLRg2_e, ↓iRg3_e, ↓dLc2_e, ↓dSlT_t, ↓dNew_e, ↓sDct_e, ↓dMulO_l, ↓dLRgO_e, ↓dAdd_l, ↓dSub_i, ↓dMul_i, ↓dMul_l, ↓dMod_i, ↓dDiv_i, ↓dPow_i, ↓dLt_i, ↓dLe_i, ↓dGt_i, ↓dGe_i, ↓uNeg_i, ↓cMax2_i, ↓cMin2_i, ↓cAbs_i, ↓cInt_i, ↓cInt_b, ↓cLen_l, ↓cLen_q, ↓cLen_t, ↓cList_l, ↓cList_q, ↓cList_t, ↓cListO_l, ↓cListO_t, ↓dIx_l, ↓dIx_q, ↓dIx_t, ↓dIx_o', ↓exS, ↓exL, at_1, at_2, at_3, at_4, ix30, ix31, ix32, ↓dSlL_l, ↓dSlL_q, ↓asQ_l, ↓asL_l, at_0, ↓isi_non_int, ↓isi_non_bool, ↓isi_non_str, ↓isi_non_list, ↓isi_non_tuple, ↓isi_non_dict, ↓isi_bl_int, ↓isi_bl_bool, ↓isi_bl_str, ↓isi_bl_list, ↓isi_bl_tuple, ↓isi_bl_dict, ↓isi_int_int, ↓isi_int_bool, ↓isi_int_str, ↓isi_int_list, ↓isi_int_tuple, ↓isi_int_dict, ↓isi_str_int, ↓isi_str_bool, ↓isi_str_str, ↓isi_str_list, ↓isi_str_tuple, ↓isi_str_dict, ↓isi_lst_int, ↓isi_lst_bool, ↓isi_lst_str, ↓isi_lst_list, ↓isi_lst_tuple, ↓isi_lst_dict, ↓isi_sq_int, ↓isi_sq_bool, ↓isi_sq_str, ↓isi_sq_list, ↓isi_sq_tuple, ↓isi_sq_dict, ↓isi_tup_int, ↓isi_tup_bool, ↓isi_tup_str, ↓isi_tup_list, ↓isi_tup_tuple, ↓isi_tup_dict, ↓isi_dic_int, ↓isi_dic_bool, ↓isi_dic_str, ↓isi_dic_list, ↓isi_dic_tuple, ↓isi_dic_dict, if_true, if_false, Bool.not_true, Bool.not_false, true_and, and_true, reduceCtorEq, Bool.true_eq_false, Bool.false_eq_true, ite_true, ite_false, ↓exAny, ↓isLst_l, Int.toNat_natCast, Int.reduceToNat, dVar_e, sPar_e, sPar3_e, sAug_e])))
local macro_rules | `(tactic| walk_at "dls") => `(tactic| ((try simp only [gstart, gwipe, List.set_set, List.map_cons, List.map_nil, List.length_cons, List.length_nil, rep_0, rep_s, List.cons_append, List.nil_append, List.set_cons_zero, List.set_cons_succ, Nat.reduceAdd, Nat.reduceSub, Nat.zero_add, Nat.add_zero]); (try simp only [*, ↓dv0, ↓dv1, ↓dv2, ↓dv3, ↓dv4, ↓dv5, ↓dv6, ↓dv7, ↓dv8, ↓dv9, ↓dv10, ↓dv11, ↓dv12, ↓dv13, ↓dv14, ↓dv15, ↓dv16, ↓dv17, ↓dv18, ↓dv19, ↓dv20, ↓dv21, ↓dv22, ↓dv23, ↓dv24, ↓dv25, ↓dv26, ↓dv27, ↓dv28, ↓dv29, ↓dv30, ↓dv31, ↓dv32, ↓dv33, ↓dv34, ↓dv35, ↓dv36, ↓dv37, ↓dv38, ↓dv39, ↓nm0, ↓nm1, ↓nm2, ↓nm3, ↓nm4, ↓nm5, ↓nm6, ↓nm7, ↓nm8, ↓nm9, ↓nm10, ↓nm11, ↓nm12, ↓nm13, ↓nm14, ↓nm15, ↓nm16, ↓nm17, ↓nm18, ↓nm19, ↓nm20, ↓nm21, ↓nm22, ↓nm23, ↓nm24, ↓nm25, ↓nm26, ↓nm27, ↓nm28, ↓nm29, ↓nm30, ↓nm31, ↓nm32, ↓nm33, ↓nm34, ↓nm35, ↓nm36, ↓nm37, ↓nm38, ↓nm39, ↓sPar_n, ↓sPar3_n, ↓sAug_n, ↓reduceIte, List.set_set, ↓sNext_e, ↓sSeq_e, ↓sBrk_e, ↓sCnt_e, ↓sDrop_e, ↓sRet_e, ↓sRetN_e, ↓sIf_e, ↓sAsg_e, ↓sRaise_e, ↓nmG_e, ↓tupG_e, ↓gsNil_e, ↓gsCons_e, ↓subG_e, ↓dC_e, ↓dOp_e, ↓dUn_e, ↓dChain_e, ↓bOf_e, ↓bAnd_e, ↓bOr_e, ↓bNot_e, ↓bYes_e, ↓dAnd_e, ↓dOr_e, ↓dNot_e, ↓dIf_e, ↓lNil_e, ↓lCons_e, ↓dLst_e, ↓dDic0_e, ↓dDic1_e, ↓dLenSetG_e, dIsB_b, ↓dLstO_e, ↓dTup_e, ↓dCB_e, ↓dCall_e, ↓dCallK_e, ↓oNone_e, ↓oSome_e, ↓dSl_e, ↓dBM_e, ↓dBM0_e, ↓dFz_e, ↓dFz2_e, ↓d2_e, ↓dLone_e, ↓lStar_e, ↓dCallA_e, ↓dMakeA_e, ↓dMakeV_e, ↓dMethA_e, ↓dCMethA_e, ↓dPropA_e, ↓dFld_e, ↓sFldS_e, ↓dFzI_e, ↓fzID_o, ↓dM1_e, ↓dM0_e, ↓dRev_e, ↓mSplit_s, ↓mUpper_s, ↓exStr, ↓exZ, ↓cStrI_i, ↓cIntS_s, ↓iStrD_e, ↓dEqF_s, ↓dNeF_s, ↓dEqF_i, ↓dNeF_i, ↓dSign_s, ↓sRaiseI_e, ↓dXFld_e, ↓mPop_e, ↓dAddO_l, ↓dAddO_o, ↓dMk0_e, ↓sKeep_e, ↓sTryH_e, ↓dCVal_e, ↓dConI_e, ↓cLen_s, ↓dIx_s, ↓dSlS_s, ↓dAdd_s, ↓cTup_l, ↓pkP_e, ↓pkS_e, ↓lstG_e, ↓asI_i, ↓iSeq_e, ↓iTupD_e, ↓iRg1_e, ↓iRg2_e, ↓iZipD_e, ↓iEnumD_e, ↓sFor_e, ↓dLc_e, ↓finF_e, ↓finO_e, ↓fzD_l, ↓fzD_i, ↓fzD_o, ↓fzD2_o, ↓dSetO_e, ↓mAppend_e, ↓mClear_e, ↓mReverse_e, List.map_cons, List.map_nil, List.length_cons, List.length_nil, rep_0, rep_s, List.cons_append, List.nil_append, List.getElem?_cons_zero, List.getElem?_cons_succ, List.set_cons_zero, List.set_cons_succ, Nat.reduceAdd, Nat.reduceSub, Nat.zero_add, Nat.add_zero, ↓exSS, ↓exB, ↓exI, ↓ex1, ↓ex2, ↓ex3, ↓exI1, ↓exI2, ↓exT, ↓exC, ↓exAs, ↓dAdd_i, ↓dAddI_i, ↓dSubI_i, ↓dLRg_e, ↓dIsiT_e, ↓dLenSet_e, ↓bChain3_e, ↓dLRg2_e, ↓iRg3_e, ↓dLc2_e, ↓dSlT_t, ↓dNew_e, ↓sDct_e, ↓dMulO_l, ↓dLRgO_e, ↓dAdd_l, ↓dSub_i, ↓dMul_i, ↓dMul_l, ↓dMod_i, ↓dDiv_i, ↓dPow_i, ↓dLt_i, ↓dLe_i, ↓dGt_i, ↓dGe_i, ↓uNeg_i, ↓cMax2_i, ↓cMin2_i, ↓cAbs_i, ↓cInt_i, ↓cInt_b, ↓cLen_l, ↓cLen_q, ↓cLen_t, ↓cList_l, ↓cList_q, ↓cList_t, ↓cListO_l, ↓cListO_t, ↓dIx_l, ↓dIx_q, ↓dIx_t, ↓dIx_o', ↓exS, ↓exL, at_1, at_2, at_3, at_4, ix30, ix31, ix32, ↓dSlL_l, ↓dSlL_q, ↓asQ_l, ↓asL_l, at_0, ↓isi_non_int, ↓isi_non_bool, ↓isi_non_str, ↓isi_non_list, ↓isi_non_tuple, ↓isi_non_dict, ↓isi_bl_int, ↓isi_bl_bool, ↓isi_bl_str, ↓isi_bl_list, ↓isi_bl_tuple, ↓isi_bl_dict, ↓isi_int_int, ↓isi_int_bool, ↓isi_int_str, ↓isi_int_list, ↓isi_int_tuple, ↓isi_int_dict, ↓isi_str_int, ↓isi_str_bool, ↓isi_str_str, ↓isi_str_list, ↓isi_str_tuple, ↓isi_str_dict, ↓isi_lst_int, ↓isi_lst_bool, ↓isi_lst_str, ↓isi_lst_list, ↓isi_lst_tuple, ↓isi_lst_dict, ↓isi_sq_int, ↓isi_sq_bool, ↓isi_sq_str, ↓isi_sq_list, ↓isi_sq_tuple, ↓isi_sq_dict, ↓isi_tup_int, ↓isi_tup_bool, ↓isi_tup_str, ↓isi_tup_list, ↓isi_tup_tuple, ↓isi_tup_dict, ↓isi_dic_int, ↓isi_dic_bool, ↓isi_dic_str, ↓isi_dic_list, ↓isi_dic_tuple, ↓isi_dic_dict, if_true, if_false, Bool.not_true, Bool.not_false, true_and, and_true, reduceCtorEq, Bool.true_eq_false, Bool.false_eq_true, ite_true, ite_false, ↓exAny, ↓isLst_l, Int.toNat_natCast, Int.reduceToNat, dVar_e, sPar_e, sPar3_e, sAug_e])))
--MD
theorem TabOk.cells {t : List (List Int)} (ok : TabOk t) : CellsIn t GREAT := fun r hr x hx => (ok.row r hr).at_ x hx
theorem no_edge_of {C : Addr} : ∀ ds S Φ Ψ, ¬ sp_edge_of 0 C ds S Φ Ψ := by
  rintro ds S Φ Ψ ⟨d, s, t, ks, g, l, f, z, c, b, _, _, _, _, _, hf, _, h, _⟩
  have := h f (Nat.le_refl _) hf
  omega
theorem sub_len {t : List (List Int)} {f z c : Nat} (h : z < t.length) : (subT t f z c).length = z + 1 - f := by
  unfold subT
  rw [List.length_map, List.length_take, List.length_drop]
  omega
theorem sub_get {t : List (List Int)} {f z c k : Nat} (h : k < (subT t f z c).length) (h2 : f + k < t.length) : (subT t f z c)[k] = (t[f + k]).drop c := by
  simp [subT]
theorem sub_tail {t : List (List Int)} {f z c k i : Nat} (hz : z < t.length) (hi : k + i ≤ z + 1 - f) (h1 : 1 ≤ i) : subT t (f + k) (f + k + i - 1) (c + 1) = (((subT t f z c).drop k).take i).map List.tail := by
  unfold subT
  rw [← List.map_drop, ← List.map_take, List.map_map, List.drop_take, List.drop_drop, List.take_take, show f + k + i - 1 + 1 - (f + k) = i by omega, show min i (z + 1 - f - k) = i by omega]
  apply List.map_congr_left
  intro r _
  show r.drop (c + 1) = (r.drop c).tail
  rw [List.tail_drop]
theorem headM_snoc (l : Int) : ∀ (A : List (List Int)) (r : List Int), headM l (A ++ [r]) = max (headM l A) (r.headD 0)
  | [], r => by show max (r.headD 0) l = max l _; omega
  | a :: A, r => by
    show max (a.headD 0) (headM l (A ++ [r])) = max (max (a.headD 0) (headM l A)) (r.headD 0)
    rw [headM_snoc l A r]
    omega
theorem ends_pos {g l : Int} {t : List (List Int)} (g0 : 0 ≤ g) (g1 : g ≤ GREAT) (l0 : 0 ≤ l) (l1 : l ≤ GREAT) (h : CellsIn t GREAT) (h2 : ∀ r ∈ t, r.length ≤ 12) : ∀ y ∈ endsF g l t, 0 ≤ y := by
  intro y hy
  unfold endsF at hy
  obtain ⟨j, hj, rfl⟩ := List.mem_map.mp hy
  have hj := List.mem_range.mp hj
  refine (rowEnd_in g0 g1 l0 l1 h ?_).1
  rw [List.getD_eq_getElem?_getD, List.getElem?_eq_getElem hj]
  exact h2 _ (List.getElem_mem hj)
theorem maxP_pos {xs : List Int} (h : ∀ y ∈ xs, 0 ≤ y) (hn : xs ≠ []) : maxP xs = maxOf xs := by
  unfold maxP
  have := h _ (maxOf_mem hn)
  omega
theorem maxP_block {g l : Int} {A : List (List Int)} (g0 : 0 ≤ g) (g1 : g ≤ GREAT) (l0 : 0 ≤ l) (l1 : l ≤ GREAT) (h : CellsIn A GREAT) (h2 : ∀ r ∈ A, 2 ≤ r.length ∧ r.length ≤ 12) (hn : A ≠ []) : maxP (endsF g l A) = headM l A + g + maxP (endsF g l (A.map List.tail)) := by
  have ne : ∀ T : List (List Int), T ≠ [] → endsF g l T ≠ [] := fun T hT e => by
    have := ends_len g l T
    rw [e] at this
    exact hT (List.eq_nil_of_length_eq_zero this.symm)
  have nt : A.map List.tail ≠ [] := fun e => hn (List.map_eq_nil_iff.mp e)
  rw [maxP_pos (ends_pos g0 g1 l0 l1 h fun r hr => (h2 r hr).2) (ne A hn), maxP_pos (ends_pos g0 g1 l0 l1 (fun r hr x hx => ?_) fun r hr => ?_) (ne _ nt)]
  · exact width_block (fun r hr => (h2 r hr).1) hn
  · obtain ⟨r', hr', rfl⟩ := List.mem_map.mp hr
    exact h r' hr' x (List.mem_of_mem_tail hx)
  · obtain ⟨r', hr', rfl⟩ := List.mem_map.mp hr
    have := (h2 r' hr').2
    rw [List.length_tail]
    omega
theorem mx_if (a b : Int) : (if b > a then b else a) = max a b := by
  by_cases h : b > a
  · rw [if_pos h]; omega
  · rw [if_neg h]; omega
theorem p_edge_of (C : Addr) (m : Nat) : Rets (sp_edge_of (m + 1) C) (T_edge_of (sp_edge_of m C) C) N_edge_of := by
  rintro _ S Φ Ψ ⟨d, s, t, ks, g, l, f, z, c, b, rfl, ⟨ds, e, rs⟩, ok, es, lk, hf, hz, hc, q⟩
  have tb : TabS S d t := ⟨ds, e, rs⟩
  have h3 := rs.len
  have hU := sub_len (f := f) (c := c) hz
  have row : ∀ k, k < z + 1 - f → ∃ (h1 : f + k < t.length) (h2 : k < (subT t f z c).length), 1 ≤ ((subT t f z c)[k]).length ∧ ((subT t f z c)[k]).length ≤ m + 1 ∧ (t[f + k]).length = c + ((subT t f z c)[k]).length ∧ (t[f + k])[c]? = some (((subT t f z c)[k]).headD 0) := fun k hk => by
    have h1 : f + k < t.length := by omega
    have h2 : k < (subT t f z c).length := by omega
    obtain ⟨a1, a2⟩ := hc (f + k) (by omega) (by omega)
    rw [tab_at h1] at a1 a2
    refine ⟨h1, h2, ?_⟩
    rw [sub_get h2 h1, List.length_drop]
    refine ⟨by omega, by omega, by omega, ?_⟩
    rw [List.headD_eq_head?_getD, List.head?_drop, List.getElem?_eq_getElem a1]
    rfl
  have cU : CellsIn (subT t f z c) GREAT := fun r hr x hx => by
    unfold subT at hr
    obtain ⟨r', hr', rfl⟩ := List.mem_map.mp hr
    exact ok.cells r' (List.mem_of_mem_drop (List.mem_of_mem_take hr')) x (List.mem_of_mem_drop hx)
  have lU : ∀ r ∈ subT t f z c, r.length ≤ 12 := fun r hr => by
    unfold subT at hr
    obtain ⟨r', hr', rfl⟩ := List.mem_map.mp hr
    have := (ok.row r' (List.mem_of_mem_drop (List.mem_of_mem_take hr'))).hi
    rw [List.length_drop]
    omega
  have hsub : ∀ k i, k + i ≤ z + 1 - f → 1 ≤ i → subT t (f + k) (f + k + i - 1) (c + 1) = (((subT t f z c).drop k).take i).map List.tail := fun k i a1 a2 => sub_tail hz a1 a2
  generalize subT t f z c = U at q hU row cU lU hsub
  unfold T_edge_of
  walk_at "dl"
  rw [sWhile_e]
  refine ⟨fun n Γ S' => ∃ k o8 o9, n + k = z + 1 - f ∧ Γ = [some d, some s, some (.int f), some (.int z), some (.int c), some (.int b), some (.int (b + maxP (endsF g l (U.take k)))), some (.int ((f + k : Nat) : Int)), o8, o9] ∧ S' = S ∧ ClnT (U.take k) (U.drop k), ⟨z + 1 - f, 0, none, none, by omega, ?_, rfl, .inl trivial⟩, ?_⟩
  · rw [List.take_zero]
    show _ = [_, _, _, _, _, _, some (D.int (b + max 0 0)), _, _, _]
    rw [show b + max 0 0 = b by omega]
    rfl
  rintro n Γ' S' ⟨k, o8, o9, hn, rfl, rfl, cl⟩
  walk_at "dl"
  by_cases hk : k < z + 1 - f
  · rw [if_pos (by rw [decide_eq_true_eq]; omega)]
    obtain ⟨h1, h2, r1, r2, r3, r4⟩ := row k hk
    have er := rs.get h1 (by omega)
    have cell := cU _ (List.getElem_mem h2)
    have eIx : ∀ (R : KD), R S' ds[f + k] → dIx d (.int ((f + k : Nat) : Int)) S' R := fun R h => by
      rw [dIx_L e, at_nat]
      exact ⟨ds[f + k], List.getElem?_eq_getElem (by omega), h⟩
    rw [sJ_e]
    walk_at "dl"
    refine eIx _ ?_
    rw [cLen_L er, List.length_map, dEq_i]
    refine ⟨_, rfl, ?_⟩
    by_cases single : (U[k]).length = 1
    · rw [if_pos (by rw [beq_iff_eq]; omega)]
      walk_at "dl"
      refine eIx _ ?_
      rw [dIx_L er, at_nat]
      refine ⟨.int ((U[k]).headD 0), by rw [List.getElem?_map, r4]; rfl, ?_⟩
      walk_at "dl"
      have eU : U.take (k + 1) = U.take k ++ [[(U[k]).headD 0]] := by
        rw [List.take_add_one, List.getElem?_eq_getElem h2]
        congr 1
        show [U[k]] = _
        congr 1
        cases q2 : U[k] with
        | nil => rw [q2] at single; simp at single
        | cons a r =>
          rw [q2] at single
          rw [List.eq_nil_of_length_eq_zero (l := r) (by simpa using single)]
          rfl
      have eE : maxP (endsF g l (U.take (k + 1))) = max (maxP (endsF g l (U.take k))) ((U[k]).headD 0) := by
        rw [eU, endsF_app (B := [[(U[k]).headD 0]]) (.inr (Nat.le_refl 1)), maxP_app]
        have c0 : 0 ≤ (U[k]).headD 0 := by
          cases q2 : U[k] with
          | nil => exact Int.le_refl 0
          | cons a r => exact (cU _ (List.getElem_mem h2) a (by rw [q2]; exact List.mem_cons_self)).1
        have : maxP (endsF g l [[(U[k]).headD 0]]) = (U[k]).headD 0 := by
          show max 0 (maxOf [0 + (U[k]).headD 0]) = _
          show max 0 (0 + (U[k]).headD 0) = _
          omega
        rw [this]
      rw [mx_if]
      refine ⟨n - 1, by omega, k + 1, o8, o9, by omega, ?_, .inl ?_⟩
      · rw [eE, show max (b + maxP (endsF g l (U.take k))) (b + (U[k]).headD 0) = b + max (maxP (endsF g l (U.take k))) ((U[k]).headD 0) by omega, show ((f + k : Nat) : Int) + 1 = ((f + (k + 1) : Nat) : Int) by omega]
      · rw [eU, List.getLast?_append]
        exact Nat.le_refl 1
    · rw [if_neg (by rw [beq_iff_eq]; omega)]
      walk_at "dl"
      refine ⟨_, es, s, ks, g, l, rfl, es, ?_⟩
      dsimp only
      rw [sWhile_e]
      refine ⟨fun n' Γ S1 => ∃ i, n' + (k + i) = z + 1 - f ∧ Γ = [some d, some s, some (.int f), some (.int z), some (.int c), some (.int b), some (.int (b + maxP (endsF g l (U.take k)))), some (.int ((f + k : Nat) : Int)), some (.int ((f + k + i : Nat) : Int)), some (.int (headM l ((U.drop k).take i)))] ∧ S1 = S' ∧ ∀ j, j < i → ∃ h : k + j < U.length, 2 ≤ (U[k + j]).length, ⟨z + 1 - f - k, 0, by omega, rfl, rfl, fun j hj => absurd hj (Nat.not_lt_zero j)⟩, ?_⟩
      rintro n' Γ' S1 ⟨i, hn', rfl, rfl, hi⟩
      walk_at "dl"
      have done : 1 ≤ i → (k + i = z + 1 - f ∨ ∃ h : k + i < U.length, (U[k + i]).length = 1) → sp_edge_of m C [d, s, .int ((f + k : Nat) : Int), .int (((f + k + i : Nat) : Int) - 1), .int ((c : Int) + 1), .int (b + headM l ((U.drop k).take i) + g)] S1 (fun S2 x => cMax2 [.int (b + maxP (endsF g l (U.take k))), x] S2 fun S3 y => ∃ m', m' < n ∧ ∃ k' o8 o9, m' + k' = z + 1 - f ∧ [some d, some s, some (D.int f), some (D.int z), some (D.int c), some (D.int b), some y, some (D.int ((f + k + i : Nat) : Int)), some (D.int ((f + k + i : Nat) : Int)), some (D.int (headM l ((U.drop k).take i)))] = [some d, some s, some (D.int f), some (D.int z), some (D.int c), some (D.int b), some (D.int (b + maxP (endsF g l (U.take k')))), some (D.int ((f + k' : Nat) : Int)), o8, o9] ∧ S3 = S1 ∧ ClnT (U.take k') (U.drop k')) (ErOk S1 Ψ) := fun i1 hend => by
        have hki : k + i ≤ z + 1 - f := by omega
        refine ⟨d, s, t, ks, g, l, f + k, f + k + i - 1, c + 1, _, by rw [show (((f + k + i : Nat) : Int) - 1) = ((f + k + i - 1 : Nat) : Int) by omega, show ((c : Int) + 1) = ((c + 1 : Nat) : Int) by omega], tb, ok, es, lk, by omega, by omega, fun x hx1 hx2 => ?_, ?_⟩
        · obtain ⟨y, rfl⟩ : ∃ y, x = f + (k + y) := ⟨x - f - k, by omega⟩
          obtain ⟨h1', h2', a1, a2, a3, a4⟩ := row (k + y) (by omega)
          obtain ⟨_, hy⟩ := hi y (by omega)
          rw [tab_at h1']
          omega
        rw [hsub k i hki i1]
        have hA : ∀ r ∈ (U.drop k).take i, 2 ≤ r.length ∧ r.length ≤ 12 := fun r hr => by
          obtain ⟨y, hy, rfl⟩ := List.getElem_of_mem hr
          rw [List.length_take] at hy
          rw [List.getElem_take, List.getElem_drop]
          obtain ⟨h2', hy2⟩ := hi y (by omega)
          exact ⟨hy2, lU _ (List.getElem_mem h2')⟩
        have hne : (U.drop k).take i ≠ [] := fun z' => by
          have := congrArg List.length z'
          rw [List.length_take, List.length_drop] at this
          simp at this
          omega
        have eM := maxP_block lk.g0 lk.g1 lk.l0 lk.l1 (fun r hr => cU r (List.mem_of_mem_drop (List.mem_of_mem_take hr))) hA hne
        have eT : maxP (endsF g l (U.take (k + i))) = max (maxP (endsF g l (U.take k))) (maxP (endsF g l ((U.drop k).take i))) := by
          rw [List.take_add, endsF_app ?_, maxP_app]
          rcases cl with cl | cl
          · exact .inl cl
          · exfalso
            rw [List.head?_drop, List.getElem?_eq_getElem h2] at cl
            have cl : (U[k]).length ≤ 1 := cl
            omega
        refine ⟨n - i, by omega, k + i, some (.int ((f + k + i : Nat) : Int)), some (.int (headM l ((U.drop k).take i))), by omega, ?_, rfl, .inr ?_⟩
        · dsimp only
          rw [mx_if, eT, eM, show max (b + maxP (endsF g l (U.take k))) (b + headM l ((U.drop k).take i) + g + maxP (endsF g l (((U.drop k).take i).map List.tail))) = b + max (maxP (endsF g l (U.take k))) (headM l ((U.drop k).take i) + g + maxP (endsF g l (((U.drop k).take i).map List.tail))) by omega]
          rw [Nat.add_assoc]
        · rw [List.head?_drop]
          rcases hend with hend | ⟨h2', hend⟩
          · rw [List.getElem?_eq_none (by omega)]; exact trivial
          · rw [List.getElem?_eq_getElem h2']
            show (U[k + i]).length ≤ 1
            omega
      by_cases hki : k + i < z + 1 - f
      · rw [if_pos (by rw [decide_eq_true_eq]; omega)]
        obtain ⟨h1', h2', a1, a2, a3, a4⟩ := row (k + i) hki
        have h1' : f + k + i < t.length := by omega
        have er' := rs.get h1' (by omega)
        have eT : t[f + (k + i)]'(by omega) = t[f + k + i] := by congr 1; omega
        rw [eT] at a3 a4
        have eIx' : ∀ (R : KD), R S1 (ds[f + k + i]'(by omega)) → dIx d (.int ((f + k + i : Nat) : Int)) S1 R := fun R h => by
          rw [dIx_L e, at_nat]
          exact ⟨_, List.getElem?_eq_getElem (by omega), h⟩
        refine eIx' _ ?_
        rw [cLen_L er', List.length_map]
        walk_at "dl"
        by_cases two : 2 ≤ (U[k + i]).length
        · rw [if_pos (by rw [decide_eq_true_eq]; omega)]
          walk_at "dl"
          refine eIx' _ ?_
          rw [dIx_L er', at_nat]
          refine ⟨.int ((U[k + i]).headD 0), by rw [List.getElem?_map, a4]; rfl, ?_⟩
          walk_at "dl"
          rw [mx_if]
          refine ⟨n' - 1, by omega, i + 1, by omega, ?_, fun j hj => ?_⟩
          · have : (U.drop k).take (i + 1) = (U.drop k).take i ++ [U[k + i]] := by
              rw [List.take_add_one, List.getElem?_drop, List.getElem?_eq_getElem h2']
              rfl
            rw [this, headM_snoc, show ((f + k + i : Nat) : Int) + 1 = ((f + k + (i + 1) : Nat) : Int) by omega]
          · by_cases e : j = i
            · subst e; exact ⟨h2', two⟩
            · exact hi j (by omega)
        · rw [if_neg (by rw [decide_eq_true_eq]; omega)]
          have i1 : 1 ≤ i := by
            rcases Nat.eq_zero_or_pos i with e | e
            · subst e
              exfalso
              have e0 : (U[k + 0]'(by omega)).length = (U[k]).length := rfl
              omega
            · exact e
          refine ⟨_, es, s, ks, g, l, rfl, es, ?_⟩
          exact done i1 (.inr ⟨h2', by omega⟩)
      · rw [if_neg (by rw [decide_eq_true_eq]; omega)]
        have i1 : 1 ≤ i := by omega
        refine ⟨_, es, s, ks, g, l, rfl, es, ?_⟩
        exact done i1 (.inl (by omega))
  · rw [if_neg (by rw [decide_eq_true_eq]; omega)]
    walk_at "dl"
    rw [List.take_of_length_le (by omega)]
    exact ret_now q
end DL
namespace DL
open PySem PySem.Spec PyProof.Rows L2
local macro_rules | `(tactic| walk_at "dl") => `(tactic| ((try simp only [gstart, gwipe, List.set_set, List.map_cons, List.map_nil, List.length_cons, List.length_nil, rep_0, rep_s, List.cons_append, List.nil_append, List.set_cons_zero, List.set_cons_succ, Nat.reduceAdd, Nat.reduceSub, Nat.zero_add, Nat.add_zero]); (try simp only [↓dv0, ↓dv1, ↓dv2, ↓dv3, ↓dv4, ↓dv5, ↓dv6, ↓dv7, ↓dv8, ↓dv9, ↓dv10, ↓dv11, ↓dv12, ↓dv13, ↓dv14, ↓dv15, ↓dv16, ↓dv17, ↓dv18, ↓dv19, ↓dv20, ↓dv21, ↓dv22, ↓dv23, ↓dv24, ↓dv25, ↓dv26, ↓dv27, ↓dv28, ↓dv29, ↓dv30, ↓dv31, ↓dv32, ↓dv33, ↓dv34, ↓dv35, ↓dv36, ↓dv37, ↓dv38, ↓dv39, ↓nm0, ↓nm1, ↓nm2, ↓nm3, ↓nm4, ↓nm5, ↓nm6, ↓nm7, ↓nm8, ↓nm9, ↓nm10, ↓nm11, ↓nm12, ↓nm13, ↓nm14, ↓nm15, ↓nm16, ↓nm17, ↓nm18, ↓nm19, ↓nm20, ↓nm21, ↓nm22, ↓nm23, ↓nm24, ↓nm25, ↓nm26, ↓nm27, ↓nm28, ↓nm29, ↓nm30, ↓nm31, ↓nm32, ↓nm33, ↓nm34, ↓nm35, ↓nm36, ↓nm37, ↓nm38, ↓nm39, ↓sPar_n, ↓sPar3_n, ↓sAug_n, ↓reduceIte, List.set_set, ↓sNext_e, ↓sSeq_e, ↓sBrk_e, ↓sCnt_e, ↓sDrop_e, ↓sRet_e, ↓sRetN_e, ↓sIf_e, ↓sAsg_e, ↓sRaise_e, ↓nmG_e, ↓tupG_e, ↓gsNil_e, ↓gsCons_e, ↓subG_e, ↓dC_e, ↓dOp_e, ↓dUn_e, ↓dChain_e, ↓bOf_e, ↓bAnd_e, ↓bOr_e, ↓bNot_e, ↓bYes_e, ↓dAnd_e, ↓dOr_e, ↓dNot_e, ↓dIf_e, ↓lNil_e, ↓lCons_e, ↓dLst_e, ↓dDic0_e, ↓dDic1_e, ↓dLenSetG_e, dIsB_b, ↓dLstO_e, ↓dTup_e, ↓dCB_e, ↓dCall_e, ↓dCallK_e, ↓oNone_e, ↓oSome_e, ↓dSl_e, ↓dBM_e, ↓dBM0_e, ↓dFz_e, ↓dFz2_e, ↓d2_e, ↓dLone_e, ↓lStar_e, ↓dCallA_e, ↓dMakeA_e, ↓dMakeV_e, ↓dMethA_e, ↓dCMethA_e, ↓dPropA_e, ↓dFld_e, ↓sFldS_e, ↓dFzI_e, ↓fzID_o, ↓dM1_e, ↓dM0_e, ↓dRev_e, ↓mSplit_s, ↓mUpper_s, ↓exStr, ↓exZ, ↓cStrI_i, ↓cIntS_s, ↓iStrD_e, ↓dEqF_s, ↓dNeF_s, ↓dEqF_i, ↓dNeF_i, ↓dSign_s, ↓sRaiseI_e, ↓dXFld_e, ↓mPop_e, ↓dAddO_l, ↓dAddO_o, ↓dMk0_e, ↓sKeep_e, ↓sTryH_e, ↓dCVal_e, ↓dConI_e, ↓cLen_s, ↓dIx_s, ↓dSlS_s, ↓dAdd_s, ↓cTup_l, ↓pkP_e, ↓pkS_e, ↓lstG_e, ↓asI_i, ↓iSeq_e, ↓iTupD_e, ↓iRg1_e, ↓iRg2_e, ↓iZipD_e, ↓iEnumD_e, ↓sFor_e, ↓dLc_e, ↓finF_e, ↓finO_e, ↓fzD_l, ↓fzD_i, ↓fzD_o, ↓fzD2_o, ↓dSetO_e, ↓mAppend_e, ↓mClear_e, ↓mReverse_e, List.map_cons, List.map_nil, List.length_cons, List.length_nil, rep_0, rep_s, List.cons_append, List.nil_append, List.getElem?_cons_zero, List.getElem?_cons_succ, List.set_cons_zero, List.set_cons_succ, Nat.reduceAdd, Nat.reduceSub, Nat.zero_add, Nat.add_zero, ↓exSS, ↓exB, ↓exI, ↓ex1, ↓ex2, ↓ex3, ↓exI1, ↓exI2, ↓exT, ↓exC, ↓exAs, ↓dAdd_i, ↓dAddI_i, ↓dSubI_i, ↓dLRg_e, ↓dIsiT_e, ↓dLenSet_e, ↓bChain3_e, ↓dLRg2_e, ↓iRg3_e, ↓dLc2_e, ↓dSlT_t, ↓dNew_e, ↓sDct_e, ↓dMulO_l, ↓dLRgO_e, ↓dAdd_l, ↓dSub_i, ↓dMul_i, ↓dMul_l, ↓dMod_i, ↓dDiv_i, ↓dPow_i, ↓dLt_i, ↓dLe_i, ↓dGt_i, ↓dGe_i, ↓uNeg_i, ↓cMax2_i, ↓cMin2_i, ↓cAbs_i, ↓cInt_i, ↓cInt_b, ↓cLen_l, ↓cLen_q, ↓cLen_t, ↓cList_l, ↓cList_q, ↓cList_t, ↓cListO_l, ↓cListO_t, ↓dIx_l, ↓dIx_q, ↓dIx_t, ↓dIx_o', ↓exS, ↓exL, at_1, at_2, at_3, at_4, ix30, ix31, ix32, ↓dSlL_l, ↓dSlL_q, ↓asQ_l, ↓asL_l, at_0, ↓isi_non_int, ↓isi_non_bool, ↓isi_non_str, ↓isi_non_list, ↓isi_non_tuple, ↓isi_non_dict, ↓isi_bl_int, ↓isi_bl_bool, ↓isi_bl_str, ↓isi_bl_list, ↓isi_bl_tuple, ↓isi_bl_dict, ↓isi_int_int, ↓isi_int_bool, ↓isi_int_str, ↓isi_int_list, ↓isi_int_tuple, ↓isi_int_dict, ↓isi_str_int, ↓isi_str_bool, ↓isi_str_str, ↓isi_str_list, ↓isi_str_tuple, ↓isi_str_dict, ↓isi_lst_int, ↓isi_lst_bool, ↓isi_lst_str, ↓isi_lst_list, ↓isi_lst_tuple, ↓isi_lst_dict, ↓isi_sq_int, ↓isi_sq_bool, ↓isi_sq_str, ↓isi_sq_list, ↓isi_sq_tuple, ↓isi_sq_dict, ↓isi_tup_int, ↓isi_tup_bool, ↓isi_tup_str, ↓isi_tup_list, ↓isi_tup_tuple, ↓isi_tup_dict, ↓isi_dic_int, ↓isi_dic_bool, ↓isi_dic_str, ↓isi_dic_list, ↓isi_dic_tuple, ↓isi_dic_dict, if_true, if_false, Bool.not_true, Bool.not_false, true_and, and_true, reduceCtorEq, Bool.true_eq_false, Bool.false_eq_true, ite_true, ite_false, ↓exAny, ↓isLst_l, Int.toNat_natCast, Int.reduceToNat, dVar_e, sPar_e, sPar3_e, sAug_e])))
local macro_rules | `(tactic| walk_at "dls") => `(tactic| ((try simp only [gstart, gwipe, List.set_set, List.map_cons, List.map_nil, List.length_cons, List.length_nil, rep_0, rep_s, List.cons_append, List.nil_append, List.set_cons_zero, List.set_cons_succ, Nat.reduceAdd, Nat.reduceSub, Nat.zero_add, Nat.add_zero]); (try simp only [*, ↓dv0, ↓dv1, ↓dv2, ↓dv3, ↓dv4, ↓dv5, ↓dv6, ↓dv7, ↓dv8, ↓dv9, ↓dv10, ↓dv11, ↓dv12, ↓dv13, ↓dv14, ↓dv15, ↓dv16, ↓dv17, ↓dv18, ↓dv19, ↓dv20, ↓dv21, ↓dv22, ↓dv23, ↓dv24, ↓dv25, ↓dv26, ↓dv27, ↓dv28, ↓dv29, ↓dv30, ↓dv31, ↓dv32, ↓dv33, ↓dv34, ↓dv35, ↓dv36, ↓dv37, ↓dv38, ↓dv39, ↓nm0, ↓nm1, ↓nm2, ↓nm3, ↓nm4, ↓nm5, ↓nm6, ↓nm7, ↓nm8, ↓nm9, ↓nm10, ↓nm11, ↓nm12, ↓nm13, ↓nm14, ↓nm15, ↓nm16, ↓nm17, ↓nm18, ↓nm19, ↓nm20, ↓nm21, ↓nm22, ↓nm23, ↓nm24, ↓nm25, ↓nm26, ↓nm27, ↓nm28, ↓nm29, ↓nm30, ↓nm31, ↓nm32, ↓nm33, ↓nm34, ↓nm35, ↓nm36, ↓nm37, ↓nm38, ↓nm39, ↓sPar_n, ↓sPar3_n, ↓sAug_n, ↓reduceIte, List.set_set, ↓sNext_e, ↓sSeq_e, ↓sBrk_e, ↓sCnt_e, ↓sDrop_e, ↓sRet_e, ↓sRetN_e, ↓sIf_e, ↓sAsg_e, ↓sRaise_e, ↓nmG_e, ↓tupG_e, ↓gsNil_e, ↓gsCons_e, ↓subG_e, ↓dC_e, ↓dOp_e, ↓dUn_e, ↓dChain_e, ↓bOf_e, ↓bAnd_e, ↓bOr_e, ↓bNot_e, ↓bYes_e, ↓dAnd_e, ↓dOr_e, ↓dNot_e, ↓dIf_e, ↓lNil_e, ↓lCons_e, ↓dLst_e, ↓dDic0_e, ↓dDic1_e, ↓dLenSetG_e, dIsB_b, ↓dLstO_e, ↓dTup_e, ↓dCB_e, ↓dCall_e, ↓dCallK_e, ↓oNone_e, ↓oSome_e, ↓dSl_e, ↓dBM_e, ↓dBM0_e, ↓dFz_e, ↓dFz2_e, ↓d2_e, ↓dLone_e, ↓lStar_e, ↓dCallA_e, ↓dMakeA_e, ↓dMakeV_e, ↓dMethA_e, ↓dCMethA_e, ↓dPropA_e, ↓dFld_e, ↓sFldS_e, ↓dFzI_e, ↓fzID_o, ↓dM1_e, ↓dM0_e, ↓dRev_e, ↓mSplit_s, ↓mUpper_s, ↓exStr, ↓exZ, ↓cStrI_i, ↓cIntS_s, ↓iStrD_e, ↓dEqF_s, ↓dNeF_s, ↓dEqF_i, ↓dNeF_i, ↓dSign_s, ↓sRaiseI_e, ↓dXFld_e, ↓mPop_e, ↓dAddO_l, ↓dAddO_o, ↓dMk0_e, ↓sKeep_e, ↓sTryH_e, ↓dCVal_e, ↓dConI_e, ↓cLen_s, ↓dIx_s, ↓dSlS_s, ↓dAdd_s, ↓cTup_l, ↓pkP_e, ↓pkS_e, ↓lstG_e, ↓asI_i, ↓iSeq_e, ↓iTupD_e, ↓iRg1_e, ↓iRg2_e, ↓iZipD_e, ↓iEnumD_e, ↓sFor_e, ↓dLc_e, ↓finF_e, ↓finO_e, ↓fzD_l, ↓fzD_i, ↓fzD_o, ↓fzD2_o, ↓dSetO_e, ↓mAppend_e, ↓mClear_e, ↓mReverse_e, List.map_cons, List.map_nil, List.length_cons, List.length_nil, rep_0, rep_s, List.cons_append, List.nil_append, List.getElem?_cons_zero, List.getElem?_cons_succ, List.set_cons_zero, List.set_cons_succ, Nat.reduceAdd, Nat.reduceSub, Nat.zero_add, Nat.add_zero, ↓exSS, ↓exB, ↓exI, ↓ex1, ↓ex2, ↓ex3, ↓exI1, ↓exI2, ↓exT, ↓exC, ↓exAs, ↓dAdd_i, ↓dAddI_i, ↓dSubI_i, ↓dLRg_e, ↓dIsiT_e, ↓dLenSet_e, ↓bChain3_e, ↓dLRg2_e, ↓iRg3_e, ↓dLc2_e, ↓dSlT_t, ↓dNew_e, ↓sDct_e, ↓dMulO_l, ↓dLRgO_e, ↓dAdd_l, ↓dSub_i, ↓dMul_i, ↓dMul_l, ↓dMod_i, ↓dDiv_i, ↓dPow_i, ↓dLt_i, ↓dLe_i, ↓dGt_i, ↓dGe_i, ↓uNeg_i, ↓cMax2_i, ↓cMin2_i, ↓cAbs_i, ↓cInt_i, ↓cInt_b, ↓cLen_l, ↓cLen_q, ↓cLen_t, ↓cList_l, ↓cList_q, ↓cList_t, ↓cListO_l, ↓cListO_t, ↓dIx_l, ↓dIx_q, ↓dIx_t, ↓dIx_o', ↓exS, ↓exL, at_1, at_2, at_3, at_4, ix30, ix31, ix32, ↓dSlL_l, ↓dSlL_q, ↓asQ_l, ↓asL_l, at_0, ↓isi_non_int, ↓isi_non_bool, ↓isi_non_str, ↓isi_non_list, ↓isi_non_tuple, ↓isi_non_dict, ↓isi_bl_int, ↓isi_bl_bool, ↓isi_bl_str, ↓isi_bl_list, ↓isi_bl_tuple, ↓isi_bl_dict, ↓isi_int_int, ↓isi_int_bool, ↓isi_int_str, ↓isi_int_list, ↓isi_int_tuple, ↓isi_int_dict, ↓isi_str_int, ↓isi_str_bool, ↓isi_str_str, ↓isi_str_list, ↓isi_str_tuple, ↓isi_str_dict, ↓isi_lst_int, ↓isi_lst_bool, ↓isi_lst_str, ↓isi_lst_list, ↓isi_lst_tuple, ↓isi_lst_dict, ↓isi_sq_int, ↓isi_sq_bool, ↓isi_sq_str, ↓isi_sq_list, ↓isi_sq_tuple, ↓isi_sq_dict, ↓isi_tup_int, ↓isi_tup_bool, ↓isi_tup_str, ↓isi_tup_list, ↓isi_tup_tuple, ↓isi_tup_dict, ↓isi_dic_int, ↓isi_dic_bool, ↓isi_dic_str, ↓isi_dic_list, ↓isi_dic_tuple, ↓isi_dic_dict, if_true, if_false, Bool.not_true, Bool.not_false, true_and, and_true, reduceCtorEq, Bool.true_eq_false, Bool.false_eq_true, ite_true, ite_false, ↓exAny, ↓isLst_l, Int.toNat_natCast, Int.reduceToNat, dVar_e, sPar_e, sPar3_e, sAug_e])))
--MD
theorem edge_at {C : Addr} {S : Sto} {Φ : KD} {Ψ : KX} {d s : D} {t : List (List Int)} {ks : List Str} {g l : Int} {f z : Nat} (tb : TabS S d t) (ok : TabOk t) (es : asI S s = some (C, styF ks g l)) (lk : LookOk ks g l) (hf : f ≤ z) (hz : z < t.length) (q : Φ S (.int (wideF g l t f z))) : sp_edge_of 12 C [d, s, .int f, .int z, .int 0, .int 0] S Φ Ψ :=
  ⟨d, s, t, ks, g, l, f, z, 0, 0, rfl, tb, ok, es, lk, hf, hz, fun i h1 h2 => by
    have hi : i < t.length := by omega
    rw [tab_at hi]
    have o := ok.row _ (List.getElem_mem hi)
    have := o.lo
    have := o.hi
    omega, by rw [Int.zero_add]; exact q⟩
theorem greedy_le (g l : Int) (t : List (List Int)) (w : Int) : ∀ i, (greedyF g l t w i).2 ≤ i ∧ (greedyF g l t w i).1.length ≤ i
  | 0 => ⟨Nat.le_refl _, Nat.le_refl _⟩
  | i + 1 => by
    obtain ⟨a, b⟩ := greedy_le g l t w i
    unfold greedyF
    split
    · exact ⟨Nat.le_succ _, by rw [List.length_append]; exact Nat.succ_le_succ b⟩
    · exact ⟨by omega, by omega⟩
theorem low_pairs (n : Nat) (bs : List (Nat × Nat)) : (D.lst (bs.map pairD)).low n = true := by
  rw [D.low]
  exact lowA_map _ _ (fun b => by unfold pairD; simp [D.low, lowA]) bs
def cutOf (o : Option Nat) : D := match o with
  | none => .non
  | some f => .int (f : Int)
theorem runs_len (p : Nat → Bool) : ∀ k, (colRuns p k).1.length ≤ k
  | 0 => Nat.le_refl _
  | k + 1 => by
    have ih := runs_len p k
    unfold colRuns
    split
    · exact Nat.le_succ_of_le ih
    · split
      · exact Nat.le_succ_of_le ih
      · show (_ ++ [_]).length ≤ _
        rw [List.length_append]
        exact Nat.succ_le_succ ih
def cst (p : Nat × Nat) : Int × Int := ((p.1 : Int), (p.2 : Int))
theorem cst_map (ps : List (Nat × Nat)) : ps.map pairD = (ps.map cst).map prD := by rw [List.map_map]; rfl
theorem apart_sorted {ps : List (Nat × Nat)} {qs : List (Int × Int)} (h1 : ∀ p ∈ ps, p.1 < p.2) (h2 : ps.Pairwise fun p q => p.2 ≤ q.1 ∨ q.2 ≤ p.1) (pm : qs.Perm (ps.map cst)) (sr : qs.Pairwise fun a b => SrtO.lexB b a = false) : qs.Pairwise fun a b => a.2 ≤ b.1 := by
  have a1 : (ps.map cst).Pairwise fun a b : Int × Int => a.2 ≤ b.1 ∨ b.2 ≤ a.1 := by
    refine List.pairwise_map.mpr (h2.imp fun h => ?_)
    unfold cst
    dsimp only
    omega
  have a2 := (List.Perm.pairwise_iff (R := fun a b : Int × Int => a.2 ≤ b.1 ∨ b.2 ≤ a.1) (fun h => h.symm) pm).mpr a1
  have a3 : ∀ a ∈ qs, a.1 < a.2 := fun a ha => by
    obtain ⟨p, hp, rfl⟩ := List.mem_map.mp (pm.mem_iff.mp ha)
    have := h1 p hp
    unfold cst
    dsimp only
    omega
  refine List.Pairwise.imp_of_mem (fun {a b} ha hb h => ?_) (sr.and a2)
  have b1 := SrtO.lexB_no.mp h.1
  have b2 := a3 a ha
  have b3 := a3 b hb
  have b4 := h.2
  omega
theorem wides_hit {g l : Int} {t : List (List Int)} {w : Int} {i : Nat} (h : ∀ j, j < i → ¬ w < wideF g l t j j) (hi : i < t.length) (c : w < wideF g l t i i) : ∃ r, wides g l t w = i :: r := by
  obtain ⟨B, s⟩ : ∃ B, List.range t.length = List.range i ++ i :: B := by
    refine ⟨(List.range t.length).drop (i + 1), ?_⟩
    have h2 : i < (List.range t.length).length := by rw [List.length_range]; exact hi
    have e := List.drop_eq_getElem_cons h2
    rw [List.getElem_range] at e
    rw [← e]
    have e2 : List.range i = (List.range t.length).take i := by rw [List.take_range, Nat.min_eq_left (by omega)]
    rw [e2, List.take_append_drop]
  refine ⟨B.filter fun i => decide (w < wideF g l t i i), ?_⟩
  unfold wides
  rw [s, List.filter_append, List.filter_eq_nil_iff.mpr (fun j hj => by rw [decide_eq_true_eq]; exact h j (List.mem_range.mp hj)), List.nil_append, List.filter_cons_of_pos (by rw [decide_eq_true_eq]; exact c)]
theorem wides_none {g l : Int} {t : List (List Int)} {w : Int} (h : ∀ j, j < t.length → ¬ w < wideF g l t j j) : wides g l t w = [] := by
  unfold wides
  exact List.filter_eq_nil_iff.mpr fun j hj => by rw [decide_eq_true_eq]; exact h j (List.mem_range.mp hj)
theorem p_require_room (W N T Y : Addr) : Rets (sp_require_room T W N Y) (T_require_room W N T Y) N_require_room := by
  rintro _ S Φ Ψ ⟨x, s, w, rfl, ks, g, l, tx, es, lk, no, yes⟩
  unfold T_require_room
  walk_at "dl"
  refine need_tab tx (fun z => .inl (no z)) fun t et ok => ?_
  subst et
  have q := yes t rfl ok
  unfold RoomQ at q
  have tb := tabS_l (S := S) t
  obtain ⟨ds, e, rs⟩ := id tb
  have h3 := rs.len
  have h6 := ok.hi
  by_cases hw : w < 0
  · rw [if_pos hw] at q
    rw [if_pos (by rw [decide_eq_true_eq]; exact hw)]
    exact .inl q
  · rw [if_neg hw] at q
    rw [if_neg (by rw [decide_eq_true_eq]; exact hw), cLen_L e]
    refine ⟨_, rfl, by omega, by omega, ?_⟩
    rw [h3, Int.toNat_natCast]
    refine for_r0 (fun i Γ S' => (∃ o, Γ = [some (tabD t), some s, some (.int w), o]) ∧ S' = S ∧ ∀ j, j < i → ¬ w < wideF g l t j j) ⟨⟨_, rfl⟩, rfl, fun j hj => absurd hj (Nat.not_lt_zero j)⟩ (fun i Γ' S' hi hp => ?_) fun Γ' S' hp => ?_
    · obtain ⟨⟨o, rfl⟩, rfl, hj⟩ := hp
      walk_at "dl"
      refine edge_at tb ok es lk (Nat.le_refl _) hi ?_
      walk_at "dl"
      by_cases c : w < wideF g l t i i
      · rw [if_pos (by rw [decide_eq_true_eq]; omega)]
        obtain ⟨r, er⟩ := wides_hit hj hi c
        rw [er] at q
        exact .inl q
      · rw [if_neg (by rw [decide_eq_true_eq]; omega)]
        refine ⟨⟨_, rfl⟩, fun j hji => ?_⟩
        rcases Nat.lt_or_ge j i with z | z
        · exact hj j z
        · have : j = i := by omega
          rw [this]
          exact c
    · obtain ⟨⟨o, rfl⟩, rfl, hj⟩ := hp
      rw [wides_none hj] at q
      exact ret_now q
theorem room_ok {T W N Y : Addr} {x s : D} {w : Int} {S : Sto} {Φ : KD} {Ψ Ψ' : KX} {ok : List (List Int) → Int → Int → Prop} (h : RoomSp T W N Y x s w S ok Ψ) (er : ∀ z, Ψ S z → Ψ' S z) (q : ∀ t ks g l, x = tabD t → TabOk t → asI S s = some (Y, styF ks g l) → LookOk ks g l → 0 ≤ w → Fits g l t w → ok t g l → Φ S .non) : sp_require_room T W N Y [x, s, .int w] S Φ Ψ' := by
  obtain ⟨ks, g, l, tx, es, lk, no, yes⟩ := h
  refine ⟨x, s, w, rfl, ks, g, l, tx, es, lk, fun z => er _ (no z), fun t e o => ?_⟩
  have y := yes t e o
  unfold RoomQ at y ⊢
  by_cases hw : w < 0
  · rw [if_pos hw] at y ⊢
    exact er _ y
  · rw [if_neg hw] at y ⊢
    have hf := List.filter_eq_nil_iff (p := fun i => decide (w < wideF g l t i i)) (l := List.range t.length)
    split
    · rename_i i r z
      rw [z] at y
      exact er _ y
    · rename_i z
      rw [z] at y
      refine q t ks g l e o es lk (by omega) (fun i hi => ?_) y
      have := hf.mp z i (List.mem_range.mpr hi)
      rw [decide_eq_true_eq] at this
      omega
theorem RoomSp.mono {T W N Y : Addr} {x s : D} {w : Int} {S : Sto} {Ψ Ψ' : KX} {ok ok' : List (List Int) → Int → Int → Prop} (h : RoomSp T W N Y x s w S ok Ψ) (er : ∀ z, Ψ S z → Ψ' S z) (q : ∀ t g l, ok t g l → ok' t g l) : RoomSp T W N Y x s w S ok' Ψ' := by
  obtain ⟨ks, g, l, tx, es, lk, no, yes⟩ := h
  refine ⟨ks, g, l, tx, es, lk, fun z => er _ (no z), fun t e o => ?_⟩
  have y := yes t e o
  unfold RoomQ at y ⊢
  by_cases hw : w < 0
  · rw [if_pos hw] at y ⊢
    exact er _ y
  · rw [if_neg hw] at y ⊢
    split
    · rename_i i r z
      rw [z] at y
      exact er _ y
    · rename_i z
      rw [z] at y
      exact q _ _ _ y
theorem p_wide_stretches (C : Addr) : Rets (sp_wide_stretches C) (T_wide_stretches C) N_wide_stretches := by
  rintro _ S Φ Ψ ⟨d, s, t, ks, g, l, w, rfl, tb, ok, es, lk, q⟩
  obtain ⟨ds, e, rs⟩ := id tb
  unfold T_wide_stretches
  walk_at "dl"
  have h3 := rs.len
  have h6 := ok.hi
  refine ⟨small, ?_⟩
  rw [cLen_L (asL_app e)]
  refine ⟨_, rfl, by omega, by omega, ?_⟩
  rw [h3, Int.toNat_natCast]
  refine for_r0 (fun i Γ S' => ∃ o, Γ = [some d, some s, some (.int w), some (.own S.length), some (.int ((greedyF g l t w i).2 : Nat)), o] ∧ S' = S ++ [.lst ((greedyF g l t w i).1.map pairD)]) ⟨_, rfl, rfl⟩ (fun i Γ' S' hi hp => ?_) fun Γ' S' hp => ?_
  · obtain ⟨o, rfl, rfl⟩ := hp
    have g1 := (greedy_le g l t w i).1
    have g2 := (greedy_le g l t w i).2
    have gs : greedyF g l t w (i + 1) = if wideF g l t (greedyF g l t w i).2 i > w then ((greedyF g l t w i).1 ++ [((greedyF g l t w i).2, i)], i) else greedyF g l t w i := rfl
    rw [gs]
    generalize greedyF g l t w i = G at g1 g2 ⊢
    walk_at "dl"
    rw [sJ_e]
    walk_at "dl"
    refine edge_at tb.app ok (asI_app es) lk g1 hi ?_
    walk_at "dl"
    by_cases c : wideF g l t G.2 i > w
    · rw [if_pos (by rw [decide_eq_true_eq]; omega), if_pos c]
      walk_at "dl"
      refine ⟨isLst_at get_at, small, _, get_at, under (by rw [List.length_map]; omega), _, rfl, ?_⟩
      rw [set_at, List.map_append]
      rfl
    · rw [if_neg (by rw [decide_eq_true_eq]; omega), if_neg c]
      exact ⟨_, rfl, rfl⟩
  · obtain ⟨o, rfl, rfl⟩ := hp
    walk_at "dl"
    refine ⟨_, get_at, ?_⟩
    rw [set_at]
    exact ret_cut (low_pairs _ _) q
theorem p_stretches (T W N Y : Addr) : Rets (sp_stretches T W N Y) (T_stretches T W N Y) N_stretches := by
  rintro _ S Φ Ψ ⟨x, s, w, rfl, h⟩
  unfold T_stretches
  walk_at "dl"
  refine room_ok h (fun _ z => .inl z) fun t ks g l e ok es lk hw hfit q => ?_
  subst e
  exact ⟨_, s, t, ks, g, l, w, rfl, tabS_l t, ok, es, lk, ret_now q⟩
theorem p_partings (T W N Y : Addr) : Rets (sp_partings T W N Y) (T_partings T W N Y) N_partings := by
  rintro _ S Φ Ψ ⟨x, s, w, rfl, h⟩
  unfold T_partings
  walk_at "dl"
  refine room_ok h (fun _ z => .inl z) fun t ks g l e ok es lk hw hfit q => ?_
  subst e
  walk_at "dl"
  refine ⟨_, s, t, ks, g, l, w, rfl, tabS_l t, ok, es, lk, ⟨_, rfl⟩, ?_⟩
  have h6 := ok.hi
  have g2 := (greedy_le g l t w t.length).2
  unfold strF
  refine lc_map (greedyF g l t w t.length).1 pairD (fun p => D.int ((p.2 : Int) - 1)) (small (by omega)) (fun p hp R hR => ?_) ?_
  · unfold pairD
    walk_at "dl"
    exact hR
  · walk_at "dl"
    exact ret_now (q _)
theorem p_fewest_lines (T W N Y : Addr) : Rets (sp_fewest_lines T W N Y) (T_fewest_lines T W N Y) N_fewest_lines := by
  rintro _ S Φ Ψ ⟨x, s, w, rfl, h⟩
  unfold T_fewest_lines
  walk_at "dl"
  refine ⟨x, s, w, rfl, h.mono (fun _ z => .inl z) fun t g l q => ?_⟩
  dsimp only
  rw [cLen_l]
  exact ret_now (q _)
end DL
namespace DL
open PySem PySem.Spec PyProof.Rows L2
local macro_rules | `(tactic| walk_at "dl") => `(tactic| ((try simp only [gstart, gwipe, List.set_set, List.map_cons, List.map_nil, List.length_cons, List.length_nil, rep_0, rep_s, List.cons_append, List.nil_append, List.set_cons_zero, List.set_cons_succ, Nat.reduceAdd, Nat.reduceSub, Nat.zero_add, Nat.add_zero]); (try simp only [↓dv0, ↓dv1, ↓dv2, ↓dv3, ↓dv4, ↓dv5, ↓dv6, ↓dv7, ↓dv8, ↓dv9, ↓dv10, ↓dv11, ↓dv12, ↓dv13, ↓dv14, ↓dv15, ↓dv16, ↓dv17, ↓dv18, ↓dv19, ↓dv20, ↓dv21, ↓dv22, ↓dv23, ↓dv24, ↓dv25, ↓dv26, ↓dv27, ↓dv28, ↓dv29, ↓dv30, ↓dv31, ↓dv32, ↓dv33, ↓dv34, ↓dv35, ↓dv36, ↓dv37, ↓dv38, ↓dv39, ↓nm0, ↓nm1, ↓nm2, ↓nm3, ↓nm4, ↓nm5, ↓nm6, ↓nm7, ↓nm8, ↓nm9, ↓nm10, ↓nm11, ↓nm12, ↓nm13, ↓nm14, ↓nm15, ↓nm16, ↓nm17, ↓nm18, ↓nm19, ↓nm20, ↓nm21, ↓nm22, ↓nm23, ↓nm24, ↓nm25, ↓nm26, ↓nm27, ↓nm28, ↓nm29, ↓nm30, ↓nm31, ↓nm32, ↓nm33, ↓nm34, ↓nm35, ↓nm36, ↓nm37, ↓nm38, ↓nm39, ↓sPar_n, ↓sPar3_n, ↓sAug_n, ↓reduceIte, List.set_set, ↓sNext_e, ↓sSeq_e, ↓sBrk_e, ↓sCnt_e, ↓sDrop_e, ↓sRet_e, ↓sRetN_e, ↓sIf_e, ↓sAsg_e, ↓sRaise_e, ↓nmG_e, ↓tupG_e, ↓gsNil_e, ↓gsCons_e, ↓subG_e, ↓dC_e, ↓dOp_e, ↓dUn_e, ↓dChain_e, ↓bOf_e, ↓bAnd_e, ↓bOr_e, ↓bNot_e, ↓bYes_e, ↓dAnd_e, ↓dOr_e, ↓dNot_e, ↓dIf_e, ↓lNil_e, ↓lCons_e, ↓dLst_e, ↓dDic0_e, ↓dDic1_e, ↓dLenSetG_e, dIsB_b, ↓dLstO_e, ↓dTup_e, ↓dCB_e, ↓dCall_e, ↓dCallK_e, ↓oNone_e, ↓oSome_e, ↓dSl_e, ↓dBM_e, ↓dBM0_e, ↓dFz_e, ↓dFz2_e, ↓d2_e, ↓dLone_e, ↓lStar_e, ↓dCallA_e, ↓dMakeA_e, ↓dMakeV_e, ↓dMethA_e, ↓dCMethA_e, ↓dPropA_e, ↓dFld_e, ↓sFldS_e, ↓dFzI_e, ↓fzID_o, ↓dM1_e, ↓dM0_e, ↓dRev_e, ↓mSplit_s, ↓mUpper_s, ↓exStr, ↓exZ, ↓cStrI_i, ↓cIntS_s, ↓iStrD_e, ↓dEqF_s, ↓dNeF_s, ↓dEqF_i, ↓dNeF_i, ↓dSign_s, ↓sRaiseI_e, ↓dXFld_e, ↓mPop_e, ↓dAddO_l, ↓dAddO_o, ↓dMk0_e, ↓sKeep_e, ↓sTryH_e, ↓dCVal_e, ↓dConI_e, ↓cLen_s, ↓dIx_s, ↓dSlS_s, ↓dAdd_s, ↓cTup_l, ↓pkP_e, ↓pkS_e, ↓lstG_e, ↓asI_i, ↓iSeq_e, ↓iTupD_e, ↓iRg1_e, ↓iRg2_e, ↓iZipD_e, ↓iEnumD_e, ↓sFor_e, ↓dLc_e, ↓finF_e, ↓finO_e, ↓fzD_l, ↓fzD_i, ↓fzD_o, ↓fzD2_o, ↓dSetO_e, ↓mAppend_e, ↓mClear_e, ↓mReverse_e, List.map_cons, List.map_nil, List.length_cons, List.length_nil, rep_0, rep_s, List.cons_append, List.nil_append, List.getElem?_cons_zero, List.getElem?_cons_succ, List.set_cons_zero, List.set_cons_succ, Nat.reduceAdd, Nat.reduceSub, Nat.zero_add, Nat.add_zero, ↓exSS, ↓exB, ↓exI, ↓ex1, ↓ex2, ↓ex3, ↓exI1, ↓exI2, ↓exT, ↓exC, ↓exAs, ↓dAdd_i, ↓dAddI_i, ↓dSubI_i, ↓dLRg_e, ↓dIsiT_e, ↓dLenSet_e, ↓bChain3_e, ↓dLRg2_e, ↓iRg3_e, ↓dLc2_e, ↓dSlT_t, ↓dNew_e, ↓sDct_e, ↓dMulO_l, ↓dLRgO_e, ↓dAdd_l, ↓dSub_i, ↓dMul_i, ↓dMul_l, ↓dMod_i, ↓dDiv_i, ↓dPow_i, ↓dLt_i, ↓dLe_i, ↓dGt_i, ↓dGe_i, ↓uNeg_i, ↓cMax2_i, ↓cMin2_i, ↓cAbs_i, ↓cInt_i, ↓cInt_b, ↓cLen_l, ↓cLen_q, ↓cLen_t, ↓cList_l, ↓cList_q, ↓cList_t, ↓cListO_l, ↓cListO_t, ↓dIx_l, ↓dIx_q, ↓dIx_t, ↓dIx_o', ↓exS, ↓exL, at_1, at_2, at_3, at_4, ix30, ix31, ix32, ↓dSlL_l, ↓dSlL_q, ↓asQ_l, ↓asL_l, at_0, ↓isi_non_int, ↓isi_non_bool, ↓isi_non_str, ↓isi_non_list, ↓isi_non_tuple, ↓isi_non_dict, ↓isi_bl_int, ↓isi_bl_bool, ↓isi_bl_str, ↓isi_bl_list, ↓isi_bl_tuple, ↓isi_bl_dict, ↓isi_int_int, ↓isi_int_bool, ↓isi_int_str, ↓isi_int_list, ↓isi_int_tuple, ↓isi_int_dict, ↓isi_str_int, ↓isi_str_bool, ↓isi_str_str, ↓isi_str_list, ↓isi_str_tuple, ↓isi_str_dict, ↓isi_lst_int, ↓isi_lst_bool, ↓isi_lst_str, ↓isi_lst_list, ↓isi_lst_tuple, ↓isi_lst_dict, ↓isi_sq_int, ↓isi_sq_bool, ↓isi_sq_str, ↓isi_sq_list, ↓isi_sq_tuple, ↓isi_sq_dict, ↓isi_tup_int, ↓isi_tup_bool, ↓isi_tup_str, ↓isi_tup_list, ↓isi_tup_tuple, ↓isi_tup_dict, ↓isi_dic_int, ↓isi_dic_bool, ↓isi_dic_str, ↓isi_dic_list, ↓isi_dic_tuple, ↓isi_dic_dict, if_true, if_false, Bool.not_true, Bool.not_false, true_and, and_true, reduceCtorEq, Bool.true_eq_false, Bool.false_eq_true, ite_true, ite_false, ↓exAny, ↓isLst_l, Int.toNat_natCast, Int.reduceToNat, dVar_e, sPar_e, sPar3_e, sAug_e])))
local macro_rules | `(tactic| walk_at "dls") => `(tactic| ((try simp only [gstart, gwipe, List.set_set, List.map_cons, List.map_nil, List.length_cons, List.length_nil, rep_0, rep_s, List.cons_append, List.nil_append, List.set_cons_zero, List.set_cons_succ, Nat.reduceAdd, Nat.reduceSub, Nat.zero_add, Nat.add_zero]); (try simp only [*, ↓dv0, ↓dv1, ↓dv2, ↓dv3, ↓dv4, ↓dv5, ↓dv6, ↓dv7, ↓dv8, ↓dv9, ↓dv10, ↓dv11, ↓dv12, ↓dv13, ↓dv14, ↓dv15, ↓dv16, ↓dv17, ↓dv18, ↓dv19, ↓dv20, ↓dv21, ↓dv22, ↓dv23, ↓dv24, ↓dv25, ↓dv26, ↓dv27, ↓dv28, ↓dv29, ↓dv30, ↓dv31, ↓dv32, ↓dv33, ↓dv34, ↓dv35, ↓dv36, ↓dv37, ↓dv38, ↓dv39, ↓nm0, ↓nm1, ↓nm2, ↓nm3, ↓nm4, ↓nm5, ↓nm6, ↓nm7, ↓nm8, ↓nm9, ↓nm10, ↓nm11, ↓nm12, ↓nm13, ↓nm14, ↓nm15, ↓nm16, ↓nm17, ↓nm18, ↓nm19, ↓nm20, ↓nm21, ↓nm22, ↓nm23, ↓nm24, ↓nm25, ↓nm26, ↓nm27, ↓nm28, ↓nm29, ↓nm30, ↓nm31, ↓nm32, ↓nm33, ↓nm34, ↓nm35, ↓nm36, ↓nm37, ↓nm38, ↓nm39, ↓sPar_n, ↓sPar3_n, ↓sAug_n, ↓reduceIte, List.set_set, ↓sNext_e, ↓sSeq_e, ↓sBrk_e, ↓sCnt_e, ↓sDrop_e, ↓sRet_e, ↓sRetN_e, ↓sIf_e, ↓sAsg_e, ↓sRaise_e, ↓nmG_e, ↓tupG_e, ↓gsNil_e, ↓gsCons_e, ↓subG_e, ↓dC_e, ↓dOp_e, ↓dUn_e, ↓dChain_e, ↓bOf_e, ↓bAnd_e, ↓bOr_e, ↓bNot_e, ↓bYes_e, ↓dAnd_e, ↓dOr_e, ↓dNot_e, ↓dIf_e, ↓lNil_e, ↓lCons_e, ↓dLst_e, ↓dDic0_e, ↓dDic1_e, ↓dLenSetG_e, dIsB_b, ↓dLstO_e, ↓dTup_e, ↓dCB_e, ↓dCall_e, ↓dCallK_e, ↓oNone_e, ↓oSome_e, ↓dSl_e, ↓dBM_e, ↓dBM0_e, ↓dFz_e, ↓dFz2_e, ↓d2_e, ↓dLone_e, ↓lStar_e, ↓dCallA_e, ↓dMakeA_e, ↓dMakeV_e, ↓dMethA_e, ↓dCMethA_e, ↓dPropA_e, ↓dFld_e, ↓sFldS_e, ↓dFzI_e, ↓fzID_o, ↓dM1_e, ↓dM0_e, ↓dRev_e, ↓mSplit_s, ↓mUpper_s, ↓exStr, ↓exZ, ↓cStrI_i, ↓cIntS_s, ↓iStrD_e, ↓dEqF_s, ↓dNeF_s, ↓dEqF_i, ↓dNeF_i, ↓dSign_s, ↓sRaiseI_e, ↓dXFld_e, ↓mPop_e, ↓dAddO_l, ↓dAddO_o, ↓dMk0_e, ↓sKeep_e, ↓sTryH_e, ↓dCVal_e, ↓dConI_e, ↓cLen_s, ↓dIx_s, ↓dSlS_s, ↓dAdd_s, ↓cTup_l, ↓pkP_e, ↓pkS_e, ↓lstG_e, ↓asI_i, ↓iSeq_e, ↓iTupD_e, ↓iRg1_e, ↓iRg2_e, ↓iZipD_e, ↓iEnumD_e, ↓sFor_e, ↓dLc_e, ↓finF_e, ↓finO_e, ↓fzD_l, ↓fzD_i, ↓fzD_o, ↓fzD2_o, ↓dSetO_e, ↓mAppend_e, ↓mClear_e, ↓mReverse_e, List.map_cons, List.map_nil, List.length_cons, List.length_nil, rep_0, rep_s, List.cons_append, List.nil_append, List.getElem?_cons_zero, List.getElem?_cons_succ, List.set_cons_zero, List.set_cons_succ, Nat.reduceAdd, Nat.reduceSub, Nat.zero_add, Nat.add_zero, ↓exSS, ↓exB, ↓exI, ↓ex1, ↓ex2, ↓ex3, ↓exI1, ↓exI2, ↓exT, ↓exC, ↓exAs, ↓dAdd_i, ↓dAddI_i, ↓dSubI_i, ↓dLRg_e, ↓dIsiT_e, ↓dLenSet_e, ↓bChain3_e, ↓dLRg2_e, ↓iRg3_e, ↓dLc2_e, ↓dSlT_t, ↓dNew_e, ↓sDct_e, ↓dMulO_l, ↓dLRgO_e, ↓dAdd_l, ↓dSub_i, ↓dMul_i, ↓dMul_l, ↓dMod_i, ↓dDiv_i, ↓dPow_i, ↓dLt_i, ↓dLe_i, ↓dGt_i, ↓dGe_i, ↓uNeg_i, ↓cMax2_i, ↓cMin2_i, ↓cAbs_i, ↓cInt_i, ↓cInt_b, ↓cLen_l, ↓cLen_q, ↓cLen_t, ↓cList_l, ↓cList_q, ↓cList_t, ↓cListO_l, ↓cListO_t, ↓dIx_l, ↓dIx_q, ↓dIx_t, ↓dIx_o', ↓exS, ↓exL, at_1, at_2, at_3, at_4, ix30, ix31, ix32, ↓dSlL_l, ↓dSlL_q, ↓asQ_l, ↓asL_l, at_0, ↓isi_non_int, ↓isi_non_bool, ↓isi_non_str, ↓isi_non_list, ↓isi_non_tuple, ↓isi_non_dict, ↓isi_bl_int, ↓isi_bl_bool, ↓isi_bl_str, ↓isi_bl_list, ↓isi_bl_tuple, ↓isi_bl_dict, ↓isi_int_int, ↓isi_int_bool, ↓isi_int_str, ↓isi_int_list, ↓isi_int_tuple, ↓isi_int_dict, ↓isi_str_int, ↓isi_str_bool, ↓isi_str_str, ↓isi_str_list, ↓isi_str_tuple, ↓isi_str_dict, ↓isi_lst_int, ↓isi_lst_bool, ↓isi_lst_str, ↓isi_lst_list, ↓isi_lst_tuple, ↓isi_lst_dict, ↓isi_sq_int, ↓isi_sq_bool, ↓isi_sq_str, ↓isi_sq_list, ↓isi_sq_tuple, ↓isi_sq_dict, ↓isi_tup_int, ↓isi_tup_bool, ↓isi_tup_str, ↓isi_tup_list, ↓isi_tup_tuple, ↓isi_tup_dict, ↓isi_dic_int, ↓isi_dic_bool, ↓isi_dic_str, ↓isi_dic_list, ↓isi_dic_tuple, ↓isi_dic_dict, if_true, if_false, Bool.not_true, Bool.not_false, true_and, and_true, reduceCtorEq, Bool.true_eq_false, Bool.false_eq_true, ite_true, ite_false, ↓exAny, ↓isLst_l, Int.toNat_natCast, Int.reduceToNat, dVar_e, sPar_e, sPar3_e, sAug_e])))
--MD
theorem p__law_look : Rets sp__law_look T__law_look N__law_look := by
  rintro _ S Φ Ψ ⟨h, n, rfl, f, hn, q⟩
  unfold T__law_look
  walk_at "dl"
  refine pick_at f (by decide) (fun S1 a f1 g1 ha0 ha1 => ?_) (by omega) (by decide)
  refine ⟨cpw (by decide) (by decide) (by decide), pick_at g1 (by decide) (fun S2 b f2 g2 hb0 hb1 => ?_) (by omega) (by decide)⟩
  have e30 : (10 : Int) ^ 30 = GREAT := by decide
  refine ⟨small, pick_at g2 (by decide) (fun S3 c f3 g3 hc0 hc1 => ?_) (by omega) (by decide)⟩
  have five : ∀ d ∈ [D.int 0, D.int 1, D.int 2, D.int (1 + a), D.int (10 ^ 30 - b)], ∃ x : Int, d = .int x ∧ 0 ≤ x ∧ x ≤ GREAT := fun d hd => by
    simp only [List.mem_cons, List.not_mem_nil, or_false] at hd
    rcases hd with rfl | rfl | rfl | rfl | rfl
    · exact ⟨0, rfl, by decide, by decide⟩
    · exact ⟨1, rfl, by decide, by decide⟩
    · exact ⟨2, rfl, by decide, by decide⟩
    · exact ⟨1 + a, rfl, by omega, by have : (10 : Int) ≤ GREAT := by decide
                                      omega⟩
    · exact ⟨10 ^ 30 - b, rfl, by omega, by omega⟩
  refine dIx_p hc0 (by exact hc1) five fun d ⟨x, ed, hx0, hx1⟩ => ?_
  subst ed
  refine ⟨small, pick_at g3 (by decide) (fun S4 e f4 g4 he0 he1 => ?_) (by omega) (by decide)⟩
  refine dIx_p (p := fun d => ∃ k : Int, d = .int k ∧ 0 ≤ k ∧ k < 5) he0 (by exact he1) (fun d hd => ?_) fun d ⟨k, ed, hk0, hk1⟩ => ?_
  · simp only [List.mem_cons, List.not_mem_nil, or_false] at hd
    rcases hd with rfl | rfl | rfl | rfl | rfl
    · exact ⟨0, rfl, by decide, by decide⟩
    · exact ⟨0, rfl, by decide, by decide⟩
    · exact ⟨1, rfl, by decide, by decide⟩
    · exact ⟨3, rfl, by decide, by decide⟩
    · exact ⟨4, rfl, by decide, by decide⟩
  subst ed
  refine dIx_p hk0 (by exact hk1) five fun d ⟨y, ed, hy0, hy1⟩ => ?_
  subst ed
  exact ⟨small, ret_now (q _ x y ((((f1.trans f2).trans f3).trans f4).mono (by omega)) ⟨hx0, hx1, hy0, hy1⟩)⟩
theorem p__law_groups : Rets sp__law_groups T__law_groups N__law_groups := by
  rintro _ S Φ Ψ ⟨t, c, rfl, ok, q⟩
  unfold T__law_groups
  walk_at "dl"
  have h6 := ok.hi
  refine ⟨small, by omega, by rw [List.length_map]; omega, ?_⟩
  rw [List.length_map, show (((t.length : Nat) : Int) + 1).toNat = t.length + 1 by omega]
  refine for_r0 (fun i Γ S' => ∃ o1 o2, Γ = [some (tabD t), some (.int c), some (.own S.length), some (cutOf (colRuns (hasT (tabsF t) c) i).2), o1, o2] ∧ S' = S ++ [.lst ((colRuns (hasT (tabsF t) c) i).1.map pairD)]) ⟨_, _, rfl, rfl⟩ (fun i Γ' S' hi hp => ?_) fun Γ' S' hp => ?_
  · obtain ⟨o1, o2, rfl, rfl⟩ := hp
    have hR := runs_len (hasT (tabsF t) c) i
    have hS : ∀ q, colRuns q (i + 1) = if q i then ((colRuns q i).1, some ((colRuns q i).2.getD i)) else match (colRuns q i).2 with
      | none => ((colRuns q i).1, none)
      | some f => ((colRuns q i).1 ++ [(f, i - 1)], none) := fun _ => rfl
    have hO : ∀ f, (colRuns (hasT (tabsF t) c) i).2 = some f → f < i := fun f e => ((runs_ok (hasT (tabsF t) c) i).opn f e).1
    rw [hS]
    generalize (colRuns (hasT (tabsF t) c) i).1 = bs at hR ⊢
    generalize (colRuns (hasT (tabsF t) c) i).2 = o at hO ⊢
    have body : ∀ R : KD, R (S ++ [Cell.lst (bs.map pairD)]) (.bl (hasT (tabsF t) c i)) → dAnd (dOp dLt (dVar 4) (dCB cLen (lCons (dVar 0) lNil))) (dOp dGt (dCB cLen (lCons (dOp dIx (dVar 0) (dVar 4)) lNil)) (dOp dAdd (dVar 1) (dC (.int 1)))) [some (tabD t), some (.int c), some (.own S.length), some (cutOf o), some (.int i), o2] (S ++ [Cell.lst (bs.map pairD)]) R (ErOk S Ψ) := fun R hR => by
      walk_at "dl"
      rw [List.length_map]
      by_cases z : i < t.length
      · rw [if_pos (by rw [decide_eq_true_eq]; omega), at_nat]
        refine ⟨rowD t[i], by rw [List.getElem?_map, List.getElem?_eq_getElem z]; rfl, ?_⟩
        walk_at "dl"
        rw [List.length_map]
        have e : hasT (tabsF t) c i = decide (((c : Nat) : Int) + 1 < ((t[i]).length : Int)) := by
          unfold hasT
          rw [tabsF_at]
          unfold tabAt
          rw [List.getD_eq_getElem?_getD, List.getElem?_eq_getElem z]
          show decide (c < (t[i]).length - 1) = _
          by_cases y : c < (t[i]).length - 1
          · rw [decide_eq_true y, decide_eq_true (by omega)]
          · rw [decide_eq_false y, decide_eq_false (by omega)]
        rw [← e]
        exact hR
      · rw [if_neg (by rw [decide_eq_true_eq]; omega)]
        have e : hasT (tabsF t) c i = false := by
          unfold hasT
          rw [tabsF_at, decide_eq_false_iff_not]
          unfold tabAt
          rw [List.getD_eq_getElem?_getD, List.getElem?_eq_none (by omega)]
          exact Nat.not_lt_zero _
        rw [← e]
        exact hR
    rw [nmG_e, sSeq_e, sAsg_e]
    refine body _ ?_
    generalize hasT (tabsF t) c i = p
    walk_at "dl"
    rw [sJ_e]
    walk_at "dl"
    cases p with
    | true =>
      rw [if_pos rfl, if_pos rfl]
      cases o with
      | none =>
        rw [show dIsN (cutOf none) D.non = fun S Φ => Φ S (.bl true) from rfl]
        walk_at "dl"
        rw [sJ_e]
        walk_at "dl"
        exact ⟨_, _, rfl⟩
      | some f =>
        rw [show dIsN (cutOf (some f)) D.non = fun S Φ => Φ S (.bl false) from rfl]
        walk_at "dl"
        rw [sJ_e]
        walk_at "dl"
        exact ⟨_, _, rfl⟩
    | false =>
      rw [if_neg Bool.false_ne_true, if_neg Bool.false_ne_true]
      rw [sJ_e]
      walk_at "dl"
      cases o with
      | none =>
        rw [show dNotN (cutOf none) D.non = fun S Φ => Φ S (.bl false) from rfl]
        walk_at "dl"
        exact ⟨_, _, rfl⟩
      | some f =>
        have := hO f rfl
        rw [show dNotN (cutOf (some f)) D.non = fun S Φ => Φ S (.bl true) from rfl]
        walk_at "dl"
        refine ⟨isLst_at get_at, small, _, get_at, under (by rw [List.length_map]; omega), _, _, rfl, ?_⟩
        rw [set_at, List.map_append]
        show _ = S ++ [Cell.lst (_ ++ [D.tup [.int f, .int ((i - 1 : Nat) : Int)]])]
        rw [show ((i - 1 : Nat) : Int) = (i : Int) - 1 by omega]
        rfl
  · obtain ⟨o1, o2, rfl, rfl⟩ := hp
    walk_at "dl"
    refine ⟨_, get_at, ?_⟩
    rw [set_at]
    exact ret_cut (low_pairs _ _) q
theorem lc_rg {Γ : Gam} {S : Sto} {Φ : KD} {G : TGd} {C : TB} {Te : TD} {vs : List Nat} {Fin : List D → Sto → KD → Prop} {lo : Int} {n : Nat} (P : Nat → List D → Sto → Prop) (hl : n ≤ sizeLine) (h0 : P 0 [] S) (hs : ∀ (i : Nat) acc S', i < n → P i acc S' → G (.int (lo + (i : Int))) (gwipe Γ vs) S' fun Γ2 S2 => C Γ2 S2 (fun S3 k => if k = true then Te Γ2 S3 (fun S4 y => P (i + 1) (acc ++ [y]) S4) (fun _ _ => False) else P (i + 1) acc S3) (fun _ _ => False))
    (hd : ∀ acc S', P n acc S' → Fin acc S' Φ) : lcP (fun _ => some (rngD lo n)) G C Te vs Fin Γ S Φ :=
  ⟨P, n, hl, h0, fun _ _ _ _ _ => ⟨_, rfl, rng_len _ _⟩, fun i acc S' es d hp e hd => by
    cases e
    obtain ⟨hi, rfl⟩ := rng_get hd
    exact hs i acc S' hi hp, hd⟩
theorem two0 {S : Sto} {a b : Cell} : (S ++ [a] ++ [b])[S.length]? = some a := by rw [List.append_assoc]; exact get_at
theorem two1 {S : Sto} {a b : Cell} : (S ++ [a] ++ [b])[S.length + 1]? = some b := by
  have : (S ++ [a]).length = S.length + 1 := by rw [List.length_append]; rfl
  rw [← this]
  exact get_at
theorem two0s {S : Sto} {a b c : Cell} : (S ++ [a] ++ [b]).set S.length c = S ++ [c] ++ [b] := by
  rw [List.append_assoc, List.append_assoc]
  exact set_at
theorem two1s {S : Sto} {a b c : Cell} : (S ++ [a] ++ [b]).set (S.length + 1) c = S ++ [a] ++ [c] := by
  have : (S ++ [a]).length = S.length + 1 := by rw [List.length_append]; rfl
  rw [← this]
  exact set_at
theorem zipD_at {xs ys : List D} {i : Nat} (h : i < xs.length) (h2 : i < ys.length) : (zipD xs ys)[i]'(by unfold zipD; rw [List.length_map, List.length_zip]; omega) = .tup [xs[i], ys[i]] := by simp [zipD]
theorem at_neg1 {α : Type} {xs : List α} (h : 1 ≤ xs.length) : atI xs (-1) = xs[xs.length - 1]? := by
  unfold atI ixN
  rw [if_neg (by decide), if_pos (by omega)]
  show xs[(-1 + (xs.length : Int)).toNat]? = _
  congr 1
  omega
theorem last_map {r : List Int} (h : 1 ≤ r.length) : (r.map D.int)[(r.map D.int).length - 1]? = some (.int (r.getLastD 0)) := by
  rw [List.length_map, List.getElem?_map, ← List.getLast?_eq_getElem?, List.getLastD_eq_getLast?]
  cases q : r.getLast? with
  | none => rw [List.getLast?_eq_none_iff] at q; subst q; simp at h
  | some x => rfl
theorem LinOk.cells {t : List (List Int)} (ok : LinOk t) : CellsIn t GREAT := fun r hr x hx => (ok.row r hr).at_ x hx
theorem p__law_stops : Rets sp__law_stops T__law_stops N__law_stops := by
  rintro _ S Φ Ψ ⟨t, g, l, rfl, ok, gk, q⟩
  unfold T__law_stops
  walk_at "dl"
  have h1 := ok.lo
  have h6 := ok.hi
  rw [List.length_map]
  refine ⟨small, by omega, by omega, ?_⟩
  have eB : (List.replicate t.length [D.int 0]).flatten = ((List.range t.length).map (bF g l t 0)).map D.int := by
    rw [rep_flat]
    apply List.ext_getElem
    · simp
    · intro i _ _
      simp [bF_zero]
  have eL : (S ++ [Cell.dct []]).length = S.length + 1 := by rw [List.length_append]; rfl
  rw [eB, eL]
  refine lc_map t rowD (fun r => D.int (r.length : Nat)) (small (by omega)) (fun r hr R hR => ?_) ?_
  · walk_at "dl"
    rw [List.length_map]
    exact hR
  walk_at "dl"
  refine ⟨t.map fun r => ((r.length : Nat) : Int), by show some _ = some _; rw [List.map_map]; rfl, by rw [List.length_map]; omega, fun M hM hle => ?_⟩
  obtain ⟨r0, hr0, rfl⟩ := List.mem_map.mp hM
  have hb : ∀ j, tabAt t j ≤ r0.length - 1 := fun j => by
    unfold tabAt
    rw [List.getD_eq_getElem?_getD]
    cases z : t[j]? with
    | none => exact Nat.zero_le _
    | some r =>
      have := hle _ (List.mem_map.mpr ⟨r, List.mem_of_getElem? z, rfl⟩)
      show r.length - 1 ≤ _
      omega
  have r1 := (ok.row r0 hr0).lo
  have r2 := (ok.row r0 hr0).hi
  walk_at "dl"
  refine ⟨by omega, by omega, ?_⟩
  rw [show (((r0.length : Nat) : Int) - 1).toNat = r0.length - 1 by omega]
  refine for_r0 (fun c Γ S' => ∃ ks o4 o5 o6 o7 o8 o9 o10, Γ = [some (tabD t), some (rowD [g, l]), some (.own S.length), some (.own (S.length + 1)), o4, o5, o6, o7, o8, o9, o10] ∧ S' = S ++ [.dct ks] ++ [.lst (((List.range t.length).map (bF g l t c)).map D.int)] ∧ ks.length ≤ c * 300) ⟨[], _, _, _, _, _, _, _, rfl, rfl, Nat.zero_le _⟩ (fun c Γ' S' hc hp => ?_) fun Γ' S' hp => ?_
  · obtain ⟨ks, o4, o5, o6, o7, o8, o9, o10, rfl, rfl, hks⟩ := hp
    walk_at "dl"
    refine ⟨t, c, rfl, ok, ⟨_, rfl⟩, ?_⟩
    have hn : hasT (tabsF t) c t.length = false := by
      unfold hasT
      rw [tabsF_at, decide_eq_false_iff_not]
      unfold tabAt
      rw [List.getD_eq_getElem?_getD, List.getElem?_eq_none (Nat.le_refl _)]
      exact Nat.not_lt_zero _
    have hrl := runs_len (hasT (tabsF t) c) (t.length + 1)
    refine for_l (ds := (colRuns (hasT (tabsF t) c) (t.length + 1)).1.map pairD) (fun i Γ S' => ∃ ks o5 o6 o7 o8 o9 o10, Γ = [some (tabD t), some (rowD [g, l]), some (.own S.length), some (.own (S.length + 1)), some (.int c), o5, o6, o7, o8, o9, o10] ∧ S' = S ++ [.dct ks] ++ [.lst (((List.range t.length).map (mixB g l t c ((colRuns (hasT (tabsF t) c) (t.length + 1)).1.take i))).map D.int)] ∧ ks.length ≤ c * 300 + i) ⟨ks, _, _, _, _, _, _, rfl, rfl, by omega⟩ (fun i Γ' S' hi hp => ?_) fun Γ' S' hp => ?_
    · obtain ⟨ks, o5, o6, o7, o8, o9, o10, rfl, rfl, hks⟩ := hp
      rw [List.length_map] at hi
      rw [List.getElem_map]
      have hget : (colRuns (hasT (tabsF t) c) (t.length + 1)).1[i]? = some (colRuns (hasT (tabsF t) c) (t.length + 1)).1[i] := List.getElem?_eq_getElem hi
      have bk := (colBlks_ok (t := t) (c := c) (b := (c, ((colRuns (hasT (tabsF t) c) (t.length + 1)).1[i]).1, ((colRuns (hasT (tabsF t) c) (t.length + 1)).1[i]).2)) (by
        unfold colBlks
        rw [tabsF_len]
        exact List.mem_map.mpr ⟨_, List.getElem_mem hi, rfl⟩)).1
      have hnx : ∀ j, ((colRuns (hasT (tabsF t) c) (t.length + 1)).1.take (i + 1)).any (hasL j) = (((colRuns (hasT (tabsF t) c) (t.length + 1)).1.take i).any (hasL j) || hasL j (colRuns (hasT (tabsF t) c) (t.length + 1)).1[i]) := fun j => by
        rw [List.take_add_one, hget, List.any_append]
        congr 1
        show (hasL j _ || false) = _
        rw [Bool.or_false]
      have hfr : ∀ j, hasL j (colRuns (hasT (tabsF t) c) (t.length + 1)).1[i] = true → j < t.length → hasT (tabsF t) c j = true → ((colRuns (hasT (tabsF t) c) (t.length + 1)).1.take i).any (hasL j) = false := fun j a b c' => run_fresh hn hget a b c'
      generalize (colRuns (hasT (tabsF t) c) (t.length + 1)).1[i] = b at bk hnx hfr ⊢
      obtain ⟨f, m⟩ := b
      have hf : f ≤ m := bk.le
      have hm : m < t.length := bk.lt
      have hB0 : mixB g l t c ((colRuns (hasT (tabsF t) c) (t.length + 1)).1.take i) f = bF g l t c f := by
        unfold mixB
        rw [if_neg]
        rw [hfr f (by unfold hasL; simp; omega) (by omega) (bk.at_ f (Nat.le_refl _) hf)]
        exact Bool.false_ne_true
      have hB : ∀ j, mixB g l t c ((colRuns (hasT (tabsF t) c) (t.length + 1)).1.take (i + 1)) j = if f ≤ j ∧ j ≤ m then bF g l t (c + 1) j else mixB g l t c ((colRuns (hasT (tabsF t) c) (t.length + 1)).1.take i) j := fun j => by
        unfold mixB
        rw [hnx j]
        unfold hasL
        by_cases z : f ≤ j ∧ j ≤ m
        · rw [if_pos z, if_pos (by simp; right; exact z)]
        · rw [if_neg z]
          have : (decide (f ≤ j) && decide (j ≤ m)) = false := by simp; omega
          rw [this, Bool.or_false]
      rw [funext hB]
      generalize mixB g l t c ((colRuns (hasT (tabsF t) c) (t.length + 1)).1.take i) = B0 at hB0 ⊢
      clear hB hnx hfr
      unfold pairD
      walk_at "dl"
      refine ⟨⟨by omega, by omega, by omega, by omega⟩, ?_⟩
      rw [show ((m : Int) + 1 - (f : Int)).toNat = m + 1 - f by omega]
      have row : ∀ k, k < m + 1 - f → ∃ h : f + k < t.length, ∃ h2 : c < (t[f + k]).length, (colOf t c)[f + k]? = some (some (t[f + k])[c]) ∧ (t.getD (f + k) []).getD c 0 = (t[f + k])[c] := fun k hk => by
        have ht : f + k < t.length := by omega
        obtain ⟨v, e1, e2⟩ := colOf_some (bk.at_ (f + k) (by show f ≤ _; omega) (by show _ ≤ m; omega))
        rw [tab_at ht] at e2 ⊢
        obtain ⟨q1, q2⟩ := List.getElem?_eq_some_iff.mp e2
        exact ⟨ht, q1, by rw [q2]; exact e1, by rw [List.getD_eq_getElem?_getD, List.getElem?_eq_getElem q1]; rfl⟩
      refine lc_rg (fun k acc X => X = S ++ [Cell.dct ks] ++ [Cell.lst (((List.range t.length).map B0).map D.int)] ∧ acc = ((List.range k).map fun y => (t.getD (f + y) []).getD c 0).map D.int) (small (by omega)) ⟨rfl, rfl⟩ (fun k acc X hk hp => ?_) fun acc X hp => ?_
      · obtain ⟨rfl, rfl⟩ := hp
        obtain ⟨q0, q1, q2, q3⟩ := row k hk
        walk_at "dl"
        rw [show ((f : Int) + (k : Int)) = ((f + k : Nat) : Int) by omega, at_nat]
        refine ⟨rowD t[f + k], by rw [List.getElem?_map, List.getElem?_eq_getElem q0]; rfl, ?_⟩
        walk_at "dl"
        rw [at_nat]
        refine ⟨.int (t[f + k])[c], by rw [List.getElem?_map, List.getElem?_eq_getElem q1]; rfl, ?_⟩
        rw [List.range_succ, List.map_append, List.map_append, List.map_cons, List.map_nil, q3]
        rfl
      obtain ⟨rfl, rfl⟩ := hp
      walk_at "dl"
      refine ⟨_, rfl, by rw [List.length_map, List.length_range]; omega, fun mx hmx hle => ?_⟩
      have rm : IsRoom l (colOf t c) f m (if mx > l then mx else l) := by
        have up : ∀ y v, f ≤ y → y ≤ m → (colOf t c)[y]? = some (some v) → v ≤ mx := fun y v h5 h6 h7 => by
          obtain ⟨q0, q1, q2, q3⟩ := row (y - f) (by omega)
          have e5 : f + (y - f) = y := by omega
          simp only [e5] at q0 q1 q2 q3
          rw [q2] at h7
          have : v = (t[y])[c] := (Option.some.inj (Option.some.inj h7)).symm
          rw [this, ← q3]
          exact hle _ (List.mem_map.mpr ⟨y - f, List.mem_range.mpr (by omega), by rw [e5]⟩)
        have at_ : ∃ y, f ≤ y ∧ y ≤ m ∧ (colOf t c)[y]? = some (some mx) := by
          obtain ⟨k, hk, rfl⟩ := List.mem_map.mp hmx
          have hk := List.mem_range.mp hk
          obtain ⟨q0, q1, q2, q3⟩ := row k hk
          exact ⟨f + k, by omega, by omega, by rw [q3]; exact q2⟩
        by_cases z : mx > l
        · rw [if_pos z]; exact ⟨by omega, up, .inr at_⟩
        · rw [if_neg z]; exact ⟨Int.le_refl _, fun y v a b e => Int.le_trans (up y v a b e) (by omega), .inl rfl⟩
      have eR : (if mx > l then mx else l) = roomB l t (c, f, m) := rm.eq (bk.room l (Nat.le_refl _) bk.le)
      have stop : ∀ k, f ≤ k → k ≤ m → bF g l t (c + 1) k = B0 f + (if mx > l then mx else l) + g := fun k a b => by
        rw [bF_block bk a b, hB0, eR]
        show bF g l t c f + (roomB l t (c, f, m) + g) = _
        omega
      refine ⟨_, two1, .int (B0 f), by rw [at_nat, List.getElem?_map, List.getElem?_map, List.getElem?_range (by omega)]; rfl, ?_⟩
      walk_at "dl"
      refine ⟨_, ks, [c, f, m], rfl, rfl, two0, by omega, by show 3 ≤ 1000; decide, ⟨by omega, by omega, by omega, by omega⟩, ?_⟩
      rw [two0s]
      generalize B0 f + (if mx > l then mx else l) + g = st at stop ⊢
      have hks2 := putT_len ks (List.map Sum.inl [(c : Int), (f : Int), (m : Int)]) (.int st)
      generalize putT ks (List.map Sum.inl [(c : Int), (f : Int), (m : Int)]) (.int st) = ks2 at hks2 ⊢
      refine for_r (fun k Γ X => ∃ o10, Γ = [some (tabD t), some (rowD [g, l]), some (.own S.length), some (.own (S.length + 1)), some (.int c), some (.int f), some (.int m), some (.int mx), some (.int st), o9, o10] ∧ X = S ++ [Cell.dct ks2] ++ [Cell.lst (((List.range t.length).map fun j => if f ≤ j ∧ j < f + k then st else B0 j).map D.int)]) ⟨_, rfl, ?_⟩ (fun k Γ' X hk hp => ?_) fun Γ' X hp => ?_
      · congr 4
        apply List.map_congr_left
        intro j _
        rw [if_neg (by omega)]
      · obtain ⟨o10, rfl, rfl⟩ := hp
        walk_at "dl"
        refine ⟨_, two1, f + k, by rw [show ((f : Int) + (k : Int)) = ((f + k : Nat) : Int) by omega, List.length_map, List.length_map, List.length_range]; exact ix_nat (by omega), ?_⟩
        rw [two1s, ← List.map_set, rng_set2]
        refine ⟨_, rfl, ?_⟩
        congr 4
        apply List.map_congr_left
        intro j _
        by_cases z : j = f + k
        · rw [if_pos z, if_pos (by omega)]
        · rw [if_neg z]
          by_cases y : f ≤ j ∧ j < f + k
          · rw [if_pos y, if_pos (by omega)]
          · rw [if_neg y, if_neg (by omega)]
      · obtain ⟨o10, rfl, rfl⟩ := hp
        refine ⟨ks2, _, _, _, _, _, _, rfl, ?_, by omega⟩
        congr 4
        apply List.map_congr_left
        intro j _
        by_cases y : f ≤ j ∧ j ≤ m
        · rw [if_pos (by omega), if_pos y, stop j y.1 y.2]
        · rw [if_neg (by omega), if_neg y]
    · obtain ⟨ks, o5, o6, o7, o8, o9, o10, rfl, rfl, hks⟩ := hp
      rw [List.length_map] at hks ⊢
      refine ⟨ks, _, _, _, _, _, _, _, rfl, ?_, by omega⟩
      rw [List.take_length]
      congr 4
      apply List.map_congr_left
      intro k hk
      exact mixB_all (List.mem_range.mp hk)
  · obtain ⟨ks, o4, o5, o6, o7, o8, o9, o10, rfl, rfl, hks⟩ := hp
    walk_at "dl"
    refine ⟨small, ret_now ?_⟩
    have := q (.own S.length) [.dct ks]
    unfold beginsF at this
    have e : (List.range t.length).map (bF g l t (r0.length - 1)) = (List.range t.length).map fun j => endS0 g (roomsOf l t j) := by
      apply List.map_congr_left
      intro j _
      exact bF_all (hb j)
    rw [e]
    exact this
theorem p__law_width : Rets sp__law_width T__law_width N__law_width := by
  rintro _ S Φ Ψ ⟨t, g, l, rfl, ok, gk, q⟩
  unfold T__law_width
  walk_at "dl"
  have h1 := ok.lo
  have h6 := ok.hi
  refine ⟨t, g, l, rfl, ok, gk, fun a Z => ?_⟩
  walk_at "dl"
  have eO : (S ++ Z ++ [Cell.lst ((beginsF g l t).map D.int)])[S.length + Z.length]? = some (.lst ((beginsF g l t).map D.int)) := by
    rw [← List.length_append]
    exact get_at
  have lb : (beginsF g l t).length = t.length := by unfold beginsF; rw [List.length_map, List.length_range]
  refine ⟨⟨_, asQ_at' eO⟩, lc_s (ds := zipD ((beginsF g l t).map D.int) (t.map rowD)) (fun i acc X => X = S ++ Z ++ [Cell.lst ((beginsF g l t).map D.int)] ∧ acc = ((endsF g l t).take i).map D.int) ?_ ⟨rfl, rfl⟩ (fun i acc X hp => ?_) (fun i acc X hi hp => ?_) fun acc X hp => ?_⟩
  · unfold zipD
    rw [List.length_map, List.length_zip, List.length_map, List.length_map]
    exact small (by omega)
  · rw [hp.1, asQ_at' eO]
    rfl
  · obtain ⟨rfl, rfl⟩ := hp
    have hz : i < t.length := by
      unfold zipD at hi
      rw [List.length_map, List.length_zip, List.length_map, List.length_map] at hi
      omega
    have ez := zipD_at (xs := (beginsF g l t).map D.int) (ys := t.map rowD) (i := i) (by rw [List.length_map]; omega) (by rw [List.length_map]; exact hz)
    rw [ez]
    have eb : ((beginsF g l t).map D.int)[i]'(by rw [List.length_map]; omega) = .int (endS0 g (roomsOf l t i)) := by simp [beginsF]
    have et : (t.map rowD)[i]'(by rw [List.length_map]; exact hz) = rowD t[i] := by rw [List.getElem_map]
    rw [eb, et]
    have r1 := (ok.row _ (List.getElem_mem hz)).lo
    walk_at "dl"
    refine ⟨.int ((t[i]).getLastD 0), by rw [at_neg1 (by rw [List.length_map]; exact r1), last_map r1], ?_⟩
    have e2 : (endsF g l t).take (i + 1) = (endsF g l t).take i ++ [rowEnd g l t i] := by
      rw [List.take_add_one]
      congr 1
      unfold endsF
      rw [List.getElem?_map, List.getElem?_range hz]
      rfl
    rw [e2, List.map_append, rowEnd_eq, tab_at hz]
    exact ⟨rfl, rfl⟩
  · obtain ⟨rfl, rfl⟩ := hp
    walk_at "dl"
    have hz : (zipD ((beginsF g l t).map D.int) (t.map rowD)).length = (endsF g l t).length := by
      unfold zipD
      rw [List.length_map, List.length_zip, List.length_map, List.length_map, ends_len]
      omega
    rw [hz, List.take_length]
    refine ⟨endsF g l t, rfl, by rw [ends_len]; exact h1, fun m hm hle => ?_⟩
    have ne : endsF g l t ≠ [] := List.ne_nil_of_mem hm
    have : maxP (endsF g l t) = m := by
      rw [maxP_pos (ends_pos gk.g0 gk.g1 gk.l0 gk.l1 ok.cells fun r hr => (ok.row r hr).hi) ne]
      exact (maxOf_eq hm hle).symm
    rw [this] at q
    rw [List.append_assoc]
    exact ret_cut (by rw [D.low]) q
end DL
namespace DL
open PySem PySem.Spec PyProof.Rows L2
local macro_rules | `(tactic| walk_at "dl") => `(tactic| ((try simp only [gstart, gwipe, List.set_set, List.map_cons, List.map_nil, List.length_cons, List.length_nil, rep_0, rep_s, List.cons_append, List.nil_append, List.set_cons_zero, List.set_cons_succ, Nat.reduceAdd, Nat.reduceSub, Nat.zero_add, Nat.add_zero]); (try simp only [↓dv0, ↓dv1, ↓dv2, ↓dv3, ↓dv4, ↓dv5, ↓dv6, ↓dv7, ↓dv8, ↓dv9, ↓dv10, ↓dv11, ↓dv12, ↓dv13, ↓dv14, ↓dv15, ↓dv16, ↓dv17, ↓dv18, ↓dv19, ↓dv20, ↓dv21, ↓dv22, ↓dv23, ↓dv24, ↓dv25, ↓dv26, ↓dv27, ↓dv28, ↓dv29, ↓dv30, ↓dv31, ↓dv32, ↓dv33, ↓dv34, ↓dv35, ↓dv36, ↓dv37, ↓dv38, ↓dv39, ↓nm0, ↓nm1, ↓nm2, ↓nm3, ↓nm4, ↓nm5, ↓nm6, ↓nm7, ↓nm8, ↓nm9, ↓nm10, ↓nm11, ↓nm12, ↓nm13, ↓nm14, ↓nm15, ↓nm16, ↓nm17, ↓nm18, ↓nm19, ↓nm20, ↓nm21, ↓nm22, ↓nm23, ↓nm24, ↓nm25, ↓nm26, ↓nm27, ↓nm28, ↓nm29, ↓nm30, ↓nm31, ↓nm32, ↓nm33, ↓nm34, ↓nm35, ↓nm36, ↓nm37, ↓nm38, ↓nm39, ↓sPar_n, ↓sPar3_n, ↓sAug_n, ↓reduceIte, List.set_set, ↓sNext_e, ↓sSeq_e, ↓sBrk_e, ↓sCnt_e, ↓sDrop_e, ↓sRet_e, ↓sRetN_e, ↓sIf_e, ↓sAsg_e, ↓sRaise_e, ↓nmG_e, ↓tupG_e, ↓gsNil_e, ↓gsCons_e, ↓subG_e, ↓dC_e, ↓dOp_e, ↓dUn_e, ↓dChain_e, ↓bOf_e, ↓bAnd_e, ↓bOr_e, ↓bNot_e, ↓bYes_e, ↓dAnd_e, ↓dOr_e, ↓dNot_e, ↓dIf_e, ↓lNil_e, ↓lCons_e, ↓dLst_e, ↓dDic0_e, ↓dDic1_e, ↓dLenSetG_e, dIsB_b, ↓dLstO_e, ↓dTup_e, ↓dCB_e, ↓dCall_e, ↓dCallK_e, ↓oNone_e, ↓oSome_e, ↓dSl_e, ↓dBM_e, ↓dBM0_e, ↓dFz_e, ↓dFz2_e, ↓d2_e, ↓dLone_e, ↓lStar_e, ↓dCallA_e, ↓dMakeA_e, ↓dMakeV_e, ↓dMethA_e, ↓dCMethA_e, ↓dPropA_e, ↓dFld_e, ↓sFldS_e, ↓dFzI_e, ↓fzID_o, ↓dM1_e, ↓dM0_e, ↓dRev_e, ↓mSplit_s, ↓mUpper_s, ↓exStr, ↓exZ, ↓cStrI_i, ↓cIntS_s, ↓iStrD_e, ↓dEqF_s, ↓dNeF_s, ↓dEqF_i, ↓dNeF_i, ↓dSign_s, ↓sRaiseI_e, ↓dXFld_e, ↓mPop_e, ↓dAddO_l, ↓dAddO_o, ↓dMk0_e, ↓sKeep_e, ↓sTryH_e, ↓dCVal_e, ↓dConI_e, ↓cLen_s, ↓dIx_s, ↓dSlS_s, ↓dAdd_s, ↓cTup_l, ↓pkP_e, ↓pkS_e, ↓lstG_e, ↓asI_i, ↓iSeq_e, ↓iTupD_e, ↓iRg1_e, ↓iRg2_e, ↓iZipD_e, ↓iEnumD_e, ↓sFor_e, ↓dLc_e, ↓finF_e, ↓finO_e, ↓fzD_l, ↓fzD_i, ↓fzD_o, ↓fzD2_o, ↓dSetO_e, ↓mAppend_e, ↓mClear_e, ↓mReverse_e, List.map_cons, List.map_nil, List.length_cons, List.length_nil, rep_0, rep_s, List.cons_append, List.nil_append, List.getElem?_cons_zero, List.getElem?_cons_succ, List.set_cons_zero, List.set_cons_succ, Nat.reduceAdd, Nat.reduceSub, Nat.zero_add, Nat.add_zero, ↓exSS, ↓exB, ↓exI, ↓ex1, ↓ex2, ↓ex3, ↓exI1, ↓exI2, ↓exT, ↓exC, ↓exAs, ↓dAdd_i, ↓dAddI_i, ↓dSubI_i, ↓dLRg_e, ↓dIsiT_e, ↓dLenSet_e, ↓bChain3_e, ↓dLRg2_e, ↓iRg3_e, ↓dLc2_e, ↓dSlT_t, ↓dNew_e, ↓sDct_e, ↓dMulO_l, ↓dLRgO_e, ↓dAdd_l, ↓dSub_i, ↓dMul_i, ↓dMul_l, ↓dMod_i, ↓dDiv_i, ↓dPow_i, ↓dLt_i, ↓dLe_i, ↓dGt_i, ↓dGe_i, ↓uNeg_i, ↓cMax2_i, ↓cMin2_i, ↓cAbs_i, ↓cInt_i, ↓cInt_b, ↓cLen_l, ↓cLen_q, ↓cLen_t, ↓cList_l, ↓cList_q, ↓cList_t, ↓cListO_l, ↓cListO_t, ↓dIx_l, ↓dIx_q, ↓dIx_t, ↓dIx_o', ↓exS, ↓exL, at_1, at_2, at_3, at_4, ix30, ix31, ix32, ↓dSlL_l, ↓dSlL_q, ↓asQ_l, ↓asL_l, at_0, ↓isi_non_int, ↓isi_non_bool, ↓isi_non_str, ↓isi_non_list, ↓isi_non_tuple, ↓isi_non_dict, ↓isi_bl_int, ↓isi_bl_bool, ↓isi_bl_str, ↓isi_bl_list, ↓isi_bl_tuple, ↓isi_bl_dict, ↓isi_int_int, ↓isi_int_bool, ↓isi_int_str, ↓isi_int_list, ↓isi_int_tuple, ↓isi_int_dict, ↓isi_str_int, ↓isi_str_bool, ↓isi_str_str, ↓isi_str_list, ↓isi_str_tuple, ↓isi_str_dict, ↓isi_lst_int, ↓isi_lst_bool, ↓isi_lst_str, ↓isi_lst_list, ↓isi_lst_tuple, ↓isi_lst_dict, ↓isi_sq_int, ↓isi_sq_bool, ↓isi_sq_str, ↓isi_sq_list, ↓isi_sq_tuple, ↓isi_sq_dict, ↓isi_tup_int, ↓isi_tup_bool, ↓isi_tup_str, ↓isi_tup_list, ↓isi_tup_tuple, ↓isi_tup_dict, ↓isi_dic_int, ↓isi_dic_bool, ↓isi_dic_str, ↓isi_dic_list, ↓isi_dic_tuple, ↓isi_dic_dict, if_true, if_false, Bool.not_true, Bool.not_false, true_and, and_true, reduceCtorEq, Bool.true_eq_false, Bool.false_eq_true, ite_true, ite_false, ↓exAny, ↓isLst_l, Int.toNat_natCast, Int.reduceToNat, dVar_e, sPar_e, sPar3_e, sAug_e])))
local macro_rules | `(tactic| walk_at "dls") => `(tactic| ((try simp only [gstart, gwipe, List.set_set, List.map_cons, List.map_nil, List.length_cons, List.length_nil, rep_0, rep_s, List.cons_append, List.nil_append, List.set_cons_zero, List.set_cons_succ, Nat.reduceAdd, Nat.reduceSub, Nat.zero_add, Nat.add_zero]); (try simp only [*, ↓dv0, ↓dv1, ↓dv2, ↓dv3, ↓dv4, ↓dv5, ↓dv6, ↓dv7, ↓dv8, ↓dv9, ↓dv10, ↓dv11, ↓dv12, ↓dv13, ↓dv14, ↓dv15, ↓dv16, ↓dv17, ↓dv18, ↓dv19, ↓dv20, ↓dv21, ↓dv22, ↓dv23, ↓dv24, ↓dv25, ↓dv26, ↓dv27, ↓dv28, ↓dv29, ↓dv30, ↓dv31, ↓dv32, ↓dv33, ↓dv34, ↓dv35, ↓dv36, ↓dv37, ↓dv38, ↓dv39, ↓nm0, ↓nm1, ↓nm2, ↓nm3, ↓nm4, ↓nm5, ↓nm6, ↓nm7, ↓nm8, ↓nm9, ↓nm10, ↓nm11, ↓nm12, ↓nm13, ↓nm14, ↓nm15, ↓nm16, ↓nm17, ↓nm18, ↓nm19, ↓nm20, ↓nm21, ↓nm22, ↓nm23, ↓nm24, ↓nm25, ↓nm26, ↓nm27, ↓nm28, ↓nm29, ↓nm30, ↓nm31, ↓nm32, ↓nm33, ↓nm34, ↓nm35, ↓nm36, ↓nm37, ↓nm38, ↓nm39, ↓sPar_n, ↓sPar3_n, ↓sAug_n, ↓reduceIte, List.set_set, ↓sNext_e, ↓sSeq_e, ↓sBrk_e, ↓sCnt_e, ↓sDrop_e, ↓sRet_e, ↓sRetN_e, ↓sIf_e, ↓sAsg_e, ↓sRaise_e, ↓nmG_e, ↓tupG_e, ↓gsNil_e, ↓gsCons_e, ↓subG_e, ↓dC_e, ↓dOp_e, ↓dUn_e, ↓dChain_e, ↓bOf_e, ↓bAnd_e, ↓bOr_e, ↓bNot_e, ↓bYes_e, ↓dAnd_e, ↓dOr_e, ↓dNot_e, ↓dIf_e, ↓lNil_e, ↓lCons_e, ↓dLst_e, ↓dDic0_e, ↓dDic1_e, ↓dLenSetG_e, dIsB_b, ↓dLstO_e, ↓dTup_e, ↓dCB_e, ↓dCall_e, ↓dCallK_e, ↓oNone_e, ↓oSome_e, ↓dSl_e, ↓dBM_e, ↓dBM0_e, ↓dFz_e, ↓dFz2_e, ↓d2_e, ↓dLone_e, ↓lStar_e, ↓dCallA_e, ↓dMakeA_e, ↓dMakeV_e, ↓dMethA_e, ↓dCMethA_e, ↓dPropA_e, ↓dFld_e, ↓sFldS_e, ↓dFzI_e, ↓fzID_o, ↓dM1_e, ↓dM0_e, ↓dRev_e, ↓mSplit_s, ↓mUpper_s, ↓exStr, ↓exZ, ↓cStrI_i, ↓cIntS_s, ↓iStrD_e, ↓dEqF_s, ↓dNeF_s, ↓dEqF_i, ↓dNeF_i, ↓dSign_s, ↓sRaiseI_e, ↓dXFld_e, ↓mPop_e, ↓dAddO_l, ↓dAddO_o, ↓dMk0_e, ↓sKeep_e, ↓sTryH_e, ↓dCVal_e, ↓dConI_e, ↓cLen_s, ↓dIx_s, ↓dSlS_s, ↓dAdd_s, ↓cTup_l, ↓pkP_e, ↓pkS_e, ↓lstG_e, ↓asI_i, ↓iSeq_e, ↓iTupD_e, ↓iRg1_e, ↓iRg2_e, ↓iZipD_e, ↓iEnumD_e, ↓sFor_e, ↓dLc_e, ↓finF_e, ↓finO_e, ↓fzD_l, ↓fzD_i, ↓fzD_o, ↓fzD2_o, ↓dSetO_e, ↓mAppend_e, ↓mClear_e, ↓mReverse_e, List.map_cons, List.map_nil, List.length_cons, List.length_nil, rep_0, rep_s, List.cons_append, List.nil_append, List.getElem?_cons_zero, List.getElem?_cons_succ, List.set_cons_zero, List.set_cons_succ, Nat.reduceAdd, Nat.reduceSub, Nat.zero_add, Nat.add_zero, ↓exSS, ↓exB, ↓exI, ↓ex1, ↓ex2, ↓ex3, ↓exI1, ↓exI2, ↓exT, ↓exC, ↓exAs, ↓dAdd_i, ↓dAddI_i, ↓dSubI_i, ↓dLRg_e, ↓dIsiT_e, ↓dLenSet_e, ↓bChain3_e, ↓dLRg2_e, ↓iRg3_e, ↓dLc2_e, ↓dSlT_t, ↓dNew_e, ↓sDct_e, ↓dMulO_l, ↓dLRgO_e, ↓dAdd_l, ↓dSub_i, ↓dMul_i, ↓dMul_l, ↓dMod_i, ↓dDiv_i, ↓dPow_i, ↓dLt_i, ↓dLe_i, ↓dGt_i, ↓dGe_i, ↓uNeg_i, ↓cMax2_i, ↓cMin2_i, ↓cAbs_i, ↓cInt_i, ↓cInt_b, ↓cLen_l, ↓cLen_q, ↓cLen_t, ↓cList_l, ↓cList_q, ↓cList_t, ↓cListO_l, ↓cListO_t, ↓dIx_l, ↓dIx_q, ↓dIx_t, ↓dIx_o', ↓exS, ↓exL, at_1, at_2, at_3, at_4, ix30, ix31, ix32, ↓dSlL_l, ↓dSlL_q, ↓asQ_l, ↓asL_l, at_0, ↓isi_non_int, ↓isi_non_bool, ↓isi_non_str, ↓isi_non_list, ↓isi_non_tuple, ↓isi_non_dict, ↓isi_bl_int, ↓isi_bl_bool, ↓isi_bl_str, ↓isi_bl_list, ↓isi_bl_tuple, ↓isi_bl_dict, ↓isi_int_int, ↓isi_int_bool, ↓isi_int_str, ↓isi_int_list, ↓isi_int_tuple, ↓isi_int_dict, ↓isi_str_int, ↓isi_str_bool, ↓isi_str_str, ↓isi_str_list, ↓isi_str_tuple, ↓isi_str_dict, ↓isi_lst_int, ↓isi_lst_bool, ↓isi_lst_str, ↓isi_lst_list, ↓isi_lst_tuple, ↓isi_lst_dict, ↓isi_sq_int, ↓isi_sq_bool, ↓isi_sq_str, ↓isi_sq_list, ↓isi_sq_tuple, ↓isi_sq_dict, ↓isi_tup_int, ↓isi_tup_bool, ↓isi_tup_str, ↓isi_tup_list, ↓isi_tup_tuple, ↓isi_tup_dict, ↓isi_dic_int, ↓isi_dic_bool, ↓isi_dic_str, ↓isi_dic_list, ↓isi_dic_tuple, ↓isi_dic_dict, if_true, if_false, Bool.not_true, Bool.not_false, true_and, and_true, reduceCtorEq, Bool.true_eq_false, Bool.false_eq_true, ite_true, ite_false, ↓exAny, ↓isLst_l, Int.toNat_natCast, Int.reduceToNat, dVar_e, sPar_e, sPar3_e, sAug_e])))
--MD
theorem Pln.ty {x : D} (h : Pln x) : ∃ a, ∀ S, tyOf S x = some a ∧ a ∈ tys := by
  cases h with
  | non => exact ⟨"NoneType", fun _ => ⟨rfl, by decide⟩⟩
  | bl => exact ⟨"bool", fun _ => ⟨rfl, by decide⟩⟩
  | int => exact ⟨"int", fun _ => ⟨rfl, by decide⟩⟩
  | str => exact ⟨"str", fun _ => ⟨rfl, by decide⟩⟩
  | lst => exact ⟨"list", fun _ => ⟨rfl, by decide⟩⟩
  | tup => exact ⟨"tuple", fun _ => ⟨rfl, by decide⟩⟩
  | dic => exact ⟨"dict", fun _ => ⟨rfl, by decide⟩⟩
theorem strB_two {n : Nat} {a b : D} : strB n (.tup [a, b]) = (intIn a 0 ((n : Int) - 1) && (intIn b 0 ((n : Int) - 1) && (match a, b with | .int a, .int b => decide (a ≤ b) | _, _ => false))) := by
  cases a <;> cases b <;> simp [strB, intIn]
theorem p_is_stretch : Rets sp_is_stretch T_is_stretch N_is_stretch := by
  rintro _ S Φ Ψ ⟨d, t, x, rfl, tb, ok, px, q⟩
  obtain ⟨ds, e, rs⟩ := id tb
  have h3 := rs.len
  unfold T_is_stretch
  cases px with
  | tup xs hx =>
    walk_at "dl"
    rw [dNe_i]
    refine ⟨_, rfl, ?_⟩
    by_cases c : xs.length = 2
    · rw [if_neg (by rw [show ((xs.length : Nat) : Int) = 2 by omega]; decide)]
      match xs, c, hx, q with
      | [a, b], _, hx, q =>
      have h6 := ok.hi
      refine lc_idS [a, b] (fun x => .bl (intIn x 0 ((t.length : Int) - 1))) (by rfl) (small (by show 2 ≤ _; omega)) (fun x hx2 R hR => ?_) ?_
      · walk_at "dl"
        rw [cLen_L e]
        walk_at "dl"
        exact ⟨_, _, _, rfl, hx x hx2, by rw [h3]; exact hR⟩
      · walk_at "dl"
        refine ⟨[intIn a 0 ((t.length : Int) - 1), intIn b 0 ((t.length : Int) - 1)], rfl, _, rfl, ?_⟩
        rw [strB_two] at q
        have two : ∀ u v : Bool, [u, v].all id = (u && v) := fun u v => by cases u <;> cases v <;> rfl
        rw [two]
        cases ha : intIn a 0 ((t.length : Int) - 1) with
        | false => rw [ha] at q; exact ret_now q
        | true =>
          cases hb : intIn b 0 ((t.length : Int) - 1) with
          | false => rw [ha, hb] at q; exact ret_now q
          | true =>
            rw [ha, hb] at q
            rw [show (true && true) = true from rfl, if_pos rfl]
            cases a with
            | int a =>
              cases b with
              | int b => exact ret_now q
              | _ => cases hb
            | _ => cases ha
    · rw [if_pos (by rw [Bool.not_eq_true', beq_eq_false_iff_ne]; omega)]
      have e2 : strB t.length (.tup xs) = false := by
        unfold strB
        split
        · rename_i a b z
          cases z
          exact absurd rfl c
        · rfl
      rw [e2] at q
      exact ret_now q
  | _ => walk_at "dl"; exact ret_now q
theorem fitB_true {g l : Int} {t : List (List Int)} {w n : Int} {x : D} (h : OkShown g l t w n x) : fitB g l t w n x = true := by
  unfold fitB
  exact @decide_eq_true _ (Classical.propDecidable _) h
theorem fitB_false {g l : Int} {t : List (List Int)} {w n : Int} {x : D} (h : ¬ OkShown g l t w n x) : fitB g l t w n x = false := by
  unfold fitB
  exact @decide_eq_false _ (Classical.propDecidable _) h
/-- a stretch that is a pair of lines and too wide -/
def WidB (g l : Int) (t : List (List Int)) (w : Int) (x : D) : Prop := ∃ p : Nat × Nat, x = pairD p ∧ p.1 ≤ p.2 ∧ p.2 < t.length ∧ w < wideF g l t p.1 p.2
theorem strB_pair {n : Nat} {x : D} (h : strB n x = true) : ∃ p : Nat × Nat, x = pairD p ∧ p.1 ≤ p.2 ∧ p.2 < n := by
  unfold strB at h
  split at h
  · rename_i a b
    unfold inB at h
    simp only [Bool.and_eq_true, decide_eq_true_eq] at h
    obtain ⟨⟨a1, a2⟩, ⟨b1, b2⟩, ab⟩ := h
    refine ⟨(a.toNat, b.toNat), ?_, by show a.toNat ≤ b.toNat; omega, by show b.toNat < n; omega⟩
    unfold pairD
    rw [Int.toNat_of_nonneg a1, Int.toNat_of_nonneg b1]
  · cases h
theorem pair_strB {n : Nat} {p : Nat × Nat} (h : p.1 ≤ p.2) (h2 : p.2 < n) : strB n (pairD p) = true := by
  unfold strB pairD inB
  simp only [Bool.and_eq_true, decide_eq_true_eq]
  omega
theorem wid_lt {g l : Int} {t : List (List Int)} {w : Int} (hf : Fits g l t w) {p : Nat × Nat} (h : p.1 ≤ p.2) (h2 : p.2 < t.length) (h3 : w < wideF g l t p.1 p.2) : p.1 < p.2 := by
  rcases Nat.lt_or_ge p.1 p.2 with c | c
  · exact c
  · have e : p.1 = p.2 := by omega
    rw [e] at h3
    have := hf p.2 h2
    omega
theorem pairs_of {P : Nat × Nat → Prop} : ∀ {xs : List D}, (∀ x ∈ xs, ∃ p : Nat × Nat, x = pairD p ∧ P p) → ∃ ps : List (Nat × Nat), xs = ps.map pairD ∧ ∀ p ∈ ps, P p
  | [], _ => ⟨[], rfl, fun _ h => nomatch h⟩
  | x :: xs, h => by
    obtain ⟨p, e, hp⟩ := h x List.mem_cons_self
    obtain ⟨ps, e2, h2⟩ := pairs_of (xs := xs) fun y hy => h y (List.mem_cons_of_mem _ hy)
    refine ⟨p :: ps, by rw [e, e2]; rfl, fun q hq => ?_⟩
    rcases List.mem_cons.mp hq with z | z
    · rw [z]; exact hp
    · exact h2 q z
theorem pairD_inj {p q : Nat × Nat} (h : pairD p = pairD q) : p = q := by
  unfold pairD at h
  injection h with h
  injection h with h1 h
  injection h with h2 h
  injection h1 with h1
  injection h2 with h2
  exact Prod.ext (by omega) (by omega)
theorem shown_wid {g l : Int} {t : List (List Int)} {w n : Int} {xs : List D} (h : OkShown g l t w n (.lst xs)) : n ≤ xs.length ∧ ∀ x ∈ xs, WidB g l t w x := by
  obtain ⟨ps, e, hn, wo⟩ := h
  injection e with e
  subst e
  refine ⟨by rw [List.length_map]; exact hn, fun x hx => ?_⟩
  obtain ⟨p, hp, rfl⟩ := List.mem_map.mp hx
  obtain ⟨h1, h2, h3⟩ := wo.one p hp
  exact ⟨p, rfl, by omega, h2, h3⟩
/-- pairs in order: the first that begins before the one before it ends -/
def runOk : Int → List (Int × Int) → Bool
  | _, [] => true
  | e, p :: ps => decide (e ≤ p.1) && runOk p.2 ps
theorem run_two : ∀ (qs : List (Int × Int)) (e : Int), (∀ q ∈ qs, q.1 < q.2) → runOk e qs = true → (∀ q ∈ qs, e ≤ q.1) ∧ qs.Pairwise fun a b => a.2 ≤ b.1
  | [], _, _, _ => ⟨(fun _ h => nomatch h), List.Pairwise.nil⟩
  | q :: qs, e, h, r => by
    rw [runOk, Bool.and_eq_true, decide_eq_true_eq] at r
    obtain ⟨h1, h2⟩ := run_two qs q.2 (fun z hz => h z (List.mem_cons_of_mem _ hz)) r.2
    have h3 := h q List.mem_cons_self
    refine ⟨fun z hz => ?_, List.pairwise_cons.mpr ⟨h1, h2⟩⟩
    rcases List.mem_cons.mp hz with y | y
    · rw [y]; exact r.1
    · have := h1 z y
      omega
theorem two_run : ∀ (qs : List (Int × Int)) (e : Int), (∀ q ∈ qs, e ≤ q.1) → (qs.Pairwise fun a b => a.2 ≤ b.1) → runOk e qs = true
  | [], _, _, _ => rfl
  | q :: qs, e, h, r => by
    obtain ⟨h1, h2⟩ := List.pairwise_cons.mp r
    rw [runOk, decide_eq_true (h q List.mem_cons_self), two_run qs q.2 h1 h2]
    rfl
theorem fit_run {g l : Int} {t : List (List Int)} {w n : Int} {ps : List (Nat × Nat)} {qs : List (Int × Int)} (hf : Fits g l t w) (h : ∀ p ∈ ps, p.1 ≤ p.2 ∧ p.2 < t.length ∧ w < wideF g l t p.1 p.2) (hn : n ≤ ps.length)
    (pm : qs.Perm (ps.map cst)) (sr : qs.Pairwise fun a b => SrtO.lexB b a = false) : fitB g l t w n (.lst (ps.map pairD)) = runOk 0 qs := by
  have h1 : ∀ p ∈ ps, p.1 < p.2 := fun p hp => wid_lt hf (h p hp).1 (h p hp).2.1 (h p hp).2.2
  have q1 : ∀ q ∈ qs, 0 ≤ q.1 ∧ q.1 < q.2 := fun q hq => by
    obtain ⟨p, hp, rfl⟩ := List.mem_map.mp (pm.mem_iff.mp hq)
    have := h1 p hp
    unfold cst
    dsimp only
    omega
  cases hr : runOk 0 qs with
  | true =>
    refine fitB_true ⟨ps, rfl, hn, fun p hp => ⟨h1 p hp, (h p hp).2⟩, ?_⟩
    have a1 := (run_two qs 0 (fun q hq => (q1 q hq).2) hr).2
    have a2 : qs.Pairwise fun a b : Int × Int => a.2 ≤ b.1 ∨ b.2 ≤ a.1 := a1.imp fun h => .inl h
    have a3 := (List.Perm.pairwise_iff (R := fun a b : Int × Int => a.2 ≤ b.1 ∨ b.2 ≤ a.1) (fun h => h.symm) pm).mp a2
    refine (List.pairwise_map.mp a3).imp fun h => ?_
    unfold cst at h
    dsimp only at h
    omega
  | false =>
    refine fitB_false fun ⟨ps2, e, _, wo⟩ => ?_
    injection e with e
    have e2 : ps = ps2 := (List.map_inj_right fun _ _ z => pairD_inj z).mp e
    subst e2
    have ap := apart_sorted h1 wo.two pm sr
    rw [two_run qs 0 (fun q hq => (q1 q hq).1) ap] at hr
    cases hr
theorem not_shown {g l : Int} {t : List (List Int)} {w n : Int} {x : D} (h : ∀ xs, x ≠ .lst xs) : fitB g l t w n x = false := fitB_false fun ⟨_, e, _⟩ => h _ e
theorem p_shows_lines (T W N Y : Addr) : Rets (sp_shows_lines T W N Y) (T_shows_lines T W N Y) N_shows_lines := by
  rintro _ S Φ Ψ ⟨d, s, w, n, x, rfl, px, hlen, h⟩
  unfold T_shows_lines
  walk_at "dl"
  refine room_ok h (fun _ z => .inl z) fun t ks g l ed ok es lk hw hfit qq => ?_
  have tb : TabS S d t := ed ▸ tabS_l t
  have q := qq (.bl (fitB g l t w n x))
  walk_at "dl"
  have other : (∀ xs, x ≠ .lst xs) → RetOk S Φ S (.bl false) := fun h => by
    rw [not_shown h] at q
    exact ret_now q
  cases px with
  | lst xs hx =>
    clear other
    have hl := hlen xs rfl
    walk_at "dl"
    by_cases c : n ≤ xs.length
    · rw [if_neg (by rw [decide_eq_true_eq]; omega)]
      refine for_l (ds := xs) (fun i Γ S' => S' = S ∧ (∃ o6, Γ = [some d, some s, some (.int w), some (.int n), some (.lst xs), some (.int 0), o6, none, none]) ∧ ∀ j (hj : j < xs.length), j < i → WidB g l t w xs[j]) ⟨rfl, ⟨_, rfl⟩, fun _ _ h => absurd h (Nat.not_lt_zero _)⟩ (fun i Γ' S' hi hp => ?_) fun Γ' S' hp => ?_
      · obtain ⟨rfl, ⟨o6, rfl⟩, hb⟩ := hp
        have hm := List.getElem_mem hi
        have nxt : WidB g l t w xs[i] → ∀ j (hj : j < xs.length), j < i + 1 → WidB g l t w xs[j] := fun z j hj hji => by
          rcases Nat.lt_or_ge j i with y | y
          · exact hb j hj y
          · have : j = i := by omega
            subst this
            exact z
        have bad : ¬ WidB g l t w xs[i] → RetOk S' Φ S' (.bl false) := fun z => by
          rw [fitB_false fun h => z ((shown_wid h).2 _ hm)] at q
          exact ret_now q
        generalize xs[i] = y at hm nxt bad ⊢
        walk_at "dl"
        refine ⟨d, t, y, rfl, tb, ok, hx y hm, ?_⟩
        cases hs : strB t.length y with
        | false =>
          refine ⟨_, rfl, ?_⟩
          rw [if_pos (show (!false) = true from rfl)]
          refine bad fun ⟨p, e, h1, h2, _⟩ => ?_
          rw [e, pair_strB h1 h2] at hs
          cases hs
        | true =>
          refine ⟨_, rfl, ?_⟩
          rw [if_neg (by decide)]
          obtain ⟨p, rfl, h1, h2⟩ := strB_pair hs
          unfold pairD
          walk_at "dl"
          refine edge_at tb ok es lk h1 h2 ?_
          walk_at "dl"
          by_cases z : w < wideF g l t p.1 p.2
          · rw [if_neg (by rw [decide_eq_true_eq]; omega)]
            exact ⟨⟨_, rfl⟩, nxt ⟨p, rfl, h1, h2, z⟩⟩
          · rw [if_pos (by rw [decide_eq_true_eq]; omega)]
            refine bad fun ⟨p2, e, _, _, h3⟩ => ?_
            rw [pairD_inj e] at z
            exact z h3
      · obtain ⟨rfl, ⟨o6, rfl⟩, hb⟩ := hp
        obtain ⟨ps, rfl, hps⟩ := pairs_of (xs := xs) fun y hy => by
          obtain ⟨j, hj, rfl⟩ := List.getElem_of_mem hy
          exact hb j hj hj
        rw [List.length_map] at c hl
        walk_at "dl"
        refine ⟨ps.map cst, by rw [cst_map]; rfl, fun qs pm sr => ⟨⟨_, rfl⟩, ?_⟩⟩
        rw [fit_run hfit hps c pm sr] at q
        refine for_l (ds := qs.map prD) (fun i Γ S'' => S'' = S' ∧ ∃ e o7 o8, Γ = [some d, some s, some (.int w), some (.int n), some (.lst (ps.map pairD)), some (.int e), o6, o7, o8] ∧ runOk 0 qs = runOk e (qs.drop i)) ⟨rfl, 0, _, _, rfl, rfl⟩ (fun i Γ' S'' hi hp => ?_) fun Γ' S'' hp => ?_
        · obtain ⟨rfl, e, o7, o8, rfl, hb⟩ := hp
          rw [List.length_map] at hi
          rw [List.getElem_map]
          rw [List.drop_eq_getElem_cons hi, runOk] at hb
          generalize qs[i] = p at hb ⊢
          unfold prD
          walk_at "dl"
          by_cases z : p.1 < e
          · rw [if_pos (by rw [decide_eq_true_eq]; exact z)]
            rw [hb, decide_eq_false (by omega), Bool.false_and] at q
            exact ret_now q
          · rw [if_neg (by rw [decide_eq_true_eq]; exact z)]
            rw [decide_eq_true (by omega), Bool.true_and] at hb
            exact ⟨_, _, _, rfl, hb⟩
        · obtain ⟨rfl, e, o7, o8, rfl, hb⟩ := hp
          rw [List.length_map, List.drop_length] at hb
          rw [hb] at q
          walk_at "dl"
          exact ret_now q
    · rw [if_pos (by rw [decide_eq_true_eq]; omega)]
      rw [fitB_false fun h => c (shown_wid h).1] at q
      exact ret_now q
  | dic ks => walk_at "dl"; exact other (fun _ h => nomatch h)
  | non => walk_at "dl"; exact other (fun _ h => nomatch h)
  | bl b => walk_at "dl"; exact other (fun _ h => nomatch h)
  | int b => walk_at "dl"; exact other (fun _ h => nomatch h)
  | str b => walk_at "dl"; exact other (fun _ h => nomatch h)
  | tup b hb => walk_at "dl"; exact other (fun _ h => nomatch h)
end DL
namespace DL
open PySem PySem.Spec PyProof.Rows L2
local macro_rules | `(tactic| walk_at "dl") => `(tactic| ((try simp only [gstart, gwipe, List.set_set, List.map_cons, List.map_nil, List.length_cons, List.length_nil, rep_0, rep_s, List.cons_append, List.nil_append, List.set_cons_zero, List.set_cons_succ, Nat.reduceAdd, Nat.reduceSub, Nat.zero_add, Nat.add_zero]); (try simp only [↓dv0, ↓dv1, ↓dv2, ↓dv3, ↓dv4, ↓dv5, ↓dv6, ↓dv7, ↓dv8, ↓dv9, ↓dv10, ↓dv11, ↓dv12, ↓dv13, ↓dv14, ↓dv15, ↓dv16, ↓dv17, ↓dv18, ↓dv19, ↓dv20, ↓dv21, ↓dv22, ↓dv23, ↓dv24, ↓dv25, ↓dv26, ↓dv27, ↓dv28, ↓dv29, ↓dv30, ↓dv31, ↓dv32, ↓dv33, ↓dv34, ↓dv35, ↓dv36, ↓dv37, ↓dv38, ↓dv39, ↓nm0, ↓nm1, ↓nm2, ↓nm3, ↓nm4, ↓nm5, ↓nm6, ↓nm7, ↓nm8, ↓nm9, ↓nm10, ↓nm11, ↓nm12, ↓nm13, ↓nm14, ↓nm15, ↓nm16, ↓nm17, ↓nm18, ↓nm19, ↓nm20, ↓nm21, ↓nm22, ↓nm23, ↓nm24, ↓nm25, ↓nm26, ↓nm27, ↓nm28, ↓nm29, ↓nm30, ↓nm31, ↓nm32, ↓nm33, ↓nm34, ↓nm35, ↓nm36, ↓nm37, ↓nm38, ↓nm39, ↓sPar_n, ↓sPar3_n, ↓sAug_n, ↓reduceIte, List.set_set, ↓sNext_e, ↓sSeq_e, ↓sBrk_e, ↓sCnt_e, ↓sDrop_e, ↓sRet_e, ↓sRetN_e, ↓sIf_e, ↓sAsg_e, ↓sRaise_e, ↓nmG_e, ↓tupG_e, ↓gsNil_e, ↓gsCons_e, ↓subG_e, ↓dC_e, ↓dOp_e, ↓dUn_e, ↓dChain_e, ↓bOf_e, ↓bAnd_e, ↓bOr_e, ↓bNot_e, ↓bYes_e, ↓dAnd_e, ↓dOr_e, ↓dNot_e, ↓dIf_e, ↓lNil_e, ↓lCons_e, ↓dLst_e, ↓dDic0_e, ↓dDic1_e, ↓dLenSetG_e, dIsB_b, ↓dLstO_e, ↓dTup_e, ↓dCB_e, ↓dCall_e, ↓dCallK_e, ↓oNone_e, ↓oSome_e, ↓dSl_e, ↓dBM_e, ↓dBM0_e, ↓dFz_e, ↓dFz2_e, ↓d2_e, ↓dLone_e, ↓lStar_e, ↓dCallA_e, ↓dMakeA_e, ↓dMakeV_e, ↓dMethA_e, ↓dCMethA_e, ↓dPropA_e, ↓dFld_e, ↓sFldS_e, ↓dFzI_e, ↓fzID_o, ↓dM1_e, ↓dM0_e, ↓dRev_e, ↓mSplit_s, ↓mUpper_s, ↓exStr, ↓exZ, ↓cStrI_i, ↓cIntS_s, ↓iStrD_e, ↓dEqF_s, ↓dNeF_s, ↓dEqF_i, ↓dNeF_i, ↓dSign_s, ↓sRaiseI_e, ↓dXFld_e, ↓mPop_e, ↓dAddO_l, ↓dAddO_o, ↓dMk0_e, ↓sKeep_e, ↓sTryH_e, ↓dCVal_e, ↓dConI_e, ↓cLen_s, ↓dIx_s, ↓dSlS_s, ↓dAdd_s, ↓cTup_l, ↓pkP_e, ↓pkS_e, ↓lstG_e, ↓asI_i, ↓iSeq_e, ↓iTupD_e, ↓iRg1_e, ↓iRg2_e, ↓iZipD_e, ↓iEnumD_e, ↓sFor_e, ↓dLc_e, ↓finF_e, ↓finO_e, ↓fzD_l, ↓fzD_i, ↓fzD_o, ↓fzD2_o, ↓dSetO_e, ↓mAppend_e, ↓mClear_e, ↓mReverse_e, List.map_cons, List.map_nil, List.length_cons, List.length_nil, rep_0, rep_s, List.cons_append, List.nil_append, List.getElem?_cons_zero, List.getElem?_cons_succ, List.set_cons_zero, List.set_cons_succ, Nat.reduceAdd, Nat.reduceSub, Nat.zero_add, Nat.add_zero, ↓exSS, ↓exB, ↓exI, ↓ex1, ↓ex2, ↓ex3, ↓exI1, ↓exI2, ↓exT, ↓exC, ↓exAs, ↓dAdd_i, ↓dAddI_i, ↓dSubI_i, ↓dLRg_e, ↓dIsiT_e, ↓dLenSet_e, ↓bChain3_e, ↓dLRg2_e, ↓iRg3_e, ↓dLc2_e, ↓dSlT_t, ↓dNew_e, ↓sDct_e, ↓dMulO_l, ↓dLRgO_e, ↓dAdd_l, ↓dSub_i, ↓dMul_i, ↓dMul_l, ↓dMod_i, ↓dDiv_i, ↓dPow_i, ↓dLt_i, ↓dLe_i, ↓dGt_i, ↓dGe_i, ↓uNeg_i, ↓cMax2_i, ↓cMin2_i, ↓cAbs_i, ↓cInt_i, ↓cInt_b, ↓cLen_l, ↓cLen_q, ↓cLen_t, ↓cList_l, ↓cList_q, ↓cList_t, ↓cListO_l, ↓cListO_t, ↓dIx_l, ↓dIx_q, ↓dIx_t, ↓dIx_o', ↓exS, ↓exL, at_1, at_2, at_3, at_4, ix30, ix31, ix32, ↓dSlL_l, ↓dSlL_q, ↓asQ_l, ↓asL_l, at_0, ↓isi_non_int, ↓isi_non_bool, ↓isi_non_str, ↓isi_non_list, ↓isi_non_tuple, ↓isi_non_dict, ↓isi_bl_int, ↓isi_bl_bool, ↓isi_bl_str, ↓isi_bl_list, ↓isi_bl_tuple, ↓isi_bl_dict, ↓isi_int_int, ↓isi_int_bool, ↓isi_int_str, ↓isi_int_list, ↓isi_int_tuple, ↓isi_int_dict, ↓isi_str_int, ↓isi_str_bool, ↓isi_str_str, ↓isi_str_list, ↓isi_str_tuple, ↓isi_str_dict, ↓isi_lst_int, ↓isi_lst_bool, ↓isi_lst_str, ↓isi_lst_list, ↓isi_lst_tuple, ↓isi_lst_dict, ↓isi_sq_int, ↓isi_sq_bool, ↓isi_sq_str, ↓isi_sq_list, ↓isi_sq_tuple, ↓isi_sq_dict, ↓isi_tup_int, ↓isi_tup_bool, ↓isi_tup_str, ↓isi_tup_list, ↓isi_tup_tuple, ↓isi_tup_dict, ↓isi_dic_int, ↓isi_dic_bool, ↓isi_dic_str, ↓isi_dic_list, ↓isi_dic_tuple, ↓isi_dic_dict, if_true, if_false, Bool.not_true, Bool.not_false, true_and, and_true, reduceCtorEq, Bool.true_eq_false, Bool.false_eq_true, ite_true, ite_false, ↓exAny, ↓isLst_l, Int.toNat_natCast, Int.reduceToNat, dVar_e, sPar_e, sPar3_e, sAug_e])))
local macro_rules | `(tactic| walk_at "dls") => `(tactic| ((try simp only [gstart, gwipe, List.set_set, List.map_cons, List.map_nil, List.length_cons, List.length_nil, rep_0, rep_s, List.cons_append, List.nil_append, List.set_cons_zero, List.set_cons_succ, Nat.reduceAdd, Nat.reduceSub, Nat.zero_add, Nat.add_zero]); (try simp only [*, ↓dv0, ↓dv1, ↓dv2, ↓dv3, ↓dv4, ↓dv5, ↓dv6, ↓dv7, ↓dv8, ↓dv9, ↓dv10, ↓dv11, ↓dv12, ↓dv13, ↓dv14, ↓dv15, ↓dv16, ↓dv17, ↓dv18, ↓dv19, ↓dv20, ↓dv21, ↓dv22, ↓dv23, ↓dv24, ↓dv25, ↓dv26, ↓dv27, ↓dv28, ↓dv29, ↓dv30, ↓dv31, ↓dv32, ↓dv33, ↓dv34, ↓dv35, ↓dv36, ↓dv37, ↓dv38, ↓dv39, ↓nm0, ↓nm1, ↓nm2, ↓nm3, ↓nm4, ↓nm5, ↓nm6, ↓nm7, ↓nm8, ↓nm9, ↓nm10, ↓nm11, ↓nm12, ↓nm13, ↓nm14, ↓nm15, ↓nm16, ↓nm17, ↓nm18, ↓nm19, ↓nm20, ↓nm21, ↓nm22, ↓nm23, ↓nm24, ↓nm25, ↓nm26, ↓nm27, ↓nm28, ↓nm29, ↓nm30, ↓nm31, ↓nm32, ↓nm33, ↓nm34, ↓nm35, ↓nm36, ↓nm37, ↓nm38, ↓nm39, ↓sPar_n, ↓sPar3_n, ↓sAug_n, ↓reduceIte, List.set_set, ↓sNext_e, ↓sSeq_e, ↓sBrk_e, ↓sCnt_e, ↓sDrop_e, ↓sRet_e, ↓sRetN_e, ↓sIf_e, ↓sAsg_e, ↓sRaise_e, ↓nmG_e, ↓tupG_e, ↓gsNil_e, ↓gsCons_e, ↓subG_e, ↓dC_e, ↓dOp_e, ↓dUn_e, ↓dChain_e, ↓bOf_e, ↓bAnd_e, ↓bOr_e, ↓bNot_e, ↓bYes_e, ↓dAnd_e, ↓dOr_e, ↓dNot_e, ↓dIf_e, ↓lNil_e, ↓lCons_e, ↓dLst_e, ↓dDic0_e, ↓dDic1_e, ↓dLenSetG_e, dIsB_b, ↓dLstO_e, ↓dTup_e, ↓dCB_e, ↓dCall_e, ↓dCallK_e, ↓oNone_e, ↓oSome_e, ↓dSl_e, ↓dBM_e, ↓dBM0_e, ↓dFz_e, ↓dFz2_e, ↓d2_e, ↓dLone_e, ↓lStar_e, ↓dCallA_e, ↓dMakeA_e, ↓dMakeV_e, ↓dMethA_e, ↓dCMethA_e, ↓dPropA_e, ↓dFld_e, ↓sFldS_e, ↓dFzI_e, ↓fzID_o, ↓dM1_e, ↓dM0_e, ↓dRev_e, ↓mSplit_s, ↓mUpper_s, ↓exStr, ↓exZ, ↓cStrI_i, ↓cIntS_s, ↓iStrD_e, ↓dEqF_s, ↓dNeF_s, ↓dEqF_i, ↓dNeF_i, ↓dSign_s, ↓sRaiseI_e, ↓dXFld_e, ↓mPop_e, ↓dAddO_l, ↓dAddO_o, ↓dMk0_e, ↓sKeep_e, ↓sTryH_e, ↓dCVal_e, ↓dConI_e, ↓cLen_s, ↓dIx_s, ↓dSlS_s, ↓dAdd_s, ↓cTup_l, ↓pkP_e, ↓pkS_e, ↓lstG_e, ↓asI_i, ↓iSeq_e, ↓iTupD_e, ↓iRg1_e, ↓iRg2_e, ↓iZipD_e, ↓iEnumD_e, ↓sFor_e, ↓dLc_e, ↓finF_e, ↓finO_e, ↓fzD_l, ↓fzD_i, ↓fzD_o, ↓fzD2_o, ↓dSetO_e, ↓mAppend_e, ↓mClear_e, ↓mReverse_e, List.map_cons, List.map_nil, List.length_cons, List.length_nil, rep_0, rep_s, List.cons_append, List.nil_append, List.getElem?_cons_zero, List.getElem?_cons_succ, List.set_cons_zero, List.set_cons_succ, Nat.reduceAdd, Nat.reduceSub, Nat.zero_add, Nat.add_zero, ↓exSS, ↓exB, ↓exI, ↓ex1, ↓ex2, ↓ex3, ↓exI1, ↓exI2, ↓exT, ↓exC, ↓exAs, ↓dAdd_i, ↓dAddI_i, ↓dSubI_i, ↓dLRg_e, ↓dIsiT_e, ↓dLenSet_e, ↓bChain3_e, ↓dLRg2_e, ↓iRg3_e, ↓dLc2_e, ↓dSlT_t, ↓dNew_e, ↓sDct_e, ↓dMulO_l, ↓dLRgO_e, ↓dAdd_l, ↓dSub_i, ↓dMul_i, ↓dMul_l, ↓dMod_i, ↓dDiv_i, ↓dPow_i, ↓dLt_i, ↓dLe_i, ↓dGt_i, ↓dGe_i, ↓uNeg_i, ↓cMax2_i, ↓cMin2_i, ↓cAbs_i, ↓cInt_i, ↓cInt_b, ↓cLen_l, ↓cLen_q, ↓cLen_t, ↓cList_l, ↓cList_q, ↓cList_t, ↓cListO_l, ↓cListO_t, ↓dIx_l, ↓dIx_q, ↓dIx_t, ↓dIx_o', ↓exS, ↓exL, at_1, at_2, at_3, at_4, ix30, ix31, ix32, ↓dSlL_l, ↓dSlL_q, ↓asQ_l, ↓asL_l, at_0, ↓isi_non_int, ↓isi_non_bool, ↓isi_non_str, ↓isi_non_list, ↓isi_non_tuple, ↓isi_non_dict, ↓isi_bl_int, ↓isi_bl_bool, ↓isi_bl_str, ↓isi_bl_list, ↓isi_bl_tuple, ↓isi_bl_dict, ↓isi_int_int, ↓isi_int_bool, ↓isi_int_str, ↓isi_int_list, ↓isi_int_tuple, ↓isi_int_dict, ↓isi_str_int, ↓isi_str_bool, ↓isi_str_str, ↓isi_str_list, ↓isi_str_tuple, ↓isi_str_dict, ↓isi_lst_int, ↓isi_lst_bool, ↓isi_lst_str, ↓isi_lst_list, ↓isi_lst_tuple, ↓isi_lst_dict, ↓isi_sq_int, ↓isi_sq_bool, ↓isi_sq_str, ↓isi_sq_list, ↓isi_sq_tuple, ↓isi_sq_dict, ↓isi_tup_int, ↓isi_tup_bool, ↓isi_tup_str, ↓isi_tup_list, ↓isi_tup_tuple, ↓isi_tup_dict, ↓isi_dic_int, ↓isi_dic_bool, ↓isi_dic_str, ↓isi_dic_list, ↓isi_dic_tuple, ↓isi_dic_dict, if_true, if_false, Bool.not_true, Bool.not_false, true_and, and_true, reduceCtorEq, Bool.true_eq_false, Bool.false_eq_true, ite_true, ite_false, ↓exAny, ↓isLst_l, Int.toNat_natCast, Int.reduceToNat, dVar_e, sPar_e, sPar3_e, sAug_e])))
--MD
theorem p__law_class (N T W a3 a4 a5 a6 a7 a8 a9 a10 a11 a12 a13 : Addr) : Rets (sp__law_class T W N) (T__law_class N T W a3 a4 a5 a6 a7 a8 a9 a10 a11 a12 a13) N__law_class := by
  rintro _ S Φ Ψ ⟨e, v, rfl, hsp, h⟩
  unfold T__law_class
  generalize hX : xtabD T W N a3 a4 a5 a6 a7 a8 a9 a10 a11 a12 a13 = X
  rcases hsp with ⟨rfl, rfl⟩ | ⟨rfl, rfl⟩ | ⟨i, rfl, rfl⟩
  · walk_at "dl"
    have t : ∀ (c : D) (b : Bool), (T, c, b) ∈ X → ∀ (S : Sto) (Φ : KD), Φ S (.bl b) → cIsX X [.exc T [], c] S Φ := fun c b hm S Φ h => ⟨T, [], c, rfl, .inl ⟨b, hm, h⟩⟩
    have tt : ∀ (cs : List D) (bs : List Bool), cs ≠ [] → tabAll X T cs bs → ∀ (S : Sto) (Φ : KD), Φ S (.bl (bs.any id)) → cIsX X [.exc T [], .tup cs] S Φ := fun cs bs hne hm S Φ h => ⟨T, [], _, rfl, .inr ⟨cs, bs, rfl, hne, hm, h⟩⟩
    refine t _ true (by rw [← hX]; simp [xtabD]) _ _ (t _ false (by rw [← hX]; simp [xtabD]) _ _ (t _ false (by rw [← hX]; simp [xtabD]) _ _ ?_))
    refine ⟨small (by decide), small (by decide), ?_⟩
    refine tt _ [false, false, false, false, false, false] (by simp) (by rw [← hX]; simp [tabAll, xtabD]) _ _ ⟨false, rfl, ?_⟩
    rw [if_neg Bool.false_ne_true]
    refine ⟨small (by decide), tt _ [false, false, false, false, false] (by simp) (by rw [← hX]; simp [tabAll, xtabD]) _ _ ⟨false, rfl, ?_⟩⟩
    rw [if_neg Bool.false_ne_true]
    refine ⟨_, _, rfl, rfl, rfl, rfl, ?_⟩
    dsimp only
    rw [dNeF_i]
    refine ⟨_, rfl, ?_⟩
    rw [if_neg (by decide)]
    refine t _ true (by rw [← hX]; simp [xtabD]) _ _ ⟨true, rfl, ?_⟩
    rw [if_neg (by decide), dJ_e]
    walk_at "dl"
    refine ⟨small (by decide), _, _, 0, .bl true, rfl, rfl, rfl, rfl, rfl, rfl, fun m z hm hz => absurd hm (Nat.not_lt_zero _), ?_⟩
    dsimp only
    rw [dIx_l]
    exact ⟨_, rfl, ret_now h⟩
  · walk_at "dl"
    have t : ∀ (c : D) (b : Bool), (W, c, b) ∈ X → ∀ (S : Sto) (Φ : KD), Φ S (.bl b) → cIsX X [.exc W [], c] S Φ := fun c b hm S Φ h => ⟨W, [], c, rfl, .inl ⟨b, hm, h⟩⟩
    have tt : ∀ (cs : List D) (bs : List Bool), cs ≠ [] → tabAll X W cs bs → ∀ (S : Sto) (Φ : KD), Φ S (.bl (bs.any id)) → cIsX X [.exc W [], .tup cs] S Φ := fun cs bs hne hm S Φ h => ⟨W, [], _, rfl, .inr ⟨cs, bs, rfl, hne, hm, h⟩⟩
    refine t _ false (by rw [← hX]; simp [xtabD]) _ _ (t _ true (by rw [← hX]; simp [xtabD]) _ _ (t _ false (by rw [← hX]; simp [xtabD]) _ _ ?_))
    refine ⟨small (by decide), small (by decide), ?_⟩
    refine tt _ [false, false, false, false, false, false] (by simp) (by rw [← hX]; simp [tabAll, xtabD]) _ _ ⟨false, rfl, ?_⟩
    rw [if_neg Bool.false_ne_true]
    refine ⟨small (by decide), tt _ [false, false, false, false, false] (by simp) (by rw [← hX]; simp [tabAll, xtabD]) _ _ ⟨false, rfl, ?_⟩⟩
    rw [if_neg Bool.false_ne_true]
    refine ⟨_, _, rfl, rfl, rfl, rfl, ?_⟩
    dsimp only
    rw [dNeF_i]
    refine ⟨_, rfl, ?_⟩
    rw [if_neg (by decide)]
    refine t _ true (by rw [← hX]; simp [xtabD]) _ _ ⟨true, rfl, ?_⟩
    rw [if_neg (by decide), dJ_e]
    walk_at "dl"
    refine ⟨small (by decide), _, _, 1, .bl true, rfl, rfl, rfl, rfl, rfl, rfl, fun m z hm hz => match m, hm, hz with | 0, _, hz => by cases hz; rfl, ?_⟩
    dsimp only
    rw [dIx_l]
    exact ⟨_, rfl, ret_now h⟩
  · walk_at "dl"
    have t : ∀ (c : D) (b : Bool), (N, c, b) ∈ X → ∀ (S : Sto) (Φ : KD), Φ S (.bl b) → cIsX X [.exc N [("line", .int (i : Nat))], c] S Φ := fun c b hm S Φ h => ⟨N, [("line", .int (i : Nat))], c, rfl, .inl ⟨b, hm, h⟩⟩
    have tt : ∀ (cs : List D) (bs : List Bool), cs ≠ [] → tabAll X N cs bs → ∀ (S : Sto) (Φ : KD), Φ S (.bl (bs.any id)) → cIsX X [.exc N [("line", .int (i : Nat))], .tup cs] S Φ := fun cs bs hne hm S Φ h => ⟨N, [("line", .int (i : Nat))], _, rfl, .inr ⟨cs, bs, rfl, hne, hm, h⟩⟩
    refine t _ false (by rw [← hX]; simp [xtabD]) _ _ (t _ false (by rw [← hX]; simp [xtabD]) _ _ (t _ true (by rw [← hX]; simp [xtabD]) _ _ ?_))
    refine ⟨small (by decide), small (by decide), ?_⟩
    refine tt _ [false, false, false, false, false, false] (by simp) (by rw [← hX]; simp [tabAll, xtabD]) _ _ ⟨false, rfl, ?_⟩
    rw [if_neg Bool.false_ne_true]
    refine ⟨small (by decide), tt _ [false, false, false, false, false] (by simp) (by rw [← hX]; simp [tabAll, xtabD]) _ _ ⟨false, rfl, ?_⟩⟩
    rw [if_neg Bool.false_ne_true]
    refine ⟨_, _, rfl, rfl, rfl, rfl, ?_⟩
    dsimp only
    rw [dNeF_i]
    refine ⟨_, rfl, ?_⟩
    rw [if_neg (by decide)]
    refine t _ true (by rw [← hX]; simp [xtabD]) _ _ ⟨true, rfl, ?_⟩
    rw [if_neg (by decide), dJ_e]
    walk_at "dl"
    exact ⟨N, _, _, rfl, .head _, rfl, small (by decide), ret_now h⟩
theorem repr_same {x : D} {S : Sto} {Φ : KD} (sh : Shx x) (ni : ∀ i, x ≠ .int i) (q : ∀ z : Str, (∀ (S' : Sto) (Φ' : KD), Φ' S' (.str z) → cReprX [x] S' Φ') → Φ S (.str z)) : cReprX [x] S Φ := by
  obtain ⟨p, p1, p2⟩ := sh.py
  exact ⟨p, p1 S, p2.shw, fun i e => absurd e (ni i), q _ fun S' Φ' h => ⟨p, p1 S', p2.shw, fun i e => absurd e (ni i), h⟩⟩
theorem p__law_raised (a1 a2 a3 T W N Y : Addr) : Rets (sp__law_raised Y) (T__law_raised a1 a2 a3 T W N Y) N__law_raised := by
  rintro _ S Φ Ψ ⟨d, x, s, w, z, ks, g, l, rfl, hd, tx, es, lk, pz, hz, sh, no, yes⟩
  unfold T__law_raised
  walk_at "dl"
  refine ⟨small (by decide), ?_⟩
  refine repr_same sh (fun i e => nomatch e) fun zs again => ?_
  have fin : ∀ (S' : Sto) (name : D) (o : Option D), (∃ Z, S' = S ++ Z) → (∀ k, name.low k = true) → Φ S name → dJ (dIf (bOf (dOp dEqF (dCB cReprX (lCons (dLst (lCons (dVar 1) (lCons (dVar 4) lNil))) lNil)) (dVar 5))) (dVar 6) (dC (D.str (Str.ofString "changed")))) [some (D.int d), some x, some s, some (D.int w), some z, some (D.str zs), some name, o] S' (RetOk S Φ) (ErOk S Ψ) := fun S' name o ⟨Z, hZ⟩ hl h => by
    subst hZ
    rw [dJ_e]
    walk_at "dl"
    refine ⟨small (by decide), again _ _ ?_⟩
    rw [dEqF_s]
    refine ⟨_, rfl, ?_⟩
    rw [if_pos (beq_self_eq_true zs)]
    exact ret_cut (hl _) h
  have nil : ∃ Z, S = S ++ Z := ⟨[], by simp⟩
  have lown : ∀ i : Nat, ∀ k, (D.lst [.str "narrow", .int (i : Nat)]).low k = true := fun i k => by simp [D.low, lowA]
  have room : ∀ (ok : List (List Int) → Int → Int → Prop) (Ψ' : KX), (Φ S (.str "none") → ∀ t g l, ok t g l) → (Φ S (.str "table") → Ψ' S ⟨T, []⟩) → (Φ S (.str "width") → Ψ' S ⟨W, []⟩) → (∀ i : Nat, Φ S (.lst [.str "narrow", .int i]) → Ψ' S ⟨N, [("line", .int i)]⟩) → RoomSp T W N Y x s w S ok Ψ' := fun ok Ψ' h1 h2 h3 h4 => by
    refine ⟨ks, g, l, tx, es, lk, fun z => h2 (no z), fun t e o => ?_⟩
    have y := yes t e o
    unfold toldD at y
    unfold RoomQ
    by_cases hw : w < 0
    · rw [if_pos hw] at y ⊢
      exact h3 y
    · rw [if_neg hw] at y ⊢
      split
      · rename_i i r zz
        rw [zz] at y
        exact h4 i y
      · rename_i zz
        rw [zz] at y
        exact h1 y _ _ _
  match d, hd with
  | 0, _ =>
    rw [if_pos (by decide), dCallF_e]
    walk_at "dl"
    refine ⟨small (by decide), _, rfl, _, _, rfl, .head _, ?_⟩
    exact ⟨x, s, w, rfl, (room _ _ (fun h _ _ _ v => fin S _ none nil (fun _ => rfl) h) (fun h => ⟨.head _, by decide, _, _, rfl, .inl ⟨rfl, rfl⟩, fin S _ none nil (fun _ => rfl) h⟩) (fun h => ⟨.tail _ (.head _), by decide, _, _, rfl, .inr (.inl ⟨rfl, rfl⟩), fin S _ none nil (fun _ => rfl) h⟩) (fun i h => ⟨.tail _ (.tail _ (.head _)), by decide, _, _, rfl, .inr (.inr ⟨i, rfl, rfl⟩), fin S _ none nil (lown i) h⟩))⟩
  | 1, _ =>
    rw [if_pos (by decide), dCallF_e]
    walk_at "dl"
    refine ⟨small (by decide), _, rfl, _, _, rfl, .tail _ (.head _), ?_⟩
    exact ⟨x, s, w, rfl, (room _ _ (fun h _ _ _ v => fin S _ none nil (fun _ => rfl) h) (fun h => ⟨.head _, by decide, _, _, rfl, .inl ⟨rfl, rfl⟩, fin S _ none nil (fun _ => rfl) h⟩) (fun h => ⟨.tail _ (.head _), by decide, _, _, rfl, .inr (.inl ⟨rfl, rfl⟩), fin S _ none nil (fun _ => rfl) h⟩) (fun i h => ⟨.tail _ (.tail _ (.head _)), by decide, _, _, rfl, .inr (.inr ⟨i, rfl, rfl⟩), fin S _ none nil (lown i) h⟩))⟩
  | 2, _ =>
    rw [if_pos (by decide), dCallF_e]
    walk_at "dl"
    refine ⟨small (by decide), _, rfl, _, _, rfl, .tail _ (.tail _ (.head _)), ?_⟩
    exact ⟨x, s, w, rfl, (room _ _ (fun h _ _ _ => fin S _ none nil (fun _ => rfl) h) (fun h => ⟨.head _, by decide, _, _, rfl, .inl ⟨rfl, rfl⟩, fin S _ none nil (fun _ => rfl) h⟩) (fun h => ⟨.tail _ (.head _), by decide, _, _, rfl, .inr (.inl ⟨rfl, rfl⟩), fin S _ none nil (fun _ => rfl) h⟩) (fun i h => ⟨.tail _ (.tail _ (.head _)), by decide, _, _, rfl, .inr (.inr ⟨i, rfl, rfl⟩), fin S _ none nil (lown i) h⟩))⟩
  | 3, _ =>
    rw [if_neg (by decide)]
    exact ⟨x, s, w, 1, z, rfl, pz, hz, (room _ _ (fun h _ _ _ v => fin S _ none nil (fun _ => rfl) h) (fun h => ⟨.head _, by decide, _, _, rfl, .inl ⟨rfl, rfl⟩, fin S _ none nil (fun _ => rfl) h⟩) (fun h => ⟨.tail _ (.head _), by decide, _, _, rfl, .inr (.inl ⟨rfl, rfl⟩), fin S _ none nil (fun _ => rfl) h⟩) (fun i h => ⟨.tail _ (.tail _ (.head _)), by decide, _, _, rfl, .inr (.inr ⟨i, rfl, rfl⟩), fin S _ none nil (lown i) h⟩))⟩
end DL
namespace DL
open PySem PySem.Spec PyProof.Rows L2
local macro_rules | `(tactic| walk_at "dl") => `(tactic| ((try simp only [gstart, gwipe, List.set_set, List.map_cons, List.map_nil, List.length_cons, List.length_nil, rep_0, rep_s, List.cons_append, List.nil_append, List.set_cons_zero, List.set_cons_succ, Nat.reduceAdd, Nat.reduceSub, Nat.zero_add, Nat.add_zero]); (try simp only [↓dv0, ↓dv1, ↓dv2, ↓dv3, ↓dv4, ↓dv5, ↓dv6, ↓dv7, ↓dv8, ↓dv9, ↓dv10, ↓dv11, ↓dv12, ↓dv13, ↓dv14, ↓dv15, ↓dv16, ↓dv17, ↓dv18, ↓dv19, ↓dv20, ↓dv21, ↓dv22, ↓dv23, ↓dv24, ↓dv25, ↓dv26, ↓dv27, ↓dv28, ↓dv29, ↓dv30, ↓dv31, ↓dv32, ↓dv33, ↓dv34, ↓dv35, ↓dv36, ↓dv37, ↓dv38, ↓dv39, ↓nm0, ↓nm1, ↓nm2, ↓nm3, ↓nm4, ↓nm5, ↓nm6, ↓nm7, ↓nm8, ↓nm9, ↓nm10, ↓nm11, ↓nm12, ↓nm13, ↓nm14, ↓nm15, ↓nm16, ↓nm17, ↓nm18, ↓nm19, ↓nm20, ↓nm21, ↓nm22, ↓nm23, ↓nm24, ↓nm25, ↓nm26, ↓nm27, ↓nm28, ↓nm29, ↓nm30, ↓nm31, ↓nm32, ↓nm33, ↓nm34, ↓nm35, ↓nm36, ↓nm37, ↓nm38, ↓nm39, ↓sPar_n, ↓sPar3_n, ↓sAug_n, ↓reduceIte, List.set_set, ↓sNext_e, ↓sSeq_e, ↓sBrk_e, ↓sCnt_e, ↓sDrop_e, ↓sRet_e, ↓sRetN_e, ↓sIf_e, ↓sAsg_e, ↓sRaise_e, ↓nmG_e, ↓tupG_e, ↓gsNil_e, ↓gsCons_e, ↓subG_e, ↓dC_e, ↓dOp_e, ↓dUn_e, ↓dChain_e, ↓bOf_e, ↓bAnd_e, ↓bOr_e, ↓bNot_e, ↓bYes_e, ↓dAnd_e, ↓dOr_e, ↓dNot_e, ↓dIf_e, ↓lNil_e, ↓lCons_e, ↓dLst_e, ↓dDic0_e, ↓dDic1_e, ↓dLenSetG_e, dIsB_b, ↓dLstO_e, ↓dTup_e, ↓dCB_e, ↓dCall_e, ↓dCallK_e, ↓oNone_e, ↓oSome_e, ↓dSl_e, ↓dBM_e, ↓dBM0_e, ↓dFz_e, ↓dFz2_e, ↓d2_e, ↓dLone_e, ↓lStar_e, ↓dCallA_e, ↓dMakeA_e, ↓dMakeV_e, ↓dMethA_e, ↓dCMethA_e, ↓dPropA_e, ↓dFld_e, ↓sFldS_e, ↓dFzI_e, ↓fzID_o, ↓dM1_e, ↓dM0_e, ↓dRev_e, ↓mSplit_s, ↓mUpper_s, ↓exStr, ↓exZ, ↓cStrI_i, ↓cIntS_s, ↓iStrD_e, ↓dEqF_s, ↓dNeF_s, ↓dEqF_i, ↓dNeF_i, ↓dSign_s, ↓sRaiseI_e, ↓dXFld_e, ↓mPop_e, ↓dAddO_l, ↓dAddO_o, ↓dMk0_e, ↓sKeep_e, ↓sTryH_e, ↓dCVal_e, ↓dConI_e, ↓cLen_s, ↓dIx_s, ↓dSlS_s, ↓dAdd_s, ↓cTup_l, ↓pkP_e, ↓pkS_e, ↓lstG_e, ↓asI_i, ↓iSeq_e, ↓iTupD_e, ↓iRg1_e, ↓iRg2_e, ↓iZipD_e, ↓iEnumD_e, ↓sFor_e, ↓dLc_e, ↓finF_e, ↓finO_e, ↓fzD_l, ↓fzD_i, ↓fzD_o, ↓fzD2_o, ↓dSetO_e, ↓mAppend_e, ↓mClear_e, ↓mReverse_e, List.map_cons, List.map_nil, List.length_cons, List.length_nil, rep_0, rep_s, List.cons_append, List.nil_append, List.getElem?_cons_zero, List.getElem?_cons_succ, List.set_cons_zero, List.set_cons_succ, Nat.reduceAdd, Nat.reduceSub, Nat.zero_add, Nat.add_zero, ↓exSS, ↓exB, ↓exI, ↓ex1, ↓ex2, ↓ex3, ↓exI1, ↓exI2, ↓exT, ↓exC, ↓exAs, ↓dAdd_i, ↓dAddI_i, ↓dSubI_i, ↓dLRg_e, ↓dIsiT_e, ↓dLenSet_e, ↓bChain3_e, ↓dLRg2_e, ↓iRg3_e, ↓dLc2_e, ↓dSlT_t, ↓dNew_e, ↓sDct_e, ↓dMulO_l, ↓dLRgO_e, ↓dAdd_l, ↓dSub_i, ↓dMul_i, ↓dMul_l, ↓dMod_i, ↓dDiv_i, ↓dPow_i, ↓dLt_i, ↓dLe_i, ↓dGt_i, ↓dGe_i, ↓uNeg_i, ↓cMax2_i, ↓cMin2_i, ↓cAbs_i, ↓cInt_i, ↓cInt_b, ↓cLen_l, ↓cLen_q, ↓cLen_t, ↓cList_l, ↓cList_q, ↓cList_t, ↓cListO_l, ↓cListO_t, ↓dIx_l, ↓dIx_q, ↓dIx_t, ↓dIx_o', ↓exS, ↓exL, at_1, at_2, at_3, at_4, ix30, ix31, ix32, ↓dSlL_l, ↓dSlL_q, ↓asQ_l, ↓asL_l, at_0, ↓isi_non_int, ↓isi_non_bool, ↓isi_non_str, ↓isi_non_list, ↓isi_non_tuple, ↓isi_non_dict, ↓isi_bl_int, ↓isi_bl_bool, ↓isi_bl_str, ↓isi_bl_list, ↓isi_bl_tuple, ↓isi_bl_dict, ↓isi_int_int, ↓isi_int_bool, ↓isi_int_str, ↓isi_int_list, ↓isi_int_tuple, ↓isi_int_dict, ↓isi_str_int, ↓isi_str_bool, ↓isi_str_str, ↓isi_str_list, ↓isi_str_tuple, ↓isi_str_dict, ↓isi_lst_int, ↓isi_lst_bool, ↓isi_lst_str, ↓isi_lst_list, ↓isi_lst_tuple, ↓isi_lst_dict, ↓isi_sq_int, ↓isi_sq_bool, ↓isi_sq_str, ↓isi_sq_list, ↓isi_sq_tuple, ↓isi_sq_dict, ↓isi_tup_int, ↓isi_tup_bool, ↓isi_tup_str, ↓isi_tup_list, ↓isi_tup_tuple, ↓isi_tup_dict, ↓isi_dic_int, ↓isi_dic_bool, ↓isi_dic_str, ↓isi_dic_list, ↓isi_dic_tuple, ↓isi_dic_dict, if_true, if_false, Bool.not_true, Bool.not_false, true_and, and_true, reduceCtorEq, Bool.true_eq_false, Bool.false_eq_true, ite_true, ite_false, ↓exAny, ↓isLst_l, Int.toNat_natCast, Int.reduceToNat, dVar_e, sPar_e, sPar3_e, sAug_e])))
local macro_rules | `(tactic| walk_at "dls") => `(tactic| ((try simp only [gstart, gwipe, List.set_set, List.map_cons, List.map_nil, List.length_cons, List.length_nil, rep_0, rep_s, List.cons_append, List.nil_append, List.set_cons_zero, List.set_cons_succ, Nat.reduceAdd, Nat.reduceSub, Nat.zero_add, Nat.add_zero]); (try simp only [*, ↓dv0, ↓dv1, ↓dv2, ↓dv3, ↓dv4, ↓dv5, ↓dv6, ↓dv7, ↓dv8, ↓dv9, ↓dv10, ↓dv11, ↓dv12, ↓dv13, ↓dv14, ↓dv15, ↓dv16, ↓dv17, ↓dv18, ↓dv19, ↓dv20, ↓dv21, ↓dv22, ↓dv23, ↓dv24, ↓dv25, ↓dv26, ↓dv27, ↓dv28, ↓dv29, ↓dv30, ↓dv31, ↓dv32, ↓dv33, ↓dv34, ↓dv35, ↓dv36, ↓dv37, ↓dv38, ↓dv39, ↓nm0, ↓nm1, ↓nm2, ↓nm3, ↓nm4, ↓nm5, ↓nm6, ↓nm7, ↓nm8, ↓nm9, ↓nm10, ↓nm11, ↓nm12, ↓nm13, ↓nm14, ↓nm15, ↓nm16, ↓nm17, ↓nm18, ↓nm19, ↓nm20, ↓nm21, ↓nm22, ↓nm23, ↓nm24, ↓nm25, ↓nm26, ↓nm27, ↓nm28, ↓nm29, ↓nm30, ↓nm31, ↓nm32, ↓nm33, ↓nm34, ↓nm35, ↓nm36, ↓nm37, ↓nm38, ↓nm39, ↓sPar_n, ↓sPar3_n, ↓sAug_n, ↓reduceIte, List.set_set, ↓sNext_e, ↓sSeq_e, ↓sBrk_e, ↓sCnt_e, ↓sDrop_e, ↓sRet_e, ↓sRetN_e, ↓sIf_e, ↓sAsg_e, ↓sRaise_e, ↓nmG_e, ↓tupG_e, ↓gsNil_e, ↓gsCons_e, ↓subG_e, ↓dC_e, ↓dOp_e, ↓dUn_e, ↓dChain_e, ↓bOf_e, ↓bAnd_e, ↓bOr_e, ↓bNot_e, ↓bYes_e, ↓dAnd_e, ↓dOr_e, ↓dNot_e, ↓dIf_e, ↓lNil_e, ↓lCons_e, ↓dLst_e, ↓dDic0_e, ↓dDic1_e, ↓dLenSetG_e, dIsB_b, ↓dLstO_e, ↓dTup_e, ↓dCB_e, ↓dCall_e, ↓dCallK_e, ↓oNone_e, ↓oSome_e, ↓dSl_e, ↓dBM_e, ↓dBM0_e, ↓dFz_e, ↓dFz2_e, ↓d2_e, ↓dLone_e, ↓lStar_e, ↓dCallA_e, ↓dMakeA_e, ↓dMakeV_e, ↓dMethA_e, ↓dCMethA_e, ↓dPropA_e, ↓dFld_e, ↓sFldS_e, ↓dFzI_e, ↓fzID_o, ↓dM1_e, ↓dM0_e, ↓dRev_e, ↓mSplit_s, ↓mUpper_s, ↓exStr, ↓exZ, ↓cStrI_i, ↓cIntS_s, ↓iStrD_e, ↓dEqF_s, ↓dNeF_s, ↓dEqF_i, ↓dNeF_i, ↓dSign_s, ↓sRaiseI_e, ↓dXFld_e, ↓mPop_e, ↓dAddO_l, ↓dAddO_o, ↓dMk0_e, ↓sKeep_e, ↓sTryH_e, ↓dCVal_e, ↓dConI_e, ↓cLen_s, ↓dIx_s, ↓dSlS_s, ↓dAdd_s, ↓cTup_l, ↓pkP_e, ↓pkS_e, ↓lstG_e, ↓asI_i, ↓iSeq_e, ↓iTupD_e, ↓iRg1_e, ↓iRg2_e, ↓iZipD_e, ↓iEnumD_e, ↓sFor_e, ↓dLc_e, ↓finF_e, ↓finO_e, ↓fzD_l, ↓fzD_i, ↓fzD_o, ↓fzD2_o, ↓dSetO_e, ↓mAppend_e, ↓mClear_e, ↓mReverse_e, List.map_cons, List.map_nil, List.length_cons, List.length_nil, rep_0, rep_s, List.cons_append, List.nil_append, List.getElem?_cons_zero, List.getElem?_cons_succ, List.set_cons_zero, List.set_cons_succ, Nat.reduceAdd, Nat.reduceSub, Nat.zero_add, Nat.add_zero, ↓exSS, ↓exB, ↓exI, ↓ex1, ↓ex2, ↓ex3, ↓exI1, ↓exI2, ↓exT, ↓exC, ↓exAs, ↓dAdd_i, ↓dAddI_i, ↓dSubI_i, ↓dLRg_e, ↓dIsiT_e, ↓dLenSet_e, ↓bChain3_e, ↓dLRg2_e, ↓iRg3_e, ↓dLc2_e, ↓dSlT_t, ↓dNew_e, ↓sDct_e, ↓dMulO_l, ↓dLRgO_e, ↓dAdd_l, ↓dSub_i, ↓dMul_i, ↓dMul_l, ↓dMod_i, ↓dDiv_i, ↓dPow_i, ↓dLt_i, ↓dLe_i, ↓dGt_i, ↓dGe_i, ↓uNeg_i, ↓cMax2_i, ↓cMin2_i, ↓cAbs_i, ↓cInt_i, ↓cInt_b, ↓cLen_l, ↓cLen_q, ↓cLen_t, ↓cList_l, ↓cList_q, ↓cList_t, ↓cListO_l, ↓cListO_t, ↓dIx_l, ↓dIx_q, ↓dIx_t, ↓dIx_o', ↓exS, ↓exL, at_1, at_2, at_3, at_4, ix30, ix31, ix32, ↓dSlL_l, ↓dSlL_q, ↓asQ_l, ↓asL_l, at_0, ↓isi_non_int, ↓isi_non_bool, ↓isi_non_str, ↓isi_non_list, ↓isi_non_tuple, ↓isi_non_dict, ↓isi_bl_int, ↓isi_bl_bool, ↓isi_bl_str, ↓isi_bl_list, ↓isi_bl_tuple, ↓isi_bl_dict, ↓isi_int_int, ↓isi_int_bool, ↓isi_int_str, ↓isi_int_list, ↓isi_int_tuple, ↓isi_int_dict, ↓isi_str_int, ↓isi_str_bool, ↓isi_str_str, ↓isi_str_list, ↓isi_str_tuple, ↓isi_str_dict, ↓isi_lst_int, ↓isi_lst_bool, ↓isi_lst_str, ↓isi_lst_list, ↓isi_lst_tuple, ↓isi_lst_dict, ↓isi_sq_int, ↓isi_sq_bool, ↓isi_sq_str, ↓isi_sq_list, ↓isi_sq_tuple, ↓isi_sq_dict, ↓isi_tup_int, ↓isi_tup_bool, ↓isi_tup_str, ↓isi_tup_list, ↓isi_tup_tuple, ↓isi_tup_dict, ↓isi_dic_int, ↓isi_dic_bool, ↓isi_dic_str, ↓isi_dic_list, ↓isi_dic_tuple, ↓isi_dic_dict, if_true, if_false, Bool.not_true, Bool.not_false, true_and, and_true, reduceCtorEq, Bool.true_eq_false, Bool.false_eq_true, ite_true, ite_false, ↓exAny, ↓isLst_l, Int.toNat_natCast, Int.reduceToNat, dVar_e, sPar_e, sPar3_e, sAug_e])))
--MD
structure El (n m : Nat) (x : D) : Prop where
  pln : Pln x
  py : ∃ p, (∀ S, PyX S x p) ∧ FitX n m p
  low : ∀ k, x.low k = true
theorem El.mono {n m n' m' : Nat} {x : D} (h : El n m x) (a : n ≤ n') (b : m ≤ m') : El n' m' x := ⟨h.pln, let ⟨p, h1, h2⟩ := h.py; ⟨p, h1, h2.mono a b⟩, h.low⟩
theorem els_py {n m : Nat} : ∀ {ys : List D}, (∀ y ∈ ys, El n m y) → ∃ ps, (∀ S, PyXA S ys ps) ∧ (∀ p ∈ ps, FitX n m p) ∧ ps.length = ys.length
  | [], _ => ⟨[], fun _ => .nil, (fun _ h => nomatch h), rfl⟩
  | y :: ys, h => by
    obtain ⟨p, h1, h2⟩ := (h y List.mem_cons_self).py
    obtain ⟨ps, h3, h4, h5⟩ := els_py (ys := ys) fun z hz => h z (List.mem_cons_of_mem _ hz)
    refine ⟨p :: ps, fun S => .cons (h1 S) (h3 S), fun q hq => ?_, by rw [List.length_cons, List.length_cons, h5]⟩
    rcases List.mem_cons.mp hq with e | e
    · rw [e]; exact h2
    · exact h4 q e
theorem els_low {n m : Nat} (k : Nat) : ∀ {ys : List D}, (∀ y ∈ ys, El n m y) → lowA k ys = true
  | [], _ => rfl
  | y :: ys, h => by
    rw [lowA, (h y List.mem_cons_self).low k, els_low k (ys := ys) fun z hz => h z (List.mem_cons_of_mem _ hz)]
    rfl
theorem el_lst {n m l : Nat} {ys : List D} (h : ∀ y ∈ ys, El n m y) (hl : ys.length ≤ l) : El (n + 1) (2 + l * (m + 2)) (.lst ys) := by
  obtain ⟨ps, h1, h2, h3⟩ := els_py h
  exact ⟨.lst ys fun y hy => (h y hy).pln, ⟨.list ps, fun S => .lst (h1 S), fitx_list h2 (by rw [h3]; exact hl)⟩, fun k => by rw [D.low]; exact els_low k h⟩
theorem el_tup {n m l : Nat} {ys : List D} (h : ∀ y ∈ ys, El n m y) (hl : ys.length ≤ l) : El (n + 1) (4 + l * (m + 2)) (.tup ys) := by
  obtain ⟨ps, h1, h2, h3⟩ := els_py h
  exact ⟨.tup ys fun y hy => (h y hy).pln, ⟨.tuple ps, fun S => .tup (h1 S), fitx_tup h2 (by rw [h3]; exact hl)⟩, fun k => by rw [D.low]; exact els_low k h⟩
theorem el_non : El 0 4 .non := ⟨.non, ⟨_, fun _ => .non, fitx_non⟩, fun _ => rfl⟩
theorem el_bl (b : Bool) : El 0 5 (.bl b) := ⟨.bl b, ⟨_, fun _ => .bl b, fitx_bl b⟩, fun _ => rfl⟩
theorem el_int {i : Int} {k : Nat} (h : i.natAbs < 10 ^ k) (h0 : 0 < k := by decide) (hk : k ≤ 500 := by decide) : El 0 (k + 1) (.int i) := ⟨.int i, ⟨_, fun _ => .int i, fitx_int h h0 hk⟩, fun _ => rfl⟩
theorem el_str {x : Str} {m : Nat} (h : (reprText x).length ≤ m) : El 0 m (.str x) := ⟨.str x, ⟨_, fun _ => .str x, fitx_str h⟩, fun _ => rfl⟩
theorem el_dic0 : El 1 2 (.dic []) := ⟨.dic [], ⟨_, fun _ => .dic .nil, fitx_dic0⟩, fun _ => rfl⟩
theorem el_dic1 {k : Str} {x : D} {n m m2 : Nat} (h : El n m2 x) (hk : (reprText k).length ≤ m) : El (n + 1) (m + m2 + 4) (.dic [(.inr k, x)]) := by
  obtain ⟨p, h1, h2⟩ := h.py
  exact ⟨.dic _, ⟨_, fun S => .dic (.cons (h1 S) .nil), fitx_dic1 (fitx_str hk) h2⟩, fun k => by rw [D.low, lowK, h.low k]; rfl⟩
theorem all0 {α : Type} {P : α → Prop} : ∀ y ∈ ([] : List α), P y := fun _ h => nomatch h
theorem allc {α : Type} {P : α → Prop} {a : α} {l : List α} (h : P a) (h2 : ∀ y ∈ l, P y) : ∀ y ∈ a :: l, P y := fun y hy => by
  rcases List.mem_cons.mp hy with e | e
  · rw [e]; exact h
  · exact h2 y e
theorem FdAt.set {S : Sto} {h n i : Nat} {c : Cell} (f : FdAt S h n) (hi : i ≠ h) : FdAt (S.set i c) h n := by
  obtain ⟨d, e, q⟩ := f
  exact ⟨d, by rw [List.getElem?_set_ne hi]; exact e, q⟩
theorem tab_no {ds : List D} {x : D} (hx : x ∈ ds) (h : lineB x = false) : tableB (.lst ds) = false := by
  show (decide (1 ≤ ds.length) && (decide (ds.length ≤ 60) && ds.all lineB)) = false
  rw [show ds.all lineB = false from by rw [List.all_eq_false]; exact ⟨x, hx, by rw [h]; decide⟩, Bool.and_false, Bool.and_false]
theorem tab_long {ds : List D} (h : 60 < ds.length) : tableB (.lst ds) = false := by
  show (decide (1 ≤ ds.length) && (decide (ds.length ≤ 60) && ds.all lineB)) = false
  rw [decide_eq_false (p := ds.length ≤ 60) (by omega), Bool.false_and, Bool.and_false]
theorem tab_one {x : D} (h : lineB x = false) : tableB (.lst [x]) = false := tab_no List.mem_cons_self h
/-- no table, not too great -/
def OddX (x : D) : Prop := El 4 30000 x ∧ tableB x = false
/-- no line -/
def OddL (x : D) : Prop := El 2 420 x ∧ lineB x = false
theorem oddX {n m : Nat} {x : D} (e : El n m x) (h : tableB x = false) (hn : n ≤ 4 := by decide) (hm : m ≤ 30000 := by decide) : OddX x := ⟨e.mono hn hm, h⟩
theorem oddL {n m : Nat} {x : D} (e : El n m x) (h : lineB x = false) (hn : n ≤ 2 := by decide) (hm : m ≤ 420 := by decide) : OddL x := ⟨e.mono hn hm, h⟩
theorem el1 {n m : Nat} {x : D} (h : El n m x) : El (n + 1) (2 + 1 * (m + 2)) (.lst [x]) := el_lst (l := 1) (allc h all0) (Nat.le_refl 1)
theorem el2 {n m : Nat} {x y : D} (h : El n m x) (h2 : El n m y) : El (n + 1) (2 + 2 * (m + 2)) (.lst [x, y]) := el_lst (l := 2) (allc h (allc h2 all0)) (Nat.le_refl 2)
theorem el_cells {r : List Int} (ok : RowOk r) : (∀ y ∈ r.map D.int, El 0 32 y) ∧ (r.map D.int).length ≤ 12 := by
  refine ⟨fun y hy => ?_, by rw [List.length_map]; exact ok.hi⟩
  obtain ⟨x, hx, rfl⟩ := List.mem_map.mp hy
  have a := (ok.at_ x hx).1
  have b : x ≤ 1000000000000000000000000000000 := (ok.at_ x hx).2
  exact el_int (k := 31) (by omega)
theorem el_row {r : List Int} (ok : RowOk r) : El 1 420 (rowD r) := (el_lst (el_cells ok).1 (el_cells ok).2).mono (by decide) (by decide)
theorem el_trow {r : List Int} (ok : RowOk r) : El 1 420 (.tup (r.map D.int)) := (el_tup (el_cells ok).1 (el_cells ok).2).mono (by decide) (by decide)
theorem ones_eq (n : Nat) : (List.replicate n [D.int 1]).flatten = List.replicate n (D.int 1) := rep_flat _ n
theorem el_ones {n : Nat} (h : n ≤ 13) : El 1 60 (.lst (List.replicate n [D.int 1]).flatten) := by
  rw [ones_eq]
  refine (el_lst (n := 0) (m := 2) (l := 13) (fun y hy => ?_) (by rw [List.length_replicate]; exact h)).mono (by decide) (by decide)
  rw [(List.mem_replicate.mp hy).2]
  exact el_int (k := 1) (by decide)
theorem line_13 : lineB (.lst (List.replicate 13 [D.int 1]).flatten) = false := by rw [ones_eq]; decide
theorem el_rows {t : List (List Int)} (ok : TabOk t) : ∀ y ∈ t.map rowD, El 1 420 y := fun y hy => by
  obtain ⟨r, hr, rfl⟩ := List.mem_map.mp hy
  exact el_row (ok.row r hr)
theorem p__law_no_tables : Rets sp__law_no_tables T__law_no_tables N__law_no_tables := by
  rintro _ S Φ Ψ ⟨h, n, t, rfl, f, hn, ok, q⟩
  unfold T__law_no_tables
  have h1 := ok.lo
  have h6 := ok.hi
  walk_at "dl"
  rw [List.length_map]
  refine pick_at f (by omega) fun S1 a f1 g1 ha0 ha1 => ?_
  obtain ⟨a, rfl⟩ := Int.eq_ofNat_of_zero_le ha0
  walk_at "dl"
  refine ⟨cpw (by decide) (by decide) (by decide), ?_⟩
  repeat (refine ⟨small (by decide), ?_⟩)
  refine lc_mapS t rowD (fun r => .tup (r.map D.int)) rfl (small (by omega)) (fun r hr R hR => ?_) ?_
  · walk_at "dl"
    exact hR
  walk_at "dl"
  repeat (first | refine ⟨small (by decide), ?_⟩ | refine ⟨by decide, ?_⟩)
  refine ⟨small (by omega), ?_⟩
  repeat (first | refine ⟨small (by decide), ?_⟩ | refine ⟨by decide, ?_⟩)
  refine ⟨_, get_at, small (by decide), ?_⟩
  repeat (first | refine ⟨small (by decide), ?_⟩ | refine ⟨by decide, ?_⟩)
  have L0 : ∀ x ∈ [D.non, D.int 0, D.bl true, D.str (Str.ofString ""), D.str (Str.ofString "5|2"), D.tup [], D.lst [], D.dic [], D.dic [(Sum.inr (Str.ofString "_"), D.lst [D.lst [D.int 1]])], D.lst [D.lst []], D.lst [D.tup []], D.lst [D.int 1], D.lst [D.lst [D.str (Str.ofString "1")]], D.lst [D.lst [D.bl true]], D.lst [D.lst [D.int (-1)]], D.lst [D.lst [D.int (10 ^ 30 + 1)]]], OddX x :=
    allc (oddX el_non rfl) <| allc (oddX (el_int (k := 1) (by decide)) rfl) <| allc (oddX (el_bl _) rfl) <| allc (oddX (el_str (m := 10) (by decide +kernel)) rfl) <| allc (oddX (el_str (m := 10) (by decide +kernel)) rfl) <|
    allc (oddX (el_tup (n := 0) (m := 0) (l := 0) all0 (by decide)) rfl) <| allc (oddX (el_lst (n := 0) (m := 0) (l := 0) all0 (by decide)) rfl) <| allc (oddX el_dic0 rfl) <|
    allc (oddX (el_dic1 (m := 10) (el1 (el1 (el_int (k := 1) (by decide)))) (by decide +kernel)) rfl) <| allc (oddX (el1 (el_lst (n := 0) (m := 0) (l := 0) all0 (by decide))) (tab_one rfl)) <|
    allc (oddX (el1 (el_tup (n := 0) (m := 0) (l := 0) all0 (by decide))) (tab_one rfl)) <| allc (oddX (el1 (el_int (k := 1) (by decide))) (tab_one rfl)) <| allc (oddX (el1 (el1 (el_str (m := 10) (by decide +kernel)))) (tab_one rfl)) <|
    allc (oddX (el1 (el1 (el_bl _))) (tab_one rfl)) <| allc (oddX (el1 (el1 (el_int (k := 1) (by decide)))) (tab_one (by decide))) <| allc (oddX (el1 (el1 (el_int (k := 31) (by decide)))) (tab_one (by decide))) all0
  have L6 : ∀ x ∈ [D.tup (List.map rowD t), D.lst (List.map (fun r => D.tup (List.map D.int r)) t), D.lst (List.map rowD t ++ [D.lst (List.replicate 13 [D.int 1]).flatten]), D.lst (List.replicate 61 [D.lst [D.int 1]]).flatten], OddX x := by
    refine allc (oddX (el_tup (l := 61) (el_rows ok) (by rw [List.length_map]; omega)) rfl) <| allc (oddX (el_lst (n := 1) (m := 420) (l := 61) (fun y hy => ?_) (by rw [List.length_map]; omega)) ?_) <| allc (oddX (el_lst (n := 1) (m := 420) (l := 61) (fun y hy => ?_) (by rw [List.length_append, List.length_map]; show _ + 1 ≤ _; omega)) (tab_no (List.mem_append_right _ List.mem_cons_self) line_13)) <| allc (oddX (el_lst (n := 1) (m := 10) (l := 61) (fun y hy => ?_) (by rw [rep_flat, List.length_replicate]; exact Nat.le_refl 61)) (tab_long (by rw [rep_flat, List.length_replicate]; decide))) all0
    · obtain ⟨r, hr, rfl⟩ := List.mem_map.mp hy
      exact el_trow (ok.row r hr)
    · cases t with
      | nil => exact absurd h1 (by decide)
      | cons r t => exact tab_no List.mem_cons_self rfl
    · rcases List.mem_append.mp hy with hy | hy
      · exact el_rows ok y hy
      · rw [List.mem_singleton.mp hy]
        exact (el_ones (Nat.le_refl 13)).mono (by decide) (by decide)
    · rw [rep_flat] at hy
      rw [(List.mem_replicate.mp hy).2]
      exact (el1 (el_int (k := 1) (by decide))).mono (by decide) (by decide)
  have LO : ∀ x ∈ [D.lst [], D.lst (List.replicate 13 [D.int 1]).flatten, D.tup [D.int 1], D.non, D.lst [D.int 0, D.int (-1)], D.lst [D.int (10 ^ 30 + 1), D.int 0], D.lst [D.bl true], D.lst [D.str (Str.ofString "_")], D.lst [D.lst [D.int 1]], D.dic [(Sum.inr (Str.ofString "a"), D.int 1)]], OddL x :=
    allc (oddL (el_lst (n := 0) (m := 0) (l := 0) all0 (by decide)) rfl) <| allc (oddL (el_ones (Nat.le_refl 13)) line_13) <| allc (oddL (el_tup (l := 1) (allc (el_int (k := 1) (by decide)) all0) (Nat.le_refl 1)) rfl) <| allc (oddL el_non rfl) <|
    allc (oddL (el2 (el_int (k := 1) (by decide)) (el_int (k := 1) (by decide))) (by decide)) <| allc (oddL (el2 (el_int (k := 31) (by decide)) ((el_int (k := 1) (by decide)).mono (by decide) (by decide))) (by decide)) <| allc (oddL (el1 (el_bl _)) rfl) <| allc (oddL (el1 (el_str (m := 10) (by decide +kernel))) rfl) <|
    allc (oddL (el1 (el1 (el_int (k := 1) (by decide)))) rfl) <| allc (oddL (el_dic1 (m := 10) (el_int (k := 1) (by decide)) (by decide +kernel)) rfl) all0
  have LL : ∀ x ∈ ([D.non, D.int 0, D.bl true, D.str (Str.ofString ""), D.str (Str.ofString "5|2"), D.tup [], D.lst [], D.dic [], D.dic [(Sum.inr (Str.ofString "_"), D.lst [D.lst [D.int 1]])], D.lst [D.lst []], D.lst [D.tup []], D.lst [D.int 1], D.lst [D.lst [D.str (Str.ofString "1")]], D.lst [D.lst [D.bl true]], D.lst [D.lst [D.int (-1)]], D.lst [D.lst [D.int (10 ^ 30 + 1)]]] ++ [D.tup (List.map rowD t), D.lst (List.map (fun r => D.tup (List.map D.int r)) t), D.lst (List.map rowD t ++ [D.lst (List.replicate 13 [D.int 1]).flatten]), D.lst (List.replicate 61 [D.lst [D.int 1]]).flatten]), OddX x := fun x hx => (List.mem_append.mp hx).elim (L0 x) (L6 x)
  have ll : ([D.non, D.int 0, D.bl true, D.str (Str.ofString ""), D.str (Str.ofString "5|2"), D.tup [], D.lst [], D.dic [], D.dic [(Sum.inr (Str.ofString "_"), D.lst [D.lst [D.int 1]])], D.lst [D.lst []], D.lst [D.tup []], D.lst [D.int 1], D.lst [D.lst [D.str (Str.ofString "1")]], D.lst [D.lst [D.bl true]], D.lst [D.lst [D.int (-1)]], D.lst [D.lst [D.int (10 ^ 30 + 1)]]] ++ [D.tup (List.map rowD t), D.lst (List.map (fun r => D.tup (List.map D.int r)) t), D.lst (List.map rowD t ++ [D.lst (List.replicate 13 [D.int 1]).flatten]), D.lst (List.replicate 61 [D.lst [D.int 1]]).flatten]).length = 20 := rfl
  clear L0 L6
  generalize ([D.non, D.int 0, D.bl true, D.str (Str.ofString ""), D.str (Str.ofString "5|2"), D.tup [], D.lst [], D.dic [], D.dic [(Sum.inr (Str.ofString "_"), D.lst [D.lst [D.int 1]])], D.lst [D.lst []], D.lst [D.tup []], D.lst [D.int 1], D.lst [D.lst [D.str (Str.ofString "1")]], D.lst [D.lst [D.bl true]], D.lst [D.lst [D.int (-1)]], D.lst [D.lst [D.int (10 ^ 30 + 1)]]] ++ [D.tup (List.map rowD t), D.lst (List.map (fun r => D.tup (List.map D.int r)) t), D.lst (List.map rowD t ++ [D.lst (List.replicate 13 [D.int 1]).flatten]), D.lst (List.replicate 61 [D.lst [D.int 1]]).flatten]) = LX at LL ll ⊢
  generalize Cell.lst [D.non, D.int 0, D.bl true, D.str (Str.ofString ""), D.str (Str.ofString "5|2"), D.tup [], D.lst [], D.dic [], D.dic [(Sum.inr (Str.ofString "_"), D.lst [D.lst [D.int 1]])], D.lst [D.lst []], D.lst [D.tup []], D.lst [D.int 1], D.lst [D.lst [D.str (Str.ofString "1")]], D.lst [D.lst [D.bl true]], D.lst [D.lst [D.int (-1)]], D.lst [D.lst [D.int (10 ^ 30 + 1)]]] = c1
  have ol : [D.lst [], D.lst (List.replicate 13 [D.int 1]).flatten, D.tup [D.int 1], D.non, D.lst [D.int 0, D.int (-1)], D.lst [D.int (10 ^ 30 + 1), D.int 0], D.lst [D.bl true], D.lst [D.str (Str.ofString "_")], D.lst [D.lst [D.int 1]], D.dic [(Sum.inr (Str.ofString "a"), D.int 1)]].length = 10 := rfl
  generalize [D.lst [], D.lst (List.replicate 13 [D.int 1]).flatten, D.tup [D.int 1], D.non, D.lst [D.int 0, D.int (-1)], D.lst [D.int (10 ^ 30 + 1), D.int 0], D.lst [D.bl true], D.lst [D.str (Str.ofString "_")], D.lst [D.lst [D.int 1]], D.dic [(Sum.inr (Str.ofString "a"), D.int 1)]] = OL at LO ol ⊢
  refine for_l (fun k Γ X => (∃ o5 o6, Γ = [some (.own h), some (tabD t), some (.int a), some (.int (10 ^ 30 + 1)), some (.own (S1 ++ [c1]).length), o5, o6]) ∧ ∃ xs, X = S1 ++ [c1] ++ [.lst xs] ∧ xs.length = 20 + k ∧ ∀ x ∈ xs, OddX x) ⟨⟨_, _, rfl⟩, LX, rfl, ll, LL⟩ (fun k Γ' X hk hp => ?_) fun Γ' X hp => ?_
  · obtain ⟨⟨o5, o6, rfl⟩, xs, rfl, hl, hx⟩ := hp
    have hO := LO _ (List.getElem_mem hk)
    generalize OL[k] = z at hO ⊢
    walk_at "dl"
    have ha : a < t.length := by omega
    rw [cut_to, show ((a : Int) + 1) = ((a + 1 : Nat) : Int) by omega, cut_from]
    have hlen : ((t.map rowD).take a ++ [z] ++ (t.map rowD).drop (a + 1)).length ≤ 61 := by
      rw [List.length_append, List.length_append, List.length_take, List.length_drop, List.length_map]
      show _ + 1 + _ ≤ _
      omega
    have hel : ∀ y ∈ (t.map rowD).take a ++ [z] ++ (t.map rowD).drop (a + 1), El 2 420 y := fun y hy => by
      rcases List.mem_append.mp hy with hy | hy
      · rcases List.mem_append.mp hy with hy | hy
        · exact (el_rows ok y (List.mem_of_mem_take hy)).mono (by decide) (by decide)
        · rw [List.mem_singleton.mp hy]
          exact hO.1
      · exact (el_rows ok y (List.mem_of_mem_drop hy)).mono (by decide) (by decide)
    have odd : OddX (.lst ((t.map rowD).take a ++ [z] ++ (t.map rowD).drop (a + 1))) := oddX (el_lst (l := 61) hel hlen) (tab_no (List.mem_append_left _ (List.mem_append_right _ List.mem_cons_self)) hO.2)
    have hcat : ((t.map rowD).take a).length + 1 ≤ 61 := by
      rw [List.length_take, List.length_map]
      omega
    refine ⟨isLst_at get_at, small (by decide), small (by omega), ?_, _, get_at, under (by omega), ⟨_, _, rfl⟩, _, by rw [set_at], by rw [List.length_append, hl, List.length_singleton]; omega, fun y hy => ?_⟩
    · rw [List.length_append] at hlen
      exact small (by omega)
    · rcases List.mem_append.mp hy with hy | hy
      · exact hx y hy
      · rw [List.mem_singleton.mp hy]
        exact odd
  · obtain ⟨⟨o5, o6, rfl⟩, xs, rfl, hl, hx⟩ := hp
    walk_at "dl"
    rw [cLen_L (asL_at' get_at)]
    have g2 : FdAt (S1 ++ [c1] ++ [.lst xs]) h (n + 1) := (g1.app (T := [c1])).app (T := [.lst xs])
    refine pick_at g2 (by omega) (fun S3 v f3 g3 hv0 hv1 => ?_) (by omega) (by omega)
    have fS := (((f1.cell c1 f.lt).cell (.lst xs) (by rw [List.length_append]; have := f.lt; omega)).trans f3).mono (show n + 1 + 1 ≤ n + 2 from Nat.le_refl _)
    have e3 : S3[(S1 ++ [c1]).length]? = some (.lst xs) := f3.get get_at (by rw [List.length_append]; have := g1.lt; omega)
    rw [dIx_L (asL_at' e3)]
    obtain ⟨x, ex, hm⟩ := ix_all hv0 (by omega)
    refine ⟨x, ex, ?_⟩
    obtain ⟨e, tb⟩ := hx x hm
    obtain ⟨S8, f8, e8⟩ := fS.app (by rw [List.length_append]; have := f.lt; omega)
    obtain ⟨S9, f9, e9⟩ := f8.app f.lt
    rw [e8, e9, List.append_assoc]
    exact ret_feed f9 (e.low _) (q _ _ f9 e.pln tb e.py e.low)
end DL
namespace DL
open PySem PySem.Spec PyProof.Rows L2
local macro_rules | `(tactic| walk_at "dl") => `(tactic| ((try simp only [gstart, gwipe, List.set_set, List.map_cons, List.map_nil, List.length_cons, List.length_nil, rep_0, rep_s, List.cons_append, List.nil_append, List.set_cons_zero, List.set_cons_succ, Nat.reduceAdd, Nat.reduceSub, Nat.zero_add, Nat.add_zero]); (try simp only [↓dv0, ↓dv1, ↓dv2, ↓dv3, ↓dv4, ↓dv5, ↓dv6, ↓dv7, ↓dv8, ↓dv9, ↓dv10, ↓dv11, ↓dv12, ↓dv13, ↓dv14, ↓dv15, ↓dv16, ↓dv17, ↓dv18, ↓dv19, ↓dv20, ↓dv21, ↓dv22, ↓dv23, ↓dv24, ↓dv25, ↓dv26, ↓dv27, ↓dv28, ↓dv29, ↓dv30, ↓dv31, ↓dv32, ↓dv33, ↓dv34, ↓dv35, ↓dv36, ↓dv37, ↓dv38, ↓dv39, ↓nm0, ↓nm1, ↓nm2, ↓nm3, ↓nm4, ↓nm5, ↓nm6, ↓nm7, ↓nm8, ↓nm9, ↓nm10, ↓nm11, ↓nm12, ↓nm13, ↓nm14, ↓nm15, ↓nm16, ↓nm17, ↓nm18, ↓nm19, ↓nm20, ↓nm21, ↓nm22, ↓nm23, ↓nm24, ↓nm25, ↓nm26, ↓nm27, ↓nm28, ↓nm29, ↓nm30, ↓nm31, ↓nm32, ↓nm33, ↓nm34, ↓nm35, ↓nm36, ↓nm37, ↓nm38, ↓nm39, ↓sPar_n, ↓sPar3_n, ↓sAug_n, ↓reduceIte, List.set_set, ↓sNext_e, ↓sSeq_e, ↓sBrk_e, ↓sCnt_e, ↓sDrop_e, ↓sRet_e, ↓sRetN_e, ↓sIf_e, ↓sAsg_e, ↓sRaise_e, ↓nmG_e, ↓tupG_e, ↓gsNil_e, ↓gsCons_e, ↓subG_e, ↓dC_e, ↓dOp_e, ↓dUn_e, ↓dChain_e, ↓bOf_e, ↓bAnd_e, ↓bOr_e, ↓bNot_e, ↓bYes_e, ↓dAnd_e, ↓dOr_e, ↓dNot_e, ↓dIf_e, ↓lNil_e, ↓lCons_e, ↓dLst_e, ↓dDic0_e, ↓dDic1_e, ↓dLenSetG_e, dIsB_b, ↓dLstO_e, ↓dTup_e, ↓dCB_e, ↓dCall_e, ↓dCallK_e, ↓oNone_e, ↓oSome_e, ↓dSl_e, ↓dBM_e, ↓dBM0_e, ↓dFz_e, ↓dFz2_e, ↓d2_e, ↓dLone_e, ↓lStar_e, ↓dCallA_e, ↓dMakeA_e, ↓dMakeV_e, ↓dMethA_e, ↓dCMethA_e, ↓dPropA_e, ↓dFld_e, ↓sFldS_e, ↓dFzI_e, ↓fzID_o, ↓dM1_e, ↓dM0_e, ↓dRev_e, ↓mSplit_s, ↓mUpper_s, ↓exStr, ↓exZ, ↓cStrI_i, ↓cIntS_s, ↓iStrD_e, ↓dEqF_s, ↓dNeF_s, ↓dEqF_i, ↓dNeF_i, ↓dSign_s, ↓sRaiseI_e, ↓dXFld_e, ↓mPop_e, ↓dAddO_l, ↓dAddO_o, ↓dMk0_e, ↓sKeep_e, ↓sTryH_e, ↓dCVal_e, ↓dConI_e, ↓cLen_s, ↓dIx_s, ↓dSlS_s, ↓dAdd_s, ↓cTup_l, ↓pkP_e, ↓pkS_e, ↓lstG_e, ↓asI_i, ↓iSeq_e, ↓iTupD_e, ↓iRg1_e, ↓iRg2_e, ↓iZipD_e, ↓iEnumD_e, ↓sFor_e, ↓dLc_e, ↓finF_e, ↓finO_e, ↓fzD_l, ↓fzD_i, ↓fzD_o, ↓fzD2_o, ↓dSetO_e, ↓mAppend_e, ↓mClear_e, ↓mReverse_e, List.map_cons, List.map_nil, List.length_cons, List.length_nil, rep_0, rep_s, List.cons_append, List.nil_append, List.getElem?_cons_zero, List.getElem?_cons_succ, List.set_cons_zero, List.set_cons_succ, Nat.reduceAdd, Nat.reduceSub, Nat.zero_add, Nat.add_zero, ↓exSS, ↓exB, ↓exI, ↓ex1, ↓ex2, ↓ex3, ↓exI1, ↓exI2, ↓exT, ↓exC, ↓exAs, ↓dAdd_i, ↓dAddI_i, ↓dSubI_i, ↓dLRg_e, ↓dIsiT_e, ↓dLenSet_e, ↓bChain3_e, ↓dLRg2_e, ↓iRg3_e, ↓dLc2_e, ↓dSlT_t, ↓dNew_e, ↓sDct_e, ↓dMulO_l, ↓dLRgO_e, ↓dAdd_l, ↓dSub_i, ↓dMul_i, ↓dMul_l, ↓dMod_i, ↓dDiv_i, ↓dPow_i, ↓dLt_i, ↓dLe_i, ↓dGt_i, ↓dGe_i, ↓uNeg_i, ↓cMax2_i, ↓cMin2_i, ↓cAbs_i, ↓cInt_i, ↓cInt_b, ↓cLen_l, ↓cLen_q, ↓cLen_t, ↓cList_l, ↓cList_q, ↓cList_t, ↓cListO_l, ↓cListO_t, ↓dIx_l, ↓dIx_q, ↓dIx_t, ↓dIx_o', ↓exS, ↓exL, at_1, at_2, at_3, at_4, ix30, ix31, ix32, ↓dSlL_l, ↓dSlL_q, ↓asQ_l, ↓asL_l, at_0, ↓isi_non_int, ↓isi_non_bool, ↓isi_non_str, ↓isi_non_list, ↓isi_non_tuple, ↓isi_non_dict, ↓isi_bl_int, ↓isi_bl_bool, ↓isi_bl_str, ↓isi_bl_list, ↓isi_bl_tuple, ↓isi_bl_dict, ↓isi_int_int, ↓isi_int_bool, ↓isi_int_str, ↓isi_int_list, ↓isi_int_tuple, ↓isi_int_dict, ↓isi_str_int, ↓isi_str_bool, ↓isi_str_str, ↓isi_str_list, ↓isi_str_tuple, ↓isi_str_dict, ↓isi_lst_int, ↓isi_lst_bool, ↓isi_lst_str, ↓isi_lst_list, ↓isi_lst_tuple, ↓isi_lst_dict, ↓isi_sq_int, ↓isi_sq_bool, ↓isi_sq_str, ↓isi_sq_list, ↓isi_sq_tuple, ↓isi_sq_dict, ↓isi_tup_int, ↓isi_tup_bool, ↓isi_tup_str, ↓isi_tup_list, ↓isi_tup_tuple, ↓isi_tup_dict, ↓isi_dic_int, ↓isi_dic_bool, ↓isi_dic_str, ↓isi_dic_list, ↓isi_dic_tuple, ↓isi_dic_dict, if_true, if_false, Bool.not_true, Bool.not_false, true_and, and_true, reduceCtorEq, Bool.true_eq_false, Bool.false_eq_true, ite_true, ite_false, ↓exAny, ↓isLst_l, Int.toNat_natCast, Int.reduceToNat, dVar_e, sPar_e, sPar3_e, sAug_e])))
local macro_rules | `(tactic| walk_at "dls") => `(tactic| ((try simp only [gstart, gwipe, List.set_set, List.map_cons, List.map_nil, List.length_cons, List.length_nil, rep_0, rep_s, List.cons_append, List.nil_append, List.set_cons_zero, List.set_cons_succ, Nat.reduceAdd, Nat.reduceSub, Nat.zero_add, Nat.add_zero]); (try simp only [*, ↓dv0, ↓dv1, ↓dv2, ↓dv3, ↓dv4, ↓dv5, ↓dv6, ↓dv7, ↓dv8, ↓dv9, ↓dv10, ↓dv11, ↓dv12, ↓dv13, ↓dv14, ↓dv15, ↓dv16, ↓dv17, ↓dv18, ↓dv19, ↓dv20, ↓dv21, ↓dv22, ↓dv23, ↓dv24, ↓dv25, ↓dv26, ↓dv27, ↓dv28, ↓dv29, ↓dv30, ↓dv31, ↓dv32, ↓dv33, ↓dv34, ↓dv35, ↓dv36, ↓dv37, ↓dv38, ↓dv39, ↓nm0, ↓nm1, ↓nm2, ↓nm3, ↓nm4, ↓nm5, ↓nm6, ↓nm7, ↓nm8, ↓nm9, ↓nm10, ↓nm11, ↓nm12, ↓nm13, ↓nm14, ↓nm15, ↓nm16, ↓nm17, ↓nm18, ↓nm19, ↓nm20, ↓nm21, ↓nm22, ↓nm23, ↓nm24, ↓nm25, ↓nm26, ↓nm27, ↓nm28, ↓nm29, ↓nm30, ↓nm31, ↓nm32, ↓nm33, ↓nm34, ↓nm35, ↓nm36, ↓nm37, ↓nm38, ↓nm39, ↓sPar_n, ↓sPar3_n, ↓sAug_n, ↓reduceIte, List.set_set, ↓sNext_e, ↓sSeq_e, ↓sBrk_e, ↓sCnt_e, ↓sDrop_e, ↓sRet_e, ↓sRetN_e, ↓sIf_e, ↓sAsg_e, ↓sRaise_e, ↓nmG_e, ↓tupG_e, ↓gsNil_e, ↓gsCons_e, ↓subG_e, ↓dC_e, ↓dOp_e, ↓dUn_e, ↓dChain_e, ↓bOf_e, ↓bAnd_e, ↓bOr_e, ↓bNot_e, ↓bYes_e, ↓dAnd_e, ↓dOr_e, ↓dNot_e, ↓dIf_e, ↓lNil_e, ↓lCons_e, ↓dLst_e, ↓dDic0_e, ↓dDic1_e, ↓dLenSetG_e, dIsB_b, ↓dLstO_e, ↓dTup_e, ↓dCB_e, ↓dCall_e, ↓dCallK_e, ↓oNone_e, ↓oSome_e, ↓dSl_e, ↓dBM_e, ↓dBM0_e, ↓dFz_e, ↓dFz2_e, ↓d2_e, ↓dLone_e, ↓lStar_e, ↓dCallA_e, ↓dMakeA_e, ↓dMakeV_e, ↓dMethA_e, ↓dCMethA_e, ↓dPropA_e, ↓dFld_e, ↓sFldS_e, ↓dFzI_e, ↓fzID_o, ↓dM1_e, ↓dM0_e, ↓dRev_e, ↓mSplit_s, ↓mUpper_s, ↓exStr, ↓exZ, ↓cStrI_i, ↓cIntS_s, ↓iStrD_e, ↓dEqF_s, ↓dNeF_s, ↓dEqF_i, ↓dNeF_i, ↓dSign_s, ↓sRaiseI_e, ↓dXFld_e, ↓mPop_e, ↓dAddO_l, ↓dAddO_o, ↓dMk0_e, ↓sKeep_e, ↓sTryH_e, ↓dCVal_e, ↓dConI_e, ↓cLen_s, ↓dIx_s, ↓dSlS_s, ↓dAdd_s, ↓cTup_l, ↓pkP_e, ↓pkS_e, ↓lstG_e, ↓asI_i, ↓iSeq_e, ↓iTupD_e, ↓iRg1_e, ↓iRg2_e, ↓iZipD_e, ↓iEnumD_e, ↓sFor_e, ↓dLc_e, ↓finF_e, ↓finO_e, ↓fzD_l, ↓fzD_i, ↓fzD_o, ↓fzD2_o, ↓dSetO_e, ↓mAppend_e, ↓mClear_e, ↓mReverse_e, List.map_cons, List.map_nil, List.length_cons, List.length_nil, rep_0, rep_s, List.cons_append, List.nil_append, List.getElem?_cons_zero, List.getElem?_cons_succ, List.set_cons_zero, List.set_cons_succ, Nat.reduceAdd, Nat.reduceSub, Nat.zero_add, Nat.add_zero, ↓exSS, ↓exB, ↓exI, ↓ex1, ↓ex2, ↓ex3, ↓exI1, ↓exI2, ↓exT, ↓exC, ↓exAs, ↓dAdd_i, ↓dAddI_i, ↓dSubI_i, ↓dLRg_e, ↓dIsiT_e, ↓dLenSet_e, ↓bChain3_e, ↓dLRg2_e, ↓iRg3_e, ↓dLc2_e, ↓dSlT_t, ↓dNew_e, ↓sDct_e, ↓dMulO_l, ↓dLRgO_e, ↓dAdd_l, ↓dSub_i, ↓dMul_i, ↓dMul_l, ↓dMod_i, ↓dDiv_i, ↓dPow_i, ↓dLt_i, ↓dLe_i, ↓dGt_i, ↓dGe_i, ↓uNeg_i, ↓cMax2_i, ↓cMin2_i, ↓cAbs_i, ↓cInt_i, ↓cInt_b, ↓cLen_l, ↓cLen_q, ↓cLen_t, ↓cList_l, ↓cList_q, ↓cList_t, ↓cListO_l, ↓cListO_t, ↓dIx_l, ↓dIx_q, ↓dIx_t, ↓dIx_o', ↓exS, ↓exL, at_1, at_2, at_3, at_4, ix30, ix31, ix32, ↓dSlL_l, ↓dSlL_q, ↓asQ_l, ↓asL_l, at_0, ↓isi_non_int, ↓isi_non_bool, ↓isi_non_str, ↓isi_non_list, ↓isi_non_tuple, ↓isi_non_dict, ↓isi_bl_int, ↓isi_bl_bool, ↓isi_bl_str, ↓isi_bl_list, ↓isi_bl_tuple, ↓isi_bl_dict, ↓isi_int_int, ↓isi_int_bool, ↓isi_int_str, ↓isi_int_list, ↓isi_int_tuple, ↓isi_int_dict, ↓isi_str_int, ↓isi_str_bool, ↓isi_str_str, ↓isi_str_list, ↓isi_str_tuple, ↓isi_str_dict, ↓isi_lst_int, ↓isi_lst_bool, ↓isi_lst_str, ↓isi_lst_list, ↓isi_lst_tuple, ↓isi_lst_dict, ↓isi_sq_int, ↓isi_sq_bool, ↓isi_sq_str, ↓isi_sq_list, ↓isi_sq_tuple, ↓isi_sq_dict, ↓isi_tup_int, ↓isi_tup_bool, ↓isi_tup_str, ↓isi_tup_list, ↓isi_tup_tuple, ↓isi_tup_dict, ↓isi_dic_int, ↓isi_dic_bool, ↓isi_dic_str, ↓isi_dic_list, ↓isi_dic_tuple, ↓isi_dic_dict, if_true, if_false, Bool.not_true, Bool.not_false, true_and, and_true, reduceCtorEq, Bool.true_eq_false, Bool.false_eq_true, ite_true, ite_false, ↓exAny, ↓isLst_l, Int.toNat_natCast, Int.reduceToNat, dVar_e, sPar_e, sPar3_e, sAug_e])))
--MD
theorem rowD_inj {a b : List Int} (h : rowD a = rowD b) : a = b := (List.map_inj_right (fun x y e => D.int.inj e)).mp (D.lst.inj h)
theorem tabD_inj {a b : List (List Int)} (h : tabD a = tabD b) : a = b := (List.map_inj_right (fun x y e => rowD_inj e)).mp (D.lst.inj h)
theorem el_tab {t : List (List Int)} (ok : TabOk t) : El 4 30000 (tabD t) := (el_lst (l := 61) (el_rows ok) (by rw [List.length_map]; have := ok.hi; omega)).mono (by decide) (by decide)
theorem shx_two {x z : D} (hx : El 4 30000 x) (hz : El 4 30000 z) : Shx (.lst [x, z]) := by
  have e := el2 hx hz
  obtain ⟨p, p1, p2⟩ := e.py
  exact ⟨e.pln, ⟨p, p1, p2.mono (by decide) (by decide)⟩, e.low⟩
theorem dNe_same {S : Sto} {Φ : KD} {d e : D} {n m : Nat} {p : PyData} (r : PyR S d p) (r2 : PyR S e p) (f : Fit n m p) (h : Φ S (.bl false)) (hn : n ≤ 64 := by decide) : dNe d e S Φ := ⟨p, p, r, r2, f.shaped hn, f.shaped hn, by rw [SeqAt.eqv_refl p f.can]; exact h⟩
theorem dNe_nil {S : Sto} {Φ : KD} {x : D} {ps : List PyData} {n m : Nat} (r : PyR S x (.list ps)) (f : Fit n m (.list ps)) (hn : n ≤ 64) (h : Φ S (.bl (!decide (ps = [])))) : dNe x (.lst []) S Φ := by
  refine ⟨.list ps, .list [], r, .lst .nil, f.shaped hn, by decide, ?_⟩
  cases ps with
  | nil => exact h
  | cons a b => exact h
theorem fit_w1 : Fit 0 20 (.str "table") := ⟨by decide +kernel, by decide +kernel, by decide +kernel, by decide +kernel, by decide +kernel, by decide +kernel⟩
theorem fit_w2 : Fit 0 20 (.str "width") := ⟨by decide +kernel, by decide +kernel, by decide +kernel, by decide +kernel, by decide +kernel, by decide +kernel⟩
theorem fit_w3 : Fit 0 20 (.str "none") := ⟨by decide +kernel, by decide +kernel, by decide +kernel, by decide +kernel, by decide +kernel, by decide +kernel⟩
theorem fit_w4 : Fit 0 20 (.str "narrow") := ⟨by decide +kernel, by decide +kernel, by decide +kernel, by decide +kernel, by decide +kernel, by decide +kernel⟩
/-- what is told, read for == -/
theorem told_py (g l : Int) (t : List (List Int)) (w : Int) (ht : t.length ≤ 60) : ∃ p, (∀ S, PyR S (toldD (wides g l t w) w) p) ∧ Fit 2 200 p := by
  unfold toldD
  split
  · exact ⟨_, fun S => .str _, fit_w2.mono (by decide) (by decide)⟩
  · split
    · rename_i i r e
      have hi : i < t.length := by
        have : i ∈ wides g l t w := by rw [e]; exact List.mem_cons_self
        unfold wides at this
        exact List.mem_range.mp (List.mem_filter.mp this).1
      refine ⟨_, fun S => .lst (.cons (.str _) (.cons (.int _) .nil)), (fit_list (n := 0) (m := 20) (l := 2) (fun y hy => ?_) (by exact Nat.le_refl 2)).mono (by decide) (by decide)⟩
      rcases List.mem_cons.mp hy with z | z
      · rw [z]; exact fit_w4
      · rw [List.mem_singleton.mp z]
        exact (fit_int (k := 3) (by omega)).mono (by decide) (by decide)
    · exact ⟨_, fun S => .str _, fit_w3.mono (by decide) (by decide)⟩
def aloneF (g l : Int) (t : List (List Int)) : List Int := (List.range t.length).map fun i => wideF g l t i i
theorem alone_len (g l : Int) (t : List (List Int)) : (aloneF g l t).length = t.length := by unfold aloneF; rw [List.length_map, List.length_range]
theorem alone_at {g l : Int} {t : List (List Int)} {i : Nat} (h : i < t.length) : (aloneF g l t)[i]? = some (wideF g l t i i) := by
  unfold aloneF
  rw [List.getElem?_map, List.getElem?_range h]
  rfl
theorem pair_sub (g l : Int) (t : List (List Int)) (a b : Nat) : maxP (endsF g l ((t.drop a).take (b + 1 - a))) = wideF g l t a b := by
  unfold wideF subT
  rw [show List.drop 0 = (id : List Int → List Int) from funext fun _ => rfl, List.map_id]
theorem GapOk.look {g l : Int} (gk : GapOk g l) {k : Str} (h : k ∈ kindsL) : LookOk [k] g l := ⟨Nat.le_refl 1, by show 1 ≤ 12; decide, fun x hx => by rw [List.mem_singleton.mp hx]; exact h, gk.g0, gk.g1, gk.l0, gk.l1⟩
/-- other objects as things -/
def Thg (x : D) : Prop := El 4 500 x ∧ ∀ ds, x = .lst ds → ds.length ≤ 1000
theorem thg {n m : Nat} {x : D} (e : El n m x) (h : ∀ ds, x = .lst ds → ds.length ≤ 1000) (hn : n ≤ 4 := by decide) (hm : m ≤ 500 := by decide) : Thg x := ⟨e.mono hn hm, h⟩
theorem things_ok : ∀ x ∈ [D.non, D.lst [], D.lst [D.tup [D.int 0, D.int 1]], D.dic [(Sum.inr (Str.ofString "_"), D.lst [])], D.str (Str.ofString "x"), D.tup [D.int 0, D.int 1], D.lst [D.bl true]], Thg x :=
  allc (thg el_non fun _ e => nomatch e) <| allc (thg (el_lst (n := 0) (m := 0) (l := 0) all0 (by decide)) fun _ e => by cases e; decide) <| allc (thg (el1 (el_tup (l := 2) (allc (el_int (k := 1) (by decide)) (allc (el_int (k := 1) (by decide)) all0)) (by exact Nat.le_refl 2))) fun _ e => by cases e; decide) <|
  allc (thg (el_dic1 (m := 10) (el_lst (n := 0) (m := 0) (l := 0) all0 (by decide)) (by decide +kernel)) fun _ e => nomatch e) <| allc (thg (el_str (m := 10) (by decide +kernel)) fun _ e => nomatch e) <| allc (thg (el_tup (l := 2) (allc (el_int (k := 1) (by decide)) (allc (el_int (k := 1) (by decide)) all0)) (by exact Nat.le_refl 2)) fun _ e => nomatch e) <| allc (thg (el1 (el_bl _)) fun _ e => by cases e; decide) all0
theorem p__law_right (Y' : Addr) : Rets sp__law_right (T__law_right Y') N__law_right := by
  rintro _ S Φ Ψ ⟨h, n, t, g, l, rfl, f, hn, ok, gk, q⟩
  unfold T__law_right
  have h1 := ok.lo
  have h6 := ok.hi
  walk_at "dl"
  have lk : LookOk ["left"] g l := gk.look (by decide)
  refine ⟨small (by decide), ["left"], g, l, rfl, lk, Y', _, get_at, ?_⟩
  rw [set_at]
  have f := f.app (T := [Cell.gone])
  generalize S ++ [Cell.gone] = S1 at f ⊢
  refine lc_l (fun i acc S' => S' = S1 ∧ acc = ((aloneF g l t).take i).map D.int) (small (by rw [List.length_map]; omega)) ⟨rfl, rfl⟩ (fun i acc S' hi hp => ?_) fun acc S' hp => ?_
  · obtain ⟨rfl, rfl⟩ := hp
    rw [List.length_map] at hi
    rw [List.getElem_map]
    walk_at "dl"
    refine ⟨small (by decide), [t[i]], g, l, rfl, ⟨by show 1 ≤ 1; decide, by show 1 ≤ 200; decide, fun r hr => by rw [List.mem_singleton.mp hr]; exact ok.row _ (List.getElem_mem hi)⟩, gk, rfl, ?_⟩
    rw [List.take_add_one, alone_at hi, List.map_append]
    congr 1
    have e := pair_sub g l t i i
    rw [show i + 1 - i = 1 by omega, List.drop_eq_getElem_cons hi, List.take_succ_cons, List.take_zero] at e
    rw [e]
    rfl
  obtain ⟨rfl, rfl⟩ := hp
  walk_at "dl"
  rw [List.length_map, ← alone_len g l t, List.take_length]
  refine ⟨small (by decide), aloneF g l t, rfl, by rw [alone_len]; omega, fun mx _ _ => ?_⟩
  repeat (first | refine ⟨cpw (by decide) (by decide) (by decide), ?_⟩ | refine ⟨small (by decide), ?_⟩ | refine ⟨by decide, ?_⟩)
  have lt : [D.non, D.lst [], D.lst [D.tup [D.int 0, D.int 1]], D.dic [(Sum.inr (Str.ofString "_"), D.lst [])], D.str (Str.ofString "x"), D.tup [D.int 0, D.int 1], D.lst [D.bl true]].length = 7 := rfl
  have ht := things_ok
  generalize [D.non, D.lst [], D.lst [D.tup [D.int 0, D.int 1]], D.dic [(Sum.inr (Str.ofString "_"), D.lst [])], D.str (Str.ofString "x"), D.tup [D.int 0, D.int 1], D.lst [D.bl true]] = TH at lt ht ⊢
  refine for_r0 (fun k Γ X => (∃ o8 o9 o10 o11 o12 o13 o14 o15 o16, Γ = [some (.own h), some (tabD t), some (rowD [g, l]), some (.ins Y' (styF ["left"] g l)), some (.lst ((aloneF g l t).map D.int)), some (.int mx), some (.int (10 ^ 59)), some (.lst TH), o8, o9, o10, o11, o12, o13, o14, o15, o16]) ∧ FdAt X h (n + 10 * k)) ⟨⟨_, _, _, _, _, _, _, _, _, rfl⟩, f.mono (by omega)⟩ (fun k Γ' X hk hp => ?_) fun Γ' X hp => ?_
  · obtain ⟨⟨o8, o9, o10, o11, o12, o13, o14, o15, o16, rfl⟩, fd⟩ := hp
    walk_at "dl"
    generalize hm : n + 10 * k = m at fd
    have hm2 : m < 2 ^ 93 := by omega
    have al := alone_len g l t
    have a0 : atI ((aloneF g l t).map D.int) 0 = some (.int (wideF g l t 0 0)) := by
      show atI _ ((0 : Nat) : Int) = _
      rw [at_nat, List.getElem?_map, alone_at (by omega)]
      rfl
    have a1 : atI ((aloneF g l t).map D.int) (-1) = some (.int (wideF g l t (t.length - 1) (t.length - 1))) := by
      rw [at_neg1 (by rw [List.length_map]; omega), List.length_map, al, List.getElem?_map, alone_at (by omega)]
      rfl
    refine ⟨_, a0, _, a1, ?_⟩
    rw [dSub_i]
    refine ⟨aloneF g l t, rfl, by omega, fun mn _ _ => ?_⟩
    refine ⟨small (by decide), ?_⟩
    refine pick_at fd (by decide) (fun X1 v f1 g1 v0 v1 => ?_) (by omega) (by decide)
    refine dIx_p (p := fun d => ∃ w : Int, d = .int w) v0 (by exact v1) (allc ⟨_, rfl⟩ <| allc ⟨_, rfl⟩ <| allc ⟨_, rfl⟩ <| allc ⟨_, rfl⟩ <| allc ⟨_, rfl⟩ <| allc ⟨_, rfl⟩ <| allc ⟨_, rfl⟩ <| allc ⟨_, rfl⟩ all0) fun d ⟨w1, ew1⟩ => ?_
    subst ew1
    refine ⟨small (by decide), ?_⟩
    refine pick_at g1 (by decide) (fun X2 u f2 g2 u0 u1 => ?_) (by omega) (by decide)
    refine dIx_p (p := fun d => ∃ w : Int, d = .int w) u0 (by exact u1) (allc ⟨_, rfl⟩ <| allc ⟨_, rfl⟩ <| allc ⟨_, rfl⟩ <| allc ⟨_, rfl⟩ <| allc ⟨_, rfl⟩ all0) fun d ⟨w, ew⟩ => ?_
    subst ew
    rw [List.length_map]
    refine ⟨by omega, by omega, ?_⟩
    refine lc_rg (fun j acc Y => Y = X2 ∧ acc = ((List.range j).filter fun i => decide (w < wideF g l t i i)).map fun i : Nat => D.int (i : Nat)) (small (by omega)) ⟨rfl, rfl⟩ (fun j acc Y hj hp => ?_) fun acc Y hp => ?_
    · obtain ⟨rfl, rfl⟩ := hp
      walk_at "dl"
      rw [Int.zero_add, at_nat]
      refine ⟨.int (wideF g l t j j), by rw [List.getElem?_map, alone_at hj]; rfl, ?_⟩
      rw [List.range_succ, List.filter_append, dGt_i]
      refine ⟨_, rfl, ?_⟩
      by_cases c : w < wideF g l t j j
      · rw [if_pos (by rw [decide_eq_true_eq]; exact c), List.filter_cons_of_pos (by rw [decide_eq_true_eq]; exact c), List.map_append]
        exact ⟨rfl, rfl⟩
      · rw [if_neg (by rw [decide_eq_true_eq]; exact c), List.filter_cons_of_neg (by rw [decide_eq_true_eq]; exact c), List.filter_nil, List.append_nil]
        exact ⟨rfl, rfl⟩
    obtain ⟨rfl, rfl⟩ := hp
    rw [show ((List.range t.length).filter fun i => decide (w < wideF g l t i i)) = wides g l t w from rfl]
    walk_at "dl"
    refine joinD (fun Z d => Z = Y ∧ d = toldD (wides g l t w) w) (fun Z d hp => ?_) fun N hN => ?_
    rotate_left
    · walk_at "dl"
      have hN := hN Y _ ⟨rfl, rfl⟩
      unfold toldD at hN
      by_cases w0 : w < 0
      · rw [if_pos w0] at hN
        rw [if_pos (by rw [decide_eq_true_eq]; exact w0)]
        exact hN
      · rw [if_neg w0] at hN
        rw [if_neg (by rw [decide_eq_true_eq]; exact w0), dJ_e]
        walk_at "dl"
        have hws : ∀ i ∈ wides g l t w, i < t.length := fun i hi => List.mem_range.mp (List.mem_filter.mp hi).1
        have hwl : (wides g l t w).length ≤ 60 := by
          have := List.length_filter_le (fun i => decide (w < wideF g l t i i)) (List.range t.length)
          rw [List.length_range] at this
          exact Nat.le_trans this h6
        generalize wides g l t w = ws at hN hws hwl ⊢
        have eI : (ws.map fun i : Nat => D.int (i : Nat)) = (ws.map fun i : Nat => (i : Int)).map D.int := by simp only [List.map_map]; rfl
        rw [eI]
        refine ⟨small (by decide), dNe_nil (pyr_row (ws.map fun i : Nat => (i : Int))) (fit_row (r := ws.map fun i : Nat => (i : Int)) (k := 3) (l := 60) (fun i hi => ?_) (by rw [List.length_map]; exact hwl)) (by decide) ?_⟩
        · obtain ⟨a, ha, rfl⟩ := List.mem_map.mp hi
          have := hws a ha
          omega
        refine ⟨_, rfl, ?_⟩
        cases ws with
        | nil =>
          rw [if_neg (by decide)]
          exact hN
        | cons a r =>
          rw [if_pos (by rfl)]
          exact ⟨.int a, by show atI _ ((0 : Nat) : Int) = _; rw [at_nat]; rfl, small (by decide), hN⟩
    obtain ⟨rfl, rfl⟩ := hp
    walk_at "dl"
    refine pick_at g2 (by decide) (fun X3 u3 f3 g3 u30 u31 => ?_) (by omega) (by decide)
    refine dIx_p (p := Thg) u30 (by rw [lt]; exact u31) ht fun z hz => ?_
    refine ⟨h, m + 3, t, rfl, g3, by omega, ok, fun X4 x f4 px tb py lw => ?_⟩
    have g4 := f4.at g3.lt
    obtain ⟨p, tp, tf⟩ := told_py g l t w h6
    refine ⟨by decide, by decide, ?_⟩
    refine for_r0 (fun e Γ V => (∃ o14 o15 o16, Γ = [some (.own h), some (tabD t), some (rowD [g, l]), some (.ins Y' (styF ["left"] g l)), some (.lst ((aloneF g l t).map D.int)), some (.int mx), some (.int (10 ^ 59)), some (.lst TH), some (.int k), some (.int w), some (.lst ((wides g l t w).map fun i : Nat => D.int (i : Nat))), some (toldD (wides g l t w) w), some z, some x, o14, o15, o16]) ∧ V = X4) ⟨⟨_, _, _, rfl⟩, rfl⟩ (fun e Γ' V he hp => ?_) fun Γ' V hp => ?_
    · obtain ⟨⟨o14, o15, o16, rfl⟩, rfl⟩ := hp
      walk_at "dl"
      refine ⟨e, tabD t, _, w, z, ["left"], g, l, rfl, he, tabX_ok ok, rfl, lk, hz.1.pln, hz.2, shx_two (el_tab ok) (hz.1.mono (by decide) (by decide)), fun zz => ?_, fun t' e' o' => ?_⟩
      · rw [tableB_tab ok] at zz; cases zz
      have : t' = t := (tabD_inj e').symm
      subst this
      refine dNe_same (tp _) (tp _) tf ⟨_, rfl, ?_⟩
      rw [if_neg Bool.false_ne_true]
      refine ⟨e, x, _, w, z, ["left"], g, l, rfl, he, ⟨px, .inl tb⟩, rfl, lk, hz.1.pln, hz.2, shx_two ⟨px, py, lw⟩ (hz.1.mono (by decide) (by decide)), fun zz => ?_, fun t'' e'' o'' => ?_⟩
      · refine dNe_same (.str _) (.str _) fit_w1 ⟨_, rfl, ?_⟩
        rw [if_neg Bool.false_ne_true]
        exact ⟨⟨_, _, _, rfl⟩, rfl⟩
      · rw [e'', tableB_tab o''] at tb; cases tb
    · obtain ⟨⟨o14, o15, o16, rfl⟩, rfl⟩ := hp
      exact ⟨⟨_, _, _, _, _, _, _, _, _, rfl⟩, g4.mono (by omega)⟩
  · obtain ⟨⟨o8, o9, o10, o11, o12, o13, o14, o15, o16, rfl⟩, fd⟩ := hp
    walk_at "dl"
    exact ret_now (q _ (fd.mono (by omega)))
theorem wide2 : wides 0 7 [[0], [1, 0]] 6 = [1] := by decide +kernel
theorem ok2 : TabOk [[0], [1, 0]] := ⟨by decide, by decide, fun r hr => by
  simp only [List.mem_cons, List.not_mem_nil, or_false] at hr
  rcases hr with rfl | rfl <;> exact ⟨by decide, by decide, by decide⟩⟩
theorem fit_n4 : Fit 3 300 (.list (List.replicate 4 (.list [.str "narrow", .int 1]))) := ⟨by decide +kernel, by decide +kernel, by decide +kernel, by decide +kernel, by decide +kernel, by decide +kernel⟩
theorem p_law (Y : Addr) : Rets sp_law (T_law Y) N_law := by
  rintro _ S Φ Ψ ⟨ns, rfl, q⟩
  unfold T_law
  walk_at "dl"
  rw [List.length_map]
  have hb : ∃ n : Nat, (if (if (ns.length : Int) < 3 then (ns.length : Int) else 3) > 1 then if (ns.length : Int) < 3 then (ns.length : Int) else 3 else 1) = (n : Int) ∧ n ≤ 3 := by
    refine ⟨(if (if (ns.length : Int) < 3 then (ns.length : Int) else 3) > 1 then if (ns.length : Int) < 3 then (ns.length : Int) else 3 else 1).toNat, ?_, ?_⟩
    · split <;> split <;> omega
    · split <;> split <;> omega
  obtain ⟨n, en, hn2⟩ := hb
  rw [en]
  refine ⟨by omega, by omega, ?_⟩
  rw [Int.toNat_natCast]
  refine for_r0 (fun i Γ X => ∃ o1 o2 o3 o4 o5 o6 o7, Γ = [some (.sq (ns.map D.int)), o1, o2, o3, o4, o5, o6, o7]) ⟨_, _, _, _, _, _, _, rfl⟩ (fun i Γ' X hi hp => ?_) fun Γ' X hp => ?_
  · obtain ⟨o1, o2, o3, o4, o5, o6, o7, rfl⟩ := hp
    walk_at "dl"
    refine ⟨ns, i, rfl, by omega, fun c fc => ?_⟩
    have fd0 : FdAt (X ++ [c]) X.length 0 := ⟨c, get_at, fc⟩
    generalize X ++ [c] = X1 at fd0 ⊢
    generalize X.length = h at fd0 ⊢
    walk_at "dl"
    have hd : ∃ a : Nat, atI [D.int 60, D.int 8] (if decide (0 < (i : Int)) = true then 1 else 0) = some (.int a) ∧ 0 < a ∧ a ≤ 60 := by
      by_cases z : 0 < (i : Int)
      · rw [if_pos (by rw [decide_eq_true_eq]; exact z)]
        exact ⟨8, rfl, by decide, by decide⟩
      · rw [if_neg (by rw [decide_eq_true_eq]; exact z)]
        exact ⟨60, rfl, by decide, by decide⟩
    obtain ⟨a, ea, a1, a2⟩ := hd
    refine ⟨small (by decide), _, ea, small (by decide), small (by decide), small (by decide), ?_⟩
    have hm : ∀ x ∈ [D.tup [D.int (a : Nat), D.int 4], D.tup [D.int 3, D.int 12]], ∃ a b : Nat, x = .tup [.int a, .int b] ∧ 0 < a ∧ a ≤ 60 ∧ 0 < b ∧ b ≤ 12 := allc ⟨a, 4, rfl, a1, a2, by decide, by decide⟩ (allc ⟨3, 12, rfl, by decide, by decide, by decide, by decide⟩ all0)
    have hml : [D.tup [D.int (a : Nat), D.int 4], D.tup [D.int 3, D.int 12]].length = 2 := rfl
    generalize [D.tup [D.int (a : Nat), D.int 4], D.tup [D.int 3, D.int 12]] = M at hm hml ⊢
    refine for_l (ds := M) (fun j Γ X => (∃ o3 o4 o5 o6 o7, Γ = [some (.sq (ns.map D.int)), some (.int i), some (.own h), o3, o4, o5, o6, o7]) ∧ FdAt X h (20000000 * j)) ⟨⟨_, _, _, _, _, rfl⟩, fd0.mono (by omega)⟩ (fun j Γ' X hj hp => ?_) fun Γ' X hp => ?_
    · obtain ⟨⟨o3, o4, o5, o6, o7, rfl⟩, fd⟩ := hp
      obtain ⟨a, b, e, a1, a2, b1, b2⟩ := hm _ (List.getElem_mem hj)
      rw [e]
      walk_at "dl"
      refine ⟨h, _, a, b, rfl, fd, by omega, a1, by omega, b1, by omega, fun X1 t f1 t1 t2 t3 => ?_⟩
      have g1 := f1.at fd.lt
      have ok : TabOk t := ⟨t1, by omega, fun r hr => let ⟨x, y, z⟩ := t3 r hr; ⟨x, by omega, z⟩⟩
      walk_at "dl"
      refine ⟨h, _, rfl, g1, by omega, fun X2 g l f2 gk => ?_⟩
      have g2 := f2.at g1.lt
      refine ⟨h, _, t, g, l, rfl, g2, by omega, ok, gk, fun X3 g3 => ?_⟩
      refine ⟨_, rfl, ?_⟩
      rw [if_neg (by decide)]
      exact ⟨⟨_, _, _, _, _, rfl⟩, g3.mono (by omega)⟩
    · obtain ⟨⟨o3, o4, o5, o6, o7, rfl⟩, fd⟩ := hp
      exact ⟨_, _, _, _, _, _, _, rfl⟩
  · obtain ⟨o1, o2, o3, o4, o5, o6, o7, rfl⟩ := hp
    walk_at "dl"
    refine ⟨by decide, by decide, ?_⟩
    refine lc_rg (fun j acc _ => acc = List.replicate j (.lst [.str "narrow", .int 1])) (small (by decide)) rfl (fun j acc Z hj hp => ?_) fun acc Z hp => ?_
    · obtain rfl := hp
      walk_at "dl"
      have lk : LookOk (kindsOr []) 0 7 := ⟨by decide, by decide, by decide, by decide, by decide, by decide, by decide⟩
      refine ⟨small (by decide), small (by decide), small (by decide), rfl, fun z => z.elim, small (Nat.zero_le _), Z.length, [], 0, 7, rfl, get_at, lk, rfl, Y, _, by rw [set_at]; exact get_at, ?_⟩
      rw [set_at, set_at]
      refine ⟨j, tabD [[0], [1, 0]], _, 6, .non, kindsOr [], 0, 7, by rw [Int.zero_add]; rfl, hj, tabX_ok ok2, rfl, lk, .non, (fun _ e => nomatch e), shx_two (el_tab ok2) (el_non.mono (by decide) (by decide)), fun z => ?_, fun t' e o => ?_⟩
      · rw [tableB_tab ok2] at z; cases z
      · have : [[0], [1, 0]] = t' := tabD_inj e
        subst this
        rw [wide2, List.replicate_succ']
        rfl
    · obtain rfl := hp
      walk_at "dl"
      refine ⟨small (by decide), small (by decide), by decide, by decide, small (by decide), ?_⟩
      rw [rep_flat]
      exact eq_same (.lst (.cons (.lst (.cons (.str _) (.cons (.int _) .nil))) (.cons (.lst (.cons (.str _) (.cons (.int _) .nil))) (.cons (.lst (.cons (.str _) (.cons (.int _) .nil))) (.cons (.lst (.cons (.str _) (.cons (.int _) .nil))) .nil))))) (.lst (.cons (.lst (.cons (.str _) (.cons (.int _) .nil))) (.cons (.lst (.cons (.str _) (.cons (.int _) .nil))) (.cons (.lst (.cons (.str _) (.cons (.int _) .nil))) (.cons (.lst (.cons (.str _) (.cons (.int _) .nil))) .nil))))) fit_n4 (ret_now (q _))
end DL
namespace DL
open PySem PySem.Spec PyProof.Rows L2
theorem sc_is_integer : FnScope N_is_integer P_is_integer (defScope s_is_integer) := ⟨rfl, rfl, rfl, by decide +kernel, rfl, by decide +kernel, by decide +kernel⟩
theorem d_is_integer {P : Program} {wd : World} {K : PySem.W.Frag} {mg : Str → Option Value} {base : Heap} {f : Addr} {cdv : Value} {A : Around} {outer : List Env} {s : Shared} {H : Hp} {E : XK} (hG : (A.deeper (envOfC "is_integer" (defScope s_is_integer) s.heap.objs.size f cdv)).guards = some []) (hr : Room 0 (A.deeper (envOfC "is_integer" (defScope s_is_integer) s.heap.objs.size f cdv))) (m_int : mg "int" = none) (m_isinstance : mg "isinstance" = none) (m_bool : mg "bool" = none) :
    ∃ t, JB (cxOf (L2.CX P wd) P wd K mg base N_is_integer "is_integer" (defScope s_is_integer) f cdv A outer s H E) (WD E) (defBody s_is_integer) t T_is_integer := by
  have hu : (A.deeper (envOfC "is_integer" (defScope s_is_integer) s.heap.objs.size f cdv)).units + 64 < cLine := hr.units
  exact ⟨_, (jb_one (js_ret (je_and (je_callB call_isi cd_isi rfl m_isinstance (by decide +kernel) (ja_cons (je_var 0) (ja_cons (je_ty rfl m_int (by decide +kernel)) ja_nil))) (je_and (je_not (je_callB call_isi cd_isi rfl m_isinstance (by decide +kernel) (ja_cons (je_var 0) (ja_cons (je_ty rfl m_bool (by decide +kernel)) ja_nil)))) (je_one (je_chain op_le op_le opd_le opd_le (je_var 1) (je_var 0) (je_var 2)))))))⟩
theorem sc_is_cell : FnScope N_is_cell P_is_cell (defScope s_is_cell) := ⟨rfl, rfl, rfl, by decide +kernel, rfl, by decide +kernel, by decide +kernel⟩
theorem d_is_cell {P : Program} {wd : World} {K : PySem.W.Frag} {mg : Str → Option Value} {base : Heap} {f : Addr} {cdv : Value} {A : Around} {outer : List Env} {s : Shared} {H : Hp} {E : XK} (hG : (A.deeper (envOfC "is_cell" (defScope s_is_cell) s.heap.objs.size f cdv)).guards = some []) (hr : Room 1 (A.deeper (envOfC "is_cell" (defScope s_is_cell) s.heap.objs.size f cdv))) (c_is_integer : CalG P wd K mg base "is_integer" s_is_integer 1 P_is_integer sp_is_integer) (g_MOST_CELL : ∃ t, mg "MOST_CELL" = some (.int 1000000000000000000000000000000 t)) :
    ∃ t, JB (cxOf (L2.CX P wd) P wd K mg base N_is_cell "is_cell" (defScope s_is_cell) f cdv A outer s H E) (WD E) (defBody s_is_cell) t T_is_cell := by
  have hu : (A.deeper (envOfC "is_cell" (defScope s_is_cell) s.heap.objs.size f cdv)).units + 64 < cLine := hr.units
  exact ⟨_, (jb_one (js_ret (je_callCG c_is_integer hG (hr.mono (by decide)) rfl (takes_of rfl rfl rfl rfl) (ja_cons (je_var 0) (ja_cons je_int (ja_cons (je_gint rfl g_MOST_CELL) ja_nil))))))⟩
theorem sc_is_line : FnScope N_is_line P_is_line (defScope s_is_line) := ⟨rfl, rfl, rfl, by decide +kernel, rfl, by decide +kernel, by decide +kernel⟩
theorem d_is_line {P : Program} {wd : World} {K : PySem.W.Frag} {mg : Str → Option Value} {base : Heap} {f : Addr} {cdv : Value} {A : Around} {outer : List Env} {s : Shared} {H : Hp} {E : XK} (hG : (A.deeper (envOfC "is_line" (defScope s_is_line) s.heap.objs.size f cdv)).guards = some []) (hr : Room 2 (A.deeper (envOfC "is_line" (defScope s_is_line) s.heap.objs.size f cdv))) (m_list : mg "list" = none) (m_isinstance : mg "isinstance" = none) (m_len : mg "len" = none) (g_MOST_CELLS : ∃ t, mg "MOST_CELLS" = some (.int 12 t)) (c_is_cell : CalG P wd K mg base "is_cell" s_is_cell 2 P_is_cell sp_is_cell) (m_all : mg "all" = none) :
    ∃ t, JB (cxOf (L2.CX P wd) P wd K mg base N_is_line "is_line" (defScope s_is_line) f cdv A outer s H E) (WD E) (defBody s_is_line) t T_is_line := by
  have hu : (A.deeper (envOfC "is_line" (defScope s_is_line) s.heap.objs.size f cdv)).units + 64 < cLine := hr.units
  exact ⟨_, (jb_one (js_ret (je_and (je_callB call_isi cd_isi rfl m_isinstance (by decide +kernel) (ja_cons (je_var 0) (ja_cons (je_ty rfl m_list (by decide +kernel)) ja_nil))) (je_and (je_chain op_le op_le opd_le opd_le je_int (je_callB call_lenA cd_len rfl m_len (by decide +kernel) (ja_cons (je_var 0) ja_nil)) (je_gint rfl g_MOST_CELLS)) (je_one (je_callB (cr_all rfl) cd_all rfl m_all (by decide +kernel) (ja_cons (je_lc (own := ([("cell", 1)] : List (Str × Nat))) finF finF_ok rfl sc_is_line.nd (ji_list (je_var 0)) (blkOk_by (N := N_is_line) (sc := defScope s_is_line) (by decide +kernel)) (fun _ _ _ _ _ => (jg_name 1 sc_is_line.nd)) (by exact (gk_name (vs := [1]) (i := 1))) (fun _ _ _ _ _ => jts_nil) (fun _ _ _ _ _ => (je_callCG c_is_cell hG (hr.mono (by decide)) rfl takes0 (ja_cons (je_var 1) ja_nil)))) ja_nil)))))))⟩
theorem sc_is_table : FnScope N_is_table P_is_table (defScope s_is_table) := ⟨rfl, rfl, rfl, by decide +kernel, rfl, by decide +kernel, by decide +kernel⟩
theorem d_is_table {P : Program} {wd : World} {K : PySem.W.Frag} {mg : Str → Option Value} {base : Heap} {f : Addr} {cdv : Value} {A : Around} {outer : List Env} {s : Shared} {H : Hp} {E : XK} (hG : (A.deeper (envOfC "is_table" (defScope s_is_table) s.heap.objs.size f cdv)).guards = some []) (hr : Room 3 (A.deeper (envOfC "is_table" (defScope s_is_table) s.heap.objs.size f cdv))) (m_list : mg "list" = none) (m_isinstance : mg "isinstance" = none) (m_len : mg "len" = none) (g_MOST_LINES : ∃ t, mg "MOST_LINES" = some (.int 60 t)) (c_is_line : CalG P wd K mg base "is_line" s_is_line 3 P_is_line sp_is_line) (m_all : mg "all" = none) :
    ∃ t, JB (cxOf (L2.CX P wd) P wd K mg base N_is_table "is_table" (defScope s_is_table) f cdv A outer s H E) (WD E) (defBody s_is_table) t T_is_table := by
  have hu : (A.deeper (envOfC "is_table" (defScope s_is_table) s.heap.objs.size f cdv)).units + 64 < cLine := hr.units
  exact ⟨_, (jb_one (js_ret (je_and (je_callB call_isi cd_isi rfl m_isinstance (by decide +kernel) (ja_cons (je_var 0) (ja_cons (je_ty rfl m_list (by decide +kernel)) ja_nil))) (je_and (je_chain op_le op_le opd_le opd_le je_int (je_callB call_lenA cd_len rfl m_len (by decide +kernel) (ja_cons (je_var 0) ja_nil)) (je_gint rfl g_MOST_LINES)) (je_one (je_callB (cr_all rfl) cd_all rfl m_all (by decide +kernel) (ja_cons (je_lc (own := ([("line", 1)] : List (Str × Nat))) finF finF_ok rfl sc_is_table.nd (ji_list (je_var 0)) (blkOk_by (N := N_is_table) (sc := defScope s_is_table) (by decide +kernel)) (fun _ _ _ _ _ => (jg_name 1 sc_is_table.nd)) (by exact (gk_name (vs := [1]) (i := 1))) (fun _ _ _ _ _ => jts_nil) (fun _ _ _ _ _ => (je_callCG c_is_line hG (hr.mono (by decide)) rfl takes0 (ja_cons (je_var 1) ja_nil)))) ja_nil)))))))⟩
theorem sc_need_table : FnScope N_need_table P_need_table (defScope s_need_table) := ⟨rfl, rfl, rfl, by decide +kernel, rfl, by decide +kernel, by decide +kernel⟩
theorem d_need_table {C_InvalidTable : Addr} {P : Program} {wd : World} {K : PySem.W.Frag} {mg : Str → Option Value} {base : Heap} {f : Addr} {cdv : Value} {A : Around} {outer : List Env} {s : Shared} {H : Hp} {E : XK} (hG : (A.deeper (envOfC "need_table" (defScope s_need_table) s.heap.objs.size f cdv)).guards = some []) (hr : Room 4 (A.deeper (envOfC "need_table" (defScope s_need_table) s.heap.objs.size f cdv))) (c_is_table : CalG P wd K mg base "is_table" s_is_table 4 P_is_table sp_is_table) (e_InvalidTable : ExcF K mg "InvalidTable" C_InvalidTable) :
    ∃ t, JB (cxOf (L2.CX P wd) P wd K mg base N_need_table "need_table" (defScope s_need_table) f cdv A outer s H E) (WD E) (defBody s_need_table) t (T_need_table C_InvalidTable) := by
  have hu : (A.deeper (envOfC "need_table" (defScope s_need_table) s.heap.objs.size f cdv)).units + 64 < cLine := hr.units
  exact ⟨_, (jb_one (js_if (jt_not (jt_val (je_callCG c_is_table hG (hr.mono (by decide)) rfl (takes_of rfl rfl rfl rfl) (ja_cons (je_var 0) ja_nil))))
  (jb_one (js_raiseC e_InvalidTable rfl (takes_of rfl rfl rfl rfl) rfl))
  jb_nil))⟩
theorem sc_edge_of : FnScope N_edge_of P_edge_of (defScope s_edge_of) := ⟨rfl, rfl, rfl, by decide +kernel, rfl, by decide +kernel, by decide +kernel⟩
theorem d_edge_of {C_Style : Addr} {sp_rec : DSpec} {nn : Nat} {P : Program} {wd : World} {K : PySem.W.Frag} {mg : Str → Option Value} {base : Heap} {f : Addr} {cdv : Value} {A : Around} {outer : List Env} {s : Shared} {H : Hp} {E : XK} (hG : (A.deeper (envOfC "edge_of" (defScope s_edge_of) s.heap.objs.size f cdv)).guards = some []) (hr : Room (2 + nn) (A.deeper (envOfC "edge_of" (defScope s_edge_of) s.heap.objs.size f cdv))) (m_len : mg "len" = none) (m_max : mg "max" = none) (pr_Style_least : PropK P wd K mg base C_Style "least" 1 (pkP 1 [0] [] (sp_Style_least C_Style))) (pr_Style_gap : PropK P wd K mg base C_Style "gap" 1 (pkP 1 [0] [] (sp_Style_gap C_Style))) (c_rec : CalG P wd K mg base "edge_of" s_edge_of (2 + nn) P_edge_of sp_rec) :
    ∃ t, JB (cxOf (L2.CX P wd) P wd K mg base N_edge_of "edge_of" (defScope s_edge_of) f cdv A outer s H E) (WD E) (defBody s_edge_of) t (T_edge_of sp_rec C_Style) := by
  have hu : (A.deeper (envOfC "edge_of" (defScope s_edge_of) s.heap.objs.size f cdv)).units + 64 < cLine := hr.units
  exact ⟨_, (jb_cons (js_set 6 sc_edge_of.nd (je_var 5))
  (jb_cons (js_set 7 sc_edge_of.nd (je_var 2))
  (jb_cons (js_while (passes_of rfl) (jt_cmp op_le opd_le (je_var 7) (je_var 3) (nomark _))
  (jb_one (js_if (jt_cmp (op_eqD hu) opd_eq (je_callB call_lenA cd_len rfl m_len (by decide +kernel) (ja_cons (je_ix ix_seq opd_ix (je_var 0) (je_var 7)) ja_nil)) (je_op op_addA opd_add (je_var 4) je_int) (nomark _))
  (jb_cons (js_set 6 sc_edge_of.nd (je_callB (call_max2 rfl) cd_max2 rfl m_max (by decide +kernel) (ja_cons (je_var 6) (ja_cons (je_op op_addA opd_add (je_var 5) (je_ix ix_seq opd_ix (je_ix ix_seq opd_ix (je_var 0) (je_var 7)) (je_var 4))) ja_nil))))
  (jb_one (js_aug 7 sc_edge_of.nd je_int ip_add ipd_addI)))
  (jb_cons (js_set 8 sc_edge_of.nd (je_var 7))
  (jb_cons (js_set 9 sc_edge_of.nd (je_propA pr_Style_least hG (hr.mono (by omega)) (je_var 1)))
  (jb_cons (js_while (passes_of rfl) (JW.jt (jw_and (jt_cmp op_le opd_le (je_var 8) (je_var 3) (nomark _)) (jw_and1 (jt_cmp op_gt opd_gt (je_callB call_lenA cd_len rfl m_len (by decide +kernel) (ja_cons (je_ix ix_seq opd_ix (je_var 0) (je_var 8)) ja_nil)) (je_op op_addA opd_add (je_var 4) je_int) (nomark _)))))
  (jb_cons (js_set 9 sc_edge_of.nd (je_callB (call_max2 rfl) cd_max2 rfl m_max (by decide +kernel) (ja_cons (je_var 9) (ja_cons (je_ix ix_seq opd_ix (je_ix ix_seq opd_ix (je_var 0) (je_var 8)) (je_var 4)) ja_nil))))
  (jb_one (js_aug 8 sc_edge_of.nd je_int ip_add ipd_addI))))
  (jb_cons (js_set 6 sc_edge_of.nd (je_callB (call_max2 rfl) cd_max2 rfl m_max (by decide +kernel) (ja_cons (je_var 6) (ja_cons (je_callCG c_rec hG (hr.mono (by omega)) rfl (takes_of rfl rfl rfl rfl) (ja_cons (je_var 0) (ja_cons (je_var 1) (ja_cons (je_var 7) (ja_cons (je_op op_sub opd_sub (je_var 8) je_int) (ja_cons (je_op op_addA opd_add (je_var 4) je_int) (ja_cons (je_op op_addA opd_add (je_op op_addA opd_add (je_var 5) (je_var 9)) (je_propA pr_Style_gap hG (hr.mono (by omega)) (je_var 1))) ja_nil))))))) ja_nil))))
  (jb_one (js_set 7 sc_edge_of.nd (je_var 8))))))))))
  (jb_one (js_ret (je_var 6))))))⟩
theorem sc_require_room : FnScope N_require_room P_require_room (defScope s_require_room) := ⟨rfl, rfl, rfl, by decide +kernel, rfl, by decide +kernel, by decide +kernel⟩
theorem d_require_room {C_InvalidWidth C_TooNarrow C_InvalidTable C_Style : Addr} {P : Program} {wd : World} {K : PySem.W.Frag} {mg : Str → Option Value} {base : Heap} {f : Addr} {cdv : Value} {A : Around} {outer : List Env} {s : Shared} {H : Hp} {E : XK} (hG : (A.deeper (envOfC "require_room" (defScope s_require_room) s.heap.objs.size f cdv)).guards = some []) (hr : Room 14 (A.deeper (envOfC "require_room" (defScope s_require_room) s.heap.objs.size f cdv))) (c_need_table : CalG P wd K mg base "need_table" s_need_table 5 P_need_table (sp_need_table C_InvalidTable)) (e_InvalidWidth : ExcF K mg "InvalidWidth" C_InvalidWidth) (m_len : mg "len" = none) (m_range : mg "range" = none) (c_edge_of : CalG P wd K mg base "edge_of" s_edge_of 14 P_edge_of (sp_edge_of 12 C_Style)) (xi_TooNarrow : XIni P wd K mg base "TooNarrow" C_TooNarrow 1 "line") :
    ∃ t, JB (cxOf (L2.CX P wd) P wd K mg base N_require_room "require_room" (defScope s_require_room) f cdv A outer s H E) (WD E) (defBody s_require_room) t (T_require_room C_InvalidWidth C_TooNarrow C_InvalidTable C_Style) := by
  have hu : (A.deeper (envOfC "require_room" (defScope s_require_room) s.heap.objs.size f cdv)).units + 64 < cLine := hr.units
  exact ⟨_, (jb_cons (js_expr (je_callCG c_need_table hG (hr.mono (by decide)) rfl (takes_of rfl rfl rfl rfl) (ja_cons (je_var 0) ja_nil)))
  (jb_cons (js_if (jt_cmp op_lt opd_lt (je_var 2) je_int (nomark _))
  (jb_one (js_raiseC e_InvalidWidth rfl (takes_of rfl rfl rfl rfl) rfl))
  jb_nil)
  (jb_one (js_for (passes_of rfl) rfl (ji_range1 rfl m_range (ja_cons (je_callB call_lenA cd_len rfl m_len (by decide +kernel) (ja_cons (je_var 0) ja_nil)) ja_nil)) (jg_name 3 sc_require_room.nd)
  (jb_one (js_if (jt_cmp op_gt opd_gt (je_callCG c_edge_of hG (hr.mono (by decide)) rfl (takes_of rfl rfl rfl rfl) (ja_cons (je_var 0) (ja_cons (je_var 1) (ja_cons (je_var 3) (ja_cons (je_var 3) (ja_cons je_int (ja_cons je_int ja_nil))))))) (je_var 2) (nomark _))
  (jb_one (js_raiseX xi_TooNarrow rfl (takes_of rfl rfl rfl rfl) (hr.mono (by decide)) rfl (je_var 3)))
  jb_nil))))))⟩
theorem sc_wide_stretches : FnScope N_wide_stretches P_wide_stretches (defScope s_wide_stretches) := ⟨rfl, rfl, rfl, by decide +kernel, rfl, by decide +kernel, by decide +kernel⟩
theorem d_wide_stretches {C_Style : Addr} {P : Program} {wd : World} {K : PySem.W.Frag} {mg : Str → Option Value} {base : Heap} {f : Addr} {cdv : Value} {A : Around} {outer : List Env} {s : Shared} {H : Hp} {E : XK} (hG : (A.deeper (envOfC "wide_stretches" (defScope s_wide_stretches) s.heap.objs.size f cdv)).guards = some []) (hr : Room 14 (A.deeper (envOfC "wide_stretches" (defScope s_wide_stretches) s.heap.objs.size f cdv))) (m_len : mg "len" = none) (m_range : mg "range" = none) (c_edge_of : CalG P wd K mg base "edge_of" s_edge_of 14 P_edge_of (sp_edge_of 12 C_Style)) :
    ∃ t, JB (cxOf (L2.CX P wd) P wd K mg base N_wide_stretches "wide_stretches" (defScope s_wide_stretches) f cdv A outer s H E) (WD E) (defBody s_wide_stretches) t (T_wide_stretches C_Style) := by
  have hu : (A.deeper (envOfC "wide_stretches" (defScope s_wide_stretches) s.heap.objs.size f cdv)).units + 64 < cLine := hr.units
  exact ⟨_, (jb_cons (js_set 3 sc_wide_stretches.nd (je_lstO ja_nil))
  (jb_cons (js_set 4 sc_wide_stretches.nd je_int)
  (jb_cons (js_for (passes_of rfl) rfl (ji_range1 rfl m_range (ja_cons (je_callB call_lenA cd_len rfl m_len (by decide +kernel) (ja_cons (je_var 0) ja_nil)) ja_nil)) (jg_name 5 sc_wide_stretches.nd)
  (jb_one (js_if (jt_cmp op_gt opd_gt (je_callCG c_edge_of hG (hr.mono (by decide)) rfl (takes_of rfl rfl rfl rfl) (ja_cons (je_var 0) (ja_cons (je_var 1) (ja_cons (je_var 4) (ja_cons (je_var 5) (ja_cons je_int (ja_cons je_int ja_nil))))))) (je_var 2) (nomark _))
  (jb_cons (js_expr (je_bm PySem.F.slot_list_append PySem.F.type_list_append mt_append mtd_append (je_var 3) (ja_cons (je_tup (ja_cons (je_var 4) (ja_cons (je_var 5) ja_nil))) ja_nil)))
  (jb_one (js_set 4 sc_wide_stretches.nd (je_var 5))))
  jb_nil)))
  (jb_one (js_ret (je_fz (je_var 3)))))))⟩
theorem sc_stretches : FnScope N_stretches P_stretches (defScope s_stretches) := ⟨rfl, rfl, rfl, by decide +kernel, rfl, by decide +kernel, by decide +kernel⟩
theorem d_stretches {C_InvalidTable C_InvalidWidth C_TooNarrow C_Style : Addr} {P : Program} {wd : World} {K : PySem.W.Frag} {mg : Str → Option Value} {base : Heap} {f : Addr} {cdv : Value} {A : Around} {outer : List Env} {s : Shared} {H : Hp} {E : XK} (hG : (A.deeper (envOfC "stretches" (defScope s_stretches) s.heap.objs.size f cdv)).guards = some []) (hr : Room 15 (A.deeper (envOfC "stretches" (defScope s_stretches) s.heap.objs.size f cdv))) (c_require_room : CalG P wd K mg base "require_room" s_require_room 15 P_require_room (sp_require_room C_InvalidTable C_InvalidWidth C_TooNarrow C_Style)) (c_wide_stretches : CalG P wd K mg base "wide_stretches" s_wide_stretches 15 P_wide_stretches (sp_wide_stretches C_Style)) :
    ∃ t, JB (cxOf (L2.CX P wd) P wd K mg base N_stretches "stretches" (defScope s_stretches) f cdv A outer s H E) (WD E) (defBody s_stretches) t (T_stretches C_InvalidTable C_InvalidWidth C_TooNarrow C_Style) := by
  have hu : (A.deeper (envOfC "stretches" (defScope s_stretches) s.heap.objs.size f cdv)).units + 64 < cLine := hr.units
  exact ⟨_, (jb_cons (js_expr (je_callCG c_require_room hG (hr.mono (by decide)) rfl (takes_of rfl rfl rfl rfl) (ja_cons (je_var 0) (ja_cons (je_var 1) (ja_cons (je_var 2) ja_nil)))))
  (jb_one (js_ret (je_callCG c_wide_stretches hG (hr.mono (by decide)) rfl (takes_of rfl rfl rfl rfl) (ja_cons (je_var 0) (ja_cons (je_var 1) (ja_cons (je_var 2) ja_nil)))))))⟩
theorem sc_partings : FnScope N_partings P_partings (defScope s_partings) := ⟨rfl, rfl, rfl, by decide +kernel, rfl, by decide +kernel, by decide +kernel⟩
theorem d_partings {C_InvalidTable C_InvalidWidth C_TooNarrow C_Style : Addr} {P : Program} {wd : World} {K : PySem.W.Frag} {mg : Str → Option Value} {base : Heap} {f : Addr} {cdv : Value} {A : Around} {outer : List Env} {s : Shared} {H : Hp} {E : XK} (hG : (A.deeper (envOfC "partings" (defScope s_partings) s.heap.objs.size f cdv)).guards = some []) (hr : Room 15 (A.deeper (envOfC "partings" (defScope s_partings) s.heap.objs.size f cdv))) (c_require_room : CalG P wd K mg base "require_room" s_require_room 15 P_require_room (sp_require_room C_InvalidTable C_InvalidWidth C_TooNarrow C_Style)) (c_wide_stretches : CalG P wd K mg base "wide_stretches" s_wide_stretches 15 P_wide_stretches (sp_wide_stretches C_Style)) :
    ∃ t, JB (cxOf (L2.CX P wd) P wd K mg base N_partings "partings" (defScope s_partings) f cdv A outer s H E) (WD E) (defBody s_partings) t (T_partings C_InvalidTable C_InvalidWidth C_TooNarrow C_Style) := by
  have hu : (A.deeper (envOfC "partings" (defScope s_partings) s.heap.objs.size f cdv)).units + 64 < cLine := hr.units
  exact ⟨_, (jb_cons (js_expr (je_callCG c_require_room hG (hr.mono (by decide)) rfl (takes_of rfl rfl rfl rfl) (ja_cons (je_var 0) (ja_cons (je_var 1) (ja_cons (je_var 2) ja_nil)))))
  (jb_one (js_ret (je_lc (own := ([("first", 3), ("last", 4)] : List (Str × Nat))) finF finF_ok rfl sc_partings.nd (ji_list (je_callCG c_wide_stretches hG (hr.mono (by decide)) rfl (takes_of rfl rfl rfl rfl) (ja_cons (je_var 0) (ja_cons (je_var 1) (ja_cons (je_var 2) ja_nil))))) (blkOk_by (N := N_partings) (sc := defScope s_partings) (by decide +kernel)) (fun _ _ _ _ _ => (jg_tup rfl (jgs_cons (jg_name 3 sc_partings.nd) (jgs_cons (jg_name 4 sc_partings.nd) jgs_nil)))) (by exact (gk_tup (gks_name (vs := [3, 4]) (i := 3) (gks_name (vs := [3, 4]) (i := 4) (gks_nil (vs := [3, 4])))))) (fun _ _ _ _ _ => jts_nil) (fun _ _ _ _ _ => (je_op op_sub opd_sub (je_var 4) je_int))))))⟩
theorem sc_fewest_lines : FnScope N_fewest_lines P_fewest_lines (defScope s_fewest_lines) := ⟨rfl, rfl, rfl, by decide +kernel, rfl, by decide +kernel, by decide +kernel⟩
theorem d_fewest_lines {C_InvalidTable C_InvalidWidth C_TooNarrow C_Style : Addr} {P : Program} {wd : World} {K : PySem.W.Frag} {mg : Str → Option Value} {base : Heap} {f : Addr} {cdv : Value} {A : Around} {outer : List Env} {s : Shared} {H : Hp} {E : XK} (hG : (A.deeper (envOfC "fewest_lines" (defScope s_fewest_lines) s.heap.objs.size f cdv)).guards = some []) (hr : Room 16 (A.deeper (envOfC "fewest_lines" (defScope s_fewest_lines) s.heap.objs.size f cdv))) (c_stretches : CalG P wd K mg base "stretches" s_stretches 16 P_stretches (sp_stretches C_InvalidTable C_InvalidWidth C_TooNarrow C_Style)) (m_len : mg "len" = none) :
    ∃ t, JB (cxOf (L2.CX P wd) P wd K mg base N_fewest_lines "fewest_lines" (defScope s_fewest_lines) f cdv A outer s H E) (WD E) (defBody s_fewest_lines) t (T_fewest_lines C_InvalidTable C_InvalidWidth C_TooNarrow C_Style) := by
  have hu : (A.deeper (envOfC "fewest_lines" (defScope s_fewest_lines) s.heap.objs.size f cdv)).units + 64 < cLine := hr.units
  exact ⟨_, (jb_one (js_ret (je_callB call_lenA cd_len rfl m_len (by decide +kernel) (ja_cons (je_callCG c_stretches hG (hr.mono (by decide)) rfl (takes_of rfl rfl rfl rfl) (ja_cons (je_var 0) (ja_cons (je_var 1) (ja_cons (je_var 2) ja_nil)))) ja_nil))))⟩
theorem sc_is_stretch : FnScope N_is_stretch P_is_stretch (defScope s_is_stretch) := ⟨rfl, rfl, rfl, by decide +kernel, rfl, by decide +kernel, by decide +kernel⟩
theorem d_is_stretch {P : Program} {wd : World} {K : PySem.W.Frag} {mg : Str → Option Value} {base : Heap} {f : Addr} {cdv : Value} {A : Around} {outer : List Env} {s : Shared} {H : Hp} {E : XK} (hG : (A.deeper (envOfC "is_stretch" (defScope s_is_stretch) s.heap.objs.size f cdv)).guards = some []) (hr : Room 1 (A.deeper (envOfC "is_stretch" (defScope s_is_stretch) s.heap.objs.size f cdv))) (m_tuple : mg "tuple" = none) (m_isinstance : mg "isinstance" = none) (m_len : mg "len" = none) (c_is_integer : CalG P wd K mg base "is_integer" s_is_integer 1 P_is_integer sp_is_integer) (m_all : mg "all" = none) :
    ∃ t, JB (cxOf (L2.CX P wd) P wd K mg base N_is_stretch "is_stretch" (defScope s_is_stretch) f cdv A outer s H E) (WD E) (defBody s_is_stretch) t T_is_stretch := by
  have hu : (A.deeper (envOfC "is_stretch" (defScope s_is_stretch) s.heap.objs.size f cdv)).units + 64 < cLine := hr.units
  exact ⟨_, (jb_cons (js_if (JW.jt (jw_or (jt_not (jt_val (je_callB call_isi cd_isi rfl m_isinstance (by decide +kernel) (ja_cons (je_var 1) (ja_cons (je_ty rfl m_tuple (by decide +kernel)) ja_nil))))) (jw_or1 (jt_cmp (op_neD hu) opd_ne (je_callB call_lenA cd_len rfl m_len (by decide +kernel) (ja_cons (je_var 1) ja_nil)) je_int (nomark _)))))
  (jb_one (js_ret je_bl))
  jb_nil)
  (jb_one (js_ret (je_and (je_callB (cr_all rfl) cd_all rfl m_all (by decide +kernel) (ja_cons (je_lc (own := ([("line", 2)] : List (Str × Nat))) finF finF_ok rfl sc_is_stretch.nd (ji_tup (je_var 1)) (blkOk_by (N := N_is_stretch) (sc := defScope s_is_stretch) (by decide +kernel)) (fun _ _ _ _ _ => (jg_name 2 sc_is_stretch.nd)) (by exact (gk_name (vs := [2]) (i := 2))) (fun _ _ _ _ _ => jts_nil) (fun _ _ _ _ _ => (je_callCG c_is_integer hG (hr.mono (by decide)) rfl takes0 (ja_cons (je_var 2) (ja_cons je_int (ja_cons (je_op op_sub opd_sub (je_callB call_lenA cd_len rfl m_len (by decide +kernel) (ja_cons (je_var 0) ja_nil)) je_int) ja_nil)))))) ja_nil)) (je_one (je_cmp op_le opd_le (je_ix ix_seq opd_ix (je_var 1) je_int) (je_ix ix_seq opd_ix (je_var 1) je_int) (nomark _)))))))⟩
theorem sc_shows_lines : FnScope N_shows_lines P_shows_lines (defScope s_shows_lines) := ⟨rfl, rfl, rfl, by decide +kernel, rfl, by decide +kernel, by decide +kernel⟩
theorem d_shows_lines {C_InvalidTable C_InvalidWidth C_TooNarrow C_Style : Addr} {P : Program} {wd : World} {K : PySem.W.Frag} {mg : Str → Option Value} {base : Heap} {f : Addr} {cdv : Value} {A : Around} {outer : List Env} {s : Shared} {H : Hp} {E : XK} (hG : (A.deeper (envOfC "shows_lines" (defScope s_shows_lines) s.heap.objs.size f cdv)).guards = some []) (hr : Room 15 (A.deeper (envOfC "shows_lines" (defScope s_shows_lines) s.heap.objs.size f cdv))) (c_require_room : CalG P wd K mg base "require_room" s_require_room 15 P_require_room (sp_require_room C_InvalidTable C_InvalidWidth C_TooNarrow C_Style)) (m_list : mg "list" = none) (m_isinstance : mg "isinstance" = none) (m_len : mg "len" = none) (c_is_stretch : CalG P wd K mg base "is_stretch" s_is_stretch 2 P_is_stretch sp_is_stretch) (c_edge_of : CalG P wd K mg base "edge_of" s_edge_of 14 P_edge_of (sp_edge_of 12 C_Style)) (m_sorted : mg "sorted" = none) :
    ∃ t, JB (cxOf (L2.CX P wd) P wd K mg base N_shows_lines "shows_lines" (defScope s_shows_lines) f cdv A outer s H E) (WD E) (defBody s_shows_lines) t (T_shows_lines C_InvalidTable C_InvalidWidth C_TooNarrow C_Style) := by
  have hu : (A.deeper (envOfC "shows_lines" (defScope s_shows_lines) s.heap.objs.size f cdv)).units + 64 < cLine := hr.units
  exact ⟨_, (jb_cons (js_expr (je_callCG c_require_room hG (hr.mono (by decide)) rfl (takes_of rfl rfl rfl rfl) (ja_cons (je_var 0) (ja_cons (je_var 1) (ja_cons (je_var 2) ja_nil)))))
  (jb_cons (js_if (JW.jt (jw_or (jt_not (jt_val (je_callB call_isi cd_isi rfl m_isinstance (by decide +kernel) (ja_cons (je_var 4) (ja_cons (je_ty rfl m_list (by decide +kernel)) ja_nil))))) (jw_or1 (jt_cmp op_lt opd_lt (je_callB call_lenA cd_len rfl m_len (by decide +kernel) (ja_cons (je_var 4) ja_nil)) (je_var 3) (nomark _)))))
  (jb_one (js_ret je_bl))
  jb_nil)
  (jb_cons (js_set 5 sc_shows_lines.nd je_int)
  (jb_cons (js_for (passes_of rfl) rfl (ji_list (je_var 4)) (jg_name 6 sc_shows_lines.nd)
  (jb_one (js_if (JW.jt (jw_or (jt_not (jt_val (je_callCG c_is_stretch hG (hr.mono (by decide)) rfl (takes_of rfl rfl rfl rfl) (ja_cons (je_var 0) (ja_cons (je_var 6) ja_nil))))) (jw_or1 (jt_cmp op_le opd_le (je_callCG c_edge_of hG (hr.mono (by decide)) rfl (takes_of rfl rfl rfl rfl) (ja_cons (je_var 0) (ja_cons (je_var 1) (ja_cons (je_ix ix_seq opd_ix (je_var 6) je_int) (ja_cons (je_ix ix_seq opd_ix (je_var 6) je_int) (ja_cons je_int (ja_cons je_int ja_nil))))))) (je_var 2) (nomark _)))))
  (jb_one (js_ret je_bl))
  jb_nil)))
  (jb_cons (js_for (passes_of rfl) rfl (ji_list (je_callB cr_sortQ cd_sortQ rfl m_sorted (by decide +kernel) (ja_cons (je_var 4) ja_nil))) (jg_tup rfl (jgs_cons (jg_name 7 sc_shows_lines.nd) (jgs_cons (jg_name 8 sc_shows_lines.nd) jgs_nil)))
  (jb_cons (js_if (jt_cmp op_lt opd_lt (je_var 7) (je_var 5) (nomark _))
  (jb_one (js_ret je_bl))
  jb_nil)
  (jb_one (js_set 5 sc_shows_lines.nd (je_var 8)))))
  (jb_one (js_ret je_bl)))))))⟩
theorem sc_are_kinds : FnScope N_are_kinds P_are_kinds (defScope s_are_kinds) := ⟨rfl, rfl, rfl, by decide +kernel, rfl, by decide +kernel, by decide +kernel⟩
theorem d_are_kinds {C_Kind : Addr} {P : Program} {wd : World} {K : PySem.W.Frag} {mg : Str → Option Value} {base : Heap} {f : Addr} {cdv : Value} {A : Around} {outer : List Env} {s : Shared} {H : Hp} {E : XK} (hG : (A.deeper (envOfC "are_kinds" (defScope s_are_kinds) s.heap.objs.size f cdv)).guards = some []) (hr : Room 0 (A.deeper (envOfC "are_kinds" (defScope s_are_kinds) s.heap.objs.size f cdv))) (m_list : mg "list" = none) (m_isinstance : mg "isinstance" = none) (m_len : mg "len" = none) (g_MOST_KINDS : ∃ t, mg "MOST_KINDS" = some (.int 12 t)) (m_str : mg "str" = none) (h_Kind : mg "Kind" = some (.ref C_Kind)) (cv_NAMES : ∀ q ∈ ((conNAMES C_Kind) : List (Addr × D)), CValF K q.1 "NAMES" q.2) (m_all : mg "all" = none) :
    ∃ t, JB (cxOf (L2.CX P wd) P wd K mg base N_are_kinds "are_kinds" (defScope s_are_kinds) f cdv A outer s H E) (WD E) (defBody s_are_kinds) t (T_are_kinds C_Kind) := by
  have hu : (A.deeper (envOfC "are_kinds" (defScope s_are_kinds) s.heap.objs.size f cdv)).units + 64 < cLine := hr.units
  exact ⟨_, (jb_cons (js_if (JW.jt (jw_or (jt_not (jt_val (je_callB call_isi cd_isi rfl m_isinstance (by decide +kernel) (ja_cons (je_var 0) (ja_cons (je_ty rfl m_list (by decide +kernel)) ja_nil))))) (jw_or1 (jt_not (jt_chain op_le op_le opd_le opd_le je_int (je_callB call_lenA cd_len rfl m_len (by decide +kernel) (ja_cons (je_var 0) ja_nil)) (je_gint rfl g_MOST_KINDS))))))
  (jb_one (js_ret je_bl))
  jb_nil)
  (jb_one (js_ret (je_callB (cr_all rfl) cd_all rfl m_all (by decide +kernel) (ja_cons (je_lc (own := ([("name", 1)] : List (Str × Nat))) finF finF_ok rfl sc_are_kinds.nd (ji_list (je_var 0)) (blkOk_by (N := N_are_kinds) (sc := defScope s_are_kinds) (by decide +kernel)) (fun _ _ _ _ _ => (jg_name 1 sc_are_kinds.nd)) (by exact (gk_name (vs := [1]) (i := 1))) (fun _ _ _ _ _ => jts_nil) (fun _ _ _ _ _ => (je_and (je_callB call_isi cd_isi rfl m_isinstance (by decide +kernel) (ja_cons (je_var 1) (ja_cons (je_ty rfl m_str (by decide +kernel)) ja_nil))) (je_one (je_cmp op_in_seq opd_in (je_var 1) (je_cval (tab := (conNAMES C_Kind)) cv_NAMES (je_gref rfl h_Kind)) (by rfl)))))) ja_nil)))))⟩
theorem sc_Style___init__ : FnScope N_Style___init__ P_Style___init__ (defScope s_Style___init__) := ⟨rfl, rfl, rfl, by decide +kernel, rfl, by decide +kernel, by decide +kernel⟩
theorem d_Style___init__ {C_InvalidStyle C_Style : Addr} {P : Program} {wd : World} {K : PySem.W.Frag} {mg : Str → Option Value} {base : Heap} {f : Addr} {cdv : Value} {A : Around} {outer : List Env} {s : Shared} {H : Hp} {E : XK} (hG : (A.deeper (envOfC "Style.__init__" (defScope s_Style___init__) s.heap.objs.size f cdv)).guards = some []) (hr : Room 2 (A.deeper (envOfC "Style.__init__" (defScope s_Style___init__) s.heap.objs.size f cdv))) (m_len : mg "len" = none) (m_list : mg "list" = none) (g_LEFT : ∃ t, mg "LEFT" = some (.str "left" t)) (c_are_kinds : CalG P wd K mg base "are_kinds" s_are_kinds 1 P_are_kinds sp_are_kinds) (c_is_cell : CalG P wd K mg base "is_cell" s_is_cell 2 P_is_cell sp_is_cell) (e_InvalidStyle : ExcF K mg "InvalidStyle" C_InvalidStyle) (cl_Style : Cls K C_Style) (na_Style_held_kinds : NoAttr K C_Style "held_kinds") (na_Style_held_gap : NoAttr K C_Style "held_gap") (na_Style_held_least : NoAttr K C_Style "held_least") :
    ∃ t, JB (cxOf (L2.CX P wd) P wd K mg base N_Style___init__ "Style.__init__" (defScope s_Style___init__) f cdv A outer s H E) (WD E) (defBody s_Style___init__) t (T_Style___init__ C_InvalidStyle C_Style) := by
  have hu : (A.deeper (envOfC "Style.__init__" (defScope s_Style___init__) s.heap.objs.size f cdv)).units + 64 < cLine := hr.units
  exact ⟨_, (jb_cons (js_set 4 sc_Style___init__.nd (je_if (jt_cmp op_gt opd_gt (je_callB call_lenA cd_len rfl m_len (by decide +kernel) (ja_cons (je_var 3) ja_nil)) je_int (nomark _)) (je_callTy call_list_of cd_list rfl m_list (by decide +kernel) (ja_cons (je_var 3) ja_nil)) (je_lst (ja_cons (je_gstr rfl g_LEFT) ja_nil))))
  (jb_cons (js_if (JW.jt (jw_or (jt_not (jt_val (je_callCG c_are_kinds hG (hr.mono (by decide)) rfl (takes_of rfl rfl rfl rfl) (ja_cons (je_var 4) ja_nil)))) (jw_or (jt_not (jt_val (je_callCG c_is_cell hG (hr.mono (by decide)) rfl (takes_of rfl rfl rfl rfl) (ja_cons (je_var 1) ja_nil)))) (jw_or1 (jt_not (jt_val (je_callCG c_is_cell hG (hr.mono (by decide)) rfl (takes_of rfl rfl rfl rfl) (ja_cons (je_var 2) ja_nil))))))))
  (jb_one (js_raiseC e_InvalidStyle rfl (takes_of rfl rfl rfl rfl) rfl))
  jb_nil)
  (jb_cons (js_fld cl_Style na_Style_held_kinds (je_var 0) (je_var 4))
  (jb_cons (js_fld cl_Style na_Style_held_gap (je_var 0) (je_var 1))
  (jb_one (js_fld cl_Style na_Style_held_least (je_var 0) (je_var 2)))))))⟩
theorem sc_Style_of : FnScope N_Style_of P_Style_of (defScope s_Style_of) := ⟨rfl, rfl, rfl, by decide +kernel, rfl, by decide +kernel, by decide +kernel⟩
theorem d_Style_of {C_InvalidStyle C_Style : Addr} {P : Program} {wd : World} {K : PySem.W.Frag} {mg : Str → Option Value} {base : Heap} {f : Addr} {cdv : Value} {A : Around} {outer : List Env} {s : Shared} {H : Hp} {E : XK} (hG : (A.deeper (envOfC "Style.of" (defScope s_Style_of) s.heap.objs.size f cdv)).guards = some []) (hr : Room 4 (A.deeper (envOfC "Style.of" (defScope s_Style_of) s.heap.objs.size f cdv))) (c_are_kinds : CalG P wd K mg base "are_kinds" s_are_kinds 1 P_are_kinds sp_are_kinds) (e_InvalidStyle : ExcF K mg "InvalidStyle" C_InvalidStyle) (mk_Style___init___s1_gap_least : CtorK P wd K mg base C_Style 3 (["gap", "least"] : List Str) (pkS true 1 [0, 1, 2] [] (sp_Style___init__ C_Style))) :
    ∃ t, JB (cxOf (L2.CX P wd) P wd K mg base N_Style_of "Style.of" (defScope s_Style_of) f cdv A outer s H E) (WD E) (defBody s_Style_of) t (T_Style_of C_InvalidStyle C_Style) := by
  have hu : (A.deeper (envOfC "Style.of" (defScope s_Style_of) s.heap.objs.size f cdv)).units + 64 < cLine := hr.units
  exact ⟨_, (jb_cons (js_if (jt_not (jt_val (je_callCG c_are_kinds hG (hr.mono (by decide)) rfl (takes_of rfl rfl rfl rfl) (ja_cons (je_var 1) ja_nil))))
  (jb_one (js_raiseC e_InvalidStyle rfl (takes_of rfl rfl rfl rfl) rfl))
  jb_nil)
  (jb_one (js_ret (je_makeV 0 mk_Style___init___s1_gap_least hG (hr.mono (by decide)) (takes_of rfl rfl rfl rfl) (jc_lone (ks := (["gap", "least"] : List Str)) (je_var 1) (jk_cons (je_var 2) (jk_cons (je_var 3) jk_nil)))))))⟩
theorem sc_Style_gap : FnScope N_Style_gap P_Style_gap (defScope s_Style_gap) := ⟨rfl, rfl, rfl, by decide +kernel, rfl, by decide +kernel, by decide +kernel⟩
theorem d_Style_gap {C_Style : Addr} {P : Program} {wd : World} {K : PySem.W.Frag} {mg : Str → Option Value} {base : Heap} {f : Addr} {cdv : Value} {A : Around} {outer : List Env} {s : Shared} {H : Hp} {E : XK} (hG : (A.deeper (envOfC "Style.gap" (defScope s_Style_gap) s.heap.objs.size f cdv)).guards = some []) (hr : Room 0 (A.deeper (envOfC "Style.gap" (defScope s_Style_gap) s.heap.objs.size f cdv))) (cl_Style : Cls K C_Style) (na_Style_held_gap : NoAttr K C_Style "held_gap") :
    ∃ t, JB (cxOf (L2.CX P wd) P wd K mg base N_Style_gap "Style.gap" (defScope s_Style_gap) f cdv A outer s H E) (WD E) (defBody s_Style_gap) t (T_Style_gap C_Style) := by
  have hu : (A.deeper (envOfC "Style.gap" (defScope s_Style_gap) s.heap.objs.size f cdv)).units + 64 < cLine := hr.units
  exact ⟨_, (jb_one (js_ret (je_fld cl_Style na_Style_held_gap (je_var 0))))⟩
theorem sc_Style_least : FnScope N_Style_least P_Style_least (defScope s_Style_least) := ⟨rfl, rfl, rfl, by decide +kernel, rfl, by decide +kernel, by decide +kernel⟩
theorem d_Style_least {C_Style : Addr} {P : Program} {wd : World} {K : PySem.W.Frag} {mg : Str → Option Value} {base : Heap} {f : Addr} {cdv : Value} {A : Around} {outer : List Env} {s : Shared} {H : Hp} {E : XK} (hG : (A.deeper (envOfC "Style.least" (defScope s_Style_least) s.heap.objs.size f cdv)).guards = some []) (hr : Room 0 (A.deeper (envOfC "Style.least" (defScope s_Style_least) s.heap.objs.size f cdv))) (cl_Style : Cls K C_Style) (na_Style_held_least : NoAttr K C_Style "held_least") :
    ∃ t, JB (cxOf (L2.CX P wd) P wd K mg base N_Style_least "Style.least" (defScope s_Style_least) f cdv A outer s H E) (WD E) (defBody s_Style_least) t (T_Style_least C_Style) := by
  have hu : (A.deeper (envOfC "Style.least" (defScope s_Style_least) s.heap.objs.size f cdv)).units + 64 < cLine := hr.units
  exact ⟨_, (jb_one (js_ret (je_fld cl_Style na_Style_held_least (je_var 0))))⟩
theorem sc__law_feed : FnScope N__law_feed P__law_feed (defScope s__law_feed) := ⟨rfl, rfl, rfl, by decide +kernel, rfl, by decide +kernel, by decide +kernel⟩
theorem d__law_feed {P : Program} {wd : World} {K : PySem.W.Frag} {mg : Str → Option Value} {base : Heap} {f : Addr} {cdv : Value} {A : Around} {outer : List Env} {s : Shared} {H : Hp} {E : XK} (hG : (A.deeper (envOfC "_law_feed" (defScope s__law_feed) s.heap.objs.size f cdv)).guards = some []) (hr : Room 0 (A.deeper (envOfC "_law_feed" (defScope s__law_feed) s.heap.objs.size f cdv))) (m_len : mg "len" = none) (m_abs : mg "abs" = none) (m_max : mg "max" = none) :
    ∃ t, JB (cxOf (L2.CX P wd) P wd K mg base N__law_feed "_law_feed" (defScope s__law_feed) f cdv A outer s H E) (WD E) (defBody s__law_feed) t T__law_feed := by
  have hu : (A.deeper (envOfC "_law_feed" (defScope s__law_feed) s.heap.objs.size f cdv)).units + 64 < cLine := hr.units
  exact ⟨_, (jb_cons (js_set 2 sc__law_feed.nd (je_if (jt_cmp op_lt opd_lt (je_var 1) (je_callB call_lenA cd_len rfl m_len (by decide +kernel) (ja_cons (je_var 0) ja_nil)) (nomark _)) (je_callB call_abs cd_abs rfl m_abs (by decide +kernel) (ja_cons (je_ix ix_seq opd_ix (je_var 0) (je_var 1)) ja_nil)) je_int))
  (jb_one (js_ret (je_lstO (ja_cons (je_callB (call_max2 rfl) cd_max2 rfl m_max (by decide +kernel) (ja_cons je_int (ja_cons (je_op op_sub opd_sub (je_var 2) (je_op op_powW opd_pow je_int je_int)) ja_nil))) (ja_cons (je_op op_addA opd_add (je_op op_addA opd_add (je_op op_mulA opd_mul (je_op op_mod opd_mod (je_var 2) (je_op op_addA opd_add (je_op op_powW opd_pow je_int je_int) je_int)) je_int) (je_op op_mulA opd_mul je_int (je_var 1))) je_int) (ja_cons je_int ja_nil)))))))⟩
theorem sc__law_pick : FnScope N__law_pick P__law_pick (defScope s__law_pick) := ⟨rfl, rfl, rfl, by decide +kernel, rfl, by decide +kernel, by decide +kernel⟩
theorem d__law_pick {P : Program} {wd : World} {K : PySem.W.Frag} {mg : Str → Option Value} {base : Heap} {f : Addr} {cdv : Value} {A : Around} {outer : List Env} {s : Shared} {H : Hp} {E : XK} (hG : (A.deeper (envOfC "_law_pick" (defScope s__law_pick) s.heap.objs.size f cdv)).guards = some []) (hr : Room 0 (A.deeper (envOfC "_law_pick" (defScope s__law_pick) s.heap.objs.size f cdv)))  :
    ∃ t, JB (cxOf (L2.CX P wd) P wd K mg base N__law_pick "_law_pick" (defScope s__law_pick) f cdv A outer s H E) (WD E) (defBody s__law_pick) t T__law_pick := by
  have hu : (A.deeper (envOfC "_law_pick" (defScope s__law_pick) s.heap.objs.size f cdv)).units + 64 < cLine := hr.units
  exact ⟨_, (jb_cons (js_if (jt_cmp op_gt opd_gt (je_ix ix_seq opd_ix (je_var 0) je_int) je_int (nomark _))
  (jb_cons (js_set 2 sc__law_pick.nd (je_op op_mod opd_mod (je_ix ix_seq opd_ix (je_var 0) je_int) (je_var 1)))
  (jb_cons (js_asg (je_op op_fdivW opd_div (je_ix ix_seq opd_ix (je_var 0) je_int) (je_var 1)) (jg_sub (je_var 0) je_int set_list setd_o))
  (jb_one (js_ret (je_var 2)))))
  jb_nil)
  (jb_cons (js_asg (je_op op_addA opd_add (je_ix ix_seq opd_ix (je_var 0) je_int) je_int) (jg_sub (je_var 0) je_int set_list setd_o))
  (jb_cons (js_set 3 sc__law_pick.nd (je_op op_mod opd_mod (je_op op_powW opd_pow (je_op op_addA opd_add (je_ix ix_seq opd_ix (je_var 0) je_int) (je_op op_mulA opd_mul je_int (je_ix ix_seq opd_ix (je_var 0) je_int))) je_int) (je_op op_addA opd_add (je_op op_powW opd_pow je_int je_int) je_int)))
  (jb_cons (js_set 3 sc__law_pick.nd (je_op op_mod opd_mod (je_op op_powW opd_pow (je_op op_addA opd_add (je_var 3) (je_op op_mulA opd_mul je_int (je_ix ix_seq opd_ix (je_var 0) je_int))) je_int) (je_op op_addA opd_add (je_op op_powW opd_pow je_int je_int) je_int)))
  (jb_one (js_ret (je_op op_mod opd_mod (je_op op_fdivW opd_div (je_var 3) je_int) (je_var 1))))))))⟩
theorem sc__law_lengths : FnScope N__law_lengths P__law_lengths (defScope s__law_lengths) := ⟨rfl, rfl, rfl, by decide +kernel, rfl, by decide +kernel, by decide +kernel⟩
theorem d__law_lengths {P : Program} {wd : World} {K : PySem.W.Frag} {mg : Str → Option Value} {base : Heap} {f : Addr} {cdv : Value} {A : Around} {outer : List Env} {s : Shared} {H : Hp} {E : XK} (hG : (A.deeper (envOfC "_law_lengths" (defScope s__law_lengths) s.heap.objs.size f cdv)).guards = some []) (hr : Room 1 (A.deeper (envOfC "_law_lengths" (defScope s__law_lengths) s.heap.objs.size f cdv))) (c__law_pick : CalG P wd K mg base "_law_pick" s__law_pick 1 P__law_pick sp__law_pick) (m_range : mg "range" = none) (m_min : mg "min" = none) (m_max : mg "max" = none) :
    ∃ t, JB (cxOf (L2.CX P wd) P wd K mg base N__law_lengths "_law_lengths" (defScope s__law_lengths) f cdv A outer s H E) (WD E) (defBody s__law_lengths) t T__law_lengths := by
  have hu : (A.deeper (envOfC "_law_lengths" (defScope s__law_lengths) s.heap.objs.size f cdv)).units + 64 < cLine := hr.units
  exact ⟨_, (jb_cons (js_par3 3 4 5 rfl sc__law_lengths.nd (ja_cons (je_callCG c__law_pick hG (hr.mono (by decide)) rfl (takes_of rfl rfl rfl rfl) (ja_cons (je_var 0) (ja_cons je_int ja_nil))) (ja_cons (je_op op_addA opd_add je_int (je_callCG c__law_pick hG (hr.mono (by decide)) rfl (takes_of rfl rfl rfl rfl) (ja_cons (je_var 0) (ja_cons (je_var 2) ja_nil)))) (ja_cons (je_lstO ja_nil) ja_nil))))
  (jb_cons (js_for (passes_of rfl) rfl (ji_range1 rfl m_range (ja_cons (je_var 1) ja_nil)) (jg_name 6 sc__law_lengths.nd)
  (jb_cons (js_set 7 sc__law_lengths.nd (je_op op_sub opd_sub (je_op op_addA opd_add (je_var 4) (je_callCG c__law_pick hG (hr.mono (by decide)) rfl (takes_of rfl rfl rfl rfl) (ja_cons (je_var 0) (ja_cons je_int ja_nil)))) je_int))
  (jb_cons (js_set 8 sc__law_lengths.nd (je_if (jt_cmp op_gt opd_gt (je_callCG c__law_pick hG (hr.mono (by decide)) rfl (takes_of rfl rfl rfl rfl) (ja_cons (je_var 0) (ja_cons je_int ja_nil))) je_int (nomark _)) (je_var 4) (je_op op_addA opd_add je_int (je_callCG c__law_pick hG (hr.mono (by decide)) rfl (takes_of rfl rfl rfl rfl) (ja_cons (je_var 0) (ja_cons (je_var 2) ja_nil))))))
  (jb_cons (js_set 9 sc__law_lengths.nd (je_lst (ja_cons (je_op op_addA opd_add je_int (je_callCG c__law_pick hG (hr.mono (by decide)) rfl (takes_of rfl rfl rfl rfl) (ja_cons (je_var 0) (ja_cons (je_var 2) ja_nil)))) (ja_cons (je_var 8) (ja_cons (je_callB (call_max2 rfl) cd_max2 rfl m_max (by decide +kernel) (ja_cons je_int (ja_cons (je_callB (call_min2 rfl) cd_min2 rfl m_min (by decide +kernel) (ja_cons (je_var 2) (ja_cons (je_var 7) ja_nil))) ja_nil))) (ja_cons (je_var 2) (ja_cons (je_op op_addA opd_add je_int (je_callCG c__law_pick hG (hr.mono (by decide)) rfl (takes_of rfl rfl rfl rfl) (ja_cons (je_var 0) (ja_cons (je_callB (call_min2 rfl) cd_min2 rfl m_min (by decide +kernel) (ja_cons je_int (ja_cons (je_var 2) ja_nil))) ja_nil)))) ja_nil)))))))
  (jb_cons (js_set 4 sc__law_lengths.nd (je_ix ix_seq opd_ix (je_var 9) (je_var 3)))
  (jb_one (js_expr (je_bm PySem.F.slot_list_append PySem.F.type_list_append mt_append mtd_append (je_var 5) (ja_cons (je_var 4) ja_nil)))))))))
  (jb_one (js_ret (je_fz (je_var 5))))))⟩
theorem sc__law_rows : FnScope N__law_rows P__law_rows (defScope s__law_rows) := ⟨rfl, rfl, rfl, by decide +kernel, rfl, by decide +kernel, by decide +kernel⟩
theorem d__law_rows {P : Program} {wd : World} {K : PySem.W.Frag} {mg : Str → Option Value} {base : Heap} {f : Addr} {cdv : Value} {A : Around} {outer : List Env} {s : Shared} {H : Hp} {E : XK} (hG : (A.deeper (envOfC "_law_rows" (defScope s__law_rows) s.heap.objs.size f cdv)).guards = some []) (hr : Room 2 (A.deeper (envOfC "_law_rows" (defScope s__law_rows) s.heap.objs.size f cdv))) (c__law_pick : CalG P wd K mg base "_law_pick" s__law_pick 1 P__law_pick sp__law_pick) (m_min : mg "min" = none) (c__law_lengths : CalG P wd K mg base "_law_lengths" s__law_lengths 2 P__law_lengths sp__law_lengths) (m_range : mg "range" = none) :
    ∃ t, JB (cxOf (L2.CX P wd) P wd K mg base N__law_rows "_law_rows" (defScope s__law_rows) f cdv A outer s H E) (WD E) (defBody s__law_rows) t T__law_rows := by
  have hu : (A.deeper (envOfC "_law_rows" (defScope s__law_rows) s.heap.objs.size f cdv)).units + 64 < cLine := hr.units
  exact ⟨_, (jb_cons (js_set 3 sc__law_rows.nd (je_ix ix_seq opd_ix (je_lst (ja_cons (je_op op_addA opd_add je_int (je_callCG c__law_pick hG (hr.mono (by decide)) rfl (takes_of rfl rfl rfl rfl) (ja_cons (je_var 0) (ja_cons (je_var 1) ja_nil)))) (ja_cons (je_op op_addA opd_add je_int (je_callCG c__law_pick hG (hr.mono (by decide)) rfl (takes_of rfl rfl rfl rfl) (ja_cons (je_var 0) (ja_cons (je_callB (call_min2 rfl) cd_min2 rfl m_min (by decide +kernel) (ja_cons (je_var 1) (ja_cons je_int ja_nil))) ja_nil)))) (ja_cons (je_var 1) ja_nil)))) (je_callCG c__law_pick hG (hr.mono (by decide)) rfl (takes_of rfl rfl rfl rfl) (ja_cons (je_var 0) (ja_cons je_int ja_nil)))))
  (jb_cons (js_set 4 sc__law_rows.nd (je_ix ix_seq opd_ix (je_lst (ja_cons je_int (ja_cons je_int (ja_cons je_int (ja_cons je_int (ja_cons (je_op op_addA opd_add (je_op op_powW opd_pow je_int je_int) je_int) ja_nil)))))) (je_callCG c__law_pick hG (hr.mono (by decide)) rfl (takes_of rfl rfl rfl rfl) (ja_cons (je_var 0) (ja_cons je_int ja_nil)))))
  (jb_cons (js_set 5 sc__law_rows.nd (je_lstO ja_nil))
  (jb_cons (js_for (passes_of rfl) rfl (ji_list (je_callCG c__law_lengths hG (hr.mono (by decide)) rfl (takes_of rfl rfl rfl rfl) (ja_cons (je_var 0) (ja_cons (je_var 3) (ja_cons (je_var 2) ja_nil))))) (jg_name 6 sc__law_rows.nd)
  (jb_one (js_expr (je_bm PySem.F.slot_list_append PySem.F.type_list_append mt_append mtd_append (je_var 5) (ja_cons (je_lc (own := ([("_law_at", 7)] : List (Str × Nat))) finF finF_ok rfl sc__law_rows.nd (ji_range1 rfl m_range (ja_cons (je_var 6) ja_nil)) (blkOk_by (N := N__law_rows) (sc := defScope s__law_rows) (by decide +kernel)) (fun _ _ _ _ _ => (jg_name 7 sc__law_rows.nd)) (by exact (gk_name (vs := [7]) (i := 7))) (fun _ _ _ _ _ => jts_nil) (fun _ _ _ _ _ => (je_callCG c__law_pick hG (hr.mono (by decide)) rfl takes0 (ja_cons (je_var 0) (ja_cons (je_var 4) ja_nil))))) ja_nil)))))
  (jb_one (js_ret (je_fz (je_var 5))))))))⟩
theorem sc__law_look : FnScope N__law_look P__law_look (defScope s__law_look) := ⟨rfl, rfl, rfl, by decide +kernel, rfl, by decide +kernel, by decide +kernel⟩
theorem d__law_look {P : Program} {wd : World} {K : PySem.W.Frag} {mg : Str → Option Value} {base : Heap} {f : Addr} {cdv : Value} {A : Around} {outer : List Env} {s : Shared} {H : Hp} {E : XK} (hG : (A.deeper (envOfC "_law_look" (defScope s__law_look) s.heap.objs.size f cdv)).guards = some []) (hr : Room 1 (A.deeper (envOfC "_law_look" (defScope s__law_look) s.heap.objs.size f cdv))) (c__law_pick : CalG P wd K mg base "_law_pick" s__law_pick 1 P__law_pick sp__law_pick) :
    ∃ t, JB (cxOf (L2.CX P wd) P wd K mg base N__law_look "_law_look" (defScope s__law_look) f cdv A outer s H E) (WD E) (defBody s__law_look) t T__law_look := by
  have hu : (A.deeper (envOfC "_law_look" (defScope s__law_look) s.heap.objs.size f cdv)).units + 64 < cLine := hr.units
  exact ⟨_, (jb_cons (js_set 1 sc__law_look.nd (je_lst (ja_cons je_int (ja_cons je_int (ja_cons je_int (ja_cons (je_op op_addA opd_add je_int (je_callCG c__law_pick hG (hr.mono (by decide)) rfl (takes_of rfl rfl rfl rfl) (ja_cons (je_var 0) (ja_cons je_int ja_nil)))) (ja_cons (je_op op_sub opd_sub (je_op op_powW opd_pow je_int je_int) (je_callCG c__law_pick hG (hr.mono (by decide)) rfl (takes_of rfl rfl rfl rfl) (ja_cons (je_var 0) (ja_cons je_int ja_nil)))) ja_nil)))))))
  (jb_one (js_ret (je_lst (ja_cons (je_ix ix_seq opd_ix (je_var 1) (je_callCG c__law_pick hG (hr.mono (by decide)) rfl (takes_of rfl rfl rfl rfl) (ja_cons (je_var 0) (ja_cons je_int ja_nil)))) (ja_cons (je_ix ix_seq opd_ix (je_var 1) (je_ix ix_seq opd_ix (je_lst (ja_cons je_int (ja_cons je_int (ja_cons je_int (ja_cons je_int (ja_cons je_int ja_nil)))))) (je_callCG c__law_pick hG (hr.mono (by decide)) rfl (takes_of rfl rfl rfl rfl) (ja_cons (je_var 0) (ja_cons je_int ja_nil))))) ja_nil))))))⟩
theorem sc__law_groups : FnScope N__law_groups P__law_groups (defScope s__law_groups) := ⟨rfl, rfl, rfl, by decide +kernel, rfl, by decide +kernel, by decide +kernel⟩
theorem d__law_groups {P : Program} {wd : World} {K : PySem.W.Frag} {mg : Str → Option Value} {base : Heap} {f : Addr} {cdv : Value} {A : Around} {outer : List Env} {s : Shared} {H : Hp} {E : XK} (hG : (A.deeper (envOfC "_law_groups" (defScope s__law_groups) s.heap.objs.size f cdv)).guards = some []) (hr : Room 0 (A.deeper (envOfC "_law_groups" (defScope s__law_groups) s.heap.objs.size f cdv))) (m_len : mg "len" = none) (m_range : mg "range" = none) :
    ∃ t, JB (cxOf (L2.CX P wd) P wd K mg base N__law_groups "_law_groups" (defScope s__law_groups) f cdv A outer s H E) (WD E) (defBody s__law_groups) t T__law_groups := by
  have hu : (A.deeper (envOfC "_law_groups" (defScope s__law_groups) s.heap.objs.size f cdv)).units + 64 < cLine := hr.units
  exact ⟨_, (jb_cons (js_par 2 3 rfl sc__law_groups.nd (ja_cons (je_lstO ja_nil) (ja_cons je_non ja_nil)))
  (jb_cons (js_for (passes_of rfl) rfl (ji_range1 rfl m_range (ja_cons (je_op op_addA opd_add (je_callB call_lenA cd_len rfl m_len (by decide +kernel) (ja_cons (je_var 0) ja_nil)) je_int) ja_nil)) (jg_name 4 sc__law_groups.nd)
  (jb_cons (js_set 5 sc__law_groups.nd (je_and (je_cmp op_lt opd_lt (je_var 4) (je_callB call_lenA cd_len rfl m_len (by decide +kernel) (ja_cons (je_var 0) ja_nil)) (nomark _)) (je_one (je_cmp op_gt opd_gt (je_callB call_lenA cd_len rfl m_len (by decide +kernel) (ja_cons (je_ix ix_seq opd_ix (je_var 0) (je_var 4)) ja_nil)) (je_op op_addA opd_add (je_var 1) je_int) (nomark _)))))
  (jb_cons (js_if (JW.jt (jw_and (jt_val (je_var 5)) (jw_and1 (jt_cmp op_isN opd_isN (je_var 3) je_non (nomark _)))))
  (jb_one (js_set 3 sc__law_groups.nd (je_var 4)))
  jb_nil)
  (jb_one (js_if (JW.jt (jw_and (jt_not (jt_val (je_var 5))) (jw_and1 (jt_cmp op_notN opd_notN (je_var 3) je_non (nomark _)))))
  (jb_cons (js_expr (je_bm PySem.F.slot_list_append PySem.F.type_list_append mt_append mtd_append (je_var 2) (ja_cons (je_tup (ja_cons (je_var 3) (ja_cons (je_op op_sub opd_sub (je_var 4) je_int) ja_nil))) ja_nil)))
  (jb_one (js_set 3 sc__law_groups.nd je_non)))
  jb_nil)))))
  (jb_one (js_ret (je_fz (je_var 2))))))⟩
theorem sc__law_stops : FnScope N__law_stops P__law_stops (defScope s__law_stops) := ⟨rfl, rfl, rfl, by decide +kernel, rfl, by decide +kernel, by decide +kernel⟩
theorem d__law_stops {P : Program} {wd : World} {K : PySem.W.Frag} {mg : Str → Option Value} {base : Heap} {f : Addr} {cdv : Value} {A : Around} {outer : List Env} {s : Shared} {H : Hp} {E : XK} (hG : (A.deeper (envOfC "_law_stops" (defScope s__law_stops) s.heap.objs.size f cdv)).guards = some []) (hr : Room 1 (A.deeper (envOfC "_law_stops" (defScope s__law_stops) s.heap.objs.size f cdv))) (m_len : mg "len" = none) (m_max : mg "max" = none) (m_range : mg "range" = none) (c__law_groups : CalG P wd K mg base "_law_groups" s__law_groups 1 P__law_groups sp__law_groups) :
    ∃ t, JB (cxOf (L2.CX P wd) P wd K mg base N__law_stops "_law_stops" (defScope s__law_stops) f cdv A outer s H E) (WD E) (defBody s__law_stops) t T__law_stops := by
  have hu : (A.deeper (envOfC "_law_stops" (defScope s__law_stops) s.heap.objs.size f cdv)).units + 64 < cLine := hr.units
  exact ⟨_, (jb_cons (js_par 2 3 rfl sc__law_stops.nd (ja_cons je_dnew (ja_cons (je_op op_mulA opd_mulO (je_lst (ja_cons je_int ja_nil)) (je_callB call_lenA cd_len rfl m_len (by decide +kernel) (ja_cons (je_var 0) ja_nil))) ja_nil)))
  (jb_cons (js_for (passes_of rfl) rfl (ji_range1 rfl m_range (ja_cons (je_op op_sub opd_sub (je_callB (cr_max rfl) cd_max rfl m_max (by decide +kernel) (ja_cons (je_lc (own := ([("_law_row", 9)] : List (Str × Nat))) finF finF_ok rfl sc__law_stops.nd (ji_list (je_var 0)) (blkOk_by (N := N__law_stops) (sc := defScope s__law_stops) (by decide +kernel)) (fun _ _ _ _ _ => (jg_name 9 sc__law_stops.nd)) (by exact (gk_name (vs := [9]) (i := 9))) (fun _ _ _ _ _ => jts_nil) (fun _ _ _ _ _ => (je_callB call_lenA cd_len rfl m_len (by decide +kernel) (ja_cons (je_var 9) ja_nil)))) ja_nil)) je_int) ja_nil)) (jg_name 4 sc__law_stops.nd)
  (jb_one (js_for (passes_of rfl) rfl (ji_list (je_callCG c__law_groups hG (hr.mono (by decide)) rfl (takes_of rfl rfl rfl rfl) (ja_cons (je_var 0) (ja_cons (je_var 4) ja_nil)))) (jg_tup rfl (jgs_cons (jg_name 5 sc__law_stops.nd) (jgs_cons (jg_name 6 sc__law_stops.nd) jgs_nil)))
  (jb_cons (js_set 7 sc__law_stops.nd (je_callB (cr_max rfl) cd_max rfl m_max (by decide +kernel) (ja_cons (je_lc (own := ([("_law_k", 10)] : List (Str × Nat))) finF finF_ok rfl sc__law_stops.nd (ji_range2 rfl m_range (ja_cons (je_var 5) (ja_cons (je_op op_addA opd_add (je_var 6) je_int) ja_nil))) (blkOk_by (N := N__law_stops) (sc := defScope s__law_stops) (by decide +kernel)) (fun _ _ _ _ _ => (jg_name 10 sc__law_stops.nd)) (by exact (gk_name (vs := [10]) (i := 10))) (fun _ _ _ _ _ => jts_nil) (fun _ _ _ _ _ => (je_ix ix_seq opd_ix (je_ix ix_seq opd_ix (je_var 0) (je_var 10)) (je_var 4)))) ja_nil)))
  (jb_cons (js_set 8 sc__law_stops.nd (je_op op_addA opd_add (je_op op_addA opd_add (je_ix ix_seq opd_ix (je_var 3) (je_var 5)) (je_callB (call_max2 rfl) cd_max2 rfl m_max (by decide +kernel) (ja_cons (je_ix ix_seq opd_ix (je_var 1) je_int) (ja_cons (je_var 7) ja_nil)))) (je_ix ix_seq opd_ix (je_var 1) je_int)))
  (jb_cons (js_dput hu (je_var 2) (ja_cons (je_var 4) (ja_cons (je_var 5) (ja_cons (je_var 6) ja_nil))) (je_var 8))
  (jb_one (js_for (passes_of rfl) rfl (ji_range2 rfl m_range (ja_cons (je_var 5) (ja_cons (je_op op_addA opd_add (je_var 6) je_int) ja_nil))) (jg_name 10 sc__law_stops.nd)
  (jb_one (js_asg (je_var 8) (jg_sub (je_var 3) (je_var 10) set_list setd_o)))))))))))
  (jb_one (js_ret (je_lst (ja_cons (je_var 2) (ja_cons (je_var 3) ja_nil)))))))⟩
theorem sc__law_width : FnScope N__law_width P__law_width (defScope s__law_width) := ⟨rfl, rfl, rfl, by decide +kernel, rfl, by decide +kernel, by decide +kernel⟩
theorem d__law_width {P : Program} {wd : World} {K : PySem.W.Frag} {mg : Str → Option Value} {base : Heap} {f : Addr} {cdv : Value} {A : Around} {outer : List Env} {s : Shared} {H : Hp} {E : XK} (hG : (A.deeper (envOfC "_law_width" (defScope s__law_width) s.heap.objs.size f cdv)).guards = some []) (hr : Room 2 (A.deeper (envOfC "_law_width" (defScope s__law_width) s.heap.objs.size f cdv))) (c__law_stops : CalG P wd K mg base "_law_stops" s__law_stops 2 P__law_stops sp__law_stops) (m_zip : mg "zip" = none) (m_max : mg "max" = none) :
    ∃ t, JB (cxOf (L2.CX P wd) P wd K mg base N__law_width "_law_width" (defScope s__law_width) f cdv A outer s H E) (WD E) (defBody s__law_width) t T__law_width := by
  have hu : (A.deeper (envOfC "_law_width" (defScope s__law_width) s.heap.objs.size f cdv)).units + 64 < cLine := hr.units
  exact ⟨_, (jb_cons (js_set 2 sc__law_width.nd (je_ix ix_seq opd_ix (je_callCG c__law_stops hG (hr.mono (by decide)) rfl (takes_of rfl rfl rfl rfl) (ja_cons (je_var 0) (ja_cons (je_var 1) ja_nil))) je_int))
  (jb_one (js_ret (je_callB (cr_max rfl) cd_max rfl m_max (by decide +kernel) (ja_cons (je_lc (own := ([("_law_begin", 3), ("_law_row", 4)] : List (Str × Nat))) finF finF_ok rfl sc__law_width.nd (ji_zip rfl m_zip (ja_cons (je_var 2) (ja_cons (je_var 0) ja_nil))) (blkOk_by (N := N__law_width) (sc := defScope s__law_width) (by decide +kernel)) (fun _ _ _ _ _ => (jg_tup rfl (jgs_cons (jg_name 3 sc__law_width.nd) (jgs_cons (jg_name 4 sc__law_width.nd) jgs_nil)))) (by exact (gk_tup (gks_name (vs := [3, 4]) (i := 3) (gks_name (vs := [3, 4]) (i := 4) (gks_nil (vs := [3, 4])))))) (fun _ _ _ _ _ => jts_nil) (fun _ _ _ _ _ => (je_op op_addA opd_add (je_var 3) (je_ix ix_seq opd_ix (je_var 4) (je_neg je_int))))) ja_nil)))))⟩
theorem sc__law_class : FnScope N__law_class P__law_class (defScope s__law_class) := ⟨rfl, rfl, rfl, by decide +kernel, rfl, by decide +kernel, by decide +kernel⟩
theorem d__law_class {C_TooNarrow C_InvalidTable C_InvalidWidth C_InvalidBlock C_InvalidNumber C_InvalidSights C_InvalidStyle C_InvalidTabs C_InvalidText C_InvalidCell C_InvalidColumn C_InvalidLine C_NothingToUndo C_NotPossible : Addr} {P : Program} {wd : World} {K : PySem.W.Frag} {mg : Str → Option Value} {base : Heap} {f : Addr} {cdv : Value} {A : Around} {outer : List Env} {s : Shared} {H : Hp} {E : XK} (hG : (A.deeper (envOfC "_law_class" (defScope s__law_class) s.heap.objs.size f cdv)).guards = some []) (hr : RoomH 0 (A.deeper (envOfC "_law_class" (defScope s__law_class) s.heap.objs.size f cdv))) (h_TooNarrow : mg "TooNarrow" = some (.ref C_TooNarrow)) (xt : ∀ q ∈ ((xtabD C_InvalidTable C_InvalidWidth C_TooNarrow C_InvalidBlock C_InvalidNumber C_InvalidSights C_InvalidStyle C_InvalidTabs C_InvalidText C_InvalidCell C_InvalidColumn C_InvalidLine C_NothingToUndo C_NotPossible) : List (Addr × D × Bool)), IsXF K q) (m_isinstance : mg "isinstance" = none) (h_InvalidWidth : mg "InvalidWidth" = some (.ref C_InvalidWidth)) (h_InvalidTable : mg "InvalidTable" = some (.ref C_InvalidTable)) (h_InvalidText : mg "InvalidText" = some (.ref C_InvalidText)) (h_InvalidTabs : mg "InvalidTabs" = some (.ref C_InvalidTabs)) (h_InvalidStyle : mg "InvalidStyle" = some (.ref C_InvalidStyle)) (h_InvalidSights : mg "InvalidSights" = some (.ref C_InvalidSights)) (h_InvalidNumber : mg "InvalidNumber" = some (.ref C_InvalidNumber)) (h_InvalidBlock : mg "InvalidBlock" = some (.ref C_InvalidBlock)) (h_NotPossible : mg "NotPossible" = some (.ref C_NotPossible)) (h_NothingToUndo : mg "NothingToUndo" = some (.ref C_NothingToUndo)) (h_InvalidLine : mg "InvalidLine" = some (.ref C_InvalidLine)) (h_InvalidColumn : mg "InvalidColumn" = some (.ref C_InvalidColumn)) (h_InvalidCell : mg "InvalidCell" = some (.ref C_InvalidCell)) (m_ValueError : mg "ValueError" = none) (xf_line : ∀ D ∈ ([C_TooNarrow] : List Addr), XFldF K D "line") :
    ∃ t, JB (cxH (L2.CX P wd) P wd K mg base N__law_class "_law_class" (defScope s__law_class) f cdv A outer s H E) (WD E) (defBody s__law_class) t (T__law_class C_TooNarrow C_InvalidTable C_InvalidWidth C_InvalidBlock C_InvalidNumber C_InvalidSights C_InvalidStyle C_InvalidTabs C_InvalidText C_InvalidCell C_InvalidColumn C_InvalidLine C_NothingToUndo C_NotPossible) := by
  have hu : (A.deeper (envOfC "_law_class" (defScope s__law_class) s.heap.objs.size f cdv)).units + 64 < cLine := hr.units
  exact ⟨_, (jb_cons (js_set 1 sc__law_class.nd (je_lst (ja_cons (je_callB call_isX (cd_isX (tab := (xtabD C_InvalidTable C_InvalidWidth C_TooNarrow C_InvalidBlock C_InvalidNumber C_InvalidSights C_InvalidStyle C_InvalidTabs C_InvalidText C_InvalidCell C_InvalidColumn C_InvalidLine C_NothingToUndo C_NotPossible)) xt) rfl m_isinstance (by decide +kernel) (ja_cons (je_var 0) (ja_cons (je_gref rfl h_InvalidTable) ja_nil))) (ja_cons (je_callB call_isX (cd_isX (tab := (xtabD C_InvalidTable C_InvalidWidth C_TooNarrow C_InvalidBlock C_InvalidNumber C_InvalidSights C_InvalidStyle C_InvalidTabs C_InvalidText C_InvalidCell C_InvalidColumn C_InvalidLine C_NothingToUndo C_NotPossible)) xt) rfl m_isinstance (by decide +kernel) (ja_cons (je_var 0) (ja_cons (je_gref rfl h_InvalidWidth) ja_nil))) (ja_cons (je_callB call_isX (cd_isX (tab := (xtabD C_InvalidTable C_InvalidWidth C_TooNarrow C_InvalidBlock C_InvalidNumber C_InvalidSights C_InvalidStyle C_InvalidTabs C_InvalidText C_InvalidCell C_InvalidColumn C_InvalidLine C_NothingToUndo C_NotPossible)) xt) rfl m_isinstance (by decide +kernel) (ja_cons (je_var 0) (ja_cons (je_gref rfl h_TooNarrow) ja_nil))) ja_nil)))))
  (jb_cons (js_set 2 sc__law_class.nd (je_callB call_isX (cd_isX (tab := (xtabD C_InvalidTable C_InvalidWidth C_TooNarrow C_InvalidBlock C_InvalidNumber C_InvalidSights C_InvalidStyle C_InvalidTabs C_InvalidText C_InvalidCell C_InvalidColumn C_InvalidLine C_NothingToUndo C_NotPossible)) xt) rfl m_isinstance (by decide +kernel) (ja_cons (je_var 0) (ja_cons (je_tup (ja_cons (je_gref rfl h_InvalidBlock) (ja_cons (je_gref rfl h_InvalidNumber) (ja_cons (je_gref rfl h_InvalidSights) (ja_cons (je_gref rfl h_InvalidStyle) (ja_cons (je_gref rfl h_InvalidTabs) (ja_cons (je_gref rfl h_InvalidText) ja_nil))))))) ja_nil))))
  (jb_cons (js_set 2 sc__law_class.nd (je_or (je_var 2) (je_one (je_callB call_isX (cd_isX (tab := (xtabD C_InvalidTable C_InvalidWidth C_TooNarrow C_InvalidBlock C_InvalidNumber C_InvalidSights C_InvalidStyle C_InvalidTabs C_InvalidText C_InvalidCell C_InvalidColumn C_InvalidLine C_NothingToUndo C_NotPossible)) xt) rfl m_isinstance (by decide +kernel) (ja_cons (je_var 0) (ja_cons (je_tup (ja_cons (je_gref rfl h_InvalidCell) (ja_cons (je_gref rfl h_InvalidColumn) (ja_cons (je_gref rfl h_InvalidLine) (ja_cons (je_gref rfl h_NothingToUndo) (ja_cons (je_gref rfl h_NotPossible) ja_nil)))))) ja_nil))))))
  (jb_cons (js_if (JW.jt (jw_or (jt_val (je_var 2)) (jw_or (jt_cmp op_ne opd_neF (je_bm PySem.F.slot_list_count PySem.F.type_list_count mt_cntF mtd_cnt (je_var 1) (ja_cons je_bl ja_nil)) je_int (nomark _)) (jw_or1 (jt_not (jt_val (je_callB call_isX (cd_isX (tab := (xtabD C_InvalidTable C_InvalidWidth C_TooNarrow C_InvalidBlock C_InvalidNumber C_InvalidSights C_InvalidStyle C_InvalidTabs C_InvalidText C_InvalidCell C_InvalidColumn C_InvalidLine C_NothingToUndo C_NotPossible)) xt) rfl m_isinstance (by decide +kernel) (ja_cons (je_var 0) (ja_cons (je_ty rfl m_ValueError (by decide +kernel)) ja_nil)))))))))
  (jb_one (js_ret je_str))
  jb_nil)
  (jb_one (js_ret (je_if (jt_val (je_ix ix_seq opd_ix (je_var 1) je_int)) (je_lst (ja_cons je_str (ja_cons (je_xfld xf_line (je_var 0)) ja_nil))) (je_ix ix_seq opd_ix (je_lst (ja_cons je_str (ja_cons je_str ja_nil))) (je_bm PySem.F.slot_list_index PySem.F.type_list_index mt_index mtd_idx (je_var 1) (ja_cons je_bl ja_nil))))))))))⟩
theorem sc__law_raised : FnScope N__law_raised P__law_raised (defScope s__law_raised) := ⟨rfl, rfl, rfl, by decide +kernel, rfl, by decide +kernel, by decide +kernel⟩
theorem d__law_raised {C_stretches C_partings C_fewest_lines C_InvalidTable C_InvalidWidth C_TooNarrow C_Style C_PageError : Addr} {P : Program} {wd : World} {K : PySem.W.Frag} {mg : Str → Option Value} {base : Heap} {f : Addr} {cdv : Value} {A : Around} {outer : List Env} {s : Shared} {H : Hp} {E : XK} (hG : (A.deeper (envOfC "_law_raised" (defScope s__law_raised) s.heap.objs.size f cdv)).guards = some []) (hr : Room 17 (A.deeper (envOfC "_law_raised" (defScope s__law_raised) s.heap.objs.size f cdv))) (mk : ModK K) (m_repr : mg "repr" = none) (h_stretches : mg "stretches" = some (.ref C_stretches)) (h_partings : mg "partings" = some (.ref C_partings)) (h_fewest_lines : mg "fewest_lines" = some (.ref C_fewest_lines)) (c_stretches : CalG P wd K mg base "stretches" s_stretches 16 P_stretches (sp_stretches C_InvalidTable C_InvalidWidth C_TooNarrow C_Style)) (c_partings : CalG P wd K mg base "partings" s_partings 16 P_partings (sp_partings C_InvalidTable C_InvalidWidth C_TooNarrow C_Style)) (c_fewest_lines : CalG P wd K mg base "fewest_lines" s_fewest_lines 17 P_fewest_lines (sp_fewest_lines C_InvalidTable C_InvalidWidth C_TooNarrow C_Style)) (c_shows_lines : CalG P wd K mg base "shows_lines" s_shows_lines 16 P_shows_lines (sp_shows_lines C_InvalidTable C_InvalidWidth C_TooNarrow C_Style)) (xm_PageError : ∀ C ∈ ([C_InvalidTable, C_InvalidWidth, C_TooNarrow] : List Addr), PySem.W.exmOne K (.ref C) (.ref C_PageError) = some true) (ch__law_class : CalH P wd K mg base "_law_class" s__law_class 1 P__law_class (sp__law_class C_InvalidTable C_InvalidWidth C_TooNarrow)) (h_PageError : mg "PageError" = some (.ref C_PageError)) :
    ∃ t, JB (cxOf (L2.CX P wd) P wd K mg base N__law_raised "_law_raised" (defScope s__law_raised) f cdv A outer s H E) (WD E) (defBody s__law_raised) t (T__law_raised C_stretches C_partings C_fewest_lines C_InvalidTable C_InvalidWidth C_TooNarrow C_Style) := by
  have hu : (A.deeper (envOfC "_law_raised" (defScope s__law_raised) s.heap.objs.size f cdv)).units + 64 < cLine := hr.units
  exact ⟨_, (jb_cons (js_par 5 6 rfl sc__law_raised.nd (ja_cons (je_callB (call_reprX mk hG hu) cd_reprX rfl m_repr (by decide +kernel) (ja_cons (je_lst (ja_cons (je_var 1) (ja_cons (je_var 4) ja_nil))) ja_nil)) (ja_cons je_str ja_nil)))
  (jb_cons (js_tryH (X := cxOf (L2.CX P wd) P wd K mg base N__law_raised "_law_raised" (defScope s__law_raised) f cdv A outer s H E) 7 rfl rfl rfl sc__law_raised.nd ⟨rfl, by decide, .inl h_PageError⟩ xm_PageError (fun W2 pn xe tkT => (jfb_one (jf_if (jt_cmp op_lt opd_lt (je_var 0) je_int (nomark _))
  (jfb_one (jf_expr (je_callF _ (List.forall_mem_cons.mpr ⟨calRow_of c_fewest_lines h_fewest_lines (by decide), (List.forall_mem_cons.mpr ⟨calRow_of c_partings h_partings (by decide), (List.forall_mem_cons.mpr ⟨calRow_of c_stretches h_stretches (by decide), (List.forall_mem_nil _)⟩)⟩)⟩) hG hr tkT (je_ix ix_seq opd_ix (je_lst (ja_cons (je_gref rfl h_fewest_lines) (ja_cons (je_gref rfl h_partings) (ja_cons (je_gref rfl h_stretches) ja_nil)))) (je_var 0)) (ja_cons (je_var 1) (ja_cons (je_var 2) (ja_cons (je_var 3) ja_nil))))))
  (jfb_one (jf_expr (je_callCG c_shows_lines hG (hr.mono (by decide)) rfl tkT (ja_cons (je_var 1) (ja_cons (je_var 2) (ja_cons (je_var 3) (ja_cons je_int (ja_cons (je_var 4) ja_nil))))))))))) (fun aH pnH => (jb_one (js_set 6 sc__law_raised.nd (je_callS (X := cxOf (L2.CX P wd) P wd K mg base N__law_raised "_law_raised" (defScope s__law_raised) f cdv A outer s H E) (a := aH) (pn := pnH) 7 ch__law_class hG ((Room.h hr).mono (by decide)) rfl)))))
  (jb_one (js_ret (je_if (jt_cmp op_eq opd_eqF (je_callB (call_reprX mk hG hu) cd_reprX rfl m_repr (by decide +kernel) (ja_cons (je_lst (ja_cons (je_var 1) (ja_cons (je_var 4) ja_nil))) ja_nil)) (je_var 5) (nomark _)) (je_var 6) je_str)))))⟩
theorem sc__law_no_tables : FnScope N__law_no_tables P__law_no_tables (defScope s__law_no_tables) := ⟨rfl, rfl, rfl, by decide +kernel, rfl, by decide +kernel, by decide +kernel⟩
theorem d__law_no_tables {P : Program} {wd : World} {K : PySem.W.Frag} {mg : Str → Option Value} {base : Heap} {f : Addr} {cdv : Value} {A : Around} {outer : List Env} {s : Shared} {H : Hp} {E : XK} (hG : (A.deeper (envOfC "_law_no_tables" (defScope s__law_no_tables) s.heap.objs.size f cdv)).guards = some []) (hr : Room 1 (A.deeper (envOfC "_law_no_tables" (defScope s__law_no_tables) s.heap.objs.size f cdv))) (c__law_pick : CalG P wd K mg base "_law_pick" s__law_pick 1 P__law_pick sp__law_pick) (m_len : mg "len" = none) (m_tuple : mg "tuple" = none) :
    ∃ t, JB (cxOf (L2.CX P wd) P wd K mg base N__law_no_tables "_law_no_tables" (defScope s__law_no_tables) f cdv A outer s H E) (WD E) (defBody s__law_no_tables) t T__law_no_tables := by
  have hu : (A.deeper (envOfC "_law_no_tables" (defScope s__law_no_tables) s.heap.objs.size f cdv)).units + 64 < cLine := hr.units
  exact ⟨_, (jb_cons (js_par 2 3 rfl sc__law_no_tables.nd (ja_cons (je_callCG c__law_pick hG (hr.mono (by decide)) rfl (takes_of rfl rfl rfl rfl) (ja_cons (je_var 0) (ja_cons (je_callB call_lenA cd_len rfl m_len (by decide +kernel) (ja_cons (je_var 1) ja_nil)) ja_nil))) (ja_cons (je_op op_addA opd_add (je_op op_powW opd_pow je_int je_int) je_int) ja_nil)))
  (jb_cons (js_set 4 sc__law_no_tables.nd (je_lstO (ja_cons je_non (ja_cons je_int (ja_cons je_bl (ja_cons je_str (ja_cons je_str (ja_cons (je_tup ja_nil) (ja_cons (je_lst ja_nil) (ja_cons je_dic0 (ja_cons (je_dic1 (je_lst (ja_cons (je_lst (ja_cons je_int ja_nil)) ja_nil))) (ja_cons (je_lst (ja_cons (je_lst ja_nil) ja_nil)) (ja_cons (je_lst (ja_cons (je_tup ja_nil) ja_nil)) (ja_cons (je_lst (ja_cons je_int ja_nil)) (ja_cons (je_lst (ja_cons (je_lst (ja_cons je_str ja_nil)) ja_nil)) (ja_cons (je_lst (ja_cons (je_lst (ja_cons je_bl ja_nil)) ja_nil)) (ja_cons (je_lst (ja_cons (je_lst (ja_cons (je_neg je_int) ja_nil)) ja_nil)) (ja_cons (je_lst (ja_cons (je_lst (ja_cons (je_var 3) ja_nil)) ja_nil)) ja_nil))))))))))))))))))
  (jb_cons (js_set 4 sc__law_no_tables.nd (je_op op_addA opd_addO (je_var 4) (je_lst (ja_cons (je_callTy call_tuple_of cd_tup rfl m_tuple (by decide +kernel) (ja_cons (je_var 1) ja_nil)) (ja_cons (je_lc (own := ([("_law_row", 6)] : List (Str × Nat))) finF finF_ok rfl sc__law_no_tables.nd (ji_list (je_var 1)) (blkOk_by (N := N__law_no_tables) (sc := defScope s__law_no_tables) (by decide +kernel)) (fun _ _ _ _ _ => (jg_name 6 sc__law_no_tables.nd)) (by exact (gk_name (vs := [6]) (i := 6))) (fun _ _ _ _ _ => jts_nil) (fun _ _ _ _ _ => (je_callTy call_tuple_of cd_tup rfl m_tuple (by decide +kernel) (ja_cons (je_var 6) ja_nil)))) (ja_cons (je_op op_addA opd_add (je_var 1) (je_lst (ja_cons (je_op op_mulA opd_mul (je_lst (ja_cons je_int ja_nil)) je_int) ja_nil))) (ja_cons (je_op op_mulA opd_mul (je_lst (ja_cons (je_lst (ja_cons je_int ja_nil)) ja_nil)) je_int) ja_nil)))))))
  (jb_cons (js_for (passes_of rfl) rfl (ji_list (je_lst (ja_cons (je_lst ja_nil) (ja_cons (je_op op_mulA opd_mul (je_lst (ja_cons je_int ja_nil)) je_int) (ja_cons (je_tup (ja_cons je_int ja_nil)) (ja_cons je_non (ja_cons (je_lst (ja_cons je_int (ja_cons (je_neg je_int) ja_nil))) (ja_cons (je_lst (ja_cons (je_var 3) (ja_cons je_int ja_nil))) (ja_cons (je_lst (ja_cons je_bl ja_nil)) (ja_cons (je_lst (ja_cons je_str ja_nil)) (ja_cons (je_lst (ja_cons (je_lst (ja_cons je_int ja_nil)) ja_nil)) (ja_cons (je_dic1 je_int) ja_nil)))))))))))) (jg_name 5 sc__law_no_tables.nd)
  (jb_one (js_expr (je_bm PySem.F.slot_list_append PySem.F.type_list_append mt_append mtd_append (je_var 4) (ja_cons (je_op op_addA opd_add (je_op op_addA opd_add (je_slice sl_list sld_l (je_var 1) jo_none (jo_some (je_var 2))) (je_lst (ja_cons (je_var 5) ja_nil))) (je_slice sl_list sld_l (je_var 1) (jo_some (je_op op_addA opd_add (je_var 2) je_int)) jo_none)) ja_nil)))))
  (jb_one (js_ret (je_ix ix_seq opd_ix (je_var 4) (je_callCG c__law_pick hG (hr.mono (by decide)) rfl (takes_of rfl rfl rfl rfl) (ja_cons (je_var 0) (ja_cons (je_callB call_lenA cd_len rfl m_len (by decide +kernel) (ja_cons (je_var 4) ja_nil)) ja_nil))))))))))⟩
theorem sc__law_right : FnScope N__law_right P__law_right (defScope s__law_right) := ⟨rfl, rfl, rfl, by decide +kernel, rfl, by decide +kernel, by decide +kernel⟩
theorem d__law_right {C_Style : Addr} {P : Program} {wd : World} {K : PySem.W.Frag} {mg : Str → Option Value} {base : Heap} {f : Addr} {cdv : Value} {A : Around} {outer : List Env} {s : Shared} {H : Hp} {E : XK} (hG : (A.deeper (envOfC "_law_right" (defScope s__law_right) s.heap.objs.size f cdv)).guards = some []) (hr : Room 18 (A.deeper (envOfC "_law_right" (defScope s__law_right) s.heap.objs.size f cdv))) (c__law_width : CalG P wd K mg base "_law_width" s__law_width 3 P__law_width sp__law_width) (h_Style : mg "Style" = some (.ref C_Style)) (cm_Style_Style_of_4 : CMetK P wd K mg base C_Style "of" 5 ([] : List Str) (pkP 4 [0, 1, 2, 3] [] (sp_Style_of C_Style))) (m_max : mg "max" = none) (m_range : mg "range" = none) (m_min : mg "min" = none) (c__law_pick : CalG P wd K mg base "_law_pick" s__law_pick 1 P__law_pick sp__law_pick) (m_len : mg "len" = none) (c__law_no_tables : CalG P wd K mg base "_law_no_tables" s__law_no_tables 2 P__law_no_tables sp__law_no_tables) (c__law_raised : CalG P wd K mg base "_law_raised" s__law_raised 18 P__law_raised (sp__law_raised C_Style)) :
    ∃ t, JB (cxOf (L2.CX P wd) P wd K mg base N__law_right "_law_right" (defScope s__law_right) f cdv A outer s H E) (WD E) (defBody s__law_right) t (T__law_right C_Style) := by
  have hu : (A.deeper (envOfC "_law_right" (defScope s__law_right) s.heap.objs.size f cdv)).units + 64 < cLine := hr.units
  exact ⟨_, (jb_cons (js_asg (je_tup (ja_cons (je_fzI (je_cmethA cm_Style_Style_of_4 hG (hr.mono (by decide)) (takes_of rfl rfl rfl rfl) (je_gref rfl h_Style) (jc_cons (ks := ([] : List Str)) (ja_cons (je_lst (ja_cons je_str ja_nil)) (ja_cons (je_ix ix_seq opd_ix (je_var 2) je_int) (ja_cons (je_ix ix_seq opd_ix (je_var 2) je_int) ja_nil))) jk_nil))) (ja_cons (je_lc (own := ([("_law_row", 15)] : List (Str × Nat))) finF finF_ok rfl sc__law_right.nd (ji_list (je_var 1)) (blkOk_by (N := N__law_right) (sc := defScope s__law_right) (by decide +kernel)) (fun _ _ _ _ _ => (jg_name 15 sc__law_right.nd)) (by exact (gk_name (vs := [15]) (i := 15))) (fun _ _ _ _ _ => jts_nil) (fun _ _ _ _ _ => (je_callCG c__law_width hG (hr.mono (by decide)) rfl takes0 (ja_cons (je_lst (ja_cons (je_var 15) ja_nil)) (ja_cons (je_var 2) ja_nil))))) ja_nil))) (jg_tup rfl (jgs_cons (jg_name 3 sc__law_right.nd) (jgs_cons (jg_name 4 sc__law_right.nd) jgs_nil))))
  (jb_cons (js_par 5 6 rfl sc__law_right.nd (ja_cons (je_callB (cr_max rfl) cd_max rfl m_max (by decide +kernel) (ja_cons (je_var 4) ja_nil)) (ja_cons (je_op op_powW opd_pow je_int je_int) ja_nil)))
  (jb_cons (js_set 7 sc__law_right.nd (je_lst (ja_cons je_non (ja_cons (je_lst ja_nil) (ja_cons (je_lst (ja_cons (je_tup (ja_cons je_int (ja_cons je_int ja_nil))) ja_nil)) (ja_cons (je_dic1 (je_lst ja_nil)) (ja_cons je_str (ja_cons (je_tup (ja_cons je_int (ja_cons je_int ja_nil))) (ja_cons (je_lst (ja_cons je_bl ja_nil)) ja_nil)))))))))
  (jb_cons (js_for (passes_of rfl) rfl (ji_range1 rfl m_range (ja_cons je_int ja_nil)) (jg_name 8 sc__law_right.nd)
  (jb_cons (js_set 9 sc__law_right.nd (je_ix ix_seq opd_ix (je_lst (ja_cons (je_var 5) (ja_cons (je_op op_addA opd_add (je_var 5) je_int) (ja_cons (je_op op_sub opd_sub (je_var 5) je_int) (ja_cons (je_ix ix_seq opd_ix (je_var 4) je_int) (ja_cons (je_op op_sub opd_sub (je_ix ix_seq opd_ix (je_var 4) (je_neg je_int)) je_int) (ja_cons (je_callB (cr_min rfl) cd_min rfl m_min (by decide +kernel) (ja_cons (je_var 4) ja_nil)) (ja_cons je_int (ja_cons (je_var 6) ja_nil))))))))) (je_callCG c__law_pick hG (hr.mono (by decide)) rfl (takes_of rfl rfl rfl rfl) (ja_cons (je_var 0) (ja_cons je_int ja_nil)))))
  (jb_cons (js_set 9 sc__law_right.nd (je_ix ix_seq opd_ix (je_lst (ja_cons (je_var 9) (ja_cons (je_var 9) (ja_cons (je_var 9) (ja_cons (je_neg je_int) (ja_cons (je_op op_sub opd_sub je_int (je_var 6)) ja_nil)))))) (je_callCG c__law_pick hG (hr.mono (by decide)) rfl (takes_of rfl rfl rfl rfl) (ja_cons (je_var 0) (ja_cons je_int ja_nil)))))
  (jb_cons (js_setLc 10 (own := ([("_law_k", 16)] : List (Str × Nat))) finF finF_ok rfl sc__law_right.nd (ji_range1 rfl m_range (ja_cons (je_callB call_lenA cd_len rfl m_len (by decide +kernel) (ja_cons (je_var 1) ja_nil)) ja_nil)) (blkOk_by (N := N__law_right) (sc := defScope s__law_right) (by decide +kernel)) (fun _ _ _ _ _ => (jg_name 16 sc__law_right.nd)) (by exact (gk_name (vs := [16]) (i := 16))) (fun _ _ _ _ _ => (jts_one (jt_cmp op_gt opd_gt (je_ix ix_seq opd_ix (je_var 4) (je_var 16)) (je_var 9) (nomark _)))) (fun _ _ _ _ _ => (je_var 16)))
  (jb_cons (js_set 11 sc__law_right.nd (je_if (jt_cmp op_lt opd_lt (je_var 9) je_int (nomark _)) je_str (je_if (jt_cmp (op_neD hu) opd_ne (je_var 10) (je_lst ja_nil) (nomark _)) (je_lst (ja_cons je_str (ja_cons (je_ix ix_seq opd_ix (je_var 10) je_int) ja_nil))) je_str)))
  (jb_cons (js_par 12 13 rfl sc__law_right.nd (ja_cons (je_ix ix_seq opd_ix (je_var 7) (je_callCG c__law_pick hG (hr.mono (by decide)) rfl (takes_of rfl rfl rfl rfl) (ja_cons (je_var 0) (ja_cons je_int ja_nil)))) (ja_cons (je_callCG c__law_no_tables hG (hr.mono (by decide)) rfl (takes_of rfl rfl rfl rfl) (ja_cons (je_var 0) (ja_cons (je_var 1) ja_nil))) ja_nil)))
  (jb_one (js_for (passes_of rfl) rfl (ji_range1 rfl m_range (ja_cons je_int ja_nil)) (jg_name 14 sc__law_right.nd)
  (jb_cons (js_if (jt_cmp (op_neD hu) opd_ne (je_callCG c__law_raised hG (hr.mono (by decide)) rfl (takes_of rfl rfl rfl rfl) (ja_cons (je_var 14) (ja_cons (je_var 1) (ja_cons (je_var 3) (ja_cons (je_var 9) (ja_cons (je_var 12) ja_nil)))))) (je_var 11) (nomark _))
  (jb_one (js_ret je_bl))
  jb_nil)
  (jb_one (js_if (jt_cmp (op_neD hu) opd_ne (je_callCG c__law_raised hG (hr.mono (by decide)) rfl (takes_of rfl rfl rfl rfl) (ja_cons (je_var 14) (ja_cons (je_var 13) (ja_cons (je_var 3) (ja_cons (je_var 9) (ja_cons (je_var 12) ja_nil)))))) je_str (nomark _))
  (jb_one (js_ret je_bl))
  jb_nil)))))))))))
  (jb_one (js_ret je_bl))))))⟩
theorem sc_law : FnScope N_law P_law (defScope s_law) := ⟨rfl, rfl, rfl, by decide +kernel, rfl, by decide +kernel, by decide +kernel⟩
theorem d_law {C_Style : Addr} {P : Program} {wd : World} {K : PySem.W.Frag} {mg : Str → Option Value} {base : Heap} {f : Addr} {cdv : Value} {A : Around} {outer : List Env} {s : Shared} {H : Hp} {E : XK} (hG : (A.deeper (envOfC "law" (defScope s_law) s.heap.objs.size f cdv)).guards = some []) (hr : Room 19 (A.deeper (envOfC "law" (defScope s_law) s.heap.objs.size f cdv))) (m_len : mg "len" = none) (m_min : mg "min" = none) (m_max : mg "max" = none) (m_range : mg "range" = none) (c__law_feed : CalG P wd K mg base "_law_feed" s__law_feed 1 P__law_feed sp__law_feed) (m_int : mg "int" = none) (c__law_rows : CalG P wd K mg base "_law_rows" s__law_rows 3 P__law_rows sp__law_rows) (c__law_right : CalG P wd K mg base "_law_right" s__law_right 19 P__law_right sp__law_right) (c__law_look : CalG P wd K mg base "_law_look" s__law_look 2 P__law_look sp__law_look) (c__law_raised : CalG P wd K mg base "_law_raised" s__law_raised 18 P__law_raised (sp__law_raised C_Style)) (mk_Style___init___s1_gap_least : CtorK P wd K mg base C_Style 3 (["gap", "least"] : List Str) (pkS true 1 [0, 1, 2] [] (sp_Style___init__ C_Style))) (h_Style : mg "Style" = some (.ref C_Style)) :
    ∃ t, JB (cxOf (L2.CX P wd) P wd K mg base N_law "law" (defScope s_law) f cdv A outer s H E) (WD E) (defBody s_law) t (T_law C_Style) := by
  have hu : (A.deeper (envOfC "law" (defScope s_law) s.heap.objs.size f cdv)).units + 64 < cLine := hr.units
  exact ⟨_, (jb_cons (js_for (passes_of rfl) rfl (ji_range1 rfl m_range (ja_cons (je_callB (call_max2 rfl) cd_max2 rfl m_max (by decide +kernel) (ja_cons je_int (ja_cons (je_callB (call_min2 rfl) cd_min2 rfl m_min (by decide +kernel) (ja_cons je_int (ja_cons (je_callB call_lenA cd_len rfl m_len (by decide +kernel) (ja_cons (je_var 0) ja_nil)) ja_nil))) ja_nil))) ja_nil)) (jg_name 1 sc_law.nd)
  (jb_cons (js_set 2 sc_law.nd (je_callCG c__law_feed hG (hr.mono (by decide)) rfl (takes_of rfl rfl rfl rfl) (ja_cons (je_var 0) (ja_cons (je_var 1) ja_nil))))
  (jb_one (js_for (passes_of rfl) rfl (ji_list (je_lst (ja_cons (je_tup (ja_cons (je_ix ix_seq opd_ix (je_lst (ja_cons je_int (ja_cons je_int ja_nil))) (je_callTy call_int1 cd_int rfl m_int (by decide +kernel) (ja_cons (je_cmp op_gt opd_gt (je_var 1) je_int (nomark _)) ja_nil))) (ja_cons je_int ja_nil))) (ja_cons (je_tup (ja_cons je_int (ja_cons je_int ja_nil))) ja_nil)))) (jg_tup rfl (jgs_cons (jg_name 3 sc_law.nd) (jgs_cons (jg_name 4 sc_law.nd) jgs_nil)))
  (jb_cons (js_set 5 sc_law.nd (je_callCG c__law_rows hG (hr.mono (by decide)) rfl (takes_of rfl rfl rfl rfl) (ja_cons (je_var 2) (ja_cons (je_var 3) (ja_cons (je_var 4) ja_nil)))))
  (jb_one (js_if (jt_not (jt_val (je_callCG c__law_right hG (hr.mono (by decide)) rfl (takes_of rfl rfl rfl rfl) (ja_cons (je_var 2) (ja_cons (je_var 5) (ja_cons (je_callCG c__law_look hG (hr.mono (by decide)) rfl (takes_of rfl rfl rfl rfl) (ja_cons (je_var 2) ja_nil)) ja_nil))))))
  (jb_one (js_ret je_bl))
  jb_nil)))))))
  (jb_cons (js_setLc 6 (own := ([("_law_door", 7)] : List (Str × Nat))) finF finF_ok rfl sc_law.nd (ji_range1 rfl m_range (ja_cons je_int ja_nil)) (blkOk_by (N := N_law) (sc := defScope s_law) (by decide +kernel)) (fun _ _ _ _ _ => (jg_name 7 sc_law.nd)) (by exact (gk_name (vs := [7]) (i := 7))) (fun _ _ _ _ _ => jts_nil) (fun _ _ _ _ _ => (je_callCG c__law_raised hG (hr.mono (by decide)) rfl takes0 (ja_cons (je_var 7) (ja_cons (je_lst (ja_cons (je_lst (ja_cons je_int ja_nil)) (ja_cons (je_lst (ja_cons je_int (ja_cons je_int ja_nil))) ja_nil))) (ja_cons (je_fzI (je_makeA mk_Style___init___s1_gap_least h_Style hG (hr.mono (by decide)) rfl takes0 (jc_nil (ks := (["gap", "least"] : List Str)) (jk_cons je_int (jk_cons je_int jk_nil))))) (ja_cons je_int (ja_cons je_non ja_nil))))))))
  (jb_one (js_ret (je_cmp (op_eqD hu) opd_eq (je_var 6) (je_op op_mulA opd_mul (je_lst (ja_cons (je_lst (ja_cons je_str (ja_cons je_int ja_nil))) ja_nil)) je_int) (nomark _))))))⟩
end DL
namespace DL
open PySem PySem.Spec PyProof.Rows L2
theorem fun_one {K : PySem.W.Frag} {x : Str} {st : Stmt} {f : Addr} {fd fd2 : FuncData} (F : FunS K x st f fd) (F2 : FunS K x st f fd2) : fd = fd2 := by
  obtain ⟨⟨_, _, _, _, _, _, _, _, _, _, _, e, lk, _⟩, _⟩ := F
  obtain ⟨⟨_, _, _, _, _, _, _, _, _, _, _, e2, lk2, _⟩, _⟩ := F2
  rw [e] at e2
  cases e2
  rfl
theorem len_is_integer : ∀ ds S Φ Ψ, sp_is_integer ds S Φ Ψ → ds.length = (P_is_integer : List Str).length := by
  intro ds S Φ Ψ h
  repeat' (first | (obtain ⟨e, _⟩ := h; (rw [e]; rfl)) | (refine Or.elim h ?_ ?_ <;> clear h <;> intro h) | (obtain ⟨_, h⟩ := h))
theorem len_is_cell : ∀ ds S Φ Ψ, sp_is_cell ds S Φ Ψ → ds.length = (P_is_cell : List Str).length := by
  intro ds S Φ Ψ h
  repeat' (first | (obtain ⟨e, _⟩ := h; (rw [e]; rfl)) | (refine Or.elim h ?_ ?_ <;> clear h <;> intro h) | (obtain ⟨_, h⟩ := h))
theorem len_is_line : ∀ ds S Φ Ψ, sp_is_line ds S Φ Ψ → ds.length = (P_is_line : List Str).length := by
  intro ds S Φ Ψ h
  repeat' (first | (obtain ⟨e, _⟩ := h; (rw [e]; rfl)) | (refine Or.elim h ?_ ?_ <;> clear h <;> intro h) | (obtain ⟨_, h⟩ := h))
theorem len_is_table : ∀ ds S Φ Ψ, sp_is_table ds S Φ Ψ → ds.length = (P_is_table : List Str).length := by
  intro ds S Φ Ψ h
  repeat' (first | (obtain ⟨e, _⟩ := h; (rw [e]; rfl)) | (refine Or.elim h ?_ ?_ <;> clear h <;> intro h) | (obtain ⟨_, h⟩ := h))
theorem len_need_table {C_InvalidTable : Addr} : ∀ ds S Φ Ψ, (sp_need_table C_InvalidTable) ds S Φ Ψ → ds.length = (P_need_table : List Str).length := by
  intro ds S Φ Ψ h
  repeat' (first | (obtain ⟨e, _⟩ := h; (rw [e]; rfl)) | (refine Or.elim h ?_ ?_ <;> clear h <;> intro h) | (obtain ⟨_, h⟩ := h))
theorem len_edge_of {C_Style : Addr} (m : Nat) : ∀ ds S Φ Ψ, (sp_edge_of m C_Style) ds S Φ Ψ → ds.length = (P_edge_of : List Str).length := by
  intro ds S Φ Ψ h
  repeat' (first | (obtain ⟨e, _⟩ := h; (rw [e]; rfl)) | (refine Or.elim h ?_ ?_ <;> clear h <;> intro h) | (obtain ⟨_, h⟩ := h))
theorem len_require_room {C_InvalidTable C_InvalidWidth C_TooNarrow C_Style : Addr} : ∀ ds S Φ Ψ, (sp_require_room C_InvalidTable C_InvalidWidth C_TooNarrow C_Style) ds S Φ Ψ → ds.length = (P_require_room : List Str).length := by
  intro ds S Φ Ψ h
  repeat' (first | (obtain ⟨e, _⟩ := h; (rw [e]; rfl)) | (refine Or.elim h ?_ ?_ <;> clear h <;> intro h) | (obtain ⟨_, h⟩ := h))
theorem len_wide_stretches {C_Style : Addr} : ∀ ds S Φ Ψ, (sp_wide_stretches C_Style) ds S Φ Ψ → ds.length = (P_wide_stretches : List Str).length := by
  intro ds S Φ Ψ h
  repeat' (first | (obtain ⟨e, _⟩ := h; (rw [e]; rfl)) | (refine Or.elim h ?_ ?_ <;> clear h <;> intro h) | (obtain ⟨_, h⟩ := h))
theorem len_stretches {C_InvalidTable C_InvalidWidth C_TooNarrow C_Style : Addr} : ∀ ds S Φ Ψ, (sp_stretches C_InvalidTable C_InvalidWidth C_TooNarrow C_Style) ds S Φ Ψ → ds.length = (P_stretches : List Str).length := by
  intro ds S Φ Ψ h
  repeat' (first | (obtain ⟨e, _⟩ := h; (rw [e]; rfl)) | (refine Or.elim h ?_ ?_ <;> clear h <;> intro h) | (obtain ⟨_, h⟩ := h))
theorem len_partings {C_InvalidTable C_InvalidWidth C_TooNarrow C_Style : Addr} : ∀ ds S Φ Ψ, (sp_partings C_InvalidTable C_InvalidWidth C_TooNarrow C_Style) ds S Φ Ψ → ds.length = (P_partings : List Str).length := by
  intro ds S Φ Ψ h
  repeat' (first | (obtain ⟨e, _⟩ := h; (rw [e]; rfl)) | (refine Or.elim h ?_ ?_ <;> clear h <;> intro h) | (obtain ⟨_, h⟩ := h))
theorem len_fewest_lines {C_InvalidTable C_InvalidWidth C_TooNarrow C_Style : Addr} : ∀ ds S Φ Ψ, (sp_fewest_lines C_InvalidTable C_InvalidWidth C_TooNarrow C_Style) ds S Φ Ψ → ds.length = (P_fewest_lines : List Str).length := by
  intro ds S Φ Ψ h
  repeat' (first | (obtain ⟨e, _⟩ := h; (rw [e]; rfl)) | (refine Or.elim h ?_ ?_ <;> clear h <;> intro h) | (obtain ⟨_, h⟩ := h))
theorem len_is_stretch : ∀ ds S Φ Ψ, sp_is_stretch ds S Φ Ψ → ds.length = (P_is_stretch : List Str).length := by
  intro ds S Φ Ψ h
  repeat' (first | (obtain ⟨e, _⟩ := h; (rw [e]; rfl)) | (refine Or.elim h ?_ ?_ <;> clear h <;> intro h) | (obtain ⟨_, h⟩ := h))
theorem len_shows_lines {C_InvalidTable C_InvalidWidth C_TooNarrow C_Style : Addr} : ∀ ds S Φ Ψ, (sp_shows_lines C_InvalidTable C_InvalidWidth C_TooNarrow C_Style) ds S Φ Ψ → ds.length = (P_shows_lines : List Str).length := by
  intro ds S Φ Ψ h
  repeat' (first | (obtain ⟨e, _⟩ := h; (rw [e]; rfl)) | (refine Or.elim h ?_ ?_ <;> clear h <;> intro h) | (obtain ⟨_, h⟩ := h))
theorem len_are_kinds : ∀ ds S Φ Ψ, sp_are_kinds ds S Φ Ψ → ds.length = (P_are_kinds : List Str).length := by
  intro ds S Φ Ψ h
  repeat' (first | (obtain ⟨e, _⟩ := h; (rw [e]; rfl)) | (refine Or.elim h ?_ ?_ <;> clear h <;> intro h) | (obtain ⟨_, h⟩ := h))
theorem len_Style___init__ {C_Style : Addr} : ∀ ds S Φ Ψ, (sp_Style___init__ C_Style) ds S Φ Ψ → ds.length = (P_Style___init__ : List Str).length := by
  intro ds S Φ Ψ h
  repeat' (first | (obtain ⟨e, _⟩ := h; (rw [e]; rfl)) | (refine Or.elim h ?_ ?_ <;> clear h <;> intro h) | (obtain ⟨_, h⟩ := h))
theorem len_Style_of {C_Style : Addr} : ∀ ds S Φ Ψ, (sp_Style_of C_Style) ds S Φ Ψ → ds.length = (P_Style_of : List Str).length := by
  intro ds S Φ Ψ h
  repeat' (first | (obtain ⟨e, _⟩ := h; (rw [e]; rfl)) | (refine Or.elim h ?_ ?_ <;> clear h <;> intro h) | (obtain ⟨_, h⟩ := h))
theorem len_Style_gap {C_Style : Addr} : ∀ ds S Φ Ψ, (sp_Style_gap C_Style) ds S Φ Ψ → ds.length = (P_Style_gap : List Str).length := by
  intro ds S Φ Ψ h
  repeat' (first | (obtain ⟨e, _⟩ := h; (rw [e]; rfl)) | (refine Or.elim h ?_ ?_ <;> clear h <;> intro h) | (obtain ⟨_, h⟩ := h))
theorem len_Style_least {C_Style : Addr} : ∀ ds S Φ Ψ, (sp_Style_least C_Style) ds S Φ Ψ → ds.length = (P_Style_least : List Str).length := by
  intro ds S Φ Ψ h
  repeat' (first | (obtain ⟨e, _⟩ := h; (rw [e]; rfl)) | (refine Or.elim h ?_ ?_ <;> clear h <;> intro h) | (obtain ⟨_, h⟩ := h))
theorem len__law_feed : ∀ ds S Φ Ψ, sp__law_feed ds S Φ Ψ → ds.length = (P__law_feed : List Str).length := by
  intro ds S Φ Ψ h
  repeat' (first | (obtain ⟨e, _⟩ := h; (rw [e]; rfl)) | (refine Or.elim h ?_ ?_ <;> clear h <;> intro h) | (obtain ⟨_, h⟩ := h))
theorem len__law_pick : ∀ ds S Φ Ψ, sp__law_pick ds S Φ Ψ → ds.length = (P__law_pick : List Str).length := by
  intro ds S Φ Ψ h
  repeat' (first | (obtain ⟨e, _⟩ := h; (rw [e]; rfl)) | (refine Or.elim h ?_ ?_ <;> clear h <;> intro h) | (obtain ⟨_, h⟩ := h))
theorem len__law_lengths : ∀ ds S Φ Ψ, sp__law_lengths ds S Φ Ψ → ds.length = (P__law_lengths : List Str).length := by
  intro ds S Φ Ψ h
  repeat' (first | (obtain ⟨e, _⟩ := h; (rw [e]; rfl)) | (refine Or.elim h ?_ ?_ <;> clear h <;> intro h) | (obtain ⟨_, h⟩ := h))
theorem len__law_rows : ∀ ds S Φ Ψ, sp__law_rows ds S Φ Ψ → ds.length = (P__law_rows : List Str).length := by
  intro ds S Φ Ψ h
  repeat' (first | (obtain ⟨e, _⟩ := h; (rw [e]; rfl)) | (refine Or.elim h ?_ ?_ <;> clear h <;> intro h) | (obtain ⟨_, h⟩ := h))
theorem len__law_look : ∀ ds S Φ Ψ, sp__law_look ds S Φ Ψ → ds.length = (P__law_look : List Str).length := by
  intro ds S Φ Ψ h
  repeat' (first | (obtain ⟨e, _⟩ := h; (rw [e]; rfl)) | (refine Or.elim h ?_ ?_ <;> clear h <;> intro h) | (obtain ⟨_, h⟩ := h))
theorem len__law_groups : ∀ ds S Φ Ψ, sp__law_groups ds S Φ Ψ → ds.length = (P__law_groups : List Str).length := by
  intro ds S Φ Ψ h
  repeat' (first | (obtain ⟨e, _⟩ := h; (rw [e]; rfl)) | (refine Or.elim h ?_ ?_ <;> clear h <;> intro h) | (obtain ⟨_, h⟩ := h))
theorem len__law_stops : ∀ ds S Φ Ψ, sp__law_stops ds S Φ Ψ → ds.length = (P__law_stops : List Str).length := by
  intro ds S Φ Ψ h
  repeat' (first | (obtain ⟨e, _⟩ := h; (rw [e]; rfl)) | (refine Or.elim h ?_ ?_ <;> clear h <;> intro h) | (obtain ⟨_, h⟩ := h))
theorem len__law_width : ∀ ds S Φ Ψ, sp__law_width ds S Φ Ψ → ds.length = (P__law_width : List Str).length := by
  intro ds S Φ Ψ h
  repeat' (first | (obtain ⟨e, _⟩ := h; (rw [e]; rfl)) | (refine Or.elim h ?_ ?_ <;> clear h <;> intro h) | (obtain ⟨_, h⟩ := h))
theorem len__law_class {C_InvalidTable C_InvalidWidth C_TooNarrow : Addr} : ∀ ds S Φ Ψ, (sp__law_class C_InvalidTable C_InvalidWidth C_TooNarrow) ds S Φ Ψ → ds.length = (P__law_class : List Str).length := by
  intro ds S Φ Ψ h
  repeat' (first | (obtain ⟨e, _⟩ := h; (rw [e]; rfl)) | (refine Or.elim h ?_ ?_ <;> clear h <;> intro h) | (obtain ⟨_, h⟩ := h))
theorem len__law_raised {C_Style : Addr} : ∀ ds S Φ Ψ, (sp__law_raised C_Style) ds S Φ Ψ → ds.length = (P__law_raised : List Str).length := by
  intro ds S Φ Ψ h
  repeat' (first | (obtain ⟨e, _⟩ := h; (rw [e]; rfl)) | (refine Or.elim h ?_ ?_ <;> clear h <;> intro h) | (obtain ⟨_, h⟩ := h))
theorem len__law_no_tables : ∀ ds S Φ Ψ, sp__law_no_tables ds S Φ Ψ → ds.length = (P__law_no_tables : List Str).length := by
  intro ds S Φ Ψ h
  repeat' (first | (obtain ⟨e, _⟩ := h; (rw [e]; rfl)) | (refine Or.elim h ?_ ?_ <;> clear h <;> intro h) | (obtain ⟨_, h⟩ := h))
theorem len__law_right : ∀ ds S Φ Ψ, sp__law_right ds S Φ Ψ → ds.length = (P__law_right : List Str).length := by
  intro ds S Φ Ψ h
  repeat' (first | (obtain ⟨e, _⟩ := h; (rw [e]; rfl)) | (refine Or.elim h ?_ ?_ <;> clear h <;> intro h) | (obtain ⟨_, h⟩ := h))
theorem len_law : ∀ ds S Φ Ψ, sp_law ds S Φ Ψ → ds.length = (P_law : List Str).length := by
  intro ds S Φ Ψ h
  repeat' (first | (obtain ⟨e, _⟩ := h; (rw [e]; rfl)) | (refine Or.elim h ?_ ?_ <;> clear h <;> intro h) | (obtain ⟨_, h⟩ := h))
theorem factsL {P : Program} {wd : World} {K : PySem.W.Frag} {h : Heap} {mg : Str → Option Value} {f : Addr} (X : K.In h) (G : h.Ns mainGlobals mg) (hfa : mg ("law" : Str) = some (.ref f)) (c : SaysX faL fnL K) :
    ∃ fd : FuncData, (∀ (s : Shared) (v : Value), BindsTo s fd ⟨[v], []⟩ [("_law_script", v)]) ∧ ∀ base : Heap, K.In base → base.Ns mainGlobals mg → FnOkG P wd K mg base (L2.CX P wd) 20 f fd ["_law_script"] (spOf K sp_law) := by
  have t_is_integer : Tx K mg "is_integer" s_is_integer := ⟨let ⟨fd, F⟩ := c.def_ 0 (d := dd_is_integer) rfl; ⟨_, fd, F, He.glo_ok X G (c.fact 0 (f := (fun K => (He.Fa.glo "is_integer").ok K)) rfl)⟩⟩
  have t_is_cell : Tx K mg "is_cell" s_is_cell := ⟨let ⟨fd, F⟩ := c.def_ 1 (d := dd_is_cell) rfl; ⟨_, fd, F, He.glo_ok X G (c.fact 1 (f := (fun K => (He.Fa.glo "is_cell").ok K)) rfl)⟩⟩
  have t_is_line : Tx K mg "is_line" s_is_line := ⟨let ⟨fd, F⟩ := c.def_ 2 (d := dd_is_line) rfl; ⟨_, fd, F, He.glo_ok X G (c.fact 2 (f := (fun K => (He.Fa.glo "is_line").ok K)) rfl)⟩⟩
  have t_is_table : Tx K mg "is_table" s_is_table := ⟨let ⟨fd, F⟩ := c.def_ 3 (d := dd_is_table) rfl; ⟨_, fd, F, He.glo_ok X G (c.fact 3 (f := (fun K => (He.Fa.glo "is_table").ok K)) rfl)⟩⟩
  have t_need_table : Tx K mg "need_table" s_need_table := ⟨let ⟨fd, F⟩ := c.def_ 4 (d := dd_need_table) rfl; ⟨_, fd, F, He.glo_ok X G (c.fact 4 (f := (fun K => (He.Fa.glo "need_table").ok K)) rfl)⟩⟩
  have t_edge_of : Tx K mg "edge_of" s_edge_of := ⟨let ⟨fd, F⟩ := c.def_ 5 (d := dd_edge_of) rfl; ⟨_, fd, F, He.glo_ok X G (c.fact 5 (f := (fun K => (He.Fa.glo "edge_of").ok K)) rfl)⟩⟩
  have t_require_room : Tx K mg "require_room" s_require_room := ⟨let ⟨fd, F⟩ := c.def_ 6 (d := dd_require_room) rfl; ⟨_, fd, F, He.glo_ok X G (c.fact 6 (f := (fun K => (He.Fa.glo "require_room").ok K)) rfl)⟩⟩
  have t_wide_stretches : Tx K mg "wide_stretches" s_wide_stretches := ⟨let ⟨fd, F⟩ := c.def_ 7 (d := dd_wide_stretches) rfl; ⟨_, fd, F, He.glo_ok X G (c.fact 7 (f := (fun K => (He.Fa.glo "wide_stretches").ok K)) rfl)⟩⟩
  have t_stretches : Tx K mg "stretches" s_stretches := ⟨let ⟨fd, F⟩ := c.def_ 8 (d := dd_stretches) rfl; ⟨_, fd, F, He.glo_ok X G (c.fact 8 (f := (fun K => (He.Fa.glo "stretches").ok K)) rfl)⟩⟩
  have t_partings : Tx K mg "partings" s_partings := ⟨let ⟨fd, F⟩ := c.def_ 9 (d := dd_partings) rfl; ⟨_, fd, F, He.glo_ok X G (c.fact 9 (f := (fun K => (He.Fa.glo "partings").ok K)) rfl)⟩⟩
  have t_fewest_lines : Tx K mg "fewest_lines" s_fewest_lines := ⟨let ⟨fd, F⟩ := c.def_ 10 (d := dd_fewest_lines) rfl; ⟨_, fd, F, He.glo_ok X G (c.fact 10 (f := (fun K => (He.Fa.glo "fewest_lines").ok K)) rfl)⟩⟩
  have t_is_stretch : Tx K mg "is_stretch" s_is_stretch := ⟨let ⟨fd, F⟩ := c.def_ 11 (d := dd_is_stretch) rfl; ⟨_, fd, F, He.glo_ok X G (c.fact 11 (f := (fun K => (He.Fa.glo "is_stretch").ok K)) rfl)⟩⟩
  have t_shows_lines : Tx K mg "shows_lines" s_shows_lines := ⟨let ⟨fd, F⟩ := c.def_ 12 (d := dd_shows_lines) rfl; ⟨_, fd, F, He.glo_ok X G (c.fact 12 (f := (fun K => (He.Fa.glo "shows_lines").ok K)) rfl)⟩⟩
  have t_are_kinds : Tx K mg "are_kinds" s_are_kinds := ⟨let ⟨fd, F⟩ := c.def_ 13 (d := dd_are_kinds) rfl; ⟨_, fd, F, He.glo_ok X G (c.fact 13 (f := (fun K => (He.Fa.glo "are_kinds").ok K)) rfl)⟩⟩
  have t__law_feed : Tx K mg "_law_feed" s__law_feed := ⟨let ⟨fd, F⟩ := c.def_ 18 (d := dd__law_feed) rfl; ⟨_, fd, F, He.glo_ok X G (c.fact 14 (f := (fun K => (He.Fa.glo "_law_feed").ok K)) rfl)⟩⟩
  have t__law_pick : Tx K mg "_law_pick" s__law_pick := ⟨let ⟨fd, F⟩ := c.def_ 19 (d := dd__law_pick) rfl; ⟨_, fd, F, He.glo_ok X G (c.fact 15 (f := (fun K => (He.Fa.glo "_law_pick").ok K)) rfl)⟩⟩
  have t__law_lengths : Tx K mg "_law_lengths" s__law_lengths := ⟨let ⟨fd, F⟩ := c.def_ 20 (d := dd__law_lengths) rfl; ⟨_, fd, F, He.glo_ok X G (c.fact 16 (f := (fun K => (He.Fa.glo "_law_lengths").ok K)) rfl)⟩⟩
  have t__law_rows : Tx K mg "_law_rows" s__law_rows := ⟨let ⟨fd, F⟩ := c.def_ 21 (d := dd__law_rows) rfl; ⟨_, fd, F, He.glo_ok X G (c.fact 17 (f := (fun K => (He.Fa.glo "_law_rows").ok K)) rfl)⟩⟩
  have t__law_look : Tx K mg "_law_look" s__law_look := ⟨let ⟨fd, F⟩ := c.def_ 22 (d := dd__law_look) rfl; ⟨_, fd, F, He.glo_ok X G (c.fact 18 (f := (fun K => (He.Fa.glo "_law_look").ok K)) rfl)⟩⟩
  have t__law_groups : Tx K mg "_law_groups" s__law_groups := ⟨let ⟨fd, F⟩ := c.def_ 23 (d := dd__law_groups) rfl; ⟨_, fd, F, He.glo_ok X G (c.fact 19 (f := (fun K => (He.Fa.glo "_law_groups").ok K)) rfl)⟩⟩
  have t__law_stops : Tx K mg "_law_stops" s__law_stops := ⟨let ⟨fd, F⟩ := c.def_ 24 (d := dd__law_stops) rfl; ⟨_, fd, F, He.glo_ok X G (c.fact 20 (f := (fun K => (He.Fa.glo "_law_stops").ok K)) rfl)⟩⟩
  have t__law_width : Tx K mg "_law_width" s__law_width := ⟨let ⟨fd, F⟩ := c.def_ 25 (d := dd__law_width) rfl; ⟨_, fd, F, He.glo_ok X G (c.fact 21 (f := (fun K => (He.Fa.glo "_law_width").ok K)) rfl)⟩⟩
  have t__law_class : Tx K mg "_law_class" s__law_class := ⟨let ⟨fd, F⟩ := c.def_ 26 (d := dd__law_class) rfl; ⟨_, fd, F, He.glo_ok X G (c.fact 22 (f := (fun K => (He.Fa.glo "_law_class").ok K)) rfl)⟩⟩
  have t__law_raised : Tx K mg "_law_raised" s__law_raised := ⟨let ⟨fd, F⟩ := c.def_ 27 (d := dd__law_raised) rfl; ⟨_, fd, F, He.glo_ok X G (c.fact 23 (f := (fun K => (He.Fa.glo "_law_raised").ok K)) rfl)⟩⟩
  have t__law_no_tables : Tx K mg "_law_no_tables" s__law_no_tables := ⟨let ⟨fd, F⟩ := c.def_ 28 (d := dd__law_no_tables) rfl; ⟨_, fd, F, He.glo_ok X G (c.fact 24 (f := (fun K => (He.Fa.glo "_law_no_tables").ok K)) rfl)⟩⟩
  have t__law_right : Tx K mg "_law_right" s__law_right := ⟨let ⟨fd, F⟩ := c.def_ 29 (d := dd__law_right) rfl; ⟨_, fd, F, He.glo_ok X G (c.fact 25 (f := (fun K => (He.Fa.glo "_law_right").ok K)) rfl)⟩⟩
  have t_law : Tx K mg "law" s_law := ⟨let ⟨fd, F⟩ := c.def_ 30 (d := dd_law) rfl; ⟨_, fd, F, He.glo_ok X G (c.fact 26 (f := (fun K => (He.Fa.glo "law").ok K)) rfl)⟩⟩
  have m_int := He.free_ok X G (c.fact 34 (f := (fun K => (He.Fa.free "int").ok K)) rfl)
  have m_isinstance := He.free_ok X G (c.fact 35 (f := (fun K => (He.Fa.free "isinstance").ok K)) rfl)
  have m_bool := He.free_ok X G (c.fact 36 (f := (fun K => (He.Fa.free "bool").ok K)) rfl)
  have g_MOST_CELL := He.int_ok X G (c.fact 37 (f := (fun K => (He.Fa.int "MOST_CELL" 1000000000000000000000000000000).ok K)) rfl)
  have m_list := He.free_ok X G (c.fact 38 (f := (fun K => (He.Fa.free "list").ok K)) rfl)
  have m_len := He.free_ok X G (c.fact 39 (f := (fun K => (He.Fa.free "len").ok K)) rfl)
  have g_MOST_CELLS := He.int_ok X G (c.fact 40 (f := (fun K => (He.Fa.int "MOST_CELLS" 12).ok K)) rfl)
  have m_all := He.free_ok X G (c.fact 41 (f := (fun K => (He.Fa.free "all").ok K)) rfl)
  have g_MOST_LINES := He.int_ok X G (c.fact 42 (f := (fun K => (He.Fa.int "MOST_LINES" 60).ok K)) rfl)
  have e_InvalidTable : ExcF K mg "InvalidTable" (He.ga K "InvalidTable") := let ⟨a, b, d, e⟩ := He.exc_ok (c.fact 44 (f := (fun K => (He.Fa.exc "InvalidTable").ok K)) rfl); ⟨a, He.glo_ok X G (c.fact 43 (f := (fun K => (He.Fa.glo "InvalidTable").ok K)) rfl), b, d, e⟩
  have m_max := He.free_ok X G (c.fact 45 (f := (fun K => (He.Fa.free "max").ok K)) rfl)
  have e_InvalidWidth : ExcF K mg "InvalidWidth" (He.ga K "InvalidWidth") := let ⟨a, b, d, e⟩ := He.exc_ok (c.fact 50 (f := (fun K => (He.Fa.exc "InvalidWidth").ok K)) rfl); ⟨a, He.glo_ok X G (c.fact 49 (f := (fun K => (He.Fa.glo "InvalidWidth").ok K)) rfl), b, d, e⟩
  have m_range := He.free_ok X G (c.fact 51 (f := (fun K => (He.Fa.free "range").ok K)) rfl)
  have m_tuple := He.free_ok X G (c.fact 52 (f := (fun K => (He.Fa.free "tuple").ok K)) rfl)
  have m_sorted := He.free_ok X G (c.fact 53 (f := (fun K => (He.Fa.free "sorted").ok K)) rfl)
  have g_MOST_KINDS := He.int_ok X G (c.fact 54 (f := (fun K => (He.Fa.int "MOST_KINDS" 12).ok K)) rfl)
  have m_str := He.free_ok X G (c.fact 55 (f := (fun K => (He.Fa.free "str").ok K)) rfl)
  have h_Kind := He.glo_ok X G (c.fact 56 (f := (fun K => (He.Fa.glo "Kind").ok K)) rfl)
  have cv_NAMES : ∀ q ∈ ((conNAMES (He.ga K "Kind")) : List (Addr × D)), CValF K q.1 "NAMES" q.2 := by
    intro q hq
    simp only [conNAMES, List.mem_cons, List.not_mem_nil, or_false] at hq
    subst hq
    exact bCVT_ok (c.fact 57 (f := (bCVT "Kind" "NAMES" ["left", "right", "center"])) rfl)
  have g_LEFT := He.str_ok X G (c.fact 58 (f := (fun K => (He.Fa.str "LEFT" "left").ok K)) rfl)
  have e_InvalidStyle : ExcF K mg "InvalidStyle" (He.ga K "InvalidStyle") := let ⟨a, b, d, e⟩ := He.exc_ok (c.fact 60 (f := (fun K => (He.Fa.exc "InvalidStyle").ok K)) rfl); ⟨a, He.glo_ok X G (c.fact 59 (f := (fun K => (He.Fa.glo "InvalidStyle").ok K)) rfl), b, d, e⟩
  have cl_Style := He.cls_ok (c.fact 46 (f := (fun K => (He.Fa.cls "Style").ok K)) rfl)
  have na_Style_held_kinds := He.noat_ok (c.fact 61 (f := (fun K => (He.Fa.noat "Style" "held_kinds").ok K)) rfl)
  have na_Style_held_gap := He.noat_ok (c.fact 62 (f := (fun K => (He.Fa.noat "Style" "held_gap").ok K)) rfl)
  have na_Style_held_least := He.noat_ok (c.fact 63 (f := (fun K => (He.Fa.noat "Style" "held_least").ok K)) rfl)
  have m_abs := He.free_ok X G (c.fact 65 (f := (fun K => (He.Fa.free "abs").ok K)) rfl)
  have m_min := He.free_ok X G (c.fact 66 (f := (fun K => (He.Fa.free "min").ok K)) rfl)
  have m_zip := He.free_ok X G (c.fact 67 (f := (fun K => (He.Fa.free "zip").ok K)) rfl)
  have h_TooNarrow := He.glo_ok X G (c.fact 27 (f := (fun K => (He.Fa.glo "TooNarrow").ok K)) rfl)
  have xt : ∀ q ∈ ((xtabD (He.ga K "InvalidTable") (He.ga K "InvalidWidth") (He.ga K "TooNarrow") (He.ga K "InvalidBlock") (He.ga K "InvalidNumber") (He.ga K "InvalidSights") (He.ga K "InvalidStyle") (He.ga K "InvalidTabs") (He.ga K "InvalidText") (He.ga K "InvalidCell") (He.ga K "InvalidColumn") (He.ga K "InvalidLine") (He.ga K "NothingToUndo") (He.ga K "NotPossible")) : List (Addr × D × Bool)), IsXF K q := by
    intro q hq
    simp only [xtabD, List.mem_cons, List.not_mem_nil, or_false] at hq
    rcases hq with rfl | rfl | rfl | rfl | rfl | rfl | rfl | rfl | rfl | rfl | rfl | rfl | rfl | rfl | rfl | rfl | rfl | rfl | rfl | rfl | rfl | rfl | rfl | rfl | rfl | rfl | rfl | rfl | rfl | rfl | rfl | rfl | rfl | rfl | rfl | rfl | rfl | rfl | rfl | rfl | rfl | rfl | rfl | rfl | rfl
    · exact isx_own (c.fact 68 (f := (bExT "InvalidTable")) rfl) (c.fact 69 (f := (bKit "InvalidTable" "InvalidTable" true)) rfl)
    · exact isx_own (c.fact 68 (f := (bExT "InvalidTable")) rfl) (c.fact 70 (f := (bKit "InvalidTable" "InvalidWidth" false)) rfl)
    · exact isx_own (c.fact 68 (f := (bExT "InvalidTable")) rfl) (c.fact 71 (f := (bKit "InvalidTable" "TooNarrow" false)) rfl)
    · exact isx_own (c.fact 68 (f := (bExT "InvalidTable")) rfl) (c.fact 72 (f := (bKit "InvalidTable" "InvalidBlock" false)) rfl)
    · exact isx_own (c.fact 68 (f := (bExT "InvalidTable")) rfl) (c.fact 73 (f := (bKit "InvalidTable" "InvalidNumber" false)) rfl)
    · exact isx_own (c.fact 68 (f := (bExT "InvalidTable")) rfl) (c.fact 74 (f := (bKit "InvalidTable" "InvalidSights" false)) rfl)
    · exact isx_own (c.fact 68 (f := (bExT "InvalidTable")) rfl) (c.fact 75 (f := (bKit "InvalidTable" "InvalidStyle" false)) rfl)
    · exact isx_own (c.fact 68 (f := (bExT "InvalidTable")) rfl) (c.fact 76 (f := (bKit "InvalidTable" "InvalidTabs" false)) rfl)
    · exact isx_own (c.fact 68 (f := (bExT "InvalidTable")) rfl) (c.fact 77 (f := (bKit "InvalidTable" "InvalidText" false)) rfl)
    · exact isx_own (c.fact 68 (f := (bExT "InvalidTable")) rfl) (c.fact 78 (f := (bKit "InvalidTable" "InvalidCell" false)) rfl)
    · exact isx_own (c.fact 68 (f := (bExT "InvalidTable")) rfl) (c.fact 79 (f := (bKit "InvalidTable" "InvalidColumn" false)) rfl)
    · exact isx_own (c.fact 68 (f := (bExT "InvalidTable")) rfl) (c.fact 80 (f := (bKit "InvalidTable" "InvalidLine" false)) rfl)
    · exact isx_own (c.fact 68 (f := (bExT "InvalidTable")) rfl) (c.fact 81 (f := (bKit "InvalidTable" "NothingToUndo" false)) rfl)
    · exact isx_own (c.fact 68 (f := (bExT "InvalidTable")) rfl) (c.fact 82 (f := (bKit "InvalidTable" "NotPossible" false)) rfl)
    · exact isx_ty (c.fact 68 (f := (bExT "InvalidTable")) rfl) (c.fact 83 (f := (bKitT "InvalidTable" "ValueError" true)) rfl)
    · exact isx_own (c.fact 84 (f := (bExT "InvalidWidth")) rfl) (c.fact 85 (f := (bKit "InvalidWidth" "InvalidTable" false)) rfl)
    · exact isx_own (c.fact 84 (f := (bExT "InvalidWidth")) rfl) (c.fact 86 (f := (bKit "InvalidWidth" "InvalidWidth" true)) rfl)
    · exact isx_own (c.fact 84 (f := (bExT "InvalidWidth")) rfl) (c.fact 87 (f := (bKit "InvalidWidth" "TooNarrow" false)) rfl)
    · exact isx_own (c.fact 84 (f := (bExT "InvalidWidth")) rfl) (c.fact 88 (f := (bKit "InvalidWidth" "InvalidBlock" false)) rfl)
    · exact isx_own (c.fact 84 (f := (bExT "InvalidWidth")) rfl) (c.fact 89 (f := (bKit "InvalidWidth" "InvalidNumber" false)) rfl)
    · exact isx_own (c.fact 84 (f := (bExT "InvalidWidth")) rfl) (c.fact 90 (f := (bKit "InvalidWidth" "InvalidSights" false)) rfl)
    · exact isx_own (c.fact 84 (f := (bExT "InvalidWidth")) rfl) (c.fact 91 (f := (bKit "InvalidWidth" "InvalidStyle" false)) rfl)
    · exact isx_own (c.fact 84 (f := (bExT "InvalidWidth")) rfl) (c.fact 92 (f := (bKit "InvalidWidth" "InvalidTabs" false)) rfl)
    · exact isx_own (c.fact 84 (f := (bExT "InvalidWidth")) rfl) (c.fact 93 (f := (bKit "InvalidWidth" "InvalidText" false)) rfl)
    · exact isx_own (c.fact 84 (f := (bExT "InvalidWidth")) rfl) (c.fact 94 (f := (bKit "InvalidWidth" "InvalidCell" false)) rfl)
    · exact isx_own (c.fact 84 (f := (bExT "InvalidWidth")) rfl) (c.fact 95 (f := (bKit "InvalidWidth" "InvalidColumn" false)) rfl)
    · exact isx_own (c.fact 84 (f := (bExT "InvalidWidth")) rfl) (c.fact 96 (f := (bKit "InvalidWidth" "InvalidLine" false)) rfl)
    · exact isx_own (c.fact 84 (f := (bExT "InvalidWidth")) rfl) (c.fact 97 (f := (bKit "InvalidWidth" "NothingToUndo" false)) rfl)
    · exact isx_own (c.fact 84 (f := (bExT "InvalidWidth")) rfl) (c.fact 98 (f := (bKit "InvalidWidth" "NotPossible" false)) rfl)
    · exact isx_ty (c.fact 84 (f := (bExT "InvalidWidth")) rfl) (c.fact 99 (f := (bKitT "InvalidWidth" "ValueError" true)) rfl)
    · exact isx_own (c.fact 100 (f := (bExT "TooNarrow")) rfl) (c.fact 101 (f := (bKit "TooNarrow" "InvalidTable" false)) rfl)
    · exact isx_own (c.fact 100 (f := (bExT "TooNarrow")) rfl) (c.fact 102 (f := (bKit "TooNarrow" "InvalidWidth" false)) rfl)
    · exact isx_own (c.fact 100 (f := (bExT "TooNarrow")) rfl) (c.fact 103 (f := (bKit "TooNarrow" "TooNarrow" true)) rfl)
    · exact isx_own (c.fact 100 (f := (bExT "TooNarrow")) rfl) (c.fact 104 (f := (bKit "TooNarrow" "InvalidBlock" false)) rfl)
    · exact isx_own (c.fact 100 (f := (bExT "TooNarrow")) rfl) (c.fact 105 (f := (bKit "TooNarrow" "InvalidNumber" false)) rfl)
    · exact isx_own (c.fact 100 (f := (bExT "TooNarrow")) rfl) (c.fact 106 (f := (bKit "TooNarrow" "InvalidSights" false)) rfl)
    · exact isx_own (c.fact 100 (f := (bExT "TooNarrow")) rfl) (c.fact 107 (f := (bKit "TooNarrow" "InvalidStyle" false)) rfl)
    · exact isx_own (c.fact 100 (f := (bExT "TooNarrow")) rfl) (c.fact 108 (f := (bKit "TooNarrow" "InvalidTabs" false)) rfl)
    · exact isx_own (c.fact 100 (f := (bExT "TooNarrow")) rfl) (c.fact 109 (f := (bKit "TooNarrow" "InvalidText" false)) rfl)
    · exact isx_own (c.fact 100 (f := (bExT "TooNarrow")) rfl) (c.fact 110 (f := (bKit "TooNarrow" "InvalidCell" false)) rfl)
    · exact isx_own (c.fact 100 (f := (bExT "TooNarrow")) rfl) (c.fact 111 (f := (bKit "TooNarrow" "InvalidColumn" false)) rfl)
    · exact isx_own (c.fact 100 (f := (bExT "TooNarrow")) rfl) (c.fact 112 (f := (bKit "TooNarrow" "InvalidLine" false)) rfl)
    · exact isx_own (c.fact 100 (f := (bExT "TooNarrow")) rfl) (c.fact 113 (f := (bKit "TooNarrow" "NothingToUndo" false)) rfl)
    · exact isx_own (c.fact 100 (f := (bExT "TooNarrow")) rfl) (c.fact 114 (f := (bKit "TooNarrow" "NotPossible" false)) rfl)
    · exact isx_ty (c.fact 100 (f := (bExT "TooNarrow")) rfl) (c.fact 115 (f := (bKitT "TooNarrow" "ValueError" true)) rfl)
  have h_InvalidWidth := He.glo_ok X G (c.fact 49 (f := (fun K => (He.Fa.glo "InvalidWidth").ok K)) rfl)
  have h_InvalidTable := He.glo_ok X G (c.fact 43 (f := (fun K => (He.Fa.glo "InvalidTable").ok K)) rfl)
  have h_InvalidText := He.glo_ok X G (c.fact 116 (f := (fun K => (He.Fa.glo "InvalidText").ok K)) rfl)
  have h_InvalidTabs := He.glo_ok X G (c.fact 117 (f := (fun K => (He.Fa.glo "InvalidTabs").ok K)) rfl)
  have h_InvalidStyle := He.glo_ok X G (c.fact 59 (f := (fun K => (He.Fa.glo "InvalidStyle").ok K)) rfl)
  have h_InvalidSights := He.glo_ok X G (c.fact 118 (f := (fun K => (He.Fa.glo "InvalidSights").ok K)) rfl)
  have h_InvalidNumber := He.glo_ok X G (c.fact 119 (f := (fun K => (He.Fa.glo "InvalidNumber").ok K)) rfl)
  have h_InvalidBlock := He.glo_ok X G (c.fact 120 (f := (fun K => (He.Fa.glo "InvalidBlock").ok K)) rfl)
  have h_NotPossible := He.glo_ok X G (c.fact 121 (f := (fun K => (He.Fa.glo "NotPossible").ok K)) rfl)
  have h_NothingToUndo := He.glo_ok X G (c.fact 122 (f := (fun K => (He.Fa.glo "NothingToUndo").ok K)) rfl)
  have h_InvalidLine := He.glo_ok X G (c.fact 123 (f := (fun K => (He.Fa.glo "InvalidLine").ok K)) rfl)
  have h_InvalidColumn := He.glo_ok X G (c.fact 124 (f := (fun K => (He.Fa.glo "InvalidColumn").ok K)) rfl)
  have h_InvalidCell := He.glo_ok X G (c.fact 125 (f := (fun K => (He.Fa.glo "InvalidCell").ok K)) rfl)
  have m_ValueError := He.free_ok X G (c.fact 126 (f := (fun K => (He.Fa.free "ValueError").ok K)) rfl)
  have xf_line : ∀ D ∈ ([(He.ga K "TooNarrow")] : List Addr), XFldF K D "line" := by
    intro q hq
    simp only [List.mem_cons, List.not_mem_nil, or_false] at hq
    subst hq
    exact bXFld_ok (c.fact 33 (f := (bXFld "TooNarrow" "line")) rfl)
  have mk := bModK_ok (c.fact 127 (f := bModK) rfl)
  have m_repr := He.free_ok X G (c.fact 128 (f := (fun K => (He.Fa.free "repr").ok K)) rfl)
  have h_stretches := He.glo_ok X G (c.fact 8 (f := (fun K => (He.Fa.glo "stretches").ok K)) rfl)
  have h_partings := He.glo_ok X G (c.fact 9 (f := (fun K => (He.Fa.glo "partings").ok K)) rfl)
  have h_fewest_lines := He.glo_ok X G (c.fact 10 (f := (fun K => (He.Fa.glo "fewest_lines").ok K)) rfl)
  have xm_PageError : ∀ C ∈ ([(He.ga K "InvalidTable"), (He.ga K "InvalidWidth"), (He.ga K "TooNarrow")] : List Addr), PySem.W.exmOne K (.ref C) (.ref (He.ga K "PageError")) = some true := by
    intro q hq
    simp only [List.mem_cons, List.not_mem_nil, or_false] at hq
    rcases hq with rfl | rfl | rfl
    · exact bExm_ok (c.fact 129 (f := (bExm "InvalidTable" "PageError")) rfl)
    · exact bExm_ok (c.fact 130 (f := (bExm "InvalidWidth" "PageError")) rfl)
    · exact bExm_ok (c.fact 131 (f := (bExm "TooNarrow" "PageError")) rfl)
  have h_PageError := He.glo_ok X G (c.fact 28 (f := (fun K => (He.Fa.glo "PageError").ok K)) rfl)
  have h_Style := He.glo_ok X G (c.fact 132 (f := (fun K => (He.Fa.glo "Style").ok K)) rfl)
  have all : ∀ base : Heap, CalG P wd K mg base "law" s_law 20 P_law sp_law := fun base => by
    have xi_TooNarrow : XIni P wd K mg base "TooNarrow" (He.ga K "TooNarrow") 1 "line" := by
      obtain ⟨fd, F⟩ := c.def_ 31 (d := dd_TooNarrow___init__) rfl
      have b := FunD.bindsN (ps := (["self", "line"] : List Str)) F fun _ _ _ _ _ _ us hl => match us, hl with | [_, _], _ => rfl
      obtain ⟨oc, od, dV, kV, doc, pm, an, cdv, ct, osl, rfl, lk, hcd, hD, hK⟩ := F.ex
      have mt := He.meth_ok (c.fact 29 (f := (fun K => (He.Fa.meth "TooNarrow" "__init__").ok K)) rfl)
      have ox := bOex_ok (c.fact 31 (f := (bOex "TooNarrow")) rfl)
      exact ⟨ox, He.glo_ok X G (c.fact 27 (f := (fun K => (He.Fa.glo "TooNarrow").ok K)) rfl), _, _, _, mt.at_, beq_iff_eq.mp mt.fn, init_ok (k := 0) ox (He.noat_ok (c.fact 30 (f := (fun K => (He.Fa.noat "TooNarrow" "line").ok K)) rfl)) lk hcd sc_TooNarrow___init__ (fun A outer s H E hr => pss_cons (ps_expr (pe_vbinit (bVeB_ok (c.fact 32 (f := (bVeB "PageError")) rfl)) rfl (He.glo_ok X G (c.fact 28 (f := (fun K => (He.Fa.glo "PageError").ok K)) rfl)) (pa_cons (pe_var (i := 0) rfl (Or.inl rfl) (by decide) (by decide)) (pa_cons pe_str pa_nil)))) (pss_one (ps_ost (pe_var (i := 0) rfl (Or.inl rfl) (by decide) (by decide)) (pe_var (i := 1) rfl (Or.inl rfl) (by decide) (by decide))))), b⟩
    have c_is_integer : CalG P wd K mg base "is_integer" s_is_integer 1 P_is_integer sp_is_integer := calG_ok t_is_integer (fun _ _ _ _ _ _ us hl => match us, hl with | [_, _, _], _ => rfl) sc_is_integer (len_is_integer) fun f cdv A outer s H E hG hr => let ⟨t, jb⟩ := d_is_integer hG hr m_int m_isinstance m_bool; ⟨t, _, jb, p_is_integer⟩
    have c_are_kinds : CalG P wd K mg base "are_kinds" s_are_kinds 1 P_are_kinds sp_are_kinds := calG_ok t_are_kinds (fun _ _ _ _ _ _ us hl => match us, hl with | [_], _ => rfl) sc_are_kinds (len_are_kinds) fun f cdv A outer s H E hG hr => let ⟨t, jb⟩ := d_are_kinds hG hr m_list m_isinstance m_len g_MOST_KINDS m_str h_Kind cv_NAMES m_all; ⟨t, _, jb, p_are_kinds (He.ga K "Kind")⟩
    have k_Style_gap_1 : FnK P wd K mg base 1 ((fun K => He5.wf K (He.ga K "Style") "property" "gap") K) ([] : List Str) (pkP 1 [0] [] (sp_Style_gap (He.ga K "Style"))) := (let ⟨fd, F⟩ := c.def_ 16 (d := dd_Style_gap) rfl; fnK_plain (ms := []) (md := []) (ks := ([] : List Str)) (perm := [0]) (n := 1) F sc_Style_gap (fun q hq => nomatch hq) (fun _ => .nil) (len_Style_gap) (fun D kV doc pm an cdv ct us mv ws _ l1 l2 l3 => match us, mv, ws, l1, l2, l3 with | [_], [], [], _, _, _ => rfl) fun cdv A outer s H E hG hr => let ⟨t, jb⟩ := d_Style_gap hG hr cl_Style na_Style_held_gap; ⟨t, _, jb, p_Style_gap (He.ga K "Style")⟩)
    have pr_Style_gap : PropK P wd K mg base (He.ga K "Style") "gap" 1 (pkP 1 [0] [] (sp_Style_gap (He.ga K "Style"))) := ⟨He.cls_ok (c.fact 46 (f := (fun K => (He.Fa.cls "Style").ok K)) rfl), _, _, bProp_ok (c.fact 48 (f := (bProp "Style" "gap")) rfl), k_Style_gap_1⟩
    have k_Style_least_1 : FnK P wd K mg base 1 ((fun K => He5.wf K (He.ga K "Style") "property" "least") K) ([] : List Str) (pkP 1 [0] [] (sp_Style_least (He.ga K "Style"))) := (let ⟨fd, F⟩ := c.def_ 17 (d := dd_Style_least) rfl; fnK_plain (ms := []) (md := []) (ks := ([] : List Str)) (perm := [0]) (n := 1) F sc_Style_least (fun q hq => nomatch hq) (fun _ => .nil) (len_Style_least) (fun D kV doc pm an cdv ct us mv ws _ l1 l2 l3 => match us, mv, ws, l1, l2, l3 with | [_], [], [], _, _, _ => rfl) fun cdv A outer s H E hG hr => let ⟨t, jb⟩ := d_Style_least hG hr cl_Style na_Style_held_least; ⟨t, _, jb, p_Style_least (He.ga K "Style")⟩)
    have pr_Style_least : PropK P wd K mg base (He.ga K "Style") "least" 1 (pkP 1 [0] [] (sp_Style_least (He.ga K "Style"))) := ⟨He.cls_ok (c.fact 46 (f := (fun K => (He.Fa.cls "Style").ok K)) rfl), _, _, bProp_ok (c.fact 47 (f := (bProp "Style" "least")) rfl), k_Style_least_1⟩
    have c__law_feed : CalG P wd K mg base "_law_feed" s__law_feed 1 P__law_feed sp__law_feed := calG_ok t__law_feed (fun _ _ _ _ _ _ us hl => match us, hl with | [_, _], _ => rfl) sc__law_feed (len__law_feed) fun f cdv A outer s H E hG hr => let ⟨t, jb⟩ := d__law_feed hG hr m_len m_abs m_max; ⟨t, _, jb, p__law_feed⟩
    have c__law_pick : CalG P wd K mg base "_law_pick" s__law_pick 1 P__law_pick sp__law_pick := calG_ok t__law_pick (fun _ _ _ _ _ _ us hl => match us, hl with | [_, _], _ => rfl) sc__law_pick (len__law_pick) fun f cdv A outer s H E hG hr => let ⟨t, jb⟩ := d__law_pick hG hr ; ⟨t, _, jb, p__law_pick⟩
    have c__law_groups : CalG P wd K mg base "_law_groups" s__law_groups 1 P__law_groups sp__law_groups := calG_ok t__law_groups (fun _ _ _ _ _ _ us hl => match us, hl with | [_, _], _ => rfl) sc__law_groups (len__law_groups) fun f cdv A outer s H E hG hr => let ⟨t, jb⟩ := d__law_groups hG hr m_len m_range; ⟨t, _, jb, p__law_groups⟩
    have ch__law_class : CalH P wd K mg base "_law_class" s__law_class 1 P__law_class (sp__law_class (He.ga K "InvalidTable") (He.ga K "InvalidWidth") (He.ga K "TooNarrow")) := calH_ok t__law_class (fun _ _ _ _ _ _ us hl => match us, hl with | [_], _ => rfl) sc__law_class len__law_class fun f cdv A outer s H E hG hr => let ⟨t, jb⟩ := d__law_class hG hr h_TooNarrow xt m_isinstance h_InvalidWidth h_InvalidTable h_InvalidText h_InvalidTabs h_InvalidStyle h_InvalidSights h_InvalidNumber h_InvalidBlock h_NotPossible h_NothingToUndo h_InvalidLine h_InvalidColumn h_InvalidCell m_ValueError xf_line; ⟨t, _, jb, p__law_class (He.ga K "TooNarrow") (He.ga K "InvalidTable") (He.ga K "InvalidWidth") (He.ga K "InvalidBlock") (He.ga K "InvalidNumber") (He.ga K "InvalidSights") (He.ga K "InvalidStyle") (He.ga K "InvalidTabs") (He.ga K "InvalidText") (He.ga K "InvalidCell") (He.ga K "InvalidColumn") (He.ga K "InvalidLine") (He.ga K "NothingToUndo") (He.ga K "NotPossible")⟩
    have c_is_cell : CalG P wd K mg base "is_cell" s_is_cell 2 P_is_cell sp_is_cell := calG_ok t_is_cell (fun _ _ _ _ _ _ us hl => match us, hl with | [_], _ => rfl) sc_is_cell (len_is_cell) fun f cdv A outer s H E hG hr => let ⟨t, jb⟩ := d_is_cell hG hr c_is_integer g_MOST_CELL; ⟨t, _, jb, p_is_cell⟩
    have c_is_stretch : CalG P wd K mg base "is_stretch" s_is_stretch 2 P_is_stretch sp_is_stretch := calG_ok t_is_stretch (fun _ _ _ _ _ _ us hl => match us, hl with | [_, _], _ => rfl) sc_is_stretch (len_is_stretch) fun f cdv A outer s H E hG hr => let ⟨t, jb⟩ := d_is_stretch hG hr m_tuple m_isinstance m_len c_is_integer m_all; ⟨t, _, jb, p_is_stretch⟩
    have c__law_lengths : CalG P wd K mg base "_law_lengths" s__law_lengths 2 P__law_lengths sp__law_lengths := calG_ok t__law_lengths (fun _ _ _ _ _ _ us hl => match us, hl with | [_, _, _], _ => rfl) sc__law_lengths (len__law_lengths) fun f cdv A outer s H E hG hr => let ⟨t, jb⟩ := d__law_lengths hG hr c__law_pick m_range m_min m_max; ⟨t, _, jb, p__law_lengths⟩
    have c__law_look : CalG P wd K mg base "_law_look" s__law_look 2 P__law_look sp__law_look := calG_ok t__law_look (fun _ _ _ _ _ _ us hl => match us, hl with | [_], _ => rfl) sc__law_look (len__law_look) fun f cdv A outer s H E hG hr => let ⟨t, jb⟩ := d__law_look hG hr c__law_pick; ⟨t, _, jb, p__law_look⟩
    have c__law_stops : CalG P wd K mg base "_law_stops" s__law_stops 2 P__law_stops sp__law_stops := calG_ok t__law_stops (fun _ _ _ _ _ _ us hl => match us, hl with | [_, _], _ => rfl) sc__law_stops (len__law_stops) fun f cdv A outer s H E hG hr => let ⟨t, jb⟩ := d__law_stops hG hr m_len m_max m_range c__law_groups; ⟨t, _, jb, p__law_stops⟩
    have c__law_no_tables : CalG P wd K mg base "_law_no_tables" s__law_no_tables 2 P__law_no_tables sp__law_no_tables := calG_ok t__law_no_tables (fun _ _ _ _ _ _ us hl => match us, hl with | [_, _], _ => rfl) sc__law_no_tables (len__law_no_tables) fun f cdv A outer s H E hG hr => let ⟨t, jb⟩ := d__law_no_tables hG hr c__law_pick m_len m_tuple; ⟨t, _, jb, p__law_no_tables⟩
    have c_is_line : CalG P wd K mg base "is_line" s_is_line 3 P_is_line sp_is_line := calG_ok t_is_line (fun _ _ _ _ _ _ us hl => match us, hl with | [_], _ => rfl) sc_is_line (len_is_line) fun f cdv A outer s H E hG hr => let ⟨t, jb⟩ := d_is_line hG hr m_list m_isinstance m_len g_MOST_CELLS c_is_cell m_all; ⟨t, _, jb, p_is_line⟩
    have k_Style___init___s1_gap_least : FnK P wd K mg base 3 ((fun K => He.ma K (He.ga K "Style") "__init__") K) (["gap", "least"] : List Str) (pkS true 1 [0, 1, 2] [] (sp_Style___init__ (He.ga K "Style"))) := (let ⟨fd, F⟩ := c.def_ 14 (d := dd_Style___init__) rfl; fnK_star (ps := P0_Style___init__) (pv := "kinds") (a := 1) (b := true) (ms := []) (md := []) (ks := (["gap", "least"] : List Str)) (perm := [0, 1, 2]) F sc_Style___init__ (fun q hq => nomatch hq) (fun _ => .nil) (len_Style___init__) (fun D kV doc pm an cdv ct us rest mv ws _ hb l1 l2 l3 => match us, rest, mv, ws, l1, l2, l3, hb with | [_], [], [], [_, _], _, _, _, _ => rfl | [_], _ :: _, [], [_, _], _, _, _, _ => rfl) fun cdv A outer s H E hG hr => let ⟨t, jb⟩ := d_Style___init__ hG hr m_len m_list g_LEFT c_are_kinds c_is_cell e_InvalidStyle cl_Style na_Style_held_kinds na_Style_held_gap na_Style_held_least; ⟨t, _, jb, p_Style___init__ (He.ga K "InvalidStyle") (He.ga K "Style")⟩)
    have mk_Style___init___s1_gap_least : CtorK P wd K mg base (He.ga K "Style") 3 (["gap", "least"] : List Str) (pkS true 1 [0, 1, 2] [] (sp_Style___init__ (He.ga K "Style"))) := ⟨_, He.mkr_ok (c.fact 64 (f := (fun K => (He.Fa.mkr "Style").ok K)) rfl), k_Style___init___s1_gap_least⟩
    have c__law_rows : CalG P wd K mg base "_law_rows" s__law_rows 3 P__law_rows sp__law_rows := calG_ok t__law_rows (fun _ _ _ _ _ _ us hl => match us, hl with | [_, _, _], _ => rfl) sc__law_rows (len__law_rows) fun f cdv A outer s H E hG hr => let ⟨t, jb⟩ := d__law_rows hG hr c__law_pick m_min c__law_lengths m_range; ⟨t, _, jb, p__law_rows⟩
    have c__law_width : CalG P wd K mg base "_law_width" s__law_width 3 P__law_width sp__law_width := calG_ok t__law_width (fun _ _ _ _ _ _ us hl => match us, hl with | [_, _], _ => rfl) sc__law_width (len__law_width) fun f cdv A outer s H E hG hr => let ⟨t, jb⟩ := d__law_width hG hr c__law_stops m_zip m_max; ⟨t, _, jb, p__law_width⟩
    have c_is_table : CalG P wd K mg base "is_table" s_is_table 4 P_is_table sp_is_table := calG_ok t_is_table (fun _ _ _ _ _ _ us hl => match us, hl with | [_], _ => rfl) sc_is_table (len_is_table) fun f cdv A outer s H E hG hr => let ⟨t, jb⟩ := d_is_table hG hr m_list m_isinstance m_len g_MOST_LINES c_is_line m_all; ⟨t, _, jb, p_is_table⟩
    have c_need_table : CalG P wd K mg base "need_table" s_need_table 5 P_need_table (sp_need_table (He.ga K "InvalidTable")) := calG_ok t_need_table (fun _ _ _ _ _ _ us hl => match us, hl with | [_], _ => rfl) sc_need_table (len_need_table) fun f cdv A outer s H E hG hr => let ⟨t, jb⟩ := d_need_table hG hr c_is_table e_InvalidTable; ⟨t, _, jb, p_need_table (He.ga K "InvalidTable")⟩
    have k_Style_of_4 : FnK P wd K mg base 5 ((fun K => He5.wf K (He.ga K "Style") "classmethod" "of") K) ([] : List Str) (pkP 4 [0, 1, 2, 3] [] (sp_Style_of (He.ga K "Style"))) := (let ⟨fd, F⟩ := c.def_ 15 (d := dd_Style_of) rfl; fnK_plain (ms := []) (md := []) (ks := ([] : List Str)) (perm := [0, 1, 2, 3]) (n := 4) F sc_Style_of (fun q hq => nomatch hq) (fun _ => .nil) (len_Style_of) (fun D kV doc pm an cdv ct us mv ws _ l1 l2 l3 => match us, mv, ws, l1, l2, l3 with | [_, _, _, _], [], [], _, _, _ => rfl) fun cdv A outer s H E hG hr => let ⟨t, jb⟩ := d_Style_of hG hr c_are_kinds e_InvalidStyle mk_Style___init___s1_gap_least; ⟨t, _, jb, p_Style_of (He.ga K "InvalidStyle") (He.ga K "Style")⟩)
    have cm_Style_Style_of_4 : CMetK P wd K mg base (He.ga K "Style") "of" 5 ([] : List Str) (pkP 4 [0, 1, 2, 3] [] (sp_Style_of (He.ga K "Style"))) := ⟨_, _, _, bCRd_ok (c.fact 133 (f := (bCRd "Style")) rfl), bCMet_ok (c.fact 134 (f := (bCMet "Style" "of")) rfl), k_Style_of_4⟩
    have r_edge_of : ∀ m : Nat, CalG P wd K mg base "edge_of" s_edge_of (2 + m) P_edge_of (sp_edge_of m (He.ga K "Style")) := calG_rec (sp := fun m => (sp_edge_of m (He.ga K "Style"))) t_edge_of (fun _ _ _ _ _ _ us hl => match us, hl with | [_, _, _, _, _, _], _ => rfl) sc_edge_of (fun m => len_edge_of m) no_edge_of fun m c_rec f cdv A outer s H E hG hr => let ⟨t, jb⟩ := d_edge_of hG hr m_len m_max pr_Style_least pr_Style_gap c_rec; ⟨t, _, jb, p_edge_of (He.ga K "Style") m⟩
    have c_edge_of := r_edge_of 12
    have c_require_room : CalG P wd K mg base "require_room" s_require_room 15 P_require_room (sp_require_room (He.ga K "InvalidTable") (He.ga K "InvalidWidth") (He.ga K "TooNarrow") (He.ga K "Style")) := calG_ok t_require_room (fun _ _ _ _ _ _ us hl => match us, hl with | [_, _, _], _ => rfl) sc_require_room (len_require_room) fun f cdv A outer s H E hG hr => let ⟨t, jb⟩ := d_require_room hG hr c_need_table e_InvalidWidth m_len m_range c_edge_of xi_TooNarrow; ⟨t, _, jb, p_require_room (He.ga K "InvalidWidth") (He.ga K "TooNarrow") (He.ga K "InvalidTable") (He.ga K "Style")⟩
    have c_wide_stretches : CalG P wd K mg base "wide_stretches" s_wide_stretches 15 P_wide_stretches (sp_wide_stretches (He.ga K "Style")) := calG_ok t_wide_stretches (fun _ _ _ _ _ _ us hl => match us, hl with | [_, _, _], _ => rfl) sc_wide_stretches (len_wide_stretches) fun f cdv A outer s H E hG hr => let ⟨t, jb⟩ := d_wide_stretches hG hr m_len m_range c_edge_of; ⟨t, _, jb, p_wide_stretches (He.ga K "Style")⟩
    have c_stretches : CalG P wd K mg base "stretches" s_stretches 16 P_stretches (sp_stretches (He.ga K "InvalidTable") (He.ga K "InvalidWidth") (He.ga K "TooNarrow") (He.ga K "Style")) := calG_ok t_stretches (fun _ _ _ _ _ _ us hl => match us, hl with | [_, _, _], _ => rfl) sc_stretches (len_stretches) fun f cdv A outer s H E hG hr => let ⟨t, jb⟩ := d_stretches hG hr c_require_room c_wide_stretches; ⟨t, _, jb, p_stretches (He.ga K "InvalidTable") (He.ga K "InvalidWidth") (He.ga K "TooNarrow") (He.ga K "Style")⟩
    have c_partings : CalG P wd K mg base "partings" s_partings 16 P_partings (sp_partings (He.ga K "InvalidTable") (He.ga K "InvalidWidth") (He.ga K "TooNarrow") (He.ga K "Style")) := calG_ok t_partings (fun _ _ _ _ _ _ us hl => match us, hl with | [_, _, _], _ => rfl) sc_partings (len_partings) fun f cdv A outer s H E hG hr => let ⟨t, jb⟩ := d_partings hG hr c_require_room c_wide_stretches; ⟨t, _, jb, p_partings (He.ga K "InvalidTable") (He.ga K "InvalidWidth") (He.ga K "TooNarrow") (He.ga K "Style")⟩
    have c_shows_lines : CalG P wd K mg base "shows_lines" s_shows_lines 16 P_shows_lines (sp_shows_lines (He.ga K "InvalidTable") (He.ga K "InvalidWidth") (He.ga K "TooNarrow") (He.ga K "Style")) := calG_ok t_shows_lines (fun _ _ _ _ _ _ us hl => match us, hl with | [_, _, _, _, _], _ => rfl) sc_shows_lines (len_shows_lines) fun f cdv A outer s H E hG hr => let ⟨t, jb⟩ := d_shows_lines hG hr c_require_room m_list m_isinstance m_len c_is_stretch c_edge_of m_sorted; ⟨t, _, jb, p_shows_lines (He.ga K "InvalidTable") (He.ga K "InvalidWidth") (He.ga K "TooNarrow") (He.ga K "Style")⟩
    have c_fewest_lines : CalG P wd K mg base "fewest_lines" s_fewest_lines 17 P_fewest_lines (sp_fewest_lines (He.ga K "InvalidTable") (He.ga K "InvalidWidth") (He.ga K "TooNarrow") (He.ga K "Style")) := calG_ok t_fewest_lines (fun _ _ _ _ _ _ us hl => match us, hl with | [_, _, _], _ => rfl) sc_fewest_lines (len_fewest_lines) fun f cdv A outer s H E hG hr => let ⟨t, jb⟩ := d_fewest_lines hG hr c_stretches m_len; ⟨t, _, jb, p_fewest_lines (He.ga K "InvalidTable") (He.ga K "InvalidWidth") (He.ga K "TooNarrow") (He.ga K "Style")⟩
    have c__law_raised : CalG P wd K mg base "_law_raised" s__law_raised 18 P__law_raised (sp__law_raised (He.ga K "Style")) := calG_ok t__law_raised (fun _ _ _ _ _ _ us hl => match us, hl with | [_, _, _, _, _], _ => rfl) sc__law_raised (len__law_raised) fun f cdv A outer s H E hG hr => let ⟨t, jb⟩ := d__law_raised hG hr mk m_repr h_stretches h_partings h_fewest_lines c_stretches c_partings c_fewest_lines c_shows_lines xm_PageError ch__law_class h_PageError; ⟨t, _, jb, p__law_raised (He.ga K "stretches") (He.ga K "partings") (He.ga K "fewest_lines") (He.ga K "InvalidTable") (He.ga K "InvalidWidth") (He.ga K "TooNarrow") (He.ga K "Style")⟩
    have c__law_right : CalG P wd K mg base "_law_right" s__law_right 19 P__law_right sp__law_right := calG_ok t__law_right (fun _ _ _ _ _ _ us hl => match us, hl with | [_, _, _], _ => rfl) sc__law_right (len__law_right) fun f cdv A outer s H E hG hr => let ⟨t, jb⟩ := d__law_right hG hr c__law_width h_Style cm_Style_Style_of_4 m_max m_range m_min c__law_pick m_len c__law_no_tables c__law_raised; ⟨t, _, jb, p__law_right (He.ga K "Style")⟩
    have c_law : CalG P wd K mg base "law" s_law 20 P_law sp_law := calG_ok t_law (fun _ _ _ _ _ _ us hl => match us, hl with | [_], _ => rfl) sc_law (len_law) fun f cdv A outer s H E hG hr => let ⟨t, jb⟩ := d_law hG hr m_len m_min m_max m_range c__law_feed m_int c__law_rows c__law_right c__law_look c__law_raised mk_Style___init___s1_gap_least h_Style; ⟨t, _, jb, p_law (He.ga K "Style")⟩
    exact c_law
  obtain ⟨fd, F⟩ := c.def_ 30 (d := dd_law) rfl
  have e := hfa.symm.trans (He.glo_ok X G (c.fact 26 (f := (fun K => (He.Fa.glo "law").ok K)) rfl))
  cases e
  have b := FunD.bindsA (ps := ["_law_script"]) F fun _ _ _ _ _ _ us hl => match us, hl with | [_], _ => rfl
  refine ⟨fd, fun s v => b s [v] rfl, fun base _ _ => ?_⟩
  obtain ⟨f2, fd2, F2, hm, FS, _⟩ := (all base).ex
  have e2 := hfa.symm.trans hm
  cases e2
  have ed : fd2 = fd := fun_one FS F
  rw [← ed]
  exact F2
end DL
open PySem PySem.W PySem.Calls PyProof.Rows
theorem PySem.Challenge.cw_runtabs_k40_errors_of_parting_holds : PySem.Challenge.rw_runtabs_k40_errors_of_parting.Holds := by
  w_on; o_law
  refine HandSHeadRun.head_any (r := OpenLaw.row PySem.Challenge.rw_runtabs_k40_errors_of_parting) (q := view (OpenLaw.row PySem.Challenge.rw_runtabs_k40_errors_of_parting).prog [55]) (H := DL.hkL) (ob := DL.obL) (M := 8000) (loose := DL.othersL) (d := HandSHeadRun.topDef (OpenLaw.row PySem.Challenge.rw_runtabs_k40_errors_of_parting).prog 55) (kwd := []) DL.obL_eq
    (by kernel_rfl) (fun s => by kernel_rfl) DL.runL (by kernel_rfl) (by kernel_rfl) (by kernel_rfl) (by rfl) (by first | assumption | decide +kernel) (by decide +kernel) ⟨rfl, rfl, rfl, rfl, rfl, by decide +kernel⟩ ?hw ?hc
  case hw => w_witness2
  case hc =>
    refine DL.walk_end (l := PySem.Challenge.rw_runtabs_k40_errors_of_parting) (n := 63) (k := 20) (x := "_law_script") rfl (by decide) (by kernel_rfl) ⟨rfl, by decide, by decide⟩ ?F
    intro w mg fa h Y G hmg0
    obtain ⟨K, KX, c⟩ := Y
    have hmg : mg ("law" : PySem.Str) = some (.ref fa) := by
      have e : (HandSHeadRun.topDef (OpenLaw.row PySem.Challenge.rw_runtabs_k40_errors_of_parting).prog 55).name = ("law" : PySem.Str) := by kernel_rfl
      rw [← e]
      exact hmg0
    obtain ⟨fd, hb, hF⟩ := DL.factsL (P := (PySem.Challenge.rw_runtabs_k40_errors_of_parting).prog) (wd := w) KX G hmg c
    exact ⟨K, fd, DL.sp_law, KX, hb, fun ns hl hb => ⟨ns, rfl, fun _ => rfl⟩, hF⟩
